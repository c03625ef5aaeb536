import PyProof.Rows.All
import Wide.All
import OpenK.AllK
import Wide.FinOn
import HandS.ForExc
import HandS.Wide
import HandS.Text
import HandS.Dict
import HandS.Comp
import HandS.More
import HandS.ExcCtx
import HandS.ExcIs
import HandS.TupAny
import HandS.IsInst
import HandS.Iter
import HandS.HeadWalk
import HandS.Hot
import HandS.HotCalls
import HandS.StrMore
import HandS.ExcField
import HandS.ClsMeth
import HandS.WordsExc
import HandS.ExcInit
import HandS.Defaults
import HandS.HeadHook4
import HandS.HeadEnd
import HandS.EndBits
import PyProof.ExcBaseAll.ValueError
import HandS.Head0
import HandS.Head1
import HandS.Head2
import PySem.Challenge.RW_chanceduel_k11_the_one_answer
set_option Elab.async false
set_option linter.all false
set_option maxRecDepth 100000
set_option maxHeartbeats 0
/-! IpCore: values, stores, a small IR, its interpreter. Written by an AI agent. -/
namespace Ip
open PySem (Str)

/-- values: tuples by value, lists, dicts, instances, caught exceptions by their place in the store -/
inductive W where
  | non | bl (b : Bool) | int (i : Int) | str (x : Str) | tup (ws : List W) | loc (n : Nat)
abbrev Env := List (Option W)
abbrev Key := Sum Int Str
inductive Cell where
  | lst (ws : List W)
  /-- a list that is read alone -/
  | fro (ws : List W)
  | dct (kvs : List (Key × W))
  | ins (c : Nat) (fs : List (Nat × W))
  /-- a caught exception, within its except suite -/
  | exn (c : Nat) (fs : List (Nat × W))
  /-- let go -/
  | dead
abbrev Store := List Cell
structure Exn where
  cls : Nat
  fs : List (Nat × W)
inductive Rs (α : Type) where
  | ok (a : α)
  | ex (e : Exn)
abbrev R (α : Type) := Option (Rs α × Store)
inductive Fl where
  | nxt | brk | cnt | ret (w : W) | ex (e : Exn)

/-! ### the IR -/
inductive Op2 where
  | add | sub | mul | fdiv | mod | pow
inductive Cm where
  | eq | ne | lt | le | gt | ge | isN | notN | isin | notin
inductive Isa where
  | int | bool | str | tuple | list | dict | ve | own (c : Nat)
inductive Bf where
  | len | abs | int | str | list | tuple | max2 | min2 | max1 | min1 | sum | any | all
/-- built-in methods -/
inductive Bm where
  | append | pop | insert | index | clear | get | join | split | partition
  deriving DecidableEq
/-- what a loop walks -/
inductive Ik where
  | val | range1 | range2 | enum
inductive Ex where
  | var (i : Nat)
  | int (i : Int)
  | str (x : Str)
  | bl (b : Bool)
  | non
  | glob (x : Nat)
  | bin (op : Op2) (a b : Ex)
  | neg (a : Ex)
  | cmp (op : Cm) (a b : Ex)
  | chn (o1 o2 : Cm) (a b c : Ex)
  | chn3 (o1 o2 o3 : Cm) (a b c d : Ex)
  | and (es : List Ex)
  | or (es : List Ex)
  | not (a : Ex)
  | ite (c a b : Ex)
  | tup (es : List Ex)
  | lst (es : List Ex)
  | idx (a i : Ex)
  | slc (a : Ex) (lo hi : List Ex)
  | call (f : Nat) (es : List Ex)
  | mk (c : Nat) (es : List Ex)
  /-- C.m(..): a class's function taken from the class -/
  | callc (c m : Nat) (es : List Ex)
  | bif (b : Bf) (es : List Ex)
  | isi (a : Ex) (t : Isa)
  | bm (o : Ex) (m : Bm) (es : List Ex)
  | meth (o : Ex) (m : Nat) (es : List Ex)
  | fld (o : Ex) (x : Nat)
  | lc (elt : Ex) (tg : List Nat) (k : Ik) (es : List Ex) (ifs : List Ex)
inductive Sx where
  | asg (i : Nat) (e : Ex)
  | unp (is : List Nat) (e : Ex)
  | par (i j : Nat) (a b : Ex)
  | sub (o i e : Ex)
  | fset (o : Ex) (x : Nat) (e : Ex)
  | aug (i : Nat) (op : Op2) (e : Ex)
  | augs (o i : Ex) (op : Op2) (e : Ex)
  | exp (e : Ex)
  | iff (c : Ex) (a b : List Sx)
  | for (tg : List Nat) (k : Ik) (es : List Ex) (body : List Sx)
  | while (c : Ex) (body : List Sx)
  | ret (e : Ex)
  | retN
  | raise (c : Nat) (fs : List Nat) (es : List Ex)
  | tryAs (body : List Sx) (c : Nat) (i : Nat) (suite : List Sx)
  | tryOnly (body : List Sx) (c : Nat) (suite : List Sx)
  | pass | brk | cnt

/-! ### results -/
def bnd {α β : Type} (x : R α) (f : α → Store → R β) : R β := match x with
  | none => none
  | some (.ex e, S) => some (.ex e, S)
  | some (.ok a, S) => f a S
def rok {α : Type} (a : α) (S : Store) : R α := some (.ok a, S)
@[simp] theorem bnd_ok {α β : Type} (a : α) (S : Store) (f : α → Store → R β) : bnd (some (.ok a, S)) f = f a S := rfl
@[simp] theorem bnd_ex {α β : Type} (e : Exn) (S : Store) (f : α → Store → R β) : bnd (some (.ex e, S)) f = some (.ex e, S) := rfl
@[simp] theorem bnd_none {α β : Type} (f : α → Store → R β) : bnd none f = none := rfl
@[simp] theorem bnd_rok {α β : Type} (a : α) (S : Store) (f : α → Store → R β) : bnd (rok a S) f = f a S := rfl

/-! ### data by the store: for == -/
def listAt (S : Store) (n : Nat) : Option (List W) := match S[n]? with
  | some (.lst ws) => some ws
  | some (.fro ws) => some ws
  | _ => none
mutual
def dat (S : Store) : Nat → W → Option PySem.PyData
  | _, .non => some .none
  | _, .bl b => some (.bool b)
  | _, .int i => some (.int i)
  | _, .str x => some (.str x)
  | 0, _ => none
  | k + 1, .tup ws => (datAll S k ws).map .tuple
  | k + 1, .loc n => match listAt S n with
    | some ws => (datAll S k ws).map .list
    | none => none
def datAll (S : Store) : Nat → List W → Option (List PySem.PyData)
  | _, [] => some []
  | k, w :: ws => match dat S k w, datAll S k ws with
    | some d, some ds => some (d :: ds)
    | _, _ => none
end
/-- scalars alone -/
def scalW : W → Option PySem.PyData
  | .non => some .none
  | .bl b => some (.bool b)
  | .int i => some (.int i)
  | .str x => some (.str x)
  | _ => none

/-! ### operators -/
def op2 (op : Op2) (S : Store) (a b : W) : Option (W × Store) := match op, a, b with
  | .add, .int i, .int j => some (.int (i + j), S)
  | .add, .str x, .str y => if x.length + y.length ≤ 16777216 then some (.str (x ++ y), S) else none
  | .add, .tup xs, .tup ys => if xs.length + ys.length ≤ 16777216 then some (.tup (xs ++ ys), S) else none
  | .add, .loc n, .loc k => match S[n]?, S[k]? with
    | some (.lst xs), some (.lst ys) => if xs.length + ys.length ≤ 16777216 then some (.loc S.length, S ++ [.lst (xs ++ ys)]) else none
    | _, _ => none
  | .sub, .int i, .int j => some (.int (i - j), S)
  | .mul, .int i, .int j => if i.natAbs.log2 + j.natAbs.log2 < 1000000 then some (.int (i * j), S) else none
  | .mul, .loc n, .int k => match S[n]? with
    | some (.lst xs) => if -(2 ^ 63) ≤ k ∧ k < 2 ^ 63 ∧ xs.length * k.toNat ≤ 16777216 then some (.loc S.length, S ++ [.lst (List.replicate k.toNat xs).flatten]) else none
    | _ => none
  | .fdiv, .int i, .int j => if j ≠ 0 ∧ j.natAbs.log2 < 9000 then some (.int (i.fdiv j), S) else none
  | .mod, .int i, .int j => if j ≠ 0 then some (.int (i.fmod j), S) else none
  | .pow, .int i, .int j => if 0 ≤ j ∧ j ≤ 1000000 ∧ i.natAbs < 2 ^ 64 then some (.int (i ^ j.toNat), S) else none
  | _, _, _ => none

/-- == of flat values, as `in` asks it -/
def flatW : W → Bool
  | .non => true
  | .bl _ => true
  | .int _ => true
  | .str _ => true
  | _ => false
def eqF : W → W → Bool
  | .non, .non => true
  | .bl a, .bl b => a == b
  | .bl a, .int b => (if a then 1 else 0) == b
  | .int a, .bl b => a == (if b then 1 else 0)
  | .int a, .int b => a == b
  | .str a, .str b => a == b
  | _, _ => false
def inW (x : W) (xs : List W) : Bool := xs.any fun y => eqF y x
def eqDeep (S : Store) (a b : W) : Option Bool := match dat S 64 a, dat S 64 b with
  | some d, some e => if d.canLay0 && e.canLay0 then some (PySem.PyData.eqv d e) else none
  | _, _ => none
def eqW (S : Store) : W → W → Option Bool
  | .int i, .int j => some (decide (i = j))
  | .bl a, .bl b => some (decide (a = b))
  | .str x, .str y => some (decide (x = y))
  | a, b => eqDeep S a b
def keyW : W → Option Key
  | .int i => some (.inl i)
  | .str x => some (.inr x)
  | _ => none
def getK (k : Key) : List (Key × W) → Option W
  | [] => none
  | (q, w) :: r => if q = k then some w else getK k r
def isinS (x y : Str) : Bool := match x.cps.toList with
  | [c] => decide (c ∈ y.cps.toList)
  | _ => !(PySem.Builtin.Str.occurrences y x 0 y.length 1).isEmpty
def isin (S : Store) (a b : W) : Option Bool := match a, b with
  | .str x, .str y => some (isinS x y)
  | a, .tup ws => if flatW a && ws.all flatW then some (inW a ws) else none
  | a, .loc n => match S[n]? with
    | some (.lst ws) => if flatW a && ws.all flatW then some (inW a ws) else none
    | some (.fro ws) => if flatW a && ws.all flatW then some (inW a ws) else none
    | some (.dct kvs) => match keyW a with
      | some k => some (getK k kvs).isSome
      | none => none
    | _ => none
  | _, _ => none
def isN : W → Bool
  | .non => true
  | _ => false
def cm2 (op : Cm) (S : Store) (a b : W) : Option Bool := match op with
  | .eq => eqW S a b
  | .ne => (eqW S a b).map (!·)
  | .isN => if isN b then some (isN a) else none
  | .notN => if isN b then some (!isN a) else none
  | .isin => isin S a b
  | .notin => (isin S a b).map (!·)
  | .lt => match a, b with
    | .int i, .int j => some (decide (i < j))
    | _, _ => none
  | .le => match a, b with
    | .int i, .int j => some (decide (i ≤ j))
    | _, _ => none
  | .gt => match a, b with
    | .int i, .int j => some (decide (j < i))
    | _, _ => none
  | .ge => match a, b with
    | .int i, .int j => some (decide (j ≤ i))
    | _, _ => none
def idx2 (S : Store) (a i : W) : Option W := match a, i with
  | .tup ws, .int i => L2.atI ws i
  | .str z, .int i => if z.length ≤ 16777216 then (L2.atI z.cps.toList i).map fun c => .str ⟨#[c]⟩ else none
  | .loc n, i => match S[n]?, i with
    | some (.lst ws), .int i => L2.atI ws i
    | some (.fro ws), .int i => L2.atI ws i
    | some (.dct kvs), i => match keyW i with
      | some k => getK k kvs
      | none => none
    | _, _ => none
  | _, _ => none
def cutW (xs : List W) (lo hi : Option Int) : List W := (xs.drop (HT.sIx xs.length 0 lo)).take (HT.sIx xs.length xs.length hi - HT.sIx xs.length 0 lo)
def slc2 (S : Store) (a : W) (lo hi : Option Int) : Option (W × Store) := match a with
  | .str z => if z.length ≤ 16777216 then some (.str (L2.cutS z lo hi), S) else none
  | .tup ws => some (.tup (cutW ws lo hi), S)
  | .loc n => match listAt S n with
    | some ws => some (.loc S.length, S ++ [.lst (cutW ws lo hi)])
    | none => none
  | _ => none
def intsOf : List W → Option (List Int)
  | [] => some []
  | .int i :: r => (intsOf r).map (i :: ·)
  | _ => none
def blsOf : List W → Option (List Bool)
  | [] => some []
  | .bl i :: r => (blsOf r).map (i :: ·)
  | _ => none
def strsOf : List W → Option (List Str)
  | [] => some []
  | .str i :: r => (strsOf r).map (i :: ·)
  | _ => none
def maxL : List Int → Int
  | [] => 0
  | [a] => a
  | a :: r => max a (maxL r)
def minL : List Int → Int
  | [] => 0
  | [a] => a
  | a :: r => min a (minL r)
def seqAt (S : Store) : W → Option (List W)
  | .tup ws => some ws
  | .loc n => listAt S n
  | _ => none
def bfn (b : Bf) (S : Store) (ws : List W) : Option (W × Store) := match b, ws with
  | .len, [.str x] => if x.length ≤ 16777216 then some (.int x.length, S) else none
  | .len, [.tup ws] => some (.int ws.length, S)
  | .len, [.loc n] => match S[n]? with
    | some (.lst ws) => some (.int ws.length, S)
    | some (.fro ws) => some (.int ws.length, S)
    | _ => none
  | .abs, [.int i] => some (.int (if i < 0 then -i else i), S)
  | .int, [.int i] => some (.int i, S)
  | .int, [.bl b] => some (.int (if b then 1 else 0), S)
  | .int, [.str x] => if x.length ≤ 640 then (PySem.intText? x).map fun n => (.int n, S) else none
  | .str, [.int i] => if i.natAbs.log2 < 1920 then some (.str (toString i), S) else none
  | .list, [a] => match seqAt S a with
    | some ws => some (.loc S.length, S ++ [.lst ws])
    | none => none
  | .tuple, [.loc n] => match listAt S n with
    | some ws => some (.tup ws, S)
    | none => none
  | .max2, [.int i, .int j] => some (.int (if j > i then j else i), S)
  | .min2, [.int i, .int j] => some (.int (if j < i then j else i), S)
  | .max1, [.loc n] => match (listAt S n).bind intsOf with
    | some ns => if 0 < ns.length then some (.int (maxL ns), S) else none
    | none => none
  | .min1, [.loc n] => match (listAt S n).bind intsOf with
    | some ns => if 0 < ns.length then some (.int (minL ns), S) else none
    | none => none
  | .sum, [.loc n] => match (listAt S n).bind intsOf with
    | some ns => some (.int ns.sum, S)
    | none => none
  | .any, [.loc n] => match (listAt S n).bind blsOf with
    | some bs => some (.bl (bs.any id), S)
    | none => none
  | .all, [.loc n] => match (listAt S n).bind blsOf with
    | some bs => some (.bl (bs.all id), S)
    | none => none
  | _, _ => none
/-- the first place -/
def ixOf (x : W) : List W → Option Nat
  | [] => none
  | y :: r => if eqF y x then some 0 else (ixOf x r).map (· + 1)
def bmt (m : Bm) (S : Store) (o : W) (ws : List W) : Option (W × Store) := match m, o, ws with
  | .append, .loc n, [w] => match S[n]? with
    | some (.lst xs) => if xs.length < 16777216 then some (.non, S.set n (.lst (xs ++ [w]))) else none
    | _ => none
  | .pop, .loc n, [.int i] => match S[n]? with
    | some (.lst xs) => if -(2 ^ 63) ≤ i ∧ i < 2 ^ 63 then (L2.ixN xs.length i).bind fun k => (xs[k]?).map fun w => (w, S.set n (.lst (xs.eraseIdx k))) else none
    | _ => none
  | .insert, .loc n, [.int i, w] => match S[n]? with
    | some (.lst xs) => if xs.length < 16777216 ∧ 0 ≤ i ∧ i < 2 ^ 63 then some (.non, S.set n (.lst (xs.take i.toNat ++ w :: xs.drop i.toNat))) else none
    | _ => none
  | .clear, .loc n, [] => match S[n]? with
    | some (.lst xs) => some (.non, S.set n (.lst []))
    | _ => none
  | .index, .loc n, [x] => match listAt S n with
    | some xs => if flatW x && xs.all flatW then (ixOf x xs).map fun (j : Nat) => (.int (j : Int), S) else none
    | none => none
  | .join, .str a, [.loc n] => match (listAt S n).bind strsOf with
    | some ys => if (ys.map (·.length)).sum + ys.length * a.length ≤ 16777216 then some (.str (PySem.Txt.join a ys), S) else none
    | none => none
  | .split, .str a, [.str b] => if (b.length == 0) = false ∧ a.length + 2 ≤ 16777216 then some (.loc S.length, S ++ [.lst ((PySem.Txt.split a b).map W.str)]) else none
  | .partition, .str a, [.str b] => if (b.length == 0) = false ∧ a.length ≤ 16777216 then some (.tup [.str (PySem.Txt.partition a b).1, .str (PySem.Txt.partition a b).2.1, .str (PySem.Txt.partition a b).2.2], S) else none
  | _, _, _ => none

/-- whose method it is -/
def bmStr : Bm → Bool
  | .join => true
  | .split => true
  | .partition => true
  | _ => false
def bmTy (m : Bm) (S : Store) (o : W) : Bool := match o with
  | .str _ => bmStr m
  | .loc n => !bmStr m && (listAt S n).isSome
  | _ => false

/-! ### walks -/
inductive Src where
  | fixed (ws : List W)
  | live (n : Nat)
  | enum (n : Nat)
def srcOf (k : Ik) (S : Store) (ws : List W) : Option Src := match k, ws with
  | .val, [.tup ws] => some (.fixed ws)
  | .val, [.str x] => some (.fixed (x.cps.toList.map fun c => .str ⟨#[c]⟩))
  | .val, [.loc n] => match listAt S n with
    | some _ => some (.live n)
    | none => none
  | .range1, [.int j] => if -(2 ^ 62) ≤ j ∧ j < 2 ^ 62 then some (.fixed ((List.range j.toNat).map fun (i : Nat) => .int (0 + (i : Int)))) else none
  | .range2, [.int i, .int j] => if -(2 ^ 62) ≤ i ∧ i < 2 ^ 62 ∧ -(2 ^ 62) ≤ j ∧ j < 2 ^ 62 then some (.fixed ((List.range (j - i).toNat).map fun (k : Nat) => .int (i + (k : Int)))) else none
  | .enum, [.loc n] => match listAt S n with
    | some _ => some (.enum n)
    | none => none
  | _, _ => none
/-- the i-th item: some none at the end -/
def srcAt (S : Store) (i : Nat) : Src → Option (Option W)
  | .fixed ws => some ws[i]?
  | .live n => (listAt S n).map fun ws => ws[i]?
  | .enum n => (listAt S n).map fun ws => (ws[i]?).map fun w => .tup [.int i, w]
@[irreducible] def big : Nat := 1000000000
def setT (tg : List Nat) (w : W) (ρ : Env) : Option Env := match tg, w with
  | [i], w => some (ρ.set i (some w))
  | [i, j], .tup [a, b] => some ((ρ.set i (some a)).set j (some b))
  | [i, j, k], .tup [a, b, c] => some (((ρ.set i (some a)).set j (some b)).set k (some c))
  | [i, j, k, l], .tup [a, b, c, d] => some ((((ρ.set i (some a)).set j (some b)).set k (some c)).set l (some d))
  | _, _ => none
/-- a comprehension's loop; what raises within is not told -/
def lcL (g : W → Store → R (Option W)) (src : Src) : Nat → Nat → Store → Option (List W × Store)
  | 0, _, _ => none
  | k + 1, i, S => match srcAt S i src with
    | none => none
    | some none => some ([], S)
    | some (some w) => match g w S with
      | some (.ok o, S1) => match lcL g src k (i + 1) S1 with
        | some (ys, S2) => some (o.toList ++ ys, S2)
        | none => none
      | _ => none
def forL (step : W → Env → Store → Option (Fl × Env × Store)) (src : Src) : Nat → Nat → Env → Store → Option (Fl × Env × Store)
  | 0, _, _, _ => none
  | k + 1, i, ρ, S => match srcAt S i src with
    | none => none
    | some none => some (.nxt, ρ, S)
    | some (some w) => match step w ρ S with
      | some (.nxt, ρ1, S1) => forL step src k (i + 1) ρ1 S1
      | some (.cnt, ρ1, S1) => forL step src k (i + 1) ρ1 S1
      | some (.brk, ρ1, S1) => some (.nxt, ρ1, S1)
      | some r => some r
      | none => none
def whlL (c : Env → Store → R Bool) (b : Env → Store → Option (Fl × Env × Store)) : Nat → Env → Store → Option (Fl × Env × Store)
  | 0, _, _ => none
  | k + 1, ρ, S => match c ρ S with
    | none => none
    | some (.ex e, S1) => some (.ex e, ρ, S1)
    | some (.ok false, S1) => some (.nxt, ρ, S1)
    | some (.ok true, S1) => match b ρ S1 with
      | some (.nxt, ρ2, S2) => whlL c b k ρ2 S2
      | some (.cnt, ρ2, S2) => whlL c b k ρ2 S2
      | some (.brk, ρ2, S2) => some (.nxt, ρ2, S2)
      | some r => some r
      | none => none

/-! ### the interpreter -/
structure Gam where
  call : Nat → List W → Store → R W
  make : Nat → List W → Store → R W
  mt : Nat → Nat → Option Nat
  glob : Nat → Option W
  /-- is the exception class under the other -/
  up : Nat → Nat → Bool
  /-- the fields of a class, of an exception class -/
  fok : Nat → Nat → Bool
  fox : Nat → Nat → Bool
def lift (x : Option (W × Store)) : R W := x.map fun p => (.ok p.1, p.2)
def truth (x : R W) : R Bool := bnd x fun w S => match w with
  | .bl b => rok b S
  | _ => none
inductive Ty where
  | non | bl | int | str | tup | lst | dct
def isaT : Ty → Isa → Bool
  | .int, .int => true
  | .bl, .int => true
  | .bl, .bool => true
  | .str, .str => true
  | .tup, .tuple => true
  | .lst, .list => true
  | .dct, .dict => true
  | _, _ => false
def isaX (Γ : Gam) (c : Nat) : Isa → Bool
  | .ve => true
  | .own d => Γ.up c d
  | _ => false
def isaW (Γ : Gam) (S : Store) (a : W) (t : Isa) : Option Bool := match a with
  | .non => some (isaT .non t)
  | .bl _ => some (isaT .bl t)
  | .int _ => some (isaT .int t)
  | .str _ => some (isaT .str t)
  | .tup _ => some (isaT .tup t)
  | .loc n => match S[n]? with
    | some (.lst _) => some (isaT .lst t)
    | some (.fro _) => some (isaT .lst t)
    | some (.dct _) => some (isaT .dct t)
    | some (.exn c fs) => if fs = [] then some (isaX Γ c t) else none
    | _ => none
def fldW (Γ : Gam) (S : Store) (a : W) (x : Nat) : Option W := match a with
  | .loc n => match S[n]? with
    | some (.ins c fs) => if Γ.fok c x then fs.lookup x else none
    | some (.exn c fs) => if Γ.fox c x then fs.lookup x else none
    | _ => none
  | _ => none
def toP (ws : List W) (S : Store) : R (Option Int) := match intsOf ws with
  | some l => rok l.head? S
  | none => none
mutual
def ev (Γ : Gam) : Ex → Env → Store → R W
  | .var i, ρ, S => (match ρ[i]? with
    | some (some w) => rok w S
    | _ => none)
  | .int i, _, S => rok (.int i) S
  | .str x, _, S => rok (.str x) S
  | .bl b, _, S => rok (.bl b) S
  | .non, _, S => rok .non S
  | .glob x, _, S => (match Γ.glob x with
    | some w => rok w S
    | none => none)
  | .bin op a b, ρ, S => bnd (ev Γ a ρ S) fun x S1 => bnd (ev Γ b ρ S1) fun y S2 => lift (op2 op S2 x y)
  | .neg a, ρ, S => bnd (ev Γ a ρ S) fun x S1 => (match x with
    | .int i => rok (.int (-i)) S1
    | _ => none)
  | .cmp op a b, ρ, S => bnd (ev Γ a ρ S) fun x S1 => bnd (ev Γ b ρ S1) fun y S2 => (match cm2 op S2 x y with
    | some k => rok (.bl k) S2
    | none => none)
  | .chn o1 o2 a b c, ρ, S => bnd (ev Γ a ρ S) fun x S1 => bnd (ev Γ b ρ S1) fun y S2 => (match cm2 o1 S2 x y with
    | some true => bnd (ev Γ c ρ S2) fun z S3 => (match cm2 o2 S3 y z with
      | some k => rok (.bl k) S3
      | none => none)
    | some false => rok (.bl false) S2
    | none => none)
  | .chn3 o1 o2 o3 a b c d, ρ, S => bnd (ev Γ a ρ S) fun x S1 => bnd (ev Γ b ρ S1) fun y S2 => (match cm2 o1 S2 x y with
    | some true => bnd (ev Γ c ρ S2) fun z S3 => (match cm2 o2 S3 y z with
      | some true => bnd (ev Γ d ρ S3) fun u S4 => (match cm2 o3 S4 z u with
        | some k => rok (.bl k) S4
        | none => none)
      | some false => rok (.bl false) S3
      | none => none)
    | some false => rok (.bl false) S2
    | none => none)
  | .and es, ρ, S => evAnd Γ es ρ S
  | .or es, ρ, S => evOr Γ es ρ S
  | .not a, ρ, S => bnd (truth (ev Γ a ρ S)) fun b S1 => rok (.bl (!b)) S1
  | .ite c a b, ρ, S => bnd (truth (ev Γ c ρ S)) fun k S1 => (match k with
    | true => ev Γ a ρ S1
    | false => ev Γ b ρ S1)
  | .tup es, ρ, S => bnd (evs Γ es ρ S) fun ws S1 => rok (.tup ws) S1
  | .lst es, ρ, S => bnd (evs Γ es ρ S) fun ws S1 => rok (.loc S1.length) (S1 ++ [.lst ws])
  | .idx a i, ρ, S => bnd (ev Γ a ρ S) fun x S1 => bnd (ev Γ i ρ S1) fun y S2 => (match idx2 S2 x y with
    | some w => rok w S2
    | none => none)
  | .slc a lo hi, ρ, S => bnd (ev Γ a ρ S) fun x S1 => bnd (bnd (evs Γ lo ρ S1) toP) fun l S2 => bnd (bnd (evs Γ hi ρ S2) toP) fun h S3 => lift (slc2 S3 x l h)
  | .call f es, ρ, S => bnd (evs Γ es ρ S) fun ws S1 => Γ.call f ws S1
  | .mk c es, ρ, S => bnd (evs Γ es ρ S) fun ws S1 => Γ.make c ws S1
  | .callc c m es, ρ, S => (match Γ.mt c m with
    | some f => bnd (evs Γ es ρ S) fun ws S1 => Γ.call f ws S1
    | none => none)
  | .bif b es, ρ, S => bnd (evs Γ es ρ S) fun ws S1 => lift (bfn b S1 ws)
  | .isi a t, ρ, S => bnd (ev Γ a ρ S) fun x S1 => (match isaW Γ S1 x t with
    | some k => rok (.bl k) S1
    | none => none)
  | .bm o m es, ρ, S => bnd (ev Γ o ρ S) fun x S1 => (match bmTy m S1 x with
    | true => bnd (evs Γ es ρ S1) fun ws S2 => lift (bmt m S2 x ws)
    | false => none)
  | .meth o m es, ρ, S => bnd (ev Γ o ρ S) fun x S1 => (match x with
    | .loc n => (match S1[n]? with
      | some (.ins c fs) => (match fs.lookup m, Γ.mt c m with
        | none, some f => bnd (evs Γ es ρ S1) fun ws S2 => Γ.call f (.loc n :: ws) S2
        | _, _ => none)
      | _ => none)
    | _ => none)
  | .fld o x, ρ, S => bnd (ev Γ o ρ S) fun a S1 => (match fldW Γ S1 a x with
    | some w => rok w S1
    | none => none)
  | .lc elt tg k es ifs, ρ, S => bnd (evs Γ es ρ S) fun ws S1 => (match srcOf k S1 ws with
    | none => none
    | some src => (match lcL (fun w S2 => match setT tg w ρ with
        | none => none
        | some ρ1 => bnd (evAll Γ ifs ρ1 S2) fun b S3 => match b with
          | true => bnd (ev Γ elt ρ1 S3) fun y S4 => rok (some y) S4
          | false => rok none S3) src big 0 S1 with
      | some (ys, S2) => if ys.length ≤ 16777216 then rok (.loc S2.length) (S2 ++ [.lst ys]) else none
      | none => none))
def evs (Γ : Gam) : List Ex → Env → Store → R (List W)
  | [], _, S => rok [] S
  | e :: es, ρ, S => bnd (ev Γ e ρ S) fun w S1 => bnd (evs Γ es ρ S1) fun ws S2 => rok (w :: ws) S2
def evAnd (Γ : Gam) : List Ex → Env → Store → R W
  | [], _, _ => none
  | [e], ρ, S => ev Γ e ρ S
  | e :: es, ρ, S => bnd (truth (ev Γ e ρ S)) fun b S1 => (match b with
    | true => evAnd Γ es ρ S1
    | false => rok (.bl false) S1)
def evOr (Γ : Gam) : List Ex → Env → Store → R W
  | [], _, _ => none
  | [e], ρ, S => ev Γ e ρ S
  | e :: es, ρ, S => bnd (truth (ev Γ e ρ S)) fun b S1 => (match b with
    | false => evOr Γ es ρ S1
    | true => rok (.bl true) S1)
/-- a comprehension's tests -/
def evAll (Γ : Gam) : List Ex → Env → Store → R Bool
  | [], _, S => rok true S
  | e :: es, ρ, S => bnd (truth (ev Γ e ρ S)) fun b S1 => (match b with
    | true => evAll Γ es ρ S1
    | false => rok false S1)
end
/-- an expression's result as a statement's -/
def toFl (x : R W) (ρ : Env) (k : W → Store → Option (Fl × Env × Store)) : Option (Fl × Env × Store) := match x with
  | none => none
  | some (.ex e, S) => some (.ex e, ρ, S)
  | some (.ok w, S) => k w S
def toFls (x : R (List W)) (ρ : Env) (k : List W → Store → Option (Fl × Env × Store)) : Option (Fl × Env × Store) := match x with
  | none => none
  | some (.ex e, S) => some (.ex e, ρ, S)
  | some (.ok w, S) => k w S
def setIx (S : Store) (o i v : W) : Option Store := match o with
  | .loc n => match S[n]?, i with
    | some (.lst xs), .int k => (L2.ixN xs.length k).map fun j => S.set n (.lst (xs.set j v))
    | _, _ => none
  | _ => none
def augW (op : Op2) (a b : W) : Option W := match op, a, b with
  | .add, .int x, .int y => some (.int (x + y))
  | .sub, .int x, .int y => some (.int (x - y))
  | _, _, _ => none
def putW (x : Nat) (w : W) : List (Nat × W) → List (Nat × W)
  | [] => [(x, w)]
  | (y, u) :: r => if y = x then (y, w) :: r else (y, u) :: putW x w r
def setFl (Γ : Gam) (S : Store) (o : W) (x : Nat) (v : W) : Option Store := match o with
  | .loc n => match S[n]? with
    | some (.ins c fs) => if Γ.fok c x = true ∧ fs.length < 1000 then some (S.set n (.ins c (putW x v fs))) else none
    | _ => none
  | _ => none
mutual
def xs (Γ : Gam) : List Sx → Env → Store → Option (Fl × Env × Store)
  | [], ρ, S => some (.nxt, ρ, S)
  | s :: r, ρ, S => match x1 Γ s ρ S with
    | some (.nxt, ρ1, S1) => xs Γ r ρ1 S1
    | o => o
def x1 (Γ : Gam) : Sx → Env → Store → Option (Fl × Env × Store)
  | .asg i e, ρ, S => toFl (ev Γ e ρ S) ρ fun w S1 => some (.nxt, ρ.set i (some w), S1)
  | .unp is e, ρ, S => toFl (ev Γ e ρ S) ρ fun w S1 => (match w with
    | .tup ws => (setT is (.tup ws) ρ).map fun ρ1 => (.nxt, ρ1, S1)
    | _ => none)
  | .par i j a b, ρ, S => toFl (ev Γ a ρ S) ρ fun v S1 => toFl (ev Γ b ρ S1) ρ fun w S2 => some (.nxt, (ρ.set i (some v)).set j (some w), S2)
  | .sub o i e, ρ, S => toFl (ev Γ e ρ S) ρ fun v S1 => toFl (ev Γ o ρ S1) ρ fun x S2 => toFl (ev Γ i ρ S2) ρ fun y S3 => (setIx S3 x y v).map fun S4 => (.nxt, ρ, S4)
  | .fset o x e, ρ, S => toFl (ev Γ e ρ S) ρ fun v S1 => toFl (ev Γ o ρ S1) ρ fun y S2 => (setFl Γ S2 y x v).map fun S3 => (.nxt, ρ, S3)
  | .aug i op e, ρ, S => (match ρ[i]? with
    | some (some a) => toFl (ev Γ e ρ S) ρ fun b S1 => (augW op a b).map fun w => (.nxt, ρ.set i (some w), S1)
    | _ => none)
  | .augs _ _ _ _, _, _ => none
  | .exp e, ρ, S => toFl (ev Γ e ρ S) ρ fun _ S1 => some (.nxt, ρ, S1)
  | .iff c a b, ρ, S => (match truth (ev Γ c ρ S) with
    | some (.ok true, S1) => xs Γ a ρ S1
    | some (.ok false, S1) => xs Γ b ρ S1
    | some (.ex e, S1) => some (.ex e, ρ, S1)
    | none => none)
  | .for tg k es body, ρ, S => toFls (evs Γ es ρ S) ρ fun ws S1 => (match srcOf k S1 ws with
    | none => none
    | some src => forL (fun w ρ1 S2 => match setT tg w ρ1 with
      | none => none
      | some ρ2 => xs Γ body ρ2 S2) src big 0 ρ S1)
  | .while c body, ρ, S => whlL (fun ρ1 S1 => truth (ev Γ c ρ1 S1)) (fun ρ1 S1 => xs Γ body ρ1 S1) big ρ S
  | .ret e, ρ, S => toFl (ev Γ e ρ S) ρ fun w S1 => some (.ret w, ρ, S1)
  | .retN, ρ, S => some (.ret .non, ρ, S)
  | .raise c fs es, ρ, S => toFls (evs Γ es ρ S) ρ fun ws S1 => if fs.length = ws.length then some (.ex ⟨c, (fs.zip ws).reverse⟩, ρ, S1) else none
  | .tryAs body c i suite, ρ, S => (match xs Γ body ρ S with
    | some (.ex e, ρ1, S1) => if Γ.up e.cls c then (match xs Γ suite (ρ1.set i (some (.loc S1.length))) (S1 ++ [.exn e.cls e.fs]) with
        | some (.ex _, _, _) => none
        | some (f, ρ2, S2) => some (f, ρ2.set i none, S2.set S1.length .dead)
        | none => none)
      else some (.ex e, ρ1, S1)
    | o => o)
  | .tryOnly body c suite, ρ, S => (match xs Γ body ρ S with
    | some (.ex e, ρ1, S1) => if Γ.up e.cls c then (match xs Γ suite ρ1 S1 with
        | some (.ex _, _, _) => none
        | o => o)
      else some (.ex e, ρ1, S1)
    | o => o)
  | .pass, ρ, S => some (.nxt, ρ, S)
  | .brk, ρ, S => some (.brk, ρ, S)
  | .cnt, ρ, S => some (.cnt, ρ, S)
end

/-! ### defs, classes, calls -/
structure FnI where
  ps : Nat
  n : Nat
  body : List Sx
structure ClI where
  init : Option Nat := none
  mets : List (Nat × Nat) := []
  ups : List Nat := []
  flds : List Nat := []
  xfl : List Nat := []
structure Tab where
  fns : List FnI
  cls : List ClI := []
  globs : List W := []
def Tab.gam (T : Tab) (call : Nat → List W → Store → R W) (init : Nat → List W → Store → R W) : Gam where
  call := call
  make := fun c ws S => match T.cls[c]? with
    | some d => match d.init with
      | some f => bnd (init f (.loc S.length :: ws) (S ++ [.ins c []])) fun r S1 => match r with
        | .non => rok (.loc S.length) S1
        | _ => none
      | none => none
    | none => none
  mt := fun c m => match T.cls[c]? with
    | some d => d.mets.lookup m
    | none => none
  glob := fun x => T.globs[x]?
  up := fun c d => match T.cls[c]? with
    | some k => k.ups.contains d
    | none => false
  fok := fun c x => match T.cls[c]? with
    | some k => k.flds.contains x
    | none => false
  fox := fun c x => match T.cls[c]? with
    | some k => k.xfl.contains x
    | none => false
def fin (x : Option (Fl × Env × Store)) : R W := match x with
  | some (.ret w, _, S) => rok w S
  | some (.nxt, _, S) => rok .non S
  | some (.ex e, _, S) => some (.ex e, S)
  | _ => none
def Tab.callF (T : Tab) : Nat → Nat → List W → Store → R W
  | 0, _, _, _ => none
  | 1, _, _, _ => none
  | 2, _, _, _ => none
  | k + 3, f, ws, S => match T.fns[f]? with
    | none => none
    | some d => if ws.length = d.ps then fin (xs (T.gam (T.callF (k + 2)) (T.callF (k + 1))) d.body (ws.map some ++ List.replicate (d.n - d.ps) none) S) else none
end Ip

/-! IpRel: stores and the abstract heap. Written by an AI agent. -/
namespace Ip
open PySem PySem.Spec PyProof.Rows L2

/-! ### values -/
mutual
inductive RW (K : PySem.W.Frag) (m : List Addr) (H : Hp) : W → V → Prop
  | non : RW K m H .non .non
  | bl (b : Bool) : RW K m H (.bl b) (.bl b)
  | int (i : Int) : RW K m H (.int i) (.int i)
  | str (x : Str) : RW K m H (.str x) (.str x)
  | tup {a : Addr} {xs : List V} {ws : List W} : SqT K H a xs → RWs K m H ws xs → RW K m H (.tup ws) (.ref a)
  | loc {n : Nat} {a : Addr} : m[n]? = some a → RW K m H (.loc n) (.ref a)
inductive RWs (K : PySem.W.Frag) (m : List Addr) (H : Hp) : List W → List V → Prop
  | nil : RWs K m H [] []
  | cons {w : W} {ws : List W} {v : V} {vs : List V} : RW K m H w v → RWs K m H ws vs → RWs K m H (w :: ws) (v :: vs)
end
/-- what may change -/
def isM : HO → Bool
  | .lst _ => true
  | .dK _ => true
  | .dT _ => true
  | .set _ _ => true
  | .ins _ _ _ => true
  | _ => false
def Cell.mut : Cell → Bool
  | .lst _ => true
  | .dct _ => true
  | .ins _ _ => true
  | _ => false
/-- the places of what may change -/
def MA (m : List Addr) (S : Store) (a : Addr) : Prop := ∃ (n : Nat) (c : Cell), m[n]? = some a ∧ S[n]? = some c ∧ c.mut = true
structure Ext (m : List Addr) (S : Store) (H : Hp) (m' : List Addr) (S' : Store) (H' : Hp) : Prop where
  pre : ∃ r, m' = m ++ r
  keep : ∀ a o, H a = some o → (isM o = true → ¬ MA m S a) → H' a = some o ∧ (isM o = true → ¬ MA m' S' a)
section
variable {K : PySem.W.Frag} {m m' m2 : List Addr} {S S' S2 : Store} {H H' H2 : Hp}
theorem Ext.refl : Ext m S H m S H := ⟨⟨[], by simp⟩, fun a o h k => ⟨h, k⟩⟩
theorem Ext.trans (a : Ext m S H m' S' H') (b : Ext m' S' H' m2 S2 H2) : Ext m S H m2 S2 H2 := by
  obtain ⟨r, e⟩ := a.pre
  obtain ⟨r2, e2⟩ := b.pre
  refine ⟨⟨r ++ r2, by rw [e2, e, List.append_assoc]⟩, fun x o h k => ?_⟩
  obtain ⟨h1, k1⟩ := a.keep x o h k
  exact b.keep x o h1 k1
theorem Ext.at (e : Ext m S H m' S' H') {n : Nat} {a : Addr} (h : m[n]? = some a) : m'[n]? = some a := by
  obtain ⟨r, e⟩ := e.pre
  obtain ⟨h1, h2⟩ := List.getElem?_eq_some_iff.mp h
  rw [e, List.getElem?_append_left h1, h]
theorem Ext.imm (e : Ext m S H m' S' H') {a : Addr} {o : HO} (h : H a = some o) (hi : isM o = false) : H' a = some o :=
  (e.keep a o h (fun z => by rw [hi] at z; cases z)).1
theorem Ext.sqT (e : Ext m S H m' S' H') {a : Addr} {xs : List V} (h : SqT K H a xs) : SqT K H' a xs := by
  rcases h with (h | ⟨o, h⟩) | h
  · exact .inl (.inl (e.imm h rfl))
  · exact .inl (.inr ⟨o, e.imm h rfl⟩)
  · exact .inr h
mutual
theorem RW.mono (e : Ext m S H m' S' H') : ∀ {w : W} {v : V}, RW K m H w v → RW K m' H' w v
  | _, _, .non => .non
  | _, _, .bl b => .bl b
  | _, _, .int i => .int i
  | _, _, .str x => .str x
  | _, _, .tup h r => .tup (e.sqT h) (RWs.mono e r)
  | _, _, .loc h => .loc (e.at h)
theorem RWs.mono (e : Ext m S H m' S' H') : ∀ {w : List W} {v : List V}, RWs K m H w v → RWs K m' H' w v
  | _, _, .nil => .nil
  | _, _, .cons h r => .cons (RW.mono e h) (RWs.mono e r)
end
theorem RWs.length : ∀ {ws : List W} {vs : List V}, RWs K m H ws vs → ws.length = vs.length
  | _, _, .nil => rfl
  | _, _, .cons _ r => by rw [List.length_cons, List.length_cons, RWs.length r]
theorem RWs.append : ∀ {ws ws2 : List W} {vs vs2 : List V}, RWs K m H ws vs → RWs K m H ws2 vs2 → RWs K m H (ws ++ ws2) (vs ++ vs2)
  | _, _, _, _, .nil, s => s
  | _, _, _, _, .cons h r, s => .cons h (RWs.append r s)
theorem RWs.get : ∀ {ws : List W} {vs : List V} {i : Nat} {w : W}, RWs K m H ws vs → ws[i]? = some w → ∃ v, vs[i]? = some v ∧ RW K m H w v
  | _, _, _, _, .nil, e => by simp at e
  | _, _, 0, _, .cons h _, e => by simp at e; subst e; exact ⟨_, rfl, h⟩
  | _, _, i + 1, _, .cons _ r, e => by
    obtain ⟨v, h1, h2⟩ := RWs.get (i := i) r (by simpa using e)
    exact ⟨v, by simpa using h1, h2⟩
theorem RWs.set {w : W} {v : V} (h : RW K m H w v) : ∀ {ws : List W} {vs : List V} (i : Nat), RWs K m H ws vs → RWs K m H (ws.set i w) (vs.set i v)
  | _, _, _, .nil => .nil
  | _, _, 0, .cons _ r => .cons h r
  | _, _, i + 1, .cons q r => .cons q (RWs.set h i r)
theorem RWs.take : ∀ {ws : List W} {vs : List V} (n : Nat), RWs K m H ws vs → RWs K m H (ws.take n) (vs.take n)
  | _, _, 0, _ => .nil
  | _, _, _ + 1, .nil => .nil
  | _, _, n + 1, .cons h r => .cons h (RWs.take n r)
theorem RWs.drop : ∀ {ws : List W} {vs : List V} (n : Nat), RWs K m H ws vs → RWs K m H (ws.drop n) (vs.drop n)
  | _, _, 0, r => r
  | _, _, _ + 1, .nil => .nil
  | _, _, n + 1, .cons _ r => RWs.drop n r
theorem RWs.erase : ∀ {ws : List W} {vs : List V} (n : Nat), RWs K m H ws vs → RWs K m H (ws.eraseIdx n) (vs.eraseIdx n)
  | _, _, _, .nil => .nil
  | _, _, 0, .cons _ r => r
  | _, _, n + 1, .cons h r => .cons h (RWs.erase n r)
theorem RWs.flat : ∀ {ws : List W} {vs : List V} (n : Nat), RWs K m H ws vs → RWs K m H (List.replicate n ws).flatten (List.replicate n vs).flatten
  | _, _, 0, _ => .nil
  | _, _, n + 1, r => by
    rw [List.replicate_succ, List.replicate_succ, List.flatten_cons, List.flatten_cons]
    exact r.append (RWs.flat n r)
theorem RWs.none_of {ws : List W} {vs : List V} {i : Nat} (r : RWs K m H ws vs) (e : ws[i]? = none) : vs[i]? = none := by
  have h1 := r.length
  have h2 : ws.length ≤ i := List.getElem?_eq_none_iff.mp e
  exact List.getElem?_eq_none_iff.mpr (by omega)
theorem RWs.atI {ws : List W} {vs : List V} {i : Int} {w : W} (r : RWs K m H ws vs) (e : L2.atI ws i = some w) : ∃ v, L2.atI vs i = some v ∧ RW K m H w v := by
  unfold L2.atI at e ⊢
  rw [r.length] at e
  cases q : ixN vs.length i with
  | none => rw [q] at e; cases e
  | some j =>
    rw [q] at e
    exact r.get e
theorem RWs.ints : ∀ {ws : List W} {vs : List V} {ns : List Int}, RWs K m H ws vs → intsOf ws = some ns → vs = ns.map V.int
  | _, _, _, .nil, e => by
    have e' : ([] : List Int) = _ := Option.some.inj e
    rw [← e']
    rfl
  | _, _, _, .cons h r, e => by
    cases h with
    | int i =>
      unfold intsOf at e
      cases q : intsOf _ with
      | none => rw [q] at e; cases e
      | some ns =>
        rw [q] at e
        have e' : (i :: ns) = _ := Option.some.inj e
        rw [← e', List.map_cons, RWs.ints r q]
    | _ => cases e
theorem RWs.bls : ∀ {ws : List W} {vs : List V} {ns : List Bool}, RWs K m H ws vs → blsOf ws = some ns → vs = ns.map V.bl
  | _, _, _, .nil, e => by
    have e' : ([] : List Bool) = _ := Option.some.inj e
    rw [← e']
    rfl
  | _, _, _, .cons h r, e => by
    cases h with
    | bl i =>
      unfold blsOf at e
      cases q : blsOf _ with
      | none => rw [q] at e; cases e
      | some ns =>
        rw [q] at e
        have e' : (i :: ns) = _ := Option.some.inj e
        rw [← e', List.map_cons, RWs.bls r q]
    | _ => cases e
theorem RWs.strs : ∀ {ws : List W} {vs : List V} {ns : List Str}, RWs K m H ws vs → strsOf ws = some ns → vs = ns.map V.str
  | _, _, _, .nil, e => by
    have e' : ([] : List Str) = _ := Option.some.inj e
    rw [← e']
    rfl
  | _, _, _, .cons h r, e => by
    cases h with
    | str i =>
      unfold strsOf at e
      cases q : strsOf _ with
      | none => rw [q] at e; cases e
      | some ns =>
        rw [q] at e
        have e' : (i :: ns) = _ := Option.some.inj e
        rw [← e', List.map_cons, RWs.strs r q]
    | _ => cases e
theorem RWs.mkStrs : ∀ (l : List Str), RWs K m H (l.map W.str) (l.map V.str)
  | [] => .nil
  | x :: r => .cons (.str x) (RWs.mkStrs r)
theorem RWs.mkSigns : ∀ (l : List Nat), RWs K m H (l.map fun c => W.str ⟨#[c]⟩) (l.map fun c => V.str ⟨#[c]⟩)
  | [] => .nil
  | x :: r => .cons (.str _) (RWs.mkSigns r)
end

/-! ### cells -/
/-- a list of the written part -/
def KL (K : PySem.W.Frag) (a : Addr) (xs : List V) : Prop :=
  ∃ (o : Obj) (its : Array Value) (n : Nat), K.lookup a = some o ∧ o.cls = .type "list" ∧ o.dict = none ∧ o.data = .seq its n ∧ its.size ≤ sizeLine ∧ Vals xs its.toList
/-- fields by names -/
inductive RF (K : PySem.W.Frag) (fn : Nat → Str) (m : List Addr) (H : Hp) : List (Nat × W) → List (Str × V) → Prop
  | nil : RF K fn m H [] []
  | cons {k : Nat} {w : W} {v : V} {fs : List (Nat × W)} {ys : List (Str × V)} : RW K m H w v → RF K fn m H fs ys → RF K fn m H ((k, w) :: fs) ((fn k, v) :: ys)
inductive RD (K : PySem.W.Frag) (m : List Addr) (H : Hp) : List (Key × W) → List (Key × V) → Prop
  | nil : RD K m H [] []
  | cons {k : Key} {w : W} {v : V} {fs : List (Key × W)} {ys : List (Key × V)} : RW K m H w v → RD K m H fs ys → RD K m H ((k, w) :: fs) ((k, v) :: ys)
/-- what stands around: the written part, classes, names of fields, the exceptions that are held -/
structure Cf where
  K : PySem.W.Frag
  cl : Nat → Addr
  fn : Nat → Str
  xi : Addr → Value → Option Addr → Prop
  /-- the exception classes -/
  xc : Nat → Prop
  /-- the cells of caught exceptions -/
  xn : Nat → Prop
/-- an exception's dict -/
def RXd (C : Cf) (m : List Addr) (H : Hp) (d : Option Addr) (fs : List (Nat × W)) : Prop :=
  (fs = [] ∧ d = none) ∨ ∃ dd ys, d = some dd ∧ H dd = some (.xd ys) ∧ RF C.K C.fn m H fs ys ∧ fs ≠ []
def RC (C : Cf) (m : List Addr) (H : Hp) (a : Addr) : Cell → Prop
  | .lst ws => ∃ xs, H a = some (.lst xs) ∧ RWs C.K m H ws xs
  | .fro ws => ∃ xs, ((∃ o, H a = some (.frz o (.lst xs))) ∨ KL C.K a xs) ∧ RWs C.K m H ws xs
  | .dct kvs => ∃ ys, H a = some (.dK ys) ∧ RD C.K m H kvs ys
  | .ins c fs => ∃ dx ys, H a = some (.ins (C.cl c) dx ys) ∧ RF C.K C.fn m H fs ys
  | .exn c fs => ∃ d, C.xi a (.ref (C.cl c)) d ∧ C.xc c ∧ RXd C m H d fs
  | .dead => True
structure RelH (C : Cf) (m : List Addr) (S : Store) (H : Hp) : Prop where
  len : m.length = S.length
  cell : ∀ (n : Nat) (a : Addr) (c : Cell), m[n]? = some a → S[n]? = some c → RC C m H a c
  dis : ∀ (n k : Nat) (a : Addr) (c e : Cell), m[n]? = some a → m[k]? = some a → S[n]? = some c → S[k]? = some e → c.mut = true → e.mut = true → n = k
  exs : ∀ (n c : Nat) (fs : List (Nat × W)), S[n]? = some (.exn c fs) → C.xn n
section
variable {C : Cf} {m m' : List Addr} {S S' : Store} {H H' : Hp}
theorem RF.mono {K : PySem.W.Frag} {fn : Nat → Str} (e : Ext m S H m' S' H') : ∀ {fs : List (Nat × W)} {ys : List (Str × V)}, RF K fn m H fs ys → RF K fn m' H' fs ys
  | _, _, .nil => .nil
  | _, _, .cons h r => .cons (h.mono e) (RF.mono e r)
theorem RD.mono {K : PySem.W.Frag} (e : Ext m S H m' S' H') : ∀ {fs : List (Key × W)} {ys : List (Key × V)}, RD K m H fs ys → RD K m' H' fs ys
  | _, _, .nil => .nil
  | _, _, .cons h r => .cons (h.mono e) (RD.mono e r)
theorem RXd.mono (e : Ext m S H m' S' H') {d : Option Addr} {fs : List (Nat × W)} (h : RXd C m H d fs) : RXd C m' H' d fs := by
  rcases h with h | ⟨dd, ys, h1, h2, h3, h4⟩
  · exact .inl h
  · exact .inr ⟨dd, ys, h1, e.imm h2 rfl, h3.mono e, h4⟩
/-- a cell whose object stands -/
theorem RC.mono (e : Ext m S H m' S' H') {a : Addr} : ∀ {c : Cell}, (c.mut = true → ∀ o, H a = some o → isM o = true → H' a = some o) → RC C m H a c → RC C m' H' a c
  | .lst _, hs, ⟨xs, h1, h2⟩ => ⟨xs, hs rfl _ h1 rfl, h2.mono e⟩
  | .fro _, _, ⟨xs, h1, h2⟩ => ⟨xs, h1.imp (fun ⟨o, z⟩ => ⟨o, e.imm z rfl⟩) id, h2.mono e⟩
  | .dct _, hs, ⟨ys, h1, h2⟩ => ⟨ys, hs rfl _ h1 rfl, h2.mono e⟩
  | .ins _ _, hs, ⟨dx, ys, h1, h2⟩ => ⟨dx, ys, hs rfl _ h1 rfl, h2.mono e⟩
  | .exn _ _, _, ⟨d, h1, hc, h2⟩ => ⟨d, h1, hc, h2.mono e⟩
  | .dead, _, _ => trivial
/-- what a cell that may change has in the heap -/
theorem RC.has {a : Addr} : ∀ {c : Cell}, c.mut = true → RC C m H a c → ∃ o, H a = some o ∧ isM o = true
  | .lst _, _, ⟨xs, h1, _⟩ => ⟨_, h1, rfl⟩
  | .dct _, _, ⟨ys, h1, _⟩ => ⟨_, h1, rfl⟩
  | .ins _ _, _, ⟨dx, ys, h1, _⟩ => ⟨_, h1, rfl⟩
theorem RelH.lt (R : RelH C m S H) {n : Nat} {c : Cell} (h : S[n]? = some c) : ∃ a, m[n]? = some a ∧ RC C m H a c := by
  have h1 : n < S.length := (List.getElem?_eq_some_iff.mp h).1
  have h2 : n < m.length := by rw [R.len]; exact h1
  exact ⟨m[n], List.getElem?_eq_getElem h2, R.cell n _ c (List.getElem?_eq_getElem h2) h⟩
theorem RelH.ma (R : RelH C m S H) {a : Addr} (h : MA m S a) : ∃ o, H a = some o ∧ isM o = true := by
  obtain ⟨n, c, h1, h2, h3⟩ := h
  exact (R.cell n a c h1 h2).has h3
/-- a new thing that is no cell -/
theorem RelH.tuple (R : RelH C m S H) {p : Addr} {o : HO} (hp : H p = none) (hm : isM o = false) : RelH C m S (upd H p o) ∧ Ext m S H m S (upd H p o) := by
  have e : Ext m S H m S (upd H p o) := ⟨⟨[], by simp⟩, fun a u h k => ⟨by rw [upd_ne (ne_of_none h hp)]; exact h, k⟩⟩
  exact ⟨⟨R.len, fun n a c h1 h2 => RC.mono e (fun _ u h _ => by rw [upd_ne (ne_of_none h hp)]; exact h) (R.cell n a c h1 h2), R.dis, R.exs⟩, e⟩
/-- a new object that is tracked beside the cells -/
theorem RelH.beside (R : RelH C m S H) {p : Addr} {o : HO} (hp : H p = none) : RelH C m S (upd H p o) ∧ Ext m S H m S (upd H p o) ∧ ¬ MA m S p := by
  have e : Ext m S H m S (upd H p o) := ⟨⟨[], by simp⟩, fun a u h k => ⟨by rw [upd_ne (ne_of_none h hp)]; exact h, k⟩⟩
  refine ⟨⟨R.len, fun n a c h1 h2 => RC.mono e (fun _ u h _ => by rw [upd_ne (ne_of_none h hp)]; exact h) (R.cell n a c h1 h2), R.dis, R.exs⟩, e, fun z => ?_⟩
  obtain ⟨u, q, _⟩ := R.ma z
  rw [hp] at q
  cases q
theorem ext_new {p : Addr} {o : HO} {c : Cell} (hl : m.length = S.length) (hp : H p = none) : Ext m S H (m ++ [p]) (S ++ [c]) (upd H p o) := by
  refine ⟨⟨[p], rfl⟩, fun a u h k => ⟨by rw [upd_ne (ne_of_none h hp)]; exact h, fun hu z => ?_⟩⟩
  obtain ⟨n, d, h1, h2, h3⟩ := z
  by_cases hn : n < m.length
  · rw [List.getElem?_append_left hn] at h1
    rw [List.getElem?_append_left (by rw [← hl]; exact hn)] at h2
    exact k hu ⟨n, d, h1, h2, h3⟩
  · rw [List.getElem?_append_right (by omega)] at h1
    have : n - m.length = 0 := by
      by_cases z : n - m.length = 0
      · exact z
      · rw [List.getElem?_eq_none (by simp; omega)] at h1
        cases h1
    rw [this] at h1
    have e : p = a := Option.some.inj h1
    rw [← e, hp] at h
    cases h
/-- a new cell -/
theorem RelH.new (R : RelH C m S H) {p : Addr} {o : HO} {c : Cell} (hp : H p = none) (hc : c.mut = true) (hr : RC C (m ++ [p]) (upd H p o) p c) :
    RelH C (m ++ [p]) (S ++ [c]) (upd H p o) ∧ Ext m S H (m ++ [p]) (S ++ [c]) (upd H p o) := by
  have e : Ext m S H (m ++ [p]) (S ++ [c]) (upd H p o) := ext_new R.len hp
  have old : ∀ {n : Nat}, n < S.length → (m ++ [p])[n]? = m[n]? ∧ (S ++ [c])[n]? = S[n]? := fun {n} h => ⟨List.getElem?_append_left (by rw [R.len]; exact h), List.getElem?_append_left h⟩
  have last : ∀ {n : Nat} {d : Cell}, ¬ n < S.length → (S ++ [c])[n]? = some d → n = S.length ∧ d = c := fun {n d} h q => by
    rw [List.getElem?_append_right (by omega)] at q
    have z : n - S.length = 0 := by
      by_cases z : n - S.length = 0
      · exact z
      · rw [List.getElem?_eq_none (by simp; omega)] at q
        cases q
    rw [z] at q
    exact ⟨by omega, (Option.some.inj q).symm⟩
  have lastm : (m ++ [p])[S.length]? = some p := by rw [← R.len]; simp
  refine ⟨⟨by rw [List.length_append, List.length_append, R.len]; rfl, fun n a d h1 h2 => ?_, fun n k a d f h1 h2 h3 h4 h5 h6 => ?_, fun n c' fs h => ?_⟩, e⟩
  · by_cases hn : n < S.length
    · rw [(old hn).1] at h1
      rw [(old hn).2] at h2
      exact RC.mono e (fun _ u h _ => by rw [upd_ne (ne_of_none h hp)]; exact h) (R.cell n a d h1 h2)
    · obtain ⟨en, ed⟩ := last hn h2
      subst ed
      rw [en, lastm] at h1
      have e1 : p = a := Option.some.inj h1
      subst e1
      exact hr
  · have key : ∀ {n k : Nat} {d f : Cell}, n < S.length → ¬ k < S.length → (m ++ [p])[n]? = some a → (m ++ [p])[k]? = some a → (S ++ [c])[n]? = some d → (S ++ [c])[k]? = some f → d.mut = true → False := fun {n k d f} hn hk h1 h2 h3 h4 h5 => by
      rw [(old hn).1] at h1
      rw [(old hn).2] at h3
      obtain ⟨ek, _⟩ := last hk h4
      rw [ek, lastm] at h2
      have e1 : p = a := Option.some.inj h2
      obtain ⟨u, q, _⟩ := (R.cell n a d h1 h3).has h5
      rw [← e1, hp] at q
      cases q
    by_cases hn : n < S.length
    · by_cases hk : k < S.length
      · rw [(old hn).1] at h1
        rw [(old hk).1] at h2
        rw [(old hn).2] at h3
        rw [(old hk).2] at h4
        exact R.dis n k a d f h1 h2 h3 h4 h5 h6
      · exact (key hn hk h1 h2 h3 h4 h5).elim
    · by_cases hk : k < S.length
      · exact (key hk hn h2 h1 h4 h3 h6).elim
      · exact ((last hn h3).1).trans ((last hk h4).1).symm
  · by_cases hn : n < S.length
    · rw [(old hn).2] at h
      exact R.exs n c' fs h
    · obtain ⟨_, ed⟩ := last hn h
      rw [← ed] at hc
      cases hc
/-- a cell is written -/
theorem RelH.set (R : RelH C m S H) {n : Nat} {a : Addr} {c d : Cell} {o : HO} (h1 : m[n]? = some a) (h2 : S[n]? = some c) (hc : c.mut = true) (hd : d.mut = true) (ho : isM o = true) (hr : RC C m (upd H a o) a d) :
    RelH C m (S.set n d) (upd H a o) ∧ Ext m S H m (S.set n d) (upd H a o) := by
  have hn : n < S.length := (List.getElem?_eq_some_iff.mp h2).1
  obtain ⟨u, hu, mu⟩ := (R.cell n a c h1 h2).has hc
  have ma : MA m S a := ⟨n, c, h1, h2, hc⟩
  have same : ∀ b, MA m (S.set n d) b → MA m S b := fun b z => by
    obtain ⟨k, e, q1, q2, q3⟩ := z
    by_cases hk : n = k
    · subst hk
      rw [h1] at q1
      have e1 : a = b := Option.some.inj q1
      rw [← e1]
      exact ma
    · rw [List.getElem?_set_ne hk] at q2
      exact ⟨k, e, q1, q2, q3⟩
  have ext : Ext m S H m (S.set n d) (upd H a o) := ⟨⟨[], by simp⟩, fun b v h k => by
    have ne : b ≠ a := fun z => by
      subst z
      rw [hu] at h
      have e1 : u = v := Option.some.inj h
      subst e1
      exact k mu ma
    exact ⟨by rw [upd_ne ne]; exact h, fun hv z => k hv (same b z)⟩⟩
  refine ⟨⟨by rw [List.length_set]; exact R.len, fun k b e q1 q2 => ?_, fun k l b e f q1 q2 q3 q4 q5 q6 => ?_, fun k c' fs q => ?_⟩, ext⟩
  · by_cases hk : n = k
    · subst hk
      rw [h1] at q1
      have e1 : a = b := Option.some.inj q1
      rw [List.getElem?_set_self hn] at q2
      have e2 : d = e := Option.some.inj q2
      subst e1 e2
      exact hr
    · rw [List.getElem?_set_ne hk] at q2
      refine RC.mono ext (fun hm v hv mv => ?_) (R.cell k b e q1 q2)
      have hb : b ≠ a := fun z => by
        subst z
        exact hk (R.dis n k b c e h1 q1 h2 q2 hc hm)
      rw [upd_ne hb]
      exact hv
  · have ce : ∀ {k : Nat} {e : Cell}, (S.set n d)[k]? = some e → e.mut = true → ∃ e', S[k]? = some e' ∧ e'.mut = true := fun {k e} q z => by
      by_cases hk : n = k
      · subst hk
        exact ⟨c, h2, hc⟩
      · rw [List.getElem?_set_ne hk] at q
        exact ⟨e, q, z⟩
    obtain ⟨e', z1, z2⟩ := ce q3 q5
    obtain ⟨f', z3, z4⟩ := ce q4 q6
    exact R.dis k l b e' f' q1 q2 z1 z3 z2 z4
  · by_cases hk : n = k
    · subst hk
      rw [List.getElem?_set_self hn] at q
      have e2 : d = .exn c' fs := Option.some.inj q
      rw [e2] at hd
      cases hd
    · rw [List.getElem?_set_ne hk] at q
      exact R.exs k c' fs q
end
end Ip

/-! IpOps: the operations by values. Written by an AI agent. -/
namespace Ip
open PySem PySem.Spec PyProof.Rows L2
theorem sl_le {n : Nat} (h : n ≤ 16777216) : n ≤ sizeLine := by rw [sizeLine_eq]; exact h
theorem sl_lt {n : Nat} (h : n < 16777216) : n < sizeLine := by rw [sizeLine_eq]; exact h

/-- what is wanted of a value that an operation gives -/
def Post (C : Cf) (m : List Addr) (S : Store) (H : Hp) (S' : Store) (w : W) (Q : VK) : Prop :=
  ∀ m' H' v, RelH C m' S' H' → Ext m S H m' S' H' → RW C.K m' H' w v → Q v H'
section
variable {C : Cf} {m : List Addr} {S S' : Store} {H : Hp} {w : W} {Q : VK}
theorem Post.here {v : V} (p : Post C m S H S w Q) (R : RelH C m S H) (r : RW C.K m H w v) : Q v H := p m H v R Ext.refl r
theorem Post.lst {q : Addr} {ws : List W} {xs : List V} (p : Post C m S H (S ++ [.lst ws]) (.loc S.length) Q) (R : RelH C m S H) (hq : H q = none) (r : RWs C.K m H ws xs) : Q (.ref q) (upd H q (.lst xs)) := by
  have e := ext_new (o := .lst xs) (c := .lst ws) R.len hq
  have n := R.new (c := .lst ws) (o := .lst xs) hq rfl ⟨xs, upd_same, r.mono e⟩
  exact p _ _ _ n.1 n.2 (.loc (by rw [← R.len]; simp))
theorem Post.tup {q : Addr} {ws : List W} {xs : List V} (p : Post C m S H S (.tup ws) Q) (R : RelH C m S H) (hq : H q = none) (r : RWs C.K m H ws xs) : Q (.ref q) (upd H q (.tup xs)) := by
  have n := R.tuple (o := .tup xs) hq rfl
  exact p _ _ _ n.1 n.2 (.tup (SqT.of upd_same) (r.mono n.2))
theorem RelH.listAt (R : RelH C m S H) {n : Nat} {a : Addr} {ws : List W} (h : m[n]? = some a) (e : listAt S n = some ws) : ∃ xs, SqL C.K H a xs ∧ RWs C.K m H ws xs := by
  unfold Ip.listAt at e
  cases q : S[n]? with
  | none => rw [q] at e; cases e
  | some c =>
    rw [q] at e
    have rc := R.cell n a c h q
    cases c with
    | lst ws' =>
      have e1 : ws' = ws := Option.some.inj e
      subst e1
      obtain ⟨xs, h1, h2⟩ := rc
      exact ⟨xs, SqL.of h1, h2⟩
    | fro ws' =>
      have e1 : ws' = ws := Option.some.inj e
      subst e1
      obtain ⟨xs, h1, h2⟩ := rc
      rcases h1 with ⟨o, z⟩ | z
      · exact ⟨xs, .inl (.inr ⟨o, z⟩), h2⟩
      · exact ⟨xs, .inr z, h2⟩
    | _ => cases e
end

/-! ### data for == -/
mutual
theorem dat_dp {C : Cf} {m : List Addr} {S : Store} {H : Hp} (R : RelH C m S H) : ∀ (k : Nat) {w : W} {v : V} {d : PyData}, RW C.K m H w v → dat S k w = some d → Dp C.K H v d ∧ d.depth ≤ k
  | _, _, _, _, .non, e => by
    simp only [dat, Option.some.injEq] at e
    subst e
    exact ⟨.non, Nat.zero_le _⟩
  | _, _, _, _, .bl b, e => by
    simp only [dat, Option.some.injEq] at e
    subst e
    exact ⟨.bl b, Nat.zero_le _⟩
  | _, _, _, _, .int b, e => by
    simp only [dat, Option.some.injEq] at e
    subst e
    exact ⟨.int b, Nat.zero_le _⟩
  | _, _, _, _, .str b, e => by
    simp only [dat, Option.some.injEq] at e
    subst e
    exact ⟨.str b, Nat.zero_le _⟩
  | 0, _, _, _, .tup _ _, e => by simp [dat] at e
  | k + 1, _, _, _, .tup h r, e => by
    simp only [dat] at e
    obtain ⟨ds, h1, h2⟩ := Option.map_eq_some_iff.mp e
    subst h2
    obtain ⟨z1, z2⟩ := datAll_dp R k r h1
    refine ⟨.tup h z1, ?_⟩
    show PyData.depthAll ds + 1 ≤ k + 1
    omega
  | 0, _, _, _, .loc _, e => by simp [dat] at e
  | k + 1, _, _, _, .loc h, e => by
    simp only [dat] at e
    split at e
    · rename_i ws q
      obtain ⟨ds, h1, h2⟩ := Option.map_eq_some_iff.mp e
      subst h2
      obtain ⟨xs, hs, r⟩ := R.listAt h q
      obtain ⟨z1, z2⟩ := datAll_dp R k r h1
      refine ⟨.lst hs z1, ?_⟩
      show PyData.depthAll ds + 1 ≤ k + 1
      omega
    · cases e
theorem datAll_dp {C : Cf} {m : List Addr} {S : Store} {H : Hp} (R : RelH C m S H) : ∀ (k : Nat) {ws : List W} {vs : List V} {ds : List PyData}, RWs C.K m H ws vs → datAll S k ws = some ds → DpAll C.K H vs ds ∧ PyData.depthAll ds ≤ k
  | _, _, _, _, .nil, e => by
    simp only [datAll, Option.some.injEq] at e
    subst e
    exact ⟨.nil, Nat.zero_le _⟩
  | k, _, _, _, .cons h r, e => by
    simp only [datAll] at e
    split at e
    · rename_i d ds q1 q2
      have e1 := Option.some.inj e
      subst e1
      obtain ⟨z1, z2⟩ := dat_dp R k h q1
      obtain ⟨z3, z4⟩ := datAll_dp R k r q2
      refine ⟨.cons z1 z3, ?_⟩
      show max (PyData.depth d) (PyData.depthAll ds) ≤ k
      omega
    · cases e
end
theorem flat_rw {K : PySem.W.Frag} {m : List Addr} {H : Hp} : ∀ {w : W} {v : V}, RW K m H w v → flatW w = true → flatV v = true
  | _, _, .non, _ => rfl
  | _, _, .bl _, _ => rfl
  | _, _, .int _, _ => rfl
  | _, _, .str _, _ => rfl
  | _, _, .tup _ _, h => by cases h
  | _, _, .loc _, h => by cases h
theorem flats_rw {K : PySem.W.Frag} {m : List Addr} {H : Hp} : ∀ {ws : List W} {vs : List V}, RWs K m H ws vs → ws.all flatW = true → vs.all flatV = true
  | _, _, .nil, _ => rfl
  | _, _, .cons h r, e => by
    rw [List.all_cons, Bool.and_eq_true] at e ⊢
    exact ⟨flat_rw h e.1, flats_rw r e.2⟩
theorem eqF_rw {K : PySem.W.Frag} {m : List Addr} {H : Hp} {w u : W} {v x : V} (h : RW K m H w v) (g : RW K m H u x) (f : flatW w = true) (f2 : flatW u = true) : eqV v x = eqF w u := by
  cases h <;> first | (cases f; done) | (cases g <;> first | (cases f2; done) | rfl)
theorem inW_rw {K : PySem.W.Frag} {m : List Addr} {H : Hp} {w : W} {v : V} (h : RW K m H w v) (f : flatW w = true) : ∀ {ws : List W} {vs : List V}, RWs K m H ws vs → ws.all flatW = true → inV v vs = inW w ws
  | _, _, .nil, _ => rfl
  | _, _, .cons g r, e => by
    rw [List.all_cons, Bool.and_eq_true] at e
    have ih := inW_rw h f r e.2
    unfold inV inW at ih ⊢
    rw [List.any_cons, List.any_cons, ih, eqF_rw g h e.1 f]
theorem key_rw {K : PySem.W.Frag} {m : List Addr} {H : Hp} {w : W} {v : V} {k : Key} (h : RW K m H w v) (e : keyW w = some k) : v = kV k := by
  cases h with
  | int i =>
    have e1 : (Sum.inl i : Key) = k := Option.some.inj e
    subst e1
    rfl
  | str i =>
    have e1 : (Sum.inr i : Key) = k := Option.some.inj e
    subst e1
    rfl
  | _ => cases e
theorem getK_rd {K : PySem.W.Frag} {m : List Addr} {H : Hp} {k : Key} : ∀ {kvs : List (Key × W)} {ys : List (Key × V)}, RD K m H kvs ys →
    (getK k kvs = none ∧ valV ys k = none) ∨ ∃ w v, getK k kvs = some w ∧ valV ys k = some v ∧ RW K m H w v
  | _, _, .nil => .inl ⟨rfl, rfl⟩
  | _, _, .cons (k := q) (w := w) (v := v) h r => by
    by_cases e : q = k
    · exact .inr ⟨w, v, by unfold getK; rw [if_pos e], valV_pos e, h⟩
    · have ih := getK_rd (k := k) r
      rw [show getK k ((q, w) :: _) = (if q = k then some w else getK k _) from rfl, if_neg e, valV_neg (p := (q, v)) e]
      exact ih
theorem getK_some {K : PySem.W.Frag} {m : List Addr} {H : Hp} {k : Key} {kvs : List (Key × W)} {ys : List (Key × V)} (r : RD K m H kvs ys) : (valV ys k).isSome = (getK k kvs).isSome := by
  rcases getK_rd (k := k) r with ⟨h1, h2⟩ | ⟨w, v, h1, h2, _⟩ <;> rw [h1, h2] <;> rfl

/-! ### operators -/
section
variable {X : Cx}
theorem op_fdivG : OpR X (binaryOp .FloorDiv) (rI (fun _ j => j ≠ 0 ∧ j.natAbs.log2 < 9000) fun i j => .int (i.fdiv j)) := opI fun _ _ _ _ _ _ _ hc q => floordiv_int hc.1 q (.inl (PyProof.noPylong_of_log2 hc.2))
def rAddS : R2 := fun x y H Q => ∃ i j, x = .str i ∧ y = .str j ∧ i.length + j.length ≤ sizeLine ∧ Q (.str (i ++ j)) H
def orR (r r' : R2) : R2 := fun x y H Q => r x y H Q ∨ r' x y H Q
def pyOp : Op2 → Operator
  | .add => .Add | .sub => .Sub | .mul => .Mult | .fdiv => .FloorDiv | .mod => .Mod | .pow => .Pow
def rOp (K : PySem.W.Frag) : Op2 → R2
  | .add => orR (rI0 fun i j => .int (i + j)) (orR rAddS (orR (rCatA K) rCat))
  | .sub => rI0 fun i j => .int (i - j)
  | .mul => orR (rI CMulW fun i j => .int (i * j)) rRep
  | .fdiv => rI (fun _ j => j ≠ 0 ∧ j.natAbs.log2 < 9000) fun i j => .int (i.fdiv j)
  | .mod => rI (fun _ j => j ≠ 0) fun i j => .int (i.fmod j)
  | .pow => rI CPow fun i j => .int (i ^ j.toNat)
theorem opR_ok : ∀ op : Op2, OpR X (binaryOp (pyOp op)) (rOp X.K op)
  | .add => op_add.or (op_add_str.or (op_catA.or op_cat))
  | .sub => op_sub
  | .mul => op_mulW.or op_rep
  | .fdiv => op_fdivG
  | .mod => op_modN
  | .pow => op_pow
end
section
variable {C : Cf} {m : List Addr} {S S' : Store} {H : Hp} {a b w : W} {x y : V} {Q : VK}
theorem op2_ok {op : Op2} (R : RelH C m S H) (ra : RW C.K m H a x) (rb : RW C.K m H b y) (e : op2 op S a b = some (w, S')) (p : Post C m S H S' w Q) : rOp C.K op x y H Q := by
  unfold op2 at e
  split at e
  · -- int + int
    cases ra; cases rb
    simp only [Option.some.injEq, Prod.mk.injEq] at e
    obtain ⟨rfl, rfl⟩ := e
    exact .inl ⟨_, _, rfl, rfl, p.here R (.int _)⟩
  · -- str + str
    cases ra; cases rb
    split at e
    · rename_i hl
      simp only [Option.some.injEq, Prod.mk.injEq] at e
      obtain ⟨rfl, rfl⟩ := e
      exact .inr (.inl ⟨_, _, rfl, rfl, sl_le hl, p.here R (.str _)⟩)
    · cases e
  · -- tup + tup
    cases ra with
    | tup h1 r1 =>
      cases rb with
      | tup h2 r2 =>
        split at e
        · rename_i hl
          simp only [Option.some.injEq, Prod.mk.injEq] at e
          obtain ⟨rfl, rfl⟩ := e
          have l1 := r1.length
          have l2 := r2.length
          refine .inr (.inr (.inl ⟨_, _, _, _, rfl, rfl, h1, h2, sl_le (by omega), fun z => ?_, fun _ z => ?_, fun _ _ q hq => p.tup R hq (r1.append r2)⟩))
          · rw [z] at l1
            have n1 := List.length_eq_zero_iff.mp l1
            subst n1
            exact p.here R (.tup h2 r2)
          · rw [z] at l2
            have n2 := List.length_eq_zero_iff.mp l2
            subst n2
            exact p.here R (by rw [List.append_nil]; exact .tup h1 r1)
        · cases e
  · -- list + list
    cases ra with
    | loc h1 =>
      cases rb with
      | loc h2 =>
        split at e
        · rename_i q1 q2
          split at e
          · rename_i hl
            simp only [Option.some.injEq, Prod.mk.injEq] at e
            obtain ⟨rfl, rfl⟩ := e
            obtain ⟨v1, z1, r1⟩ := R.cell _ _ _ h1 q1
            obtain ⟨v2, z2, r2⟩ := R.cell _ _ _ h2 q2
            have l1 := r1.length
            have l2 := r2.length
            exact .inr (.inr (.inr ⟨_, _, _, _, rfl, rfl, z1, z2, sl_le (by omega), fun q hq => p.lst R hq (r1.append r2)⟩))
          · cases e
        · cases e
  · cases ra; cases rb
    simp only [Option.some.injEq, Prod.mk.injEq] at e
    obtain ⟨rfl, rfl⟩ := e
    exact ⟨_, _, rfl, rfl, p.here R (.int _)⟩
  · cases ra; cases rb
    split at e
    · rename_i hl
      simp only [Option.some.injEq, Prod.mk.injEq] at e
      obtain ⟨rfl, rfl⟩ := e
      exact .inl ⟨_, _, rfl, rfl, hl, p.here R (.int _)⟩
    · cases e
  · -- list * int
    cases rb
    cases ra with
    | loc h1 =>
      split at e
      · rename_i q1
        split at e
        · rename_i hl
          obtain ⟨l1, l2, l3⟩ := hl
          simp only [Option.some.injEq, Prod.mk.injEq] at e
          obtain ⟨rfl, rfl⟩ := e
          obtain ⟨v1, z1, r1⟩ := R.cell _ _ _ h1 q1
          exact .inr ⟨_, _, _, rfl, rfl, z1, l1, l2, by rw [← r1.length]; exact sl_le l3, fun q hq => p.lst R hq (r1.flat _)⟩
        · cases e
      · cases e
  · cases ra; cases rb
    split at e
    · rename_i hl
      simp only [Option.some.injEq, Prod.mk.injEq] at e
      obtain ⟨rfl, rfl⟩ := e
      exact ⟨_, _, rfl, rfl, hl, p.here R (.int _)⟩
    · cases e
  · cases ra; cases rb
    split at e
    · rename_i hl
      simp only [Option.some.injEq, Prod.mk.injEq] at e
      obtain ⟨rfl, rfl⟩ := e
      exact ⟨_, _, rfl, rfl, hl, p.here R (.int _)⟩
    · cases e
  · cases ra; cases rb
    split at e
    · rename_i hl
      simp only [Option.some.injEq, Prod.mk.injEq] at e
      obtain ⟨rfl, rfl⟩ := e
      exact ⟨_, _, rfl, rfl, hl, p.here R (.int _)⟩
    · cases e
  · cases e
end

/-! ### comparisons -/
def pyCm : Cm → CmpOp
  | .eq => .Eq | .ne => .NotEq | .lt => .Lt | .le => .LtE | .gt => .Gt | .ge => .GtE | .isN => .Is | .notN => .IsNot | .isin => .In | .notin => .NotIn
def rSgn (g : Bool → Bool) : R2 := fun x y H Q => ∃ (c : Nat) (z : Str), x = .str ⟨#[c]⟩ ∧ y = .str z ∧ Q (.bl (g (decide (c ∈ z.cps.toList)))) H
def rSub (g : Bool → Bool) : R2 := fun x y H Q => ∃ i j, x = .str i ∧ y = .str j ∧ Q (.bl (g (!(Builtin.Str.occurrences j i 0 j.length 1).isEmpty))) H
def rDin (g : Bool → Bool) : R2 := fun x y H Q => ∃ a o, y = .ref a ∧ DGet H a x o ∧ Q (.bl (g o.isSome)) H
def rCm (K : PySem.W.Frag) : Cm → R2
  | .eq => orR rEq (rEqD K)
  | .ne => orR rNe (rNeD K)
  | .lt => rI0 fun i j => .bl (decide (i < j))
  | .le => rI0 fun i j => .bl (decide (i ≤ j))
  | .gt => rI0 fun i j => .bl (decide (j < i))
  | .ge => rI0 fun i j => .bl (decide (j ≤ i))
  | .isN => fun x y H Q => y = .non ∧ Q (.bl (decide (x = .non))) H
  | .notN => fun x y H Q => y = .non ∧ Q (.bl (!decide (x = .non))) H
  | .isin => orR (rSgn id) (orR (rSub id) (orR (rIn K false) (rDin id)))
  | .notin => orR (rSgn (!·)) (orR (rSub (!·)) (orR (rIn K true) (rDin (!·))))
section
variable {X : Cx}
theorem op_din (hu : X.A.units + 1 < cLine) : OpR X (compareOp .In) (rDin id) := fun pins s σ H x y v u Q I rx ry h => by
  obtain ⟨a, o, rfl, g, q⟩ := h
  cases ry
  exact d_in hu I g rx fun s3 I3 => ⟨.bl o.isSome, H, I3, rfl, q⟩
theorem op_dnotin (hu : X.A.units + 1 < cLine) : OpR X (compareOp .NotIn) (rDin (!·)) := fun pins s σ H x y v u Q I rx ry h => by
  obtain ⟨a, o, rfl, g, q⟩ := h
  cases ry
  exact d_notIn hu I g rx fun s3 I3 => ⟨.bl (!o.isSome), H, I3, rfl, q⟩
theorem cmR_ok (hu : X.A.units + 64 < cLine) : ∀ op : Cm, OpR X (compareOp (pyCm op)) (rCm X.K op)
  | .eq => op_eq.or (op_eqD hu)
  | .ne => op_ne.or (op_neD hu)
  | .lt => op_lt
  | .le => op_le
  | .gt => op_gt
  | .ge => op_ge
  | .isN => op_isN
  | .notN => op_notN
  | .isin => op_in_sign.or (op_in_str.or (op_in_seq.or (op_din (by omega))))
  | .notin => op_notIn_sign.or (op_notin_str.or (op_notIn_seq.or (op_dnotin (by omega))))
end
section
variable {C : Cf} {m : List Addr} {S : Store} {H : Hp} {a b : W} {x y : V} {Q : VK} {k : Bool}
theorem str_one {z : Str} {c : Nat} (h : z.cps.toList = [c]) : z = ⟨#[c]⟩ := by
  obtain ⟨a⟩ := z
  obtain ⟨l⟩ := a
  have e : l = [c] := h
  subst e
  rfl
theorem eqDeep_ok (R : RelH C m S H) (ra : RW C.K m H a x) (rb : RW C.K m H b y) (e : eqDeep S a b = some k) : ∃ d f, Dp C.K H x d ∧ Dp C.K H y f ∧ SeqAt.shaped d = true ∧ SeqAt.shaped f = true ∧ PyData.eqv d f = k := by
  unfold eqDeep at e
  split at e
  · rename_i d f q1 q2
    split at e
    · rename_i hc
      rw [Bool.and_eq_true] at hc
      obtain ⟨z1, z2⟩ := dat_dp R 64 ra q1
      obtain ⟨z3, z4⟩ := dat_dp R 64 rb q2
      refine ⟨d, f, z1, z3, ?_, ?_, Option.some.inj e⟩
      · unfold SeqAt.shaped
        rw [hc.1, decide_eq_true z2] <;> rfl
      · unfold SeqAt.shaped
        rw [hc.2, decide_eq_true z4] <;> rfl
    · cases e
  · cases e
theorem eqW_ok (R : RelH C m S H) (ra : RW C.K m H a x) (rb : RW C.K m H b y) (e : eqW S a b = some k) :
    (scal x y = true ∧ decide (x = y) = k) ∨ ∃ d f, Dp C.K H x d ∧ Dp C.K H y f ∧ SeqAt.shaped d = true ∧ SeqAt.shaped f = true ∧ PyData.eqv d f = k := by
  unfold eqW at e
  split at e
  · cases ra; cases rb
    have e1 := Option.some.inj e
    exact .inl ⟨rfl, by rw [← e1]; simp⟩
  · cases ra; cases rb
    have e1 := Option.some.inj e
    exact .inl ⟨rfl, by rw [← e1]; simp⟩
  · cases ra; cases rb
    have e1 := Option.some.inj e
    exact .inl ⟨rfl, by rw [← e1]; simp⟩
  · exact .inr (eqDeep_ok R ra rb e)
theorem isN_rw {w : W} {v : V} (h : RW C.K m H w v) : decide (v = .non) = isN w := by
  cases h <;> first | rfl | simp [isN]
theorem isN_non {w : W} {v : V} (h : RW C.K m H w v) (e : isN w = true) : v = .non := by
  cases h <;> first | rfl | cases e
theorem isin_ok (R : RelH C m S H) (ra : RW C.K m H a x) (rb : RW C.K m H b y) (e : isin S a b = some k) (g : Bool → Bool) (neg : Bool) (hg : ∀ c, g c = if neg then !c else c) (q : Q (.bl (g k)) H) :
    orR (rSgn g) (orR (rSub g) (orR (rIn C.K neg) (rDin g))) x y H Q := by
  have seq : ∀ {p : Addr} {ws : List W} {xs : List V}, (SqL C.K H p xs ∨ SqT C.K H p xs) → RWs C.K m H ws xs → (if (flatW a && ws.all flatW) = true then some (inW a ws) else none) = some k → y = .ref p → orR (rSgn g) (orR (rSub g) (orR (rIn C.K neg) (rDin g))) x y H Q := fun {p ws xs} hs rs e hy => by
    subst hy
    split at e
    · rename_i hf
      rw [Bool.and_eq_true] at hf
      have e1 := Option.some.inj e
      refine .inr (.inr (.inl ⟨p, xs, rfl, hs, flat_rw ra hf.1, flats_rw rs hf.2, ?_⟩))
      rw [inW_rw ra hf.1 rs hf.2, e1, ← hg]
      exact q
    · cases e
  unfold isin at e
  split at e
  · cases ra; cases rb
    have e1 := Option.some.inj e
    unfold isinS at e1
    split at e1
    · rename_i z1 z2 c hc
      refine .inl ⟨c, _, ?_, rfl, by rw [e1]; exact q⟩
      congr 1
      exact str_one hc
    · exact .inr (.inl ⟨_, _, rfl, rfl, by rw [e1]; exact q⟩)
  · cases rb with
    | tup h r => exact seq (.inr h) r e rfl
  · cases rb with
    | loc h =>
      split at e
      · rename_i q1
        obtain ⟨xs, z1, z2⟩ := R.cell _ _ _ h q1
        exact seq (.inl (SqL.of z1)) z2 e rfl
      · rename_i q1
        obtain ⟨xs, z1, z2⟩ := R.listAt h (ws := _) (by unfold Ip.listAt; rw [q1])
        exact seq (.inl z1) z2 e rfl
      · rename_i q1
        split at e
        · rename_i kk hk
          have e1 := Option.some.inj e
          obtain ⟨ys, z1, z2⟩ := R.cell _ _ _ h q1
          refine .inr (.inr (.inr ⟨_, _, rfl, by rw [key_rw ra hk]; exact DGet.k z1, ?_⟩))
          rw [getK_some z2, e1]
          exact q
        · cases e
      · cases e
  · cases e
theorem cm2_ok {op : Cm} (R : RelH C m S H) (ra : RW C.K m H a x) (rb : RW C.K m H b y) (e : cm2 op S a b = some k) (q : Q (.bl k) H) : rCm C.K op x y H Q := by
  unfold cm2 at e
  split at e
  · rcases eqW_ok R ra rb e with ⟨h1, h2⟩ | ⟨d, f, h1, h2, h3, h4, h5⟩
    · exact .inl ⟨h1, by rw [h2]; exact q⟩
    · exact .inr ⟨d, f, h1, h2, h3, h4, by rw [h5]; exact q⟩
  · obtain ⟨k', e1, e2⟩ := Option.map_eq_some_iff.mp e
    subst e2
    rcases eqW_ok R ra rb e1 with ⟨h1, h2⟩ | ⟨d, f, h1, h2, h3, h4, h5⟩
    · exact .inl ⟨h1, by rw [h2]; exact q⟩
    · exact .inr ⟨d, f, h1, h2, h3, h4, by rw [h5]; exact q⟩
  · split at e
    · rename_i hn
      have e1 := Option.some.inj e
      exact ⟨isN_non rb hn, by rw [isN_rw ra, e1]; exact q⟩
    · cases e
  · split at e
    · rename_i hn
      have e1 := Option.some.inj e
      exact ⟨isN_non rb hn, by rw [isN_rw ra, e1]; exact q⟩
    · cases e
  · exact isin_ok R ra rb e id false (fun c => rfl) q
  · obtain ⟨k', e1, e2⟩ := Option.map_eq_some_iff.mp e
    subst e2
    exact isin_ok R ra rb e1 (!·) true (fun c => rfl) q
  · split at e
    · cases ra; cases rb
      have e1 := Option.some.inj e
      subst e1
      exact ⟨_, _, rfl, rfl, q⟩
    · cases e
  · split at e
    · cases ra; cases rb
      have e1 := Option.some.inj e
      subst e1
      exact ⟨_, _, rfl, rfl, q⟩
    · cases e
  · split at e
    · cases ra; cases rb
      have e1 := Option.some.inj e
      subst e1
      exact ⟨_, _, rfl, rfl, q⟩
    · cases e
  · split at e
    · cases ra; cases rb
      have e1 := Option.some.inj e
      subst e1
      exact ⟨_, _, rfl, rfl, q⟩
    · cases e
end
end Ip

/-! IpHot: any(list), all(list) while an exception is handled. Written by an AI agent. -/
namespace Ip
open PySem PySem.Spec PyProof.Rows L2 HotX
section
variable {prog : Program} {w : World} {A : Around} {E : Value → Shared → Prop} {s : Shared}
/-- the end of a list, a caught exception at hand: as the library's pyNext_list_end and pyNext_range_end_hot -/
theorem list_end_hot {it l x1 : Addr} {i : Nat} {items : Array Value} {Q : Option Value → Shared → Prop} (hot : HotAt A x1 s.heap) (hxi : x1 ≠ it)
    (hit : s.heap.IsListIter it l i) (hl : s.heap.IsList l items) (hx : items[i]? = none)
    (hQ : ∀ h', (∀ b o, b ≠ it → s.heap.get? b = some o → h'.get? b = some o) → Q none { s with heap := h' }) : wpAny (model prog w) A (pyNext (.ref it)) Q E s := by
  obtain ⟨o, ho, hc, hd⟩ := id hit
  obtain ⟨ol, hol, _, nl, hdl⟩ := hl
  obtain ⟨hh, o1, vs1, h1, d1, c1⟩ := hot
  unfold pyNext
  refine wpAny_bind (wpAny_attempt (wpAny_callSpecial?_slot (name := Str.ofString "__next__") hit.typeIs slot_listiter_next
    (wpAny_call_entry slot_listiter_next hit.typeIs entry_listiter_next ?_ (args_listiter_next _))))
  show wpAny _ _ (field (.ref it) 0 >>= _) _ _ s
  refine wpAny_bind (wpAny_field ho hd (x := .ref l) rfl ?_)
  show wpAny _ _ (if (Value.ref l == Value.none) = true then _ else _) _ _ s
  rw [if_neg (show ¬ ((Value.ref l == Value.none) = true) from Bool.false_ne_true)]
  show wpAny _ _ (field (.ref it) 1 >>= _) _ _ s
  refine wpAny_bind (wpAny_field ho hd (x := .int i 0) rfl ?_)
  show wpAny _ _ (seqItems? (.ref l) >>= _) _ _ s
  refine wpAny_bind (wpAny_seqItems hol hdl ?_)
  simp only [Int.toNat_natCast, hx]
  refine wpAny_bind (wpAny_rule (wpAny_bind (wpAny_setField ho hd (by simp) ?_)))
  show wpAny _ _ (newExc (.type "StopIteration") [] >>= _) _ _ _
  refine wpAny_bind ?_
  simp only [newExc, newTuple]
  refine wpAny_bind (wpAny_newObj_type ?_ (by size_fits))
  refine wpAny_bind (m := firstArgMember _ _) (wpAny_of_eq (a := Value.none) (by first | rfl | (simp only [firstArgMember]; rfl)) ?_)
  refine wpAny_newObj_type ?_ (by size_fits)
  have k1 : ∀ b o, b ≠ it → s.heap.get? b = some o → (s.heap.update it (Obj.mapFields (·.setIfInBounds 0 .none))).get? b = some o := fun b o hb e => (Heap.get?_update_other _ _ (Ne.symm hb)).trans e
  refine raiseNew_hot (x1 := x1) ⟨hh, o1, vs1, Heap.get?_push_of_some _ (Heap.get?_push_of_some _ (k1 _ _ hxi h1)), d1, c1⟩ (Nat.ne_of_lt (Heap.lt_size (Heap.get?_push_of_some _ (k1 _ _ hxi h1)))) (Heap.get?_push_size _ rfl) rfl (by simp; omega) ?_
  refine wpAny_bind (wpAny_isInstance (T := "StopIteration") (b := true) ⟨_, Heap.get?_update_self _ (Heap.get?_push_size _ rfl) rfl, rfl⟩ isSubtype_stop ?_)
  refine wpAny_pure (hQ _ fun b o hb e => ?_)
  rw [Heap.get?_update_other _ _ (Nat.ne_of_gt (Heap.lt_size (Heap.get?_push_of_some _ (k1 _ _ hb e))))]
  exact Heap.get?_push_of_some _ (Heap.get?_push_of_some _ (k1 _ _ hb e))
theorem HotAt.keep {x1 : Addr} {h h' : Heap} (a : HotAt A x1 h) (k : ∀ o, h.get? x1 = some o → h'.get? x1 = some o) : HotAt A x1 h' := by
  obtain ⟨hh, o1, vs1, h1, d1, c1⟩ := a
  exact ⟨hh, o1, vs1, k _ h1, d1, c1⟩
theorem walks_hot {x1 : Addr} (I ax : Addr) (hne : ax ≠ I) (hx : x1 ≠ I) (items : Array Value) :
    Walks prog w A I [I, ax, x1] [I] items.size (fun i v => items[i]? = some v) (fun i h => (h.IsListIter I ax i ∧ h.IsList ax items) ∧ HotAt A x1 h) where
  sub := fun b hb => by simp at hb; simp [hb]
  frame := fun _ _ _ st hk => ⟨⟨st.1.1.at fun o e => hk I (by simp) o e, st.1.2.at fun o e => hk ax (by simp) o e⟩, HotAt.keep st.2 fun o e => hk x1 (by simp) o e⟩
  item := fun i s Q E hi st hQ => by
    refine wpAny_pyNext_list_item st.1.1 st.1.2 (x := items[i]) (by simp [hi]) fun h' hit' hs' => ?_
    exact hQ _ h' s.toks (by simp [hi]) ⟨⟨hit', st.1.2.extBut hs'.extBut hne⟩, HotAt.keep st.2 fun o e => hs'.extBut x1 o hx e⟩ fun b o hb e => hs'.extBut b o (fun h => hb (by simp [h])) e
  done := fun s Q E st hQ => list_end_hot st.2 hx st.1.1 st.1.2 (by simp) fun h' he' => hQ h' s.toks fun b o hb e => he' b o (fun h => hb (by simp [h])) e
  self := fun _ _ _ _ st hQ => wpAny_pyIter_listiter st.1.1 hQ
end
section
variable {X : Cx}
theorem cr_anyH (hc : L2H.HotC X) : CallR X (.builtin "any") (rAny X.K) := by
  intro pins s σ H vs us Q I r h
  obtain ⟨a, bs, rfl, hs, q⟩ := h
  obtain ⟨its, rv, hl, _⟩ := I.list hs
  rw [Vals.ref1 r]
  have hb := rv.bls
  obtain ⟨x1, hot⟩ := hc.at I
  have hot1 : HotAt X.A.in1 x1 s.heap := hot
  have hx1 : x1 < s.heap.objs.size := by obtain ⟨_, o1, _, h1, _⟩ := hot; exact Heap.lt_size h1
  refine call_any_walk (iter_any hl.isList fun s₂ e2 st hne => ?_)
  subst e2
  refine ⟨_, _, _, _, _, _, _, rfl, walks_hot (A := X.A.in1) _ a hne (Nat.ne_of_lt hx1) its.toArray, ⟨st, HotAt.keep hot1 fun o e => Heap.get?_push_of_some _ e⟩, truth_bools hb, fun h' tk hk => ?_⟩
  refine ⟨.bl _, H, I.kept fun b o eo => hk b o (fun hmem => ?_) (Heap.get?_push_of_some _ eo), ?_, q⟩
  · rcases List.mem_cons.mp hmem with e1 | hmem
    · exact absurd (e1 ▸ Heap.lt_size eo) (Nat.lt_irrefl _)
    · cases hmem
  · show Value.bool _ = Value.bool _
    rw [← L2.any_range, hb, List.size_toArray, List.length_map]
theorem cr_allH (hc : L2H.HotC X) : CallR X (.builtin "all") (rAll X.K) := by
  intro pins s σ H vs us Q I r h
  obtain ⟨a, bs, rfl, hs, q⟩ := h
  obtain ⟨its, rv, hl, _⟩ := I.list hs
  rw [Vals.ref1 r]
  have hb := rv.bls
  obtain ⟨x1, hot⟩ := hc.at I
  have hot1 : HotAt X.A.in1 x1 s.heap := hot
  have hx1 : x1 < s.heap.objs.size := by obtain ⟨_, o1, _, h1, _⟩ := hot; exact Heap.lt_size h1
  refine call_all_walk (iter_any hl.isList fun s₂ e2 st hne => ?_)
  subst e2
  refine ⟨_, _, _, _, _, _, _, rfl, walks_hot (A := X.A.in1) _ a hne (Nat.ne_of_lt hx1) its.toArray, ⟨st, HotAt.keep hot1 fun o e => Heap.get?_push_of_some _ e⟩, truth_bools hb, fun h' tk hk => ?_⟩
  refine ⟨.bl _, H, I.kept fun b o eo => hk b o (fun hmem => ?_) (Heap.get?_push_of_some _ eo), ?_, q⟩
  · rcases List.mem_cons.mp hmem with e1 | hmem
    · exact absurd (e1 ▸ Heap.lt_size eo) (Nat.lt_irrefl _)
    · cases hmem
  · show Value.bool _ = Value.bool _
    rw [← L2.all_range, hb, List.size_toArray, List.length_map]
theorem cr_any2 (h : X.calm = true ∨ L2H.HotC X) : CallR X (.builtin "any") (rAny X.K) := h.elim cr_any cr_anyH
theorem cr_all2 (h : X.calm = true ∨ L2H.HotC X) : CallR X (.builtin "all") (rAll X.K) := h.elim cr_all cr_allH
end
end Ip

/-! IpSnd: the interpreter is kept by HandS' judgements: expressions. Written by an AI agent. -/
namespace Ip
open PySem PySem.Spec PyProof.Rows L2

/-! ### readings -/
def Rst (K : PySem.W.Frag) (m : List Addr) (H : Hp) (ρ : Env) (σ : L2.St) : Prop := ρ.length = σ.length ∧ ∀ (i : Nat) (w : W), ρ[i]? = some (some w) → ∃ v, σ[i]? = some (some v) ∧ RW K m H w v
structure At (C : Cf) (m : List Addr) (S : Store) (H : Hp) (ρ : Env) (σ : L2.St) : Prop where
  h : RelH C m S H
  s : Rst C.K m H ρ σ
/-- an exception's class, dict -/
def RX (C : Cf) (m : List Addr) (H : Hp) (x : Exn) (cls : Value) (d : Option Addr) : Prop := cls = .ref (C.cl x.cls) ∧ C.xc x.cls ∧ RXd C m H d x.fs
/-- what is wanted of a result -/
def PG {α β : Type} (Rl : List Addr → Hp → α → β → Prop) (C : Cf) (Wx : WX) (m : List Addr) (S : Store) (H : Hp) (σ : L2.St) (r : Rs α × Store) (Q : β → Hp → Prop) : Prop :=
  match r with
  | (.ok w, S') => ∀ m' H' v, RelH C m' S' H' → Ext m S H m' S' H' → Rl m' H' w v → Q v H'
  | (.ex x, S') => ∀ m' H' cls d, RelH C m' S' H' → Ext m S H m' S' H' → RX C m' H' x cls d → Wx cls d σ H'
def rdE (C : Cf) (Γ : Gam) (Wx : WX) (e : Ex) : TE := fun σ H Q => ∃ m ρ S r, At C m S H ρ σ ∧ ev Γ e ρ S = some r ∧ PG (RW C.K) C Wx m S H σ r Q
def rdA (C : Cf) (Γ : Gam) (Wx : WX) (es : List Ex) : TA := fun σ H Q => ∃ m ρ S r, At C m S H ρ σ ∧ evs Γ es ρ S = some r ∧ PG (RWs C.K) C Wx m S H σ r Q
def EqB (_ : List Addr) (_ : Hp) (a b : Bool) : Prop := a = b
def rdT (C : Cf) (Γ : Gam) (Wx : WX) (e : Ex) : TT := fun σ H Q => ∃ m ρ S r, At C m S H ρ σ ∧ truth (ev Γ e ρ S) = some r ∧ PG EqB C Wx m S H σ r Q
section
variable {C : Cf} {Γ : Gam} {Wx : WX} {m m' : List Addr} {S S' : Store} {H H' : Hp} {ρ : Env} {σ : L2.St}
theorem Rst.mono (e : Ext m S H m' S' H') (r : Rst C.K m H ρ σ) : Rst C.K m' H' ρ σ := ⟨r.1, fun i w h => by
  obtain ⟨v, h1, h2⟩ := r.2 i w h
  exact ⟨v, h1, h2.mono e⟩⟩
theorem At.go (a : At C m S H ρ σ) (h : RelH C m' S' H') (e : Ext m S H m' S' H') : At C m' S' H' ρ σ := ⟨h, a.s.mono e⟩
theorem Rst.set {w : W} {v : V} (r : Rst C.K m H ρ σ) (i : Nat) (h : RW C.K m H w v) : Rst C.K m H (ρ.set i (some w)) (σ.set i (some v)) := by
  refine ⟨by rw [List.length_set, List.length_set]; exact r.1, fun j u hu => ?_⟩
  by_cases hj : i = j
  · subst hj
    by_cases hl : i < ρ.length
    · rw [List.getElem?_set_self hl] at hu
      have e : w = u := Option.some.inj (Option.some.inj hu)
      subst e
      exact ⟨v, List.getElem?_set_self (by rw [← r.1]; exact hl), h⟩
    · rw [List.getElem?_eq_none (by rw [List.length_set]; omega)] at hu
      cases hu
  · rw [List.getElem?_set_ne hj] at hu
    obtain ⟨x, h1, h2⟩ := r.2 j u hu
    exact ⟨x, by rw [List.getElem?_set_ne hj]; exact h1, h2⟩
theorem PG.go {α β : Type} {Rl : List Addr → Hp → α → β → Prop} {r : Rs α × Store} {Q : β → Hp → Prop} (p : PG Rl C Wx m S H σ r Q) (e : Ext m S H m' S' H') : PG Rl C Wx m' S' H' σ r Q := by
  obtain ⟨r, S2⟩ := r
  cases r with
  | ok w => exact fun m2 H2 v h1 h2 h3 => p m2 H2 v h1 (e.trans h2) h3
  | ex x => exact fun m2 H2 c d h1 h2 h3 => p m2 H2 c d h1 (e.trans h2) h3
/-- a step, then what goes on from its value -/
theorem pg_bnd {α β γ δ : Type} {Rl : List Addr → Hp → α → β → Prop} {Rl2 : List Addr → Hp → γ → δ → Prop} {x : R α} {k : α → Store → R γ} {r : Rs γ × Store} {Q : δ → Hp → Prop} {Q' : β → Hp → Prop}
    (h : bnd x k = some r) (p : PG Rl2 C Wx m S H σ r Q)
    (hk : ∀ w S1 m1 H1 v, x = some (.ok w, S1) → k w S1 = some r → RelH C m1 S1 H1 → Ext m S H m1 S1 H1 → Rl m1 H1 w v → PG Rl2 C Wx m1 S1 H1 σ r Q → Q' v H1) :
    ∃ r1, x = some r1 ∧ PG Rl C Wx m S H σ r1 Q' := by
  unfold bnd at h
  split at h
  · cases h
  · rename_i e S1
    have e1 := Option.some.inj h
    subst e1
    exact ⟨_, rfl, p⟩
  · rename_i w S1
    exact ⟨_, rfl, fun m1 H1 v h1 h2 h3 => hk w S1 m1 H1 v rfl h h1 h2 h3 (p.go h2)⟩
theorem rd_step {γ δ : Type} {Rl2 : List Addr → Hp → γ → δ → Prop} {e : Ex} {k : W → Store → R γ} {r : Rs γ × Store} {Q : δ → Hp → Prop} {Q' : VK} (A : At C m S H ρ σ) (h : bnd (ev Γ e ρ S) k = some r) (p : PG Rl2 C Wx m S H σ r Q)
    (hk : ∀ w S1 m1 H1 v, k w S1 = some r → At C m1 S1 H1 ρ σ → Ext m S H m1 S1 H1 → RW C.K m1 H1 w v → PG Rl2 C Wx m1 S1 H1 σ r Q → Q' v H1) : rdE C Γ Wx e σ H Q' := by
  obtain ⟨r1, h1, h2⟩ := pg_bnd (Rl := RW C.K) h p fun w S1 m1 H1 v _ z1 z2 z3 z4 z5 => hk w S1 m1 H1 v z1 (A.go z2 z3) z3 z4 z5
  exact ⟨m, ρ, S, r1, A, h1, h2⟩
theorem rd_stepA {γ δ : Type} {Rl2 : List Addr → Hp → γ → δ → Prop} {es : List Ex} {k : List W → Store → R γ} {r : Rs γ × Store} {Q : δ → Hp → Prop} {Q' : List V → Hp → Prop} (A : At C m S H ρ σ) (h : bnd (evs Γ es ρ S) k = some r) (p : PG Rl2 C Wx m S H σ r Q)
    (hk : ∀ w S1 m1 H1 v, k w S1 = some r → At C m1 S1 H1 ρ σ → Ext m S H m1 S1 H1 → RWs C.K m1 H1 w v → PG Rl2 C Wx m1 S1 H1 σ r Q → Q' v H1) : rdA C Γ Wx es σ H Q' := by
  obtain ⟨r1, h1, h2⟩ := pg_bnd (Rl := RWs C.K) h p fun w S1 m1 H1 v _ z1 z2 z3 z4 z5 => hk w S1 m1 H1 v z1 (A.go z2 z3) z3 z4 z5
  exact ⟨m, ρ, S, r1, A, h1, h2⟩
theorem rd_stepT {γ δ : Type} {Rl2 : List Addr → Hp → γ → δ → Prop} {e : Ex} {k : Bool → Store → R γ} {r : Rs γ × Store} {Q : δ → Hp → Prop} {Q' : Bool → Hp → Prop} (A : At C m S H ρ σ) (h : bnd (truth (ev Γ e ρ S)) k = some r) (p : PG Rl2 C Wx m S H σ r Q)
    (hk : ∀ w S1 m1 H1, k w S1 = some r → At C m1 S1 H1 ρ σ → Ext m S H m1 S1 H1 → PG Rl2 C Wx m1 S1 H1 σ r Q → Q' w H1) : rdT C Γ Wx e σ H Q' := by
  obtain ⟨r1, h1, h2⟩ := pg_bnd (Rl := EqB) (Q' := Q') h p fun w S1 m1 H1 v _ z1 z2 z3 z4 z5 => by
    have e : w = v := z4
    subst e
    exact hk w S1 m1 H1 z1 (A.go z2 z3) z3 z5
  exact ⟨m, ρ, S, r1, A, h1, h2⟩
/-- an expression's value, last -/
theorem PG.rok {w : W} {v : V} {r : Rs W × Store} {Q : VK} (p : PG (RW C.K) C Wx m S H σ r Q) (h : Ip.rok w S = some r) (R : RelH C m S H) (rw' : RW C.K m H w v) : Q v H := by
  have e := Option.some.inj h
  subst e
  exact p m H v R Ext.refl rw'
theorem PG.rokB {b : Bool} {r : Rs Bool × Store} {Q : Bool → Hp → Prop} (p : PG EqB C Wx m S H σ r Q) (h : Ip.rok b S = some r) (R : RelH C m S H) : Q b H := by
  have e := Option.some.inj h
  subst e
  exact p m H b R Ext.refl rfl
theorem PG.rokA {ws : List W} {vs : List V} {r : Rs (List W) × Store} {Q : List V → Hp → Prop} (p : PG (RWs C.K) C Wx m S H σ r Q) (h : Ip.rok ws S = some r) (R : RelH C m S H) (rw' : RWs C.K m H ws vs) : Q vs H := by
  have e := Option.some.inj h
  subst e
  exact p m H vs R Ext.refl rw'
/-- an operation's value, last -/
theorem PG.lift {x : Option (W × Store)} {r : Rs W × Store} {Q : VK} (p : PG (RW C.K) C Wx m S H σ r Q) (h : Ip.lift x = some r) : ∃ w S', x = some (w, S') ∧ Post C m S H S' w Q := by
  unfold Ip.lift at h
  obtain ⟨q, e1, e2⟩ := Option.map_eq_some_iff.mp h
  subst e2
  exact ⟨q.1, q.2, e1, p⟩
end

/-! ### judgements, joined and weakened -/
section
variable {X : Cx} {e : Expr} {t t' : TE} {u u' : TT} {a a' : TA} {es : List Expr}
theorem pe_imp (h : PE X e t) (i : ∀ σ H Q, t' σ H Q → t σ H Q) : PE X e t' := ⟨fun pins s σ H Q I q => h.run pins s σ H Q I (i σ H Q q)⟩
theorem pt_imp (h : PT X e u) (i : ∀ σ H Q, u' σ H Q → u σ H Q) : PT X e u' := ⟨fun pins s σ H Q I q => h.run pins s σ H Q I (i σ H Q q)⟩
theorem pa_imp (h : PA X es a) (i : ∀ σ H Q, a' σ H Q → a σ H Q) : PA X es a' := ⟨fun pos pins s σ H Q I q => h.run pos pins s σ H Q I (i σ H Q q)⟩
theorem pe_or2 (h : PE X e t) (h' : PE X e t') : PE X e (fun σ H Q => t σ H Q ∨ t' σ H Q) := ⟨fun pins s σ H Q I q => q.elim (h.run pins s σ H Q I) (h'.run pins s σ H Q I)⟩
end

/-! ### the check -/
structure Ck where
  sc : Scope
  N : List Str
  /-- defs of the module, by their numbers; none: a method -/
  fnm : List (Option Str) := []
  cnm : List Str := []
  gnm : List Str := []
  /-- names of fields and methods -/
  mnm : List Str := []
  /-- the classes that are made -/
  mks : List Nat := []
  /-- the classes that are caught -/
  cts : List Nat := []
  /-- the classes that are raised with a text alone -/
  rs : List Nat := []
  /-- the classes whose functions are taken from the class -/
  sups : List Nat := []
  /-- the classes raised with fields, these -/
  rsf : List (Nat × List Nat) := []
  /-- cells that may be set -/
  fnc : Str → Bool := fun _ => true
def okName (x : Str) : Bool := !(x == ("__debug__" : Str)) && !(x == ("__classdict__" : Str))
def visB (sc : Scope) (x : Str) : Bool := match sc.names.lookup x with
  | some .local => true
  | some .cell => true
  | some .free => true
  | _ => false
def glB (sc : Scope) (x : Str) : Bool := decide (sc.names.lookup x = some .globalImplicit) && okName x
def noSup : Expr → Bool
  | .Call (.Name _ _) [] [] _ => false
  | _ => true
def bfNm : Bf → Str
  | .len => "len" | .abs => "abs" | .int => "int" | .str => "str" | .list => "list" | .tuple => "tuple" | .max2 => "max" | .min2 => "min" | .max1 => "max" | .min1 => "min" | .sum => "sum" | .any => "any" | .all => "all"
def bmNm : Bm → Str
  | .append => "append" | .pop => "pop" | .insert => "insert" | .index => "index" | .clear => "clear" | .get => "get" | .join => "join" | .split => "split" | .partition => "partition"
def cmEq : Cm → CmpOp → Bool
  | .eq, .Eq => true | .ne, .NotEq => true | .lt, .Lt => true | .le, .LtE => true | .gt, .Gt => true | .ge, .GtE => true | .isN, .Is => true | .notN, .IsNot => true | .isin, .In => true | .notin, .NotIn => true
  | _, _ => false
def op2Eq : Op2 → Operator → Bool
  | .add, .Add => true | .sub, .Sub => true | .mul, .Mult => true | .fdiv, .FloorDiv => true | .mod, .Mod => true | .pow, .Pow => true
  | _, _ => false
def cmEqs : List Cm → List CmpOp → Bool
  | [], [] => true
  | c :: cs, d :: ds => cmEq c d && cmEqs cs ds
  | _, _ => false
theorem cmEq_ok : ∀ {c : Cm} {d : CmpOp}, cmEq c d = true → d = pyCm c := fun {c d} h => by cases c <;> cases d <;> first | rfl | cases h
theorem op2Eq_ok : ∀ {c : Op2} {d : Operator}, op2Eq c d = true → d = pyOp c := fun {c d} h => by cases c <;> cases d <;> first | rfl | cases h
theorem ba {a b : Bool} (h : (a && b) = true) : a = true ∧ b = true := Bool.and_eq_true_iff.mp h

/-! ### written forms -/
def noStar : Expr → Bool
  | .Starred _ _ => false
  | _ => true
def noSet : Expr → Bool
  | .Set _ _ _ => false
  | _ => true
def noSlc : Expr → Bool
  | .Slice _ _ _ _ => false
  | _ => true
theorem star_cons {e : Expr} {es : List Expr} {env : PySem.Env} (h : noStar e = true) : starEach (e :: es) env = (false, eval e env) :: starEach es env := by
  cases e <;> first | rfl | cases h
theorem star_all {env : PySem.Env} : ∀ {es : List Expr}, es.all noStar = true → starEach es env = es.map fun e => (false, eval e env)
  | [], _ => rfl
  | e :: es, h => by
    rw [List.all_cons, Bool.and_eq_true] at h
    rw [star_cons h.1, star_all h.2, List.map_cons]
theorem star_plain {env : PySem.Env} {p : Pos} : ∀ {es : List Expr}, es.all noStar = true → (backTo p (starEach es env)).any (·.1) = false
  | [], _ => rfl
  | e :: es, h => by
    rw [List.all_cons, Bool.and_eq_true] at h
    rw [star_cons h.1]
    show (false || (backTo p (starEach es env)).any (·.1)) = false
    rw [star_plain h.2] <;> rfl
theorem star_few {env : PySem.Env} {p : Pos} : ∀ {es : List Expr}, es.all noStar = true → (backTo p (starEach es env)).all (fun x => !x.1) = true
  | [], _ => rfl
  | e :: es, h => by
    rw [List.all_cons, Bool.and_eq_true] at h
    rw [star_cons h.1]
    show (true && (backTo p (starEach es env)).all (fun x => !x.1)) = true
    rw [star_few h.2] <;> rfl
theorem set_mark {op : CmpOp} {e : Expr} (h : noSet e = true) : behindInMarks op e = false := by
  cases e <;> first | rfl | cases h
theorem set_marks : ∀ {ops : List CmpOp} {es : List Expr}, es.all noSet = true → lastMarks ops es = false
  | [], _, _ => by unfold lastMarks; rfl
  | [op], [], _ => by unfold lastMarks; rfl
  | [op], [e], h => by
    rw [List.all_cons, Bool.and_eq_true] at h
    exact set_mark h.1
  | [op], e :: f :: es, h => by unfold lastMarks; unfold lastMarks; rfl
  | op :: o2 :: ops, [], _ => by unfold lastMarks; rfl
  | op :: o2 :: ops, e :: es, h => by
    rw [List.all_cons, Bool.and_eq_true] at h
    unfold lastMarks
    exact set_marks h.2
theorem sup_base {e : Expr} {n : Str} {env : PySem.Env} {wh : Sem Value} (h : noSup e = true) : attributeBase e n env wh = wh := by
  unfold attributeBase
  split
  · rename_i id p pos
    cases h
  · rfl
theorem slc_plain {e : Expr} (h : noSlc e = true) (o i : Value) : subscripted e false o i = operate [o, i] (getItem o i) := by
  cases e <;> first | rfl | cases h

/-! ### expressions, rule by rule -/
section
variable {C : Cf} {Γ : Gam} {Wx : WX} {X : Cx} {a b c : Ex} {x y z : Expr} {pos : Pos}
theorem s_var {i : Nat} {n : Str} (hN : X.N[i]? = some n) (hv : Vis X.env.scope n) (hd : (n == ("__debug__" : Str)) = false) (hc : (n == ("__classdict__" : Str)) = false) : PE X (.Name n pos) (rdE C Γ Wx (.var i)) := by
  refine pe_imp (pe_var hN hv hd hc) fun σ H Q ⟨m, ρ, S, r, A, h, p⟩ => ?_
  unfold ev at h
  split at h
  · rename_i w hw
    obtain ⟨v, h1, h2⟩ := A.s.2 i w hw
    exact ⟨v, h1, p.rok h A.h h2⟩
  · cases h
theorem s_int {i : Int} {k : Nat} : PE X (.Constant (.int i) k pos) (rdE C Γ Wx (.int i)) := pe_imp pe_int fun σ H Q ⟨m, ρ, S, r, A, h, p⟩ => by
  unfold ev at h
  exact p.rok h A.h (.int i)
theorem s_str {i : Str} {k : Nat} : PE X (.Constant (.str i) k pos) (rdE C Γ Wx (.str i)) := pe_imp pe_str fun σ H Q ⟨m, ρ, S, r, A, h, p⟩ => by
  unfold ev at h
  exact p.rok h A.h (.str i)
theorem s_bl {i : Bool} {k : Nat} : PE X (.Constant (.bool i) k pos) (rdE C Γ Wx (.bl i)) := pe_imp pe_bl fun σ H Q ⟨m, ρ, S, r, A, h, p⟩ => by
  unfold ev at h
  exact p.rok h A.h (.bl i)
theorem s_non {k : Nat} : PE X (.Constant .none k pos) (rdE C Γ Wx .non) := pe_imp pe_non fun σ H Q ⟨m, ρ, S, r, A, h, p⟩ => by
  unfold ev at h
  exact p.rok h A.h .non
theorem s_glob {g : Nat} {n : Str} {u : Value} {v : V} {w : W} (hg : Gl X n) (hm : X.mg n = some u) (r : RelV v u) (hw : Γ.glob g = some w) (hr : ∀ m H, RW C.K m H w v) (hd : (n == ("__debug__" : Str)) = false) : PE X (.Name n pos) (rdE C Γ Wx (.glob g)) :=
  pe_imp (pe_glob hg hm r hd) fun σ H Q ⟨m, ρ, S, r, A, h, p⟩ => by
    unfold ev at h
    rw [hw] at h
    exact p.rok h A.h (hr m H)
theorem s_bin {op : Op2} (hK : X.K = C.K) (ha : PE X x (rdE C Γ Wx a)) (hb : PE X y (rdE C Γ Wx b)) : PE X (.BinOp x (pyOp op) y pos) (rdE C Γ Wx (.bin op a b)) := by
  refine pe_imp (pe_op (opR_ok op) ha hb) fun σ H Q ⟨m, ρ, S, r, A, h, p⟩ => ?_
  unfold ev at h
  refine rd_step A h p fun w S1 m1 H1 v h1 A1 _ rv p1 => rd_step A1 h1 p1 fun w2 S2 m2 H2 v2 h2 A2 e2 rv2 p2 => ?_
  obtain ⟨w3, S3, h3, p3⟩ := p2.lift h2
  rw [hK]
  exact op2_ok A2.h (rv.mono e2) rv2 h3 p3
theorem s_neg (ha : PE X x (rdE C Γ Wx a)) : PE X (.UnaryOp .USub x pos) (rdE C Γ Wx (.neg a)) := by
  refine pe_imp (pe_un un_neg ha) fun σ H Q ⟨m, ρ, S, r, A, h, p⟩ => ?_
  unfold ev at h
  refine rd_step A h p fun w S1 m1 H1 v h1 A1 _ rv p1 => ?_
  cases rv with
  | int i => exact ⟨i, rfl, p1.rok h1 A1.h (.int _)⟩
  | _ => cases h1
theorem s_cmp {op : Cm} (hK : X.K = C.K) (hu : X.A.units + 64 < cLine) (hn : noSet y = true) (ha : PE X x (rdE C Γ Wx a)) (hb : PE X y (rdE C Γ Wx b)) : PE X (.Compare x [pyCm op] [y] pos) (rdE C Γ Wx (.cmp op a b)) := by
  refine pe_imp (pe_cmpR (cmR_ok hu op) ha hb (set_mark hn)) fun σ H Q ⟨m, ρ, S, r, A, h, p⟩ => ?_
  unfold ev at h
  refine rd_step A h p fun w S1 m1 H1 v h1 A1 _ rv p1 => rd_step A1 h1 p1 fun w2 S2 m2 H2 v2 h2 A2 e2 rv2 p2 => ?_
  split at h2
  · rename_i k hk
    rw [hK]
    exact cm2_ok A2.h (rv.mono e2) rv2 hk (p2.rok h2 A2.h (.bl k))
  · cases h2
/-- a test from a value -/
theorem t_val {e : Ex} (h : PE X x (rdE C Γ Wx e)) (he : ∀ whole, isTrue x X.env whole = (do let v ← whole; standAt x.pos; holding [v] (truthy v))) : PT X x (rdT C Γ Wx e) := by
  refine pt_imp (pt_val h he) fun σ H Q ⟨m, ρ, S, r, A, h, p⟩ => ?_
  unfold truth at h
  refine rd_step A h p fun w S1 m1 H1 v h1 A1 _ rv p1 => ?_
  cases rv with
  | bl b => exact ⟨b, rfl, p1.rokB h1 A1.h⟩
  | _ => cases h1
theorem t_cmp {op : Cm} (hK : X.K = C.K) (hu : X.A.units + 64 < cLine) (hn : noSet y = true) (ha : PE X x (rdE C Γ Wx a)) (hb : PE X y (rdE C Γ Wx b)) : PT X (.Compare x [pyCm op] [y] pos) (rdT C Γ Wx (.cmp op a b)) := by
  refine pt_imp (pt_cmpR (cmR_ok hu op) ha hb (set_mark hn)) fun σ H Q ⟨m, ρ, S, r, A, h, p⟩ => ?_
  unfold truth at h
  unfold ev at h
  obtain ⟨r1, h1, p1⟩ := pg_bnd (Rl := RW C.K) (Q' := fun v H1 => ∃ k, v = V.bl k ∧ Q k H1) h p fun w S1 m1 H1 v _ z1 z2 z3 z4 z5 => by
    cases z4 with
    | bl b => exact ⟨b, rfl, z5.rokB z1 z2⟩
    | _ => cases z1
  refine rd_step A h1 p1 fun w S1 m1 H1 v h1 A1 _ rv p1 => rd_step A1 h1 p1 fun w2 S2 m2 H2 v2 h2 A2 e2 rv2 p2 => ?_
  split at h2
  · rename_i k hk
    rw [hK]
    exact cm2_ok A2.h (rv.mono e2) rv2 hk (p2.rok h2 A2.h (.bl k))
  · cases h2
theorem s_not (ha : PE X x (rdE C Γ Wx a)) : PE X (.UnaryOp .Not x pos) (rdE C Γ Wx (.not a)) := by
  refine pe_imp (pe_not ha) fun σ H Q ⟨m, ρ, S, r, A, h, p⟩ => ?_
  unfold ev at h
  obtain ⟨r1, h1, p1⟩ := pg_bnd (Rl := EqB) (Q' := fun k H1 => Q (.bl (!k)) H1) h p fun w S1 m1 H1 v _ z1 z2 z3 z4 z5 => by
    have e : w = v := z4
    subst e
    exact z5.rok z1 z2 (.bl _)
  unfold truth at h1
  refine rd_step A h1 p1 fun w S1 m1 H1 v h1 A1 _ rv p1 => ?_
  cases rv with
  | bl b => exact ⟨b, rfl, p1.rokB h1 A1.h⟩
  | _ => cases h1
theorem t_not (ha : PT X x (rdT C Γ Wx a)) : PT X (.UnaryOp .Not x pos) (rdT C Γ Wx (.not a)) := by
  refine pt_imp (pt_not ha) fun σ H Q ⟨m, ρ, S, r, A, h, p⟩ => ?_
  unfold truth at h
  unfold ev at h
  obtain ⟨r1, h1, p1⟩ := pg_bnd (Rl := RW C.K) (Q' := fun v H1 => ∃ k, v = V.bl k ∧ Q k H1) h p fun w S1 m1 H1 v _ z1 z2 z3 z4 z5 => by
    cases z4 with
    | bl b => exact ⟨b, rfl, z5.rokB z1 z2⟩
    | _ => cases z1
  refine rd_stepT A h1 p1 fun w S1 m1 H1 h1 A1 _ p1 => ?_
  obtain ⟨k, e, q⟩ := p1.rok h1 A1.h (.bl _)
  cases e
  exact q
theorem s_ite (hc : PT X z (rdT C Γ Wx c)) (ha : PE X x (rdE C Γ Wx a)) (hb : PE X y (rdE C Γ Wx b)) : PE X (.IfExp z x y pos) (rdE C Γ Wx (.ite c a b)) := by
  refine pe_imp (pe_ifExp hc ha hb) fun σ H Q ⟨m, ρ, S, r, A, h, p⟩ => ?_
  unfold ev at h
  refine rd_stepT A h p fun w S1 m1 H1 h1 A1 _ p1 => ?_
  cases w with
  | true => exact iteT ⟨m1, ρ, S1, r, A1, h1, p1⟩
  | false => exact iteF ⟨m1, ρ, S1, r, A1, h1, p1⟩
end

/-! ### lists of expressions -/
inductive PEs (C : Cf) (Γ : Gam) (Wx : WX) (X : Cx) : List Ex → List Expr → Prop
  | nil : PEs C Γ Wx X [] []
  | cons {e : Ex} {es : List Ex} {y : Expr} {ys : List Expr} : PE X y (rdE C Γ Wx e) → noStar y = true → noSet y = true → PEs C Γ Wx X es ys → PEs C Γ Wx X (e :: es) (y :: ys)
inductive PTs2 (C : Cf) (Γ : Gam) (Wx : WX) (X : Cx) : List Ex → List Expr → Prop
  | nil : PTs2 C Γ Wx X [] []
  | cons {e : Ex} {es : List Ex} {y : Expr} {ys : List Expr} : PE X y (rdE C Γ Wx e) → PT X y (rdT C Γ Wx e) → PTs2 C Γ Wx X es ys → PTs2 C Γ Wx X (e :: es) (y :: ys)
section
variable {C : Cf} {Γ : Gam} {Wx : WX} {X : Cx} {a b c : Ex} {x y z : Expr} {es : List Ex} {ys : List Expr} {pos : Pos}
theorem PEs.noStar : ∀ {es : List Ex} {ys : List Expr}, PEs C Γ Wx X es ys → ys.all Ip.noStar = true
  | _, _, .nil => rfl
  | _, _, .cons _ h _ r => by rw [List.all_cons, h, PEs.noStar r] <;> rfl
theorem PEs.noSet : ∀ {es : List Ex} {ys : List Expr}, PEs C Γ Wx X es ys → ys.all Ip.noSet = true
  | _, _, .nil => rfl
  | _, _, .cons _ _ h r => by rw [List.all_cons, h, PEs.noSet r] <;> rfl
theorem PEs.length : ∀ {es : List Ex} {ys : List Expr}, PEs C Γ Wx X es ys → es.length = ys.length
  | _, _, .nil => rfl
  | _, _, .cons _ _ _ r => by rw [List.length_cons, List.length_cons, PEs.length r]
theorem PEs.pa : ∀ {es : List Ex} {ys : List Expr}, PEs C Γ Wx X es ys → PA X ys (rdA C Γ Wx es)
  | _, _, .nil => pa_imp pa_nil fun σ H Q ⟨m, ρ, S, r, A, h, p⟩ => by
    unfold evs at h
    exact p.rokA h A.h .nil
  | _, _, .cons h hs _ r => pa_imp (pa_cons h (PEs.pa r) (star_cons hs)) fun σ H Q ⟨m, ρ, S, r, A, h, p⟩ => by
    unfold evs at h
    exact rd_step A h p fun w S1 m1 H1 v h1 A1 _ rv p1 => rd_stepA A1 h1 p1 fun w2 S2 m2 H2 v2 h2 A2 e2 rv2 p2 => p2.rokA h2 A2.h (.cons (rv.mono e2) rv2)
theorem bnd_some {α β : Type} {x : R α} {f : α → Store → R β} {b : β} {S' : Store} (h : bnd x f = some (.ok b, S')) : ∃ a S1, x = some (.ok a, S1) ∧ f a S1 = some (.ok b, S') := by
  unfold bnd at h
  split at h
  · cases h
  · cases (Option.some.inj h)
  · exact ⟨_, _, rfl, h⟩
theorem truth_bnd {α : Type} (x : R α) (f : α → Store → R W) : truth (bnd x f) = bnd x fun a S => truth (f a S) := by
  match x with
  | none => rfl
  | some (.ex e, S) => rfl
  | some (.ok a, S) => rfl
theorem evs_len {Γ : Gam} {ρ : Env} : ∀ {es : List Ex} {S S' : Store} {ws : List W}, evs Γ es ρ S = some (.ok ws, S') → ws.length = es.length
  | [], S, S', ws, h => by
    unfold evs at h
    have e := Option.some.inj h
    cases e
    rfl
  | e :: es, S, S', ws, h => by
    unfold evs at h
    obtain ⟨w, S1, h1, h⟩ := bnd_some h
    obtain ⟨ws', S2, hq, h⟩ := bnd_some h
    cases (Option.some.inj h)
    rw [List.length_cons, List.length_cons, evs_len hq]
theorem rd_stepL {γ δ : Type} {Rl2 : List Addr → Hp → γ → δ → Prop} {m : List Addr} {S : Store} {H : Hp} {ρ : Env} {σ : L2.St} {es : List Ex} {k : List W → Store → R γ} {r : Rs γ × Store} {Q : δ → Hp → Prop} {Q' : List V → Hp → Prop} (A : At C m S H ρ σ) (h : bnd (evs Γ es ρ S) k = some r) (p : PG Rl2 C Wx m S H σ r Q)
    (hk : ∀ w S1 m1 H1 v, k w S1 = some r → At C m1 S1 H1 ρ σ → Ext m S H m1 S1 H1 → RWs C.K m1 H1 w v → PG Rl2 C Wx m1 S1 H1 σ r Q → w.length = es.length → Q' v H1) : rdA C Γ Wx es σ H Q' := by
  obtain ⟨r1, h1, h2⟩ := pg_bnd (Rl := RWs C.K) h p fun w S1 m1 H1 v hx z1 z2 z3 z4 z5 => hk w S1 m1 H1 v z1 (A.go z2 z3) z3 z4 z5 (evs_len hx)
  exact ⟨m, ρ, S, r1, A, h1, h2⟩
theorem s_tup {k : Nat} (h : PEs C Γ Wx X es ys) (hl : es.length ≤ 16777216) : PE X (.Tuple ys k pos) (rdE C Γ Wx (.tup es)) := by
  refine pe_imp (pe_tup h.pa) fun σ H Q ⟨m, ρ, S, r, A, h, p⟩ => ?_
  unfold ev at h
  refine rd_stepL A h p fun ws S1 m1 H1 vs h1 A1 _ rv p1 hw => ?_
  have e := Option.some.inj h1
  subst e
  exact ⟨by rw [← rv.length, hw]; exact sl_le hl, fun q hq => Post.tup p1 A1.h hq rv⟩
theorem s_lst (h : PEs C Γ Wx X es ys) (hl : es.length ≤ 16777216) : PE X (.List ys pos) (rdE C Γ Wx (.lst es)) := by
  refine pe_imp (pe_lst h.pa) fun σ H Q ⟨m, ρ, S, r, A, h, p⟩ => ?_
  unfold ev at h
  refine rd_stepL A h p fun ws S1 m1 H1 vs h1 A1 _ rv p1 hw => ?_
  have e := Option.some.inj h1
  subst e
  exact ⟨by rw [← rv.length, hw]; exact sl_le hl, fun q hq => Post.lst p1 A1.h hq rv⟩
/-- and, or -/
theorem s_and : ∀ {es : List Ex} {ys : List Expr}, PTs2 C Γ Wx X es ys → es ≠ [] → PE X (.BoolOp .And ys pos) (rdE C Γ Wx (.and es))
  | _, _, .nil, h => absurd rfl h
  | _, _, .cons (es := []) h _ .nil, _ => pe_imp (pe_one h) fun σ H Q ⟨m, ρ, S, r, A, h, p⟩ => ⟨m, ρ, S, r, A, by unfold ev at h; unfold evAnd at h; exact h, p⟩
  | _, _, .cons (es := e2 :: es) h ht (.cons h2 ht2 r2), _ => by
    refine pe_imp (pe_and h (s_and (.cons h2 ht2 r2) (by simp))) fun σ H Q ⟨m, ρ, S, r, A, h, p⟩ => ?_
    unfold ev at h
    unfold evAnd at h
    unfold truth at h
    obtain ⟨r1, h1, p1⟩ := pg_bnd (Rl := EqB) (Q' := fun k H1 => if k = true then rdE C Γ Wx (.and (e2 :: es)) σ H1 Q else Q (.bl false) H1) h p fun w S1 m1 H1 v hx z1 z2 z3 z4 z5 => by
      have e : w = v := z4
      subst e
      cases w with
      | true => exact iteT ⟨m1, ρ, S1, r, A.go z2 z3, by unfold ev; exact z1, z5⟩
      | false => exact iteF (z5.rok z1 z2 (.bl false))
    refine rd_step A h1 p1 fun w S1 m1 H1 v h1 A1 _ rv p1 => ?_
    cases rv with
    | bl b => exact ⟨b, rfl, p1.rokB h1 A1.h⟩
    | _ => cases h1
theorem s_or : ∀ {es : List Ex} {ys : List Expr}, PTs2 C Γ Wx X es ys → es ≠ [] → PE X (.BoolOp .Or ys pos) (rdE C Γ Wx (.or es))
  | _, _, .nil, h => absurd rfl h
  | _, _, .cons (es := []) h _ .nil, _ => pe_imp (pe_one h) fun σ H Q ⟨m, ρ, S, r, A, h, p⟩ => ⟨m, ρ, S, r, A, by unfold ev at h; unfold evOr at h; exact h, p⟩
  | _, _, .cons (es := e2 :: es) h ht (.cons h2 ht2 r2), _ => by
    refine pe_imp (pe_or h (s_or (.cons h2 ht2 r2) (by simp))) fun σ H Q ⟨m, ρ, S, r, A, h, p⟩ => ?_
    unfold ev at h
    unfold evOr at h
    unfold truth at h
    obtain ⟨r1, h1, p1⟩ := pg_bnd (Rl := EqB) (Q' := fun k H1 => if k = true then Q (.bl true) H1 else rdE C Γ Wx (.or (e2 :: es)) σ H1 Q) h p fun w S1 m1 H1 v hx z1 z2 z3 z4 z5 => by
      have e : w = v := z4
      subst e
      cases w with
      | false => exact iteF ⟨m1, ρ, S1, r, A.go z2 z3, by unfold ev; exact z1, z5⟩
      | true => exact iteT (z5.rok z1 z2 (.bl true))
    refine rd_step A h1 p1 fun w S1 m1 H1 v h1 A1 _ rv p1 => ?_
    cases rv with
    | bl b => exact ⟨b, rfl, p1.rokB h1 A1.h⟩
    | _ => cases h1
/-- as tests: truth of evAnd, evOr -/
theorem t_and : ∀ {es : List Ex} {ys : List Expr}, PTs2 C Γ Wx X es ys → es ≠ [] → PW X (.BoolOp .And ys pos) (rdT C Γ Wx (.and es))
  | _, _, .nil, h => absurd rfl h
  | _, _, .cons (es := []) _ h .nil, _ => ⟨fun wh pins s σ H Q I ⟨m, ρ, S, r, A, h2, p⟩ => (pw_and1 h).run wh pins s σ H Q I ⟨m, ρ, S, r, A, by unfold ev at h2; unfold evAnd at h2; exact h2, p⟩⟩
  | _, _, .cons (es := e2 :: es) h ht (.cons h2 ht2 r2), _ => ⟨fun wh pins s σ H Q I ⟨m, ρ, S, r, A, h3, p⟩ => (pw_and ht (t_and (.cons h2 ht2 r2) (by simp))).run wh pins s σ H Q I (by
    unfold ev at h3
    unfold evAnd at h3
    rw [truth_bnd] at h3
    refine rd_stepT A h3 p fun w S1 m1 H1 h5 A1 _ p1 => ?_
    cases w with
    | true => exact iteT ⟨m1, ρ, S1, r, A1, by unfold ev; exact h5, p1⟩
    | false => exact iteF (p1.rokB h5 A1.h))⟩
theorem t_or : ∀ {es : List Ex} {ys : List Expr}, PTs2 C Γ Wx X es ys → es ≠ [] → PW X (.BoolOp .Or ys pos) (rdT C Γ Wx (.or es))
  | _, _, .nil, h => absurd rfl h
  | _, _, .cons (es := []) _ h .nil, _ => ⟨fun wh pins s σ H Q I ⟨m, ρ, S, r, A, h2, p⟩ => (pw_or1 h).run wh pins s σ H Q I ⟨m, ρ, S, r, A, by unfold ev at h2; unfold evOr at h2; exact h2, p⟩⟩
  | _, _, .cons (es := e2 :: es) h ht (.cons h2 ht2 r2), _ => ⟨fun wh pins s σ H Q I ⟨m, ρ, S, r, A, h3, p⟩ => (pw_or ht (t_or (.cons h2 ht2 r2) (by simp))).run wh pins s σ H Q I (by
    unfold ev at h3
    unfold evOr at h3
    rw [truth_bnd] at h3
    refine rd_stepT A h3 p fun w S1 m1 H1 h5 A1 _ p1 => ?_
    cases w with
    | false => exact iteF ⟨m1, ρ, S1, r, A1, by unfold ev; exact h5, p1⟩
    | true => exact iteT (p1.rokB h5 A1.h))⟩
end
end Ip

/-! IpSnd2: expressions, further rules. Written by an AI agent. -/
namespace Ip
open PySem PySem.Spec PyProof.Rows L2
section
variable {C : Cf} {Γ : Gam} {Wx : WX} {X : Cx} {a b c d : Ex} {x y z t : Expr} {es : List Ex} {ys : List Expr} {pos : Pos}
/-! ### chains -/
/-- three comparisons -/
def tChain3 (r r' r2 : R2) (ta tb tc td : TE) : TE := fun σ H Q => ta σ H fun x H1 => tb σ H1 fun y H2 => r x y H2 fun z H3 => ∃ k, z = .bl k ∧
  (if k = true then tc σ H3 fun w H4 => r' y w H4 fun z' H5 => ∃ k', z' = .bl k' ∧ (if k' = true then td σ H5 fun u H6 => r2 w u H6 Q else Q (.bl false) H5) else Q (.bl false) H3)
theorem pe_chain3 {o1 o2 o3 : CmpOp} {r r' r2 : R2} {ta tb tc td : TE} (h1 : OpR X (compareOp o1) r) (h2 : OpR X (compareOp o2) r') (h3 : OpR X (compareOp o3) r2) (ha : PE X x ta) (hb : PE X y tb) (hc : PE X z tc) (hd : PE X t td)
    (hm : lastMarks [o1, o2, o3] [y, z, t] = false) : PE X (.Compare x [o1, o2, o3] [y, z, t] pos) (tChain3 r r' r2 ta tb tc td) := by
  refine ⟨fun pins s σ H Q I h => ?_⟩
  refine Compare_chain (thn (ha.run pins s σ H _ I h) fun v s1 ⟨x, H1, I1, r1, q1⟩ => chain_link (thn (hb.run pins s1 σ H1 _ I1 q1) fun u s2 ⟨y, H2, I2, r2, q2⟩ =>
    thn (h1 pins s2 σ H2 x y v u _ I2 r1 r2 q2) fun d s3 ⟨z, H3, I3, r3, k, e, q3⟩ => ?_)) hm
  subst e
  cases r3
  refine wpAny_truthy_bool ?_
  cases k with
  | false => exact ite_ff ⟨.bl false, H3, I3, rfl, q3⟩
  | true =>
    refine ite_tt (chain_link (thn (hc.run pins s3 σ H3 _ I3 q3) fun w' s4 ⟨z', H4, I4, r4, q4⟩ => thn (h2 pins s4 σ H4 y z' u w' _ I4 r2 r4 q4) fun d2 s5 ⟨z2, H5, I5, r5, k2, e2, q5⟩ => ?_))
    subst e2
    cases r5
    refine wpAny_truthy_bool ?_
    cases k2 with
    | false => exact ite_ff ⟨.bl false, H5, I5, rfl, q5⟩
    | true => exact ite_tt (chain_last (thn (hd.run pins s5 σ H5 _ I5 q5) fun w2 s6 ⟨z3, H6, I6, r6, q6⟩ => h3 pins s6 σ H6 z' z3 w' w2 Q I6 r4 r6 q6))
theorem pt_chain3 {o1 o2 o3 : CmpOp} {r r' r2 : R2} {ta tb tc td : TE} (h1 : OpR X (compareOp o1) r) (h2 : OpR X (compareOp o2) r') (h3 : OpR X (compareOp o3) r2) (ha : PE X x ta) (hb : PE X y tb) (hc : PE X z tc) (hd : PE X t td)
    (hm : lastMarks [o1, o2, o3] [y, z, t] = false) : PT X (.Compare x [o1, o2, o3] [y, z, t] pos) (tTest (tChain3 r r' r2 ta tb tc td)) := by
  refine ⟨fun pins s σ H Q I h => ?_⟩
  refine isTrue_chain (thn (ha.run pins s σ H _ I h) fun v s1 ⟨x, H1, I1, r1, q1⟩ => test_link (thn (hb.run pins s1 σ H1 _ I1 q1) fun u s2 ⟨y, H2, I2, r2, q2⟩ =>
    thn (h1 pins s2 σ H2 x y v u _ I2 r1 r2 q2) fun d s3 ⟨z, H3, I3, r3, k, e, q3⟩ => ?_)) hm
  subst e
  cases r3
  refine wpAny_truthy_bool ?_
  cases k with
  | false =>
    obtain ⟨k', e', q'⟩ := q3
    cases e'
    exact ite_ff ⟨H3, I3, q'⟩
  | true =>
    refine ite_tt (test_link (thn (hc.run pins s3 σ H3 _ I3 q3) fun w' s4 ⟨z', H4, I4, r4, q4⟩ => thn (h2 pins s4 σ H4 y z' u w' _ I4 r2 r4 q4) fun d2 s5 ⟨z2, H5, I5, r5, k2, e2, q5⟩ => ?_))
    subst e2
    cases r5
    refine wpAny_truthy_bool ?_
    cases k2 with
    | false =>
      obtain ⟨k', e', q'⟩ := q5
      cases e'
      exact ite_ff ⟨H5, I5, q'⟩
    | true =>
      refine ite_tt (test_last (thn (hd.run pins s5 σ H5 _ I5 q5) fun w2 s6 ⟨z3, H6, I6, r6, q6⟩ => thn (h3 pins s6 σ H6 z' z3 w' w2 _ I6 r4 r6 q6) fun d' s7 ⟨z4, H7, I7, r7, k4, e4, q7⟩ => ?_))
      subst e4
      cases r7
      exact wpAny_truthy_bool ⟨H7, I7, q7⟩
theorem chn_go {o1 o2 : Cm} {σ : L2.St} {H : Hp} {Q : VK} (q : rdE C Γ Wx (.chn o1 o2 a b c) σ H Q) : tChain (rCm C.K o1) (rCm C.K o2) (rdE C Γ Wx a) (rdE C Γ Wx b) (rdE C Γ Wx c) σ H Q := by
  obtain ⟨m, ρ, S, r, A, h, p⟩ := q
  unfold ev at h
  refine rd_step A h p fun w S1 m1 H1 v h1 A1 _ rv p1 => rd_step A1 h1 p1 fun w2 S2 m2 H2 v2 h2 A2 e2 rv2 p2 => ?_
  split at h2
  · rename_i hk
    refine cm2_ok A2.h (rv.mono e2) rv2 hk ⟨_, rfl, iteT (rd_step A2 h2 p2 fun w3 S3 m3 H3 v3 h3 A3 e3 rv3 p3 => ?_)⟩
    split at h3
    · rename_i k2 hk2
      exact cm2_ok A3.h (rv2.mono e3) rv3 hk2 (p3.rok h3 A3.h (.bl _))
    · cases h3
  · rename_i hk
    exact cm2_ok A2.h (rv.mono e2) rv2 hk ⟨_, rfl, iteF (p2.rok h2 A2.h (.bl _))⟩
  · cases h2
theorem chn3_go {o1 o2 o3 : Cm} {σ : L2.St} {H : Hp} {Q : VK} (q : rdE C Γ Wx (.chn3 o1 o2 o3 a b c d) σ H Q) : tChain3 (rCm C.K o1) (rCm C.K o2) (rCm C.K o3) (rdE C Γ Wx a) (rdE C Γ Wx b) (rdE C Γ Wx c) (rdE C Γ Wx d) σ H Q := by
  obtain ⟨m, ρ, S, r, A, h, p⟩ := q
  unfold ev at h
  refine rd_step A h p fun w S1 m1 H1 v h1 A1 _ rv p1 => rd_step A1 h1 p1 fun w2 S2 m2 H2 v2 h2 A2 e2 rv2 p2 => ?_
  split at h2
  · rename_i hk
    refine cm2_ok A2.h (rv.mono e2) rv2 hk ⟨_, rfl, iteT (rd_step A2 h2 p2 fun w3 S3 m3 H3 v3 h3 A3 e3 rv3 p3 => ?_)⟩
    split at h3
    · rename_i hk2
      refine cm2_ok A3.h (rv2.mono e3) rv3 hk2 ⟨_, rfl, iteT (rd_step A3 h3 p3 fun w4 S4 m4 H4 v4 h4 A4 e4 rv4 p4 => ?_)⟩
      split at h4
      · rename_i k3 hk3
        exact cm2_ok A4.h (rv3.mono e4) rv4 hk3 (p4.rok h4 A4.h (.bl _))
      · cases h4
    · rename_i hk2
      exact cm2_ok A3.h (rv2.mono e3) rv3 hk2 ⟨_, rfl, iteF (p3.rok h3 A3.h (.bl _))⟩
    · cases h3
  · rename_i hk
    exact cm2_ok A2.h (rv.mono e2) rv2 hk ⟨_, rfl, iteF (p2.rok h2 A2.h (.bl _))⟩
  · cases h2
theorem s_chn {o1 o2 : Cm} (hK : X.K = C.K) (hu : X.A.units + 64 < cLine) (h1 : noSet y = true) (h2 : noSet z = true) (ha : PE X x (rdE C Γ Wx a)) (hb : PE X y (rdE C Γ Wx b)) (hc : PE X z (rdE C Γ Wx c)) :
    PE X (.Compare x [pyCm o1, pyCm o2] [y, z] pos) (rdE C Γ Wx (.chn o1 o2 a b c)) := by
  refine pe_imp (pe_chain (cmR_ok hu o1) (cmR_ok hu o2) ha hb hc (set_marks (by rw [List.all_cons, List.all_cons, h1, h2] <;> rfl))) fun σ H Q q => ?_
  rw [hK]
  exact chn_go q
theorem truth_go {e : Ex} {σ : L2.St} {H : Hp} {Q : Bool → Hp → Prop} (q : rdT C Γ Wx e σ H Q) : rdE C Γ Wx e σ H fun v H1 => ∃ k, v = V.bl k ∧ Q k H1 := by
  obtain ⟨m, ρ, S, r, A, h, p⟩ := q
  unfold truth at h
  exact rd_step A h p fun w S1 m1 H1 v z1 z2 z3 z4 z5 => by
    cases z4 with
    | bl b => exact ⟨b, rfl, z5.rokB z1 z2.h⟩
    | _ => cases z1
theorem t_chn {o1 o2 : Cm} (hK : X.K = C.K) (hu : X.A.units + 64 < cLine) (h1 : noSet y = true) (h2 : noSet z = true) (ha : PE X x (rdE C Γ Wx a)) (hb : PE X y (rdE C Γ Wx b)) (hc : PE X z (rdE C Γ Wx c)) :
    PT X (.Compare x [pyCm o1, pyCm o2] [y, z] pos) (rdT C Γ Wx (.chn o1 o2 a b c)) := by
  refine pt_imp (pt_chain (cmR_ok hu o1) (cmR_ok hu o2) ha hb hc (set_marks (by rw [List.all_cons, List.all_cons, h1, h2] <;> rfl))) fun σ H Q q => ?_
  rw [hK]
  exact chn_go (truth_go q)
theorem s_chn3 {o1 o2 o3 : Cm} (hK : X.K = C.K) (hu : X.A.units + 64 < cLine) (h1 : noSet y = true) (h2 : noSet z = true) (h3 : noSet t = true) (ha : PE X x (rdE C Γ Wx a)) (hb : PE X y (rdE C Γ Wx b)) (hc : PE X z (rdE C Γ Wx c)) (hd : PE X t (rdE C Γ Wx d)) :
    PE X (.Compare x [pyCm o1, pyCm o2, pyCm o3] [y, z, t] pos) (rdE C Γ Wx (.chn3 o1 o2 o3 a b c d)) := by
  refine pe_imp (pe_chain3 (cmR_ok hu o1) (cmR_ok hu o2) (cmR_ok hu o3) ha hb hc hd (set_marks (by rw [List.all_cons, List.all_cons, List.all_cons, h1, h2, h3] <;> rfl))) fun σ H Q q => ?_
  rw [hK]
  exact chn3_go q
theorem t_chn3 {o1 o2 o3 : Cm} (hK : X.K = C.K) (hu : X.A.units + 64 < cLine) (h1 : noSet y = true) (h2 : noSet z = true) (h3 : noSet t = true) (ha : PE X x (rdE C Γ Wx a)) (hb : PE X y (rdE C Γ Wx b)) (hc : PE X z (rdE C Γ Wx c)) (hd : PE X t (rdE C Γ Wx d)) :
    PT X (.Compare x [pyCm o1, pyCm o2, pyCm o3] [y, z, t] pos) (rdT C Γ Wx (.chn3 o1 o2 o3 a b c d)) := by
  refine pt_imp (pt_chain3 (cmR_ok hu o1) (cmR_ok hu o2) (cmR_ok hu o3) ha hb hc hd (set_marks (by rw [List.all_cons, List.all_cons, List.all_cons, h1, h2, h3] <;> rfl))) fun σ H Q q => ?_
  rw [hK]
  exact chn3_go (truth_go q)
end
/-! ### subscripts, slices -/
theorem subTail_of {prog : Program} {w : World} {A : Around} {E : Value → Shared → Prop} {s : Shared} {value slice : Expr} {o i : Value} {T id : String} {Q : Value → Shared → Prop} (hT : s.TypeIs o T)
    (hl : typeLookup (.type T) "__getitem__" = pure (some (.builtin id))) (hs : subscripted slice false o i = operate [o, i] (getItem o i)) (h : wpAny (model prog w) A (getItem o i) Q E s) : wpAny (model prog w) A (subscriptTail value slice o i) Q E s := by
  unfold subscriptTail
  refine wpAny_bind ?_
  rw [getitemInPython_of_ne hT.not_modules]
  refine wpAny_bind (wpAny_specialOf hT hl ?_)
  have fin : wpAny (model prog w) A (subscripted slice false o i) (fun r s₃ => wpAny (model prog w) A (letTemporaryGo value o r >>= fun _ => pure r) Q E s₃) E s := by
    rw [hs]
    exact wpAny_operating (wpAny_mono h (fun r s₃ h₃ => wpAny_bind (wpAny_letTemporaryGo (wpAny_pure h₃))) fun _ _ x => x)
  first
    | exact wpAny_pure (wpAny_bind fin)
    | exact wpAny_bind (wpAny_pure (wpAny_bind fin))
    | exact wpAny_bind fin
def rIxDi : R2 := fun x y H Q => ∃ a v, x = .ref a ∧ DGet H a y (some v) ∧ Q v H
theorem ix_di {X : Cx} (hu : X.A.units + 1 < cLine) : IxR X rIxDi := by
  intro value slice pins s σ H x y v u Q I rx ry h hs
  obtain ⟨a, z, rfl, g, q⟩ := h
  cases rx
  exact subTail_of (dict_typeIs I g) PySem.F.slot_dict_getitem.lookup hs (d_getItem hu I g ry fun w' s3 I3 rw' => ⟨z, H, I3, rw', q⟩)
theorem idx2_ok {C : Cf} {m : List Addr} {S : Store} {H : Hp} {a i w : W} {x y : V} {Q : VK} (R : RelH C m S H) (ra : RW C.K m H a x) (ri : RW C.K m H i y) (e : idx2 S a i = some w) (q : ∀ v, RW C.K m H w v → Q v H) :
    rIx C.K x y H Q ∨ rIxDi x y H Q := by
  unfold idx2 at e
  split at e
  · cases ri
    cases ra with
    | tup h r =>
      obtain ⟨v, h1, h2⟩ := r.atI e
      exact .inl (.inr (.inl ⟨_, _, _, v, rfl, rfl, h, h1, q v h2⟩))
  · cases ri
    cases ra
    split at e
    · rename_i hl
      obtain ⟨c, h1, h2⟩ := Option.map_eq_some_iff.mp e
      subst h2
      exact .inl (.inr (.inr ⟨_, _, c, rfl, rfl, sl_le hl, h1, q _ (.str _)⟩))
    · cases e
  · cases ra with
    | loc h =>
      split at e
      · rename_i hS
        cases ri
        obtain ⟨xs, z1, z2⟩ := R.cell _ _ _ h hS
        obtain ⟨v, h1, h2⟩ := z2.atI e
        exact .inl (.inl ⟨_, _, _, v, rfl, rfl, SqL.of z1, h1, q v h2⟩)
      · rename_i hS
        cases ri
        obtain ⟨xs, z1, z2⟩ := R.listAt h (ws := _) (by unfold Ip.listAt; rw [hS])
        obtain ⟨v, h1, h2⟩ := z2.atI e
        exact .inl (.inl ⟨_, _, _, v, rfl, rfl, z1, h1, q v h2⟩)
      · rename_i hS
        split at e
        · rename_i k hk
          obtain ⟨zs, z1, z2⟩ := R.cell _ _ _ h hS
          rcases getK_rd (k := k) z2 with ⟨g1, _⟩ | ⟨w', v, g1, g2, g3⟩
          · rw [e] at g1
            cases g1
          · rw [e] at g1
            have e1 := Option.some.inj g1
            subst e1
            refine .inr ⟨_, v, rfl, ?_, q v g3⟩
            rw [key_rw ri hk, ← g2]
            exact DGet.k z1
        · cases e
      · cases e
  · cases e
theorem cutW_rw {K : PySem.W.Frag} {m : List Addr} {H : Hp} {ws : List W} {xs : List V} (r : RWs K m H ws xs) (lo hi : Option Int) : RWs K m H (cutW ws lo hi) (cutV xs lo hi) := by
  unfold cutW cutV
  rw [r.length]
  exact (r.drop _).take _
def rSl (K : PySem.W.Frag) : V → Option Int → Option Int → Hp → VK → Prop := fun x lo hi H Q => rSlS x lo hi H Q ∨ rSlA K x lo hi H Q ∨ rSlL K x lo hi H Q
theorem sl_any {X : Cx} : SlR X (rSl X.K) := sl_str.or (sl_tupA.or sl_list)
theorem slc2_ok {C : Cf} {m : List Addr} {S S' : Store} {H : Hp} {a w : W} {x : V} {lo hi : Option Int} {Q : VK} (R : RelH C m S H) (ra : RW C.K m H a x) (e : slc2 S a lo hi = some (w, S')) (p : Post C m S H S' w Q) : rSl C.K x lo hi H Q := by
  unfold slc2 at e
  split at e
  · cases ra
    split at e
    · rename_i hl
      cases e
      exact .inl ⟨_, rfl, sl_le hl, p.here R (.str _)⟩
    · cases e
  · cases ra with
    | tup h r =>
      rename_i xs
      cases e
      refine .inr (.inl ⟨_, _, rfl, h, fun ⟨h1, h2⟩ => ?_, fun _ q hq => p.tup R hq (cutW_rw r lo hi)⟩)
      refine p.here R ?_
      have e2 : cutV xs lo hi = xs := by
        unfold cutV
        rw [h1, h2]
        simp
      have r2 := cutW_rw r lo hi
      rw [e2] at r2
      exact .tup h r2
  · cases ra with
    | loc h =>
      split at e
      · rename_i ws hS
        cases e
        obtain ⟨xs, z1, z2⟩ := R.listAt h hS
        exact .inr (.inr ⟨_, xs, rfl, z1, fun q hq => p.lst R hq (cutW_rw z2 lo hi)⟩)
      · cases e
  · cases e
section
variable {C : Cf} {Γ : Gam} {Wx : WX} {X : Cx} {a b c d : Ex} {x y z t : Expr} {es : List Ex} {ys : List Expr} {pos p2 : Pos}
theorem s_idx (hK : X.K = C.K) (hu : X.A.units + 64 < cLine) (hn : noSlc y = true) (ha : PE X x (rdE C Γ Wx a)) (hb : PE X y (rdE C Γ Wx b)) : PE X (.Subscript x y pos) (rdE C Γ Wx (.idx a b)) := by
  refine pe_imp (pe_ix (ix_seq.or (ix_di (by omega))) ha hb (slc_plain hn)) fun σ H Q ⟨m, ρ, S, r, A, h, p⟩ => ?_
  unfold ev at h
  refine rd_step A h p fun w S1 m1 H1 v h1 A1 _ rv p1 => rd_step A1 h1 p1 fun w2 S2 m2 H2 v2 h2 A2 e2 rv2 p2 => ?_
  split at h2
  · rename_i w3 hw
    rw [hK]
    exact idx2_ok A2.h (rv.mono e2) rv2 hw fun v hv => p2.rok h2 A2.h hv
  · cases h2
/-- a slice's part: left out, or one expression -/
inductive Prt (C : Cf) (Γ : Gam) (Wx : WX) (X : Cx) : List Ex → Option Expr → Prop
  | none : Prt C Γ Wx X [] Option.none
  | some {e : Ex} {y : Expr} : PE X y (rdE C Γ Wx e) → Prt C Γ Wx X [e] (Option.some y)
def rdO (C : Cf) (Γ : Gam) (Wx : WX) : List Ex → TO
  | [e] => tPart (rdE C Γ Wx e)
  | _ => tNoPart
theorem Prt.po : ∀ {es : List Ex} {o : Option Expr}, Prt C Γ Wx X es o → PO X o (rdO C Γ Wx es)
  | _, _, .none => po_none
  | _, _, .some h => po_some h
theorem ints_one {w : W} {l : List Int} (h : intsOf [w] = some l) : ∃ i, w = .int i ∧ l = [i] := by
  cases w with
  | int i =>
    have e : some [i] = some l := h
    exact ⟨i, rfl, (Option.some.inj e).symm⟩
  | _ => cases h
/-- a part's value, then what goes on -/
theorem prt_step {γ δ : Type} {Rl2 : List Addr → Hp → γ → δ → Prop} {m : List Addr} {S : Store} {H : Hp} {ρ : Env} {σ : L2.St} {es : List Ex} {o : Option Expr} {k : Option Int → Store → R γ} {r : Rs γ × Store} {Q : δ → Hp → Prop} {Q' : Option Int → Hp → Prop}
    (P : Prt C Γ Wx X es o) (A : At C m S H ρ σ) (h : bnd (bnd (evs Γ es ρ S) toP) k = some r) (p : PG Rl2 C Wx m S H σ r Q)
    (hk : ∀ l S1 m1 H1, k l S1 = some r → At C m1 S1 H1 ρ σ → Ext m S H m1 S1 H1 → PG Rl2 C Wx m1 S1 H1 σ r Q → Q' l H1) : rdO C Γ Wx es σ H Q' := by
  cases P with
  | none =>
    unfold evs at h
    exact hk Option.none S m H h A Ext.refl p
  | some he =>
    rename_i e y
    have h' : bnd (ev Γ e ρ S) (fun w S1 => bnd (toP [w] S1) k) = some r := by
      rw [← h]
      unfold evs
      unfold evs
      unfold bnd
      split <;> rfl
    refine rd_step A h' p fun w S1 m1 H1 v h1 A1 e1 rv p1 => ?_
    unfold toP at h1
    split at h1
    · rename_i l hl
      obtain ⟨i, rfl, rfl⟩ := ints_one hl
      cases rv
      exact ⟨i, rfl, hk _ _ _ _ h1 A1 e1 p1⟩
    · cases h1
theorem s_slc {lo hi : List Ex} {l u : Option Expr} (hK : X.K = C.K) (ha : PE X x (rdE C Γ Wx a)) (h1 : Prt C Γ Wx X lo l) (h2 : Prt C Γ Wx X hi u) : PE X (.Subscript x (.Slice l u Option.none p2) pos) (rdE C Γ Wx (.slc a lo hi)) := by
  refine pe_imp (pe_slice sl_any ha h1.po h2.po) fun σ H Q ⟨m, ρ, S, r, A, h, p⟩ => ?_
  unfold ev at h
  refine rd_step A h p fun w S1 m1 H1 v h3 A1 _ rv p1 => prt_step h1 A1 h3 p1 fun l2 S2 m2 H2 h4 A2 e2 p2 => prt_step h2 A2 h4 p2 fun l3 S3 m3 H3 h5 A3 e3 p3 => ?_
  obtain ⟨w3, S4, h6, p4⟩ := p3.lift h5
  rw [hK]
  exact slc2_ok A3.h (rv.mono (e2.trans e3)) h6 p4
end
end Ip

/-! IpSnd3: built-in functions, methods, fields, isinstance. Written by an AI agent. -/
namespace Ip
open PySem PySem.Spec PyProof.Rows L2
theorem callR_or {X : Cx} {f : Value} {r r' : List V → Hp → VK → Prop} (h : CallR X f r) (h' : CallR X f r') : CallR X f (fun xs H Q => r xs H Q ∨ r' xs H Q) := by
  intro pins s σ H xs us Q I rs q
  rcases q with q | q
  · exact h pins s σ H xs us Q I rs q
  · exact h' pins s σ H xs us Q I rs q
/-! ### built-in functions -/
def rBf (K : PySem.W.Frag) : Bf → List V → Hp → VK → Prop
  | .len => fun xs H Q => ∃ x n, xs = [x] ∧ LenV K x H n ∧ Q (.int n) H
  | .abs => fun xs H Q => ∃ i, xs = [.int i] ∧ Q (.int (if i < 0 then -i else i)) H
  | .int => fun xs H Q => ((∃ i, xs = [.int i] ∧ Q (.int i) H) ∨ ∃ k, xs = [.bl k] ∧ Q (.int (if k then 1 else 0)) H) ∨ ∃ a n, xs = [.str a] ∧ PySem.intText? a = some n ∧ a.length ≤ 640 ∧ Q (.int n) H
  | .str => fun xs H Q => ∃ i, xs = [.int i] ∧ i.natAbs.log2 < 1920 ∧ Q (.str (toString i)) H
  | .list => fun xs H Q => ∃ p ys, xs = [.ref p] ∧ (SqL K H p ys ∨ SqT K H p ys) ∧ ∀ l, H l = none → Q (.ref l) (upd H l (.lst ys))
  | .tuple => fun xs H Q => ∃ p ys, xs = [.ref p] ∧ ((SqL K H p ys ∧ ∀ l, H l = none → Q (.ref l) (upd H l (.tup ys))) ∨ (SqT K H p ys ∧ Q (.ref p) H))
  | .max2 => fun xs H Q => ∃ i j, xs = [.int i, .int j] ∧ Q (.int (if j > i then j else i)) H
  | .min2 => fun xs H Q => ∃ i j, xs = [.int i, .int j] ∧ Q (.int (if j < i then j else i)) H
  | .max1 => rMax K
  | .min1 => rMin K
  | .sum => rSum K
  | .any => rAny K
  | .all => rAll K
def bfHot : Bf → Bool
  | .len => true | .abs => true | .int => true | .str => true | .list => true | .tuple => true | .any => true | .all => true | _ => false
theorem bf_pe {X : Cx} {p pos : Pos} {e : Expr} {es : List Expr} {t : TA} : ∀ (b : Bf), (bfHot b = false → X.calm = true) → (X.calm = true ∨ L2H.HotC X) → Gl X (bfNm b) → X.mg (bfNm b) = none → PA X (e :: es) t → noStar e = true → es.all noStar = true → PE X (.Call (.Name (bfNm b) p) (e :: es) [] pos) (tCB (rBf X.K b) t)
  | .len, hc, hh, hg, hm, ha, h1, h2 => pe_callB call_len hg hm boot_len ha (by decide) (by decide) (star_cons h1) (star_plain h2)
  | .abs, hc, hh, hg, hm, ha, h1, h2 => pe_callB call_abs hg hm boot_abs ha (by decide) (by decide) (star_cons h1) (star_plain h2)
  | .int, hc, hh, hg, hm, ha, h1, h2 => pe_callTy (callR_or call_int1 call_int_str) hg hm boot_int ha (by decide) (by decide) (star_cons h1) (star_plain h2)
  | .str, hc, hh, hg, hm, ha, h1, h2 => pe_callTy call_str_int hg hm boot_str ha (by decide) (by decide) (star_cons h1) (star_plain h2)
  | .list, hc, hh, hg, hm, ha, h1, h2 => pe_callTy call_list_of hg hm boot_list ha (by decide) (by decide) (star_cons h1) (star_plain h2)
  | .tuple, hc, hh, hg, hm, ha, h1, h2 => pe_callTy call_tuple_of hg hm boot_tuple ha (by decide) (by decide) (star_cons h1) (star_plain h2)
  | .max2, hc, hh, hg, hm, ha, h1, h2 => pe_callB (call_max2 (hc rfl)) hg hm (by decide +kernel) ha (by decide) (by decide) (star_cons h1) (star_plain h2)
  | .min2, hc, hh, hg, hm, ha, h1, h2 => pe_callB (call_min2 (hc rfl)) hg hm (by decide +kernel) ha (by decide) (by decide) (star_cons h1) (star_plain h2)
  | .max1, hc, hh, hg, hm, ha, h1, h2 => pe_callB (cr_max (hc rfl)) hg hm (by decide +kernel) ha (by decide) (by decide) (star_cons h1) (star_plain h2)
  | .min1, hc, hh, hg, hm, ha, h1, h2 => pe_callB (cr_min (hc rfl)) hg hm (by decide +kernel) ha (by decide) (by decide) (star_cons h1) (star_plain h2)
  | .sum, hc, hh, hg, hm, ha, h1, h2 => pe_callB (cr_sum (hc rfl)) hg hm (by decide +kernel) ha (by decide) (by decide) (star_cons h1) (star_plain h2)
  | .any, hc, hh, hg, hm, ha, h1, h2 => pe_callB (cr_any2 hh) hg hm (by decide +kernel) ha (by decide) (by decide) (star_cons h1) (star_plain h2)
  | .all, hc, hh, hg, hm, ha, h1, h2 => pe_callB (cr_all2 hh) hg hm (by decide +kernel) ha (by decide) (by decide) (star_cons h1) (star_plain h2)
theorem maxL_mem : ∀ {l : List Int}, 0 < l.length → maxL l ∈ l ∧ ∀ y ∈ l, y ≤ maxL l
  | [], h => by cases h
  | [a], _ => ⟨by simp [maxL], fun y hy => by simp at hy; subst hy; simp [maxL]⟩
  | a :: b :: r, _ => by
    obtain ⟨h1, h2⟩ := maxL_mem (l := b :: r) (by simp)
    have e : maxL (a :: b :: r) = max a (maxL (b :: r)) := rfl
    rw [e]
    refine ⟨?_, fun y hy => ?_⟩
    · by_cases h : a ≤ maxL (b :: r)
      · rw [Int.max_eq_right h]
        exact List.mem_cons_of_mem _ h1
      · rw [Int.max_eq_left (by omega)]
        exact List.mem_cons_self
    · rcases List.mem_cons.mp hy with rfl | hy
      · omega
      · have := h2 y hy
        omega
theorem minL_mem : ∀ {l : List Int}, 0 < l.length → minL l ∈ l ∧ ∀ y ∈ l, minL l ≤ y
  | [], h => by cases h
  | [a], _ => ⟨by simp [minL], fun y hy => by simp at hy; subst hy; simp [minL]⟩
  | a :: b :: r, _ => by
    obtain ⟨h1, h2⟩ := minL_mem (l := b :: r) (by simp)
    have e : minL (a :: b :: r) = min a (minL (b :: r)) := rfl
    rw [e]
    refine ⟨?_, fun y hy => ?_⟩
    · by_cases h : a ≤ minL (b :: r)
      · rw [Int.min_eq_left h]
        exact List.mem_cons_self
      · rw [Int.min_eq_right (by omega)]
        exact List.mem_cons_of_mem _ h1
    · rcases List.mem_cons.mp hy with rfl | hy
      · omega
      · have := h2 y hy
        omega
section
variable {C : Cf} {m : List Addr} {S S' : Store} {H : Hp} {ws : List W} {vs : List V} {w : W} {Q : VK}
theorem bfn_ok {b : Bf} (R : RelH C m S H) (rs : RWs C.K m H ws vs) (e : bfn b S ws = some (w, S')) (p : Post C m S H S' w Q) : rBf C.K b vs H Q := by
  unfold bfn at e
  split at e
  · -- len of a text
    cases rs with
    | cons h1 h2 =>
      cases h2; cases h1
      split at e
      · rename_i hl
        cases e
        exact ⟨_, _, rfl, ⟨sl_le hl, rfl⟩, p.here R (.int _)⟩
      · cases e
  · cases rs with
    | cons h1 h2 =>
      cases h2
      cases h1 with
      | tup h r =>
        cases e
        exact ⟨_, _, rfl, .inr ⟨_, h, rfl⟩, by rw [← r.length]; exact p.here R (.int _)⟩
  · cases rs with
    | cons h1 h2 =>
      cases h2
      cases h1 with
      | loc h =>
        split at e
        · rename_i hS
          cases e
          obtain ⟨xs, z1, z2⟩ := R.cell _ _ _ h hS
          exact ⟨_, _, rfl, .inl ⟨_, SqL.of z1, rfl⟩, by rw [← z2.length]; exact p.here R (.int _)⟩
        · rename_i hS
          cases e
          obtain ⟨xs, z1, z2⟩ := R.listAt h (ws := _) (by unfold Ip.listAt; rw [hS])
          exact ⟨_, _, rfl, .inl ⟨_, z1, rfl⟩, by rw [← z2.length]; exact p.here R (.int _)⟩
        · cases e
  · cases rs with
    | cons h1 h2 =>
      cases h2; cases h1
      cases e
      exact ⟨_, rfl, p.here R (.int _)⟩
  · cases rs with
    | cons h1 h2 =>
      cases h2; cases h1
      cases e
      exact .inl (.inl ⟨_, rfl, p.here R (.int _)⟩)
  · cases rs with
    | cons h1 h2 =>
      cases h2; cases h1
      cases e
      exact .inl (.inr ⟨_, rfl, p.here R (.int _)⟩)
  · cases rs with
    | cons h1 h2 =>
      cases h2; cases h1
      split at e
      · rename_i hl
        obtain ⟨n, e1, e2⟩ := Option.map_eq_some_iff.mp e
        cases e2
        exact .inr ⟨_, n, rfl, e1, hl, p.here R (.int _)⟩
      · cases e
  · cases rs with
    | cons h1 h2 =>
      cases h2; cases h1
      split at e
      · rename_i hl
        cases e
        exact ⟨_, rfl, hl, p.here R (.str _)⟩
      · cases e
  · -- list
    cases rs with
    | cons h1 h2 =>
      cases h2
      split at e
      · rename_i ws' hS
        cases e
        unfold seqAt at hS
        cases h1 with
        | tup h r =>
          cases hS
          exact ⟨_, _, rfl, .inr h, fun q hq => p.lst R hq r⟩
        | loc h =>
          obtain ⟨xs, z1, z2⟩ := R.listAt h hS
          exact ⟨_, _, rfl, .inl z1, fun q hq => p.lst R hq z2⟩
        | _ => cases hS
      · cases e
  · -- tuple
    cases rs with
    | cons h1 h2 =>
      cases h2
      cases h1 with
      | loc h =>
        split at e
        · rename_i ws' hS
          cases e
          obtain ⟨xs, z1, z2⟩ := R.listAt h hS
          exact ⟨_, _, rfl, .inl ⟨z1, fun q hq => p.tup R hq z2⟩⟩
        · cases e
  · cases rs with
    | cons h1 h2 =>
      cases h1
      cases h2 with
      | cons h1 h2 =>
        cases h2; cases h1
        cases e
        exact ⟨_, _, rfl, p.here R (.int _)⟩
  · cases rs with
    | cons h1 h2 =>
      cases h1
      cases h2 with
      | cons h1 h2 =>
        cases h2; cases h1
        cases e
        exact ⟨_, _, rfl, p.here R (.int _)⟩
  · cases rs with
    | cons h1 h2 =>
      cases h2
      cases h1 with
      | loc h =>
        split at e
        · rename_i ns hS
          split at e
          · rename_i hl
            cases e
            obtain ⟨ws', h3, h4⟩ := Option.bind_eq_some_iff.mp hS
            obtain ⟨xs, z1, z2⟩ := R.listAt h h3
            have ex := z2.ints h4
            subst ex
            refine ⟨_, ns, rfl, z1, hl, fun k h5 h6 => ?_⟩
            have q := maxL_mem hl
            have e1 : k = maxL ns := Int.le_antisymm (q.2 k h5) (h6 _ q.1)
            rw [e1]
            exact p.here R (.int _)
          · cases e
        · cases e
  · cases rs with
    | cons h1 h2 =>
      cases h2
      cases h1 with
      | loc h =>
        split at e
        · rename_i ns hS
          split at e
          · rename_i hl
            cases e
            obtain ⟨ws', h3, h4⟩ := Option.bind_eq_some_iff.mp hS
            obtain ⟨xs, z1, z2⟩ := R.listAt h h3
            have ex := z2.ints h4
            subst ex
            refine ⟨_, ns, rfl, z1, hl, fun k h5 h6 => ?_⟩
            have q := minL_mem hl
            have e1 : k = minL ns := Int.le_antisymm (h6 _ q.1) (q.2 k h5)
            rw [e1]
            exact p.here R (.int _)
          · cases e
        · cases e
  · cases rs with
    | cons h1 h2 =>
      cases h2
      cases h1 with
      | loc h =>
        split at e
        · rename_i ns hS
          cases e
          obtain ⟨ws', h3, h4⟩ := Option.bind_eq_some_iff.mp hS
          obtain ⟨xs, z1, z2⟩ := R.listAt h h3
          have ex := z2.ints h4
          subst ex
          exact ⟨_, ns, rfl, z1, p.here R (.int _)⟩
        · cases e
  · cases rs with
    | cons h1 h2 =>
      cases h2
      cases h1 with
      | loc h =>
        split at e
        · rename_i ns hS
          cases e
          obtain ⟨ws', h3, h4⟩ := Option.bind_eq_some_iff.mp hS
          obtain ⟨xs, z1, z2⟩ := R.listAt h h3
          have ex := z2.bls h4
          subst ex
          exact ⟨_, ns, rfl, z1, p.here R (.bl _)⟩
        · cases e
  · cases rs with
    | cons h1 h2 =>
      cases h2
      cases h1 with
      | loc h =>
        split at e
        · rename_i ns hS
          cases e
          obtain ⟨ws', h3, h4⟩ := Option.bind_eq_some_iff.mp hS
          obtain ⟨xs, z1, z2⟩ := R.listAt h h3
          have ex := z2.bls h4
          subst ex
          exact ⟨_, ns, rfl, z1, p.here R (.bl _)⟩
        · cases e
  · cases e
end
section
variable {C : Cf} {Γ : Gam} {Wx : WX} {X : Cx} {a b c d : Ex} {x y z t : Expr} {es : List Ex} {ys : List Expr} {pos p : Pos}
theorem s_bif {b : Bf} {e : Ex} {y : Expr} (hK : X.K = C.K) (hc : bfHot b = false → X.calm = true) (hh : X.calm = true ∨ L2H.HotC X) (hg : Gl X (bfNm b)) (hm : X.mg (bfNm b) = none) (h : PEs C Γ Wx X (e :: es) (y :: ys)) : PE X (.Call (.Name (bfNm b) p) (y :: ys) [] pos) (rdE C Γ Wx (.bif b (e :: es))) := by
  have hs := h.noStar
  rw [List.all_cons, Bool.and_eq_true] at hs
  refine pe_imp (bf_pe b hc hh hg hm h.pa hs.1 hs.2) fun σ H Q ⟨m, ρ, S, r, A, h, p⟩ => ?_
  unfold ev at h
  refine rd_stepA A h p fun ws S1 m1 H1 vs h1 A1 _ rv p1 => ?_
  obtain ⟨w3, S4, h6, p4⟩ := p1.lift h1
  rw [hK]
  exact bfn_ok A1.h rv h6 p4
end
end Ip

/-! IpSnd4: methods, fields, isinstance, calls. Written by an AI agent. -/
namespace Ip
open PySem PySem.Spec PyProof.Rows L2
/-! ### built-in methods -/
def rBm (K : PySem.W.Frag) : Bm → V → List V → Hp → VK → Prop
  | .append => rAppend
  | .pop => rPopAt
  | .insert => fun x vs H Q => ∃ (l : Addr) (xs : List V) (i : Int) (y : V), x = .ref l ∧ vs = [.int i, y] ∧ H l = some (.lst xs) ∧ xs.length < sizeLine ∧ 0 ≤ i ∧ i < 2 ^ 63 ∧ Q .non (upd H l (.lst (xs.take i.toNat ++ [y] ++ xs.drop i.toNat)))
  | .clear => rClear
  | .index => rIndex K
  | .join => fun x xs H Q => ∃ a p, ∃ ys : List Str, x = .str a ∧ xs = [.ref p] ∧ (SqL K H p (ys.map V.str) ∨ SqT K H p (ys.map V.str)) ∧ (ys.map (·.length)).sum + ys.length * a.length ≤ 16777216 ∧ Q (.str (Txt.join a ys)) H
  | .split => fun x xs H Q => ∃ a b, x = .str a ∧ xs = [.str b] ∧ (b.length == 0) = false ∧ a.length + 2 ≤ sizeLine ∧ rNewStrs (Txt.split a b) H Q
  | .partition => fun x xs H Q => ∃ a b, x = .str a ∧ xs = [.str b] ∧ (b.length == 0) = false ∧ a.length ≤ sizeLine ∧
      ∀ p, H p = none → Q (.ref p) (upd H p (.tup [.str (Txt.partition a b).1, .str (Txt.partition a b).2.1, .str (Txt.partition a b).2.2]))
  | .get => fun _ _ _ _ => False
/-- the reading of a method call -/
def tBmG (K : PySem.W.Frag) (m : Bm) (to : TE) (t : TA) : TE := fun σ H Q => to σ H fun x H1 => (if bmStr m = true then ∃ a, x = .str a else tyV K "list" x H1) ∧ t σ H1 fun xs H2 => rBm K m x xs H2 Q
theorem few_ok {env : PySem.Env} {p : Pos} {e : Expr} {es : List Expr} (hs : (e :: es).all noStar = true) (hl : (e :: es).length < 30) :
    ((backTo p (starEach (e :: es) env)).all (fun x => !x.1) && (backToKw p (keywordEach [] env)).all (fun x => x.1.isSome) && decide ((e :: es).length + ([] : List Keyword).length + (if ([] : List Keyword).isEmpty then 0 else 1) < 30)) = true := by
  rw [star_few hs]
  have e1 : (backToKw p (keywordEach [] env)).all (fun x => x.1.isSome) = true := rfl
  rw [e1]
  exact decide_eq_true hl
theorem bm_pe {X : Cx} {ap p : Pos} {o e : Expr} {es : List Expr} {to : TE} {t : TA} (ho : PE X o to) (hb : noSup o = true) (hl : (ap.endLine == p.line) = true) (hs : (e :: es).all noStar = true) (h30 : (e :: es).length < 30) (ha : PA X (e :: es) t) :
    ∀ (m : Bm), m ≠ .get → m ≠ .clear → PE X (.Call (.Attribute o (bmNm m) ap) (e :: es) [] p) (tBmG X.K m to t) := by
  have hs2 := hs
  rw [List.all_cons, Bool.and_eq_true] at hs2
  have lst : ∀ {nm : Str} {id : String} {r : V → List V → Hp → VK → Prop}, Slot "list" nm id → typeOf (.builtin id) = pure (.type "method_descriptor") → MtR X id r → PE X (.Call (.Attribute o nm ap) (e :: es) [] p) (tBM X.K "list" r to t) := fun {nm id r} sl ty hm =>
    pe_bm PySem.F.plainAttrs_list sl ty hm ho ha (sup_base hb) (few_ok hs h30) hl (star_cons hs2.1) (star_plain hs2.2)
  have str : ∀ {nm : Str} {id : String} {r : V → List V → Hp → VK → Prop}, Slot "str" nm id → typeOf (.builtin id) = pure (.type "method_descriptor") → MtR X id r → PE X (.Call (.Attribute o nm ap) (e :: es) [] p) (tBM X.K "str" r to t) := fun {nm id r} sl ty hm =>
    pe_bm PySem.F.plainAttrs_str sl ty hm ho ha (sup_base hb) (few_ok hs h30) hl (star_cons hs2.1) (star_plain hs2.2)
  have gl : ∀ {m : Bm}, bmStr m = false → PE X (.Call (.Attribute o (bmNm m) ap) (e :: es) [] p) (tBM X.K "list" (rBm X.K m) to t) → PE X (.Call (.Attribute o (bmNm m) ap) (e :: es) [] p) (tBmG X.K m to t) := fun {m} hm h => by
    have e : tBmG X.K m to t = tBM X.K "list" (rBm X.K m) to t := by
      unfold tBmG tBM
      rw [hm]
      simp
    rw [e]
    exact h
  have gs : ∀ {m : Bm}, bmStr m = true → PE X (.Call (.Attribute o (bmNm m) ap) (e :: es) [] p) (tBM X.K "str" (rBm X.K m) to t) → PE X (.Call (.Attribute o (bmNm m) ap) (e :: es) [] p) (tBmG X.K m to t) := fun {m} hm h => by
    have e : tBmG X.K m to t = tBM X.K "str" (rBm X.K m) to t := by
      unfold tBmG tBM
      rw [hm]
      funext σ H Q
      congr 1
      funext x H1
      rw [if_pos rfl]
      congr 1
      unfold tyV
      cases x <;> simp
    rw [e]
    exact h
  intro m h1 h2
  cases m with
  | append => exact gl rfl (lst PySem.F.slot_list_append PySem.F.type_list_append mt_append)
  | pop => exact gl rfl (lst PySem.F.slot_list_pop PySem.F.type_list_pop mt_popAt)
  | insert => exact gl rfl (lst PySem.F.slot_list_insert PySem.F.type_list_insert mt_insert)
  | index => exact gl rfl (lst PySem.F.slot_list_index PySem.F.type_list_index mt_index)
  | clear => exact absurd rfl h2
  | get => exact absurd rfl h1
  | join => exact gs rfl (str PySem.F.slot_str_join PySem.F.type_str_join mt_join)
  | split => exact gs rfl (str PySem.F.slot_str_split PySem.F.type_str_split mt_split)
  | partition => exact gs rfl (str PySem.F.slot_str_partition PySem.F.type_str_partition mt_partition)
theorem bm_pe0 {X : Cx} {ap p : Pos} {o : Expr} {to : TE} (ho : PE X o to) (hb : noSup o = true) (hl : (ap.endLine == p.line) = true) : PE X (.Call (.Attribute o (bmNm .clear) ap) [] [] p) (tBM0 X.K "list" (rBm X.K .clear) to) :=
  pe_bm0 PySem.F.plainAttrs_list PySem.F.slot_list_clear PySem.F.type_list_clear mt_clear ho (sup_base hb) hl
theorem ixN_seq {n : Nat} {i : Int} {k : Nat} (h : ixN n i = some k) : seqIndex? i n = some k := by
  unfold ixN at h
  split at h
  · split at h
    · have e := Option.some.inj h
      rw [← e]
      exact seqIndex_of (by assumption) (by omega)
    · cases h
  · split at h
    · have e := Option.some.inj h
      rw [← e]
      exact seqIndex_neg (by omega) (by assumption)
    · cases h
theorem ixOf_ok {K : PySem.W.Frag} {m : List Addr} {H : Hp} {x : W} {y : V} (hx : RW K m H x y) (fx : flatW x = true) : ∀ {ws : List W} {vs : List V} {j : Nat}, RWs K m H ws vs → ws.all flatW = true → ixOf x ws = some j →
    ∃ z, vs[j]? = some z ∧ eqV z y = true ∧ ∀ (k : Nat) (z' : V), k < j → vs[k]? = some z' → eqV z' y = false
  | [], _, _, _, _, e => by cases e
  | w :: ws, _, j, .cons h r, f, e => by
    rw [List.all_cons, Bool.and_eq_true] at f
    unfold ixOf at e
    split at e
    · rename_i hq
      have e1 := Option.some.inj e
      subst e1
      exact ⟨_, rfl, by rw [eqF_rw h hx f.1 fx]; exact hq, fun k z' hk => absurd hk (Nat.not_lt_zero _)⟩
    · rename_i hq
      obtain ⟨i, h1, h2⟩ := Option.map_eq_some_iff.mp e
      subst h2
      obtain ⟨z, z1, z2, z3⟩ := ixOf_ok hx fx r f.2 h1
      refine ⟨z, by simpa using z1, z2, fun k z' hk hz => ?_⟩
      cases k with
      | zero =>
        have e2 := Option.some.inj (show some _ = some z' from hz)
        subst e2
        rw [eqF_rw h hx f.1 fx]
        simpa using hq
      | succ k => exact z3 k z' (by omega) (by simpa using hz)
section
variable {C : Cf} {m : List Addr} {S S' : Store} {H : Hp} {ws : List W} {vs : List V} {o w : W} {x : V} {Q : VK}
theorem Post.put {n : Nat} {a : Addr} {xs : List W} {ys : List W} {zs : List V} (p : Post C m S H (S.set n (.lst ys)) w Q) (R : RelH C m S H) (hn : m[n]? = some a) (hS : S[n]? = some (.lst xs)) (r : RWs C.K m H ys zs) {v : V} (hv : RW C.K m H w v) : Q v (upd H a (.lst zs)) := by
  obtain ⟨us, z1, z2⟩ := R.cell _ _ _ hn hS
  have e : Ext m S H m (S.set n (.lst ys)) (upd H a (.lst zs)) := ⟨⟨[], by simp⟩, fun b u hb k => by
      have ne : b ≠ a := fun z => by
        subst z
        rw [z1] at hb
        have e1 := Option.some.inj hb
        subst e1
        exact k rfl ⟨n, _, hn, hS, rfl⟩
      refine ⟨by rw [upd_ne ne]; exact hb, fun hu z => k hu ?_⟩
      obtain ⟨j, e, q1, q2, q3⟩ := z
      by_cases hj : n = j
      · subst hj
        exact ⟨n, _, q1, hS, rfl⟩
      · rw [List.getElem?_set_ne hj] at q2
        exact ⟨j, e, q1, q2, q3⟩⟩
  have n2 := R.set (o := .lst zs) (d := .lst ys) hn hS rfl rfl rfl ⟨zs, upd_same, r.mono e⟩
  exact p _ _ _ n2.1 n2.2 (hv.mono e)
theorem bmt_ok {b : Bm} (R : RelH C m S H) (ro : RW C.K m H o x) (rs : RWs C.K m H ws vs) (e : bmt b S o ws = some (w, S')) (p : Post C m S H S' w Q) : rBm C.K b x vs H Q := by
  unfold bmt at e
  split at e
  · -- append
    cases ro with
    | loc hn =>
      cases rs with
      | cons h1 h2 =>
        cases h2
        split at e
        · rename_i xs hS
          split at e
          · rename_i hl
            cases e
            obtain ⟨us, z1, z2⟩ := R.cell _ _ _ hn hS
            exact ⟨_, _, _, rfl, rfl, z1, by rw [← z2.length]; exact sl_lt hl, p.put R hn hS (z2.append (.cons h1 .nil)) .non⟩
          · cases e
        · cases e
  · -- pop
    cases ro with
    | loc hn =>
      cases rs with
      | cons h1 h2 =>
        cases h2; cases h1
        split at e
        · rename_i xs hS
          split at e
          · rename_i hl
            obtain ⟨k, h3, h4⟩ := Option.bind_eq_some_iff.mp e
            obtain ⟨w', h5, h6⟩ := Option.map_eq_some_iff.mp h4
            cases h6
            obtain ⟨us, z1, z2⟩ := R.cell _ _ _ hn hS
            obtain ⟨v, h7, h8⟩ := z2.get h5
            exact ⟨_, _, _, k, v, rfl, rfl, z1, hl.1, hl.2, by rw [← z2.length]; exact ixN_seq h3, h7, p.put R hn hS (z2.erase k) h8⟩
          · cases e
        · cases e
  · -- insert
    cases ro with
    | loc hn =>
      cases rs with
      | cons h1 h2 =>
        cases h1
        cases h2 with
        | cons h1 h2 =>
          cases h2
          split at e
          · rename_i xs hS
            split at e
            · rename_i hl
              cases e
              obtain ⟨us, z1, z2⟩ := R.cell _ _ _ hn hS
              refine ⟨_, _, _, _, rfl, rfl, z1, by rw [← z2.length]; exact sl_lt hl.1, hl.2.1, hl.2.2, ?_⟩
              refine p.put R hn hS ?_ .non
              rw [List.append_assoc]
              exact (z2.take _).append (.cons h1 (z2.drop _))
            · cases e
          · cases e
  · -- clear
    cases ro with
    | loc hn =>
      cases rs
      split at e
      · rename_i xs hS
        cases e
        obtain ⟨us, z1, z2⟩ := R.cell _ _ _ hn hS
        exact ⟨_, _, rfl, rfl, z1, p.put R hn hS .nil .non⟩
      · cases e
  · -- index
    cases ro with
    | loc hn =>
      cases rs with
      | cons h1 h2 =>
        cases h2
        split at e
        · rename_i xs hS
          split at e
          · rename_i hf
            rw [Bool.and_eq_true] at hf
            obtain ⟨j, h3, h4⟩ := Option.map_eq_some_iff.mp e
            cases h4
            obtain ⟨us, z1, z2⟩ := R.listAt hn hS
            obtain ⟨z, q1, q2, q3⟩ := ixOf_ok h1 hf.1 z2 hf.2 h3
            exact ⟨_, _, _, j, z, rfl, rfl, z1, flat_rw h1 hf.1, flats_rw z2 hf.2, q1, q2, q3, p.here R (.int _)⟩
          · cases e
        · cases e
  · -- join
    cases ro
    cases rs with
    | cons h1 h2 =>
      cases h2
      cases h1 with
      | loc hn =>
        split at e
        · rename_i ys hS
          split at e
          · rename_i hl
            cases e
            obtain ⟨ws', h3, h4⟩ := Option.bind_eq_some_iff.mp hS
            obtain ⟨xs, z1, z2⟩ := R.listAt hn h3
            have ex := z2.strs h4
            subst ex
            exact ⟨_, _, ys, rfl, rfl, .inl z1, hl, p.here R (.str _)⟩
          · cases e
        · cases e
  · -- split
    cases ro
    cases rs with
    | cons h1 h2 =>
      cases h2; cases h1
      split at e
      · rename_i hl
        cases e
        exact ⟨_, _, rfl, rfl, hl.1, sl_le hl.2, fun q hq => p.lst R hq (RWs.mkStrs _)⟩
      · cases e
  · -- partition
    cases ro
    cases rs with
    | cons h1 h2 =>
      cases h2; cases h1
      split at e
      · rename_i hl
        cases e
        exact ⟨_, _, rfl, rfl, hl.1, sl_le hl.2, fun q hq => p.tup R hq (.cons (.str _) (.cons (.str _) (.cons (.str _) .nil)))⟩
      · cases e
  · cases e
end
section
variable {C : Cf} {Γ : Gam} {Wx : WX} {X : Cx} {a b c d : Ex} {x y z t : Expr} {es : List Ex} {ys : List Expr} {pos p ap : Pos}
theorem s_bm {b : Bm} {e : Ex} (hK : X.K = C.K) (ho : PE X x (rdE C Γ Wx a)) (hb : noSup x = true) (hl : (ap.endLine == p.line) = true) (h30 : (y :: ys).length < 30) (h : PEs C Γ Wx X (e :: es) (y :: ys)) (h1 : b ≠ .get) (h2 : b ≠ .clear) :
    PE X (.Call (.Attribute x (bmNm b) ap) (y :: ys) [] p) (rdE C Γ Wx (.bm a b (e :: es))) := by
  refine pe_imp (bm_pe ho hb hl h.noStar h30 h.pa b h1 h2) fun σ H Q ⟨m, ρ, S, r, A, h, p⟩ => ?_
  unfold ev at h
  refine rd_step A h p fun w S1 m1 H1 v h1 A1 _ rv p1 => ?_
  split at h1
  · rename_i hty
    refine ⟨?_, rd_stepA A1 h1 p1 fun ws S2 m2 H2 vs h2 A2 e2 rs p2 => ?_⟩
    · unfold bmTy at hty
      cases rv with
      | str z => rw [if_pos hty]; exact ⟨_, rfl⟩
      | loc hn =>
        rw [Bool.and_eq_true] at hty
        have h0 : bmStr b = false := by simpa using hty.1
        rw [h0, if_neg Bool.false_ne_true, hK]
        obtain ⟨ws, hws⟩ := Option.isSome_iff_exists.mp hty.2
        obtain ⟨xs, z1, _⟩ := A1.h.listAt hn hws
        exact .inl ⟨rfl, xs, z1⟩
      | _ => cases hty
    · obtain ⟨w3, S4, h6, p4⟩ := p2.lift h2
      rw [hK]
      exact bmt_ok A2.h (rv.mono e2) rs h6 p4
  · cases h1
theorem s_bm0 (hK : X.K = C.K) (ho : PE X x (rdE C Γ Wx a)) (hb : noSup x = true) (hl : (ap.endLine == p.line) = true) : PE X (.Call (.Attribute x (bmNm .clear) ap) [] [] p) (rdE C Γ Wx (.bm a .clear [])) := by
  refine pe_imp (bm_pe0 ho hb hl) fun σ H Q ⟨m, ρ, S, r, A, h, p⟩ => ?_
  unfold ev at h
  refine rd_step A h p fun w S1 m1 H1 v h1 A1 _ rv p1 => ?_
  split at h1
  · rename_i hty
    unfold evs at h1
    obtain ⟨w3, S4, h6, p4⟩ := p1.lift h1
    refine ⟨?_, by rw [hK]; exact bmt_ok A1.h rv .nil h6 p4⟩
    unfold bmTy at hty
    cases rv with
    | str z => cases hty
    | loc hn =>
      rw [Bool.and_eq_true] at hty
      obtain ⟨ws, hws⟩ := Option.isSome_iff_exists.mp hty.2
      obtain ⟨xs, z1, _⟩ := A1.h.listAt hn hws
      exact .inl ⟨rfl, xs, by rw [hK]; exact z1⟩
    | _ => cases hty
  · cases h1
end
end Ip

/-! IpSnd5: calls, methods, instances, fields, isinstance, comprehensions. Written by an AI agent. -/
namespace Ip
open PySem PySem.Spec PyProof.Rows L2
/-! ### calls with what is raised wished for at the slots -/
section
variable {X : Cx} {CX : CXT} {k : Nat} {f C : Addr} {fd : FuncData} {ps : List Str} {sp : Sp} {E : L2.St → XK} {x m : Str} {p pos apos : Pos} {e o : Expr} {es : List Expr} {ta : TE} {t : TA}
def tMethS (C : Addr) (m : Str) (sp : Sp) (E : L2.St → XK) (ta : TE) (t : TA) : TE := fun σ H Q => ta σ H fun x H1 => ∃ a dx fs, x = .ref a ∧ H1 a = some (.ins C dx fs) ∧ fs.lookup m = none ∧
  t σ H1 fun vs H2 => sp (x :: vs) H2 Q (E σ)
theorem pe_methS {pl : Sem Bool} (he : PE X o ta) (c : Cls X.K C) (hm : Meth X.K C m f) (F : FnOk X.prog X.w X.K X.mg X.base CX k f fd ps sp) (hr : Room k X.A) (hb : Binds X.K fd ps []) (hx : ∀ σ, PassesAt CX X σ (E σ)) (ha : PA X (e :: es) t)
    (hst : starEach (e :: es) X.env = (false, eval e X.env) :: starEach es X.env) (hpl : (backTo pos (starEach es X.env)).any (·.1) = false)
    (ht : eval (.Call (.Attribute o m apos) (e :: es) [] pos) X.env = (do
      let ov ← eval o X.env
      standAt apos.atName
      let (f, first) ← holding [ov] (getMethod ov m pl)
      callWith pos f first (backTo pos (starEach (e :: es) X.env)) (backToKw pos (keywordEach [] X.env)))) :
    PE X (.Call (.Attribute o m apos) (e :: es) [] pos) (tMethS C m sp E ta t) := by
  refine ⟨fun pins s σ H Q I h => ?_⟩
  refine PySem.W.methodCall_KW (pl := pl) (thn (he.run pins s σ H _ I h) fun u s1 ⟨x, H1, I1, rx, a, dx, fs, ex, ea, l, q⟩ => ?_) ht
  subst ex
  obtain rfl : u = Value.ref a := rx
  refine getmeth_ok I1 ea c hm l ?_
  refine PySem.W.callWith_K (first := [.ref a]) (h₀ := X.base) I.ok.mod.kin hm.kp (thn (ha.run pos pins s1 σ H1 _ I1 q) fun us s2 ⟨vs, H2, I2, r, q2⟩ => ⟨I2.kIn, ?_⟩) hst hpl
  exact run_fnS (us := .ref a :: us) (vs := .ref a :: vs) F hr hb (hx σ) I2 (.cons rfl r) q2
theorem pe_methS0 {pl : Sem Bool} (he : PE X o ta) (c : Cls X.K C) (hm : Meth X.K C m f) (F : FnOk X.prog X.w X.K X.mg X.base CX k f fd ps sp) (hr : Room k X.A) (hb : Binds X.K fd ps []) (hx : ∀ σ, PassesAt CX X σ (E σ))
    (ht : eval (.Call (.Attribute o m apos) [] [] pos) X.env = (do
      let ov ← eval o X.env
      standAt apos.atName
      let (f, first) ← holding [ov] (getMethod ov m pl)
      callWith pos f first (backTo pos (starEach [] X.env)) (backToKw pos (keywordEach [] X.env)))) :
    PE X (.Call (.Attribute o m apos) [] [] pos) (tMethS C m sp E ta tNil) := by
  refine ⟨fun pins s σ H Q I h => ?_⟩
  refine PySem.W.methodCall_KW (pl := pl) (thn (he.run pins s σ H _ I h) fun u s1 ⟨x, H1, I1, rx, a, dx, fs, ex, ea, l, q⟩ => ?_) ht
  subst ex
  obtain rfl : u = Value.ref a := rx
  refine getmeth_ok I1 ea c hm l ?_
  exact PySem.W.callWith_K0 (first := [.ref a]) I1.kIn hm.kp (run_fnS (us := [.ref a]) (vs := [.ref a]) F hr hb (hx σ) I1 (.cons rfl .nil) q)
/-- C.m(e, ..): the function is taken from the class -/
theorem pe_clsS {cn : Str} {pl : Sem Bool} (hg : Gl X cn) (hcm : X.mg cn = some (.ref C)) (hdb : (cn == ("__debug__" : Str)) = false) (r : ClX.CRead X.K C (.type "type")) (fc : PySem.W.findCls X.K (.ref C) (.type "type") m = some (.val (.ref f))) (kp : PySem.W.keepIn X.K (.ref f) = true)
    (F : FnOk X.prog X.w X.K X.mg X.base CX k f fd ps sp) (hr : Room k X.A) (hb : Binds X.K fd ps []) (hx : ∀ σ, PassesAt CX X σ (E σ)) (ha : PA X (e :: es) t)
    (hst : starEach (e :: es) X.env = (false, eval e X.env) :: starEach es X.env) (hpl : (backTo pos (starEach es X.env)).any (·.1) = false)
    (ht : eval (.Call (.Attribute (.Name cn p) m apos) (e :: es) [] pos) X.env = (do
      let ov ← eval (.Name cn p) X.env
      standAt apos.atName
      let (f, first) ← holding [ov] (getMethod ov m pl)
      callWith pos f first (backTo pos (starEach (e :: es) X.env)) (backToKw pos (keywordEach [] X.env)))) :
    PE X (.Call (.Attribute (.Name cn p) m apos) (e :: es) [] pos) (fun σ H Q => t σ H fun vs H1 => sp vs H1 Q (E σ)) := by
  refine ⟨fun pins s σ H Q I h => ?_⟩
  refine PySem.W.methodCall_KW (pl := pl) (ld_glob I hg hcm ?_ hdb) ht
  refine PySem.W.method_cls (I.tok _).kIn r.ga (PySem.W.cls_value (I.tok _).kIn r.rd fc rfl ?_)
  refine PySem.W.callWith_K (first := []) (h₀ := X.base) I.ok.mod.kin kp (thn (ha.run pos pins _ σ H _ ((I.tok _).tok _) h) fun us s1 ⟨vs, H1, I1, rr, q⟩ => ⟨I1.kIn, ?_⟩) hst hpl
  exact run_fnS F hr hb (hx σ) I1 rr q
def tMakeS (C : Addr) (sp : Sp) (E : L2.St → XK) (t : TA) : TE := fun σ H Q => t σ H fun vs H1 => ∀ x dx, H1 x = none → H1 dx = none → dx ≠ x →
  sp (.ref x :: vs) (upd (upd H1 dx (.own x)) x (.ins C dx [])) (fun v H2 => v = .non ∧ Q (.ref x) H2) (E σ)
theorem run_makeS {pins : List (Addr × Obj)} {σ : L2.St} {H : Hp} {s : Shared} {Q : VK} {us : List Value} {vs : List V} (M : Mk X.K C f) (F : FnOk X.prog X.w X.K X.mg X.base CX k f fd ps sp) (hr : Room (k + 1) X.A) (hb : Binds X.K fd ps [])
    (hx : PassesAt CX X σ (E σ)) (I : Inv X pins σ H s) (r : Vals vs us)
    (h : ∀ x dx, H x = none → H dx = none → dx ≠ x → sp (.ref x :: vs) (upd (upd H dx (.own x)) x (.ins C dx [])) (fun v H2 => v = .non ∧ Q (.ref x) H2) (E σ)) :
    wpAny (model X.prog X.w) X.A (call (.ref C) us) (EP X pins σ Q) X.xe s := by
  have hq := h (s.heap.objs.size + 1) s.heap.objs.size (I.hok.fresh (Nat.le_succ _)) (I.hok.fresh (Nat.le_refl _)) (Nat.ne_of_lt (Nat.lt_succ_self _))
  have I2 := Inv.made (C := C) I
  have r2 : Vals (V.ref (s.heap.objs.size + 1) :: vs) (Value.ref (s.heap.objs.size + 1) :: us) := .cons rfl r
  have hl : (Value.ref (s.heap.objs.size + 1) :: us).length = ps.length := by
    have e := r2.length
    rw [F.len _ _ _ _ hq] at e
    exact e.symm
  have b := hb _ (Value.ref (s.heap.objs.size + 1) :: us) I2.kIn (by rw [List.append_nil]; exact hl)
  rw [List.append_nil] at b
  refine wpAny_call (make_map (f := f) I.kIn M.makes M.init (beq_iff_eq.mp M.fn) (codeAny_mono (F.run _ X.stack _ _ ⟨Value.ref (s.heap.objs.size + 1) :: us, []⟩ (Value.ref (s.heap.objs.size + 1) :: us) _ _ (E σ) (hr.make C us [])
    (I2.env0.make C us []) b r2 hq) fun r s' hq' => ?_))
  cases r with
  | error e => exact hx pins _ _ e s' I2 hq'
  | ok fl =>
    cases fl with
    | ret u =>
      obtain ⟨v, H', I3, rv, ev, q3⟩ := I2.after hq'
      subst ev
      exact ⟨rv, ⟨V.ref (s.heap.objs.size + 1), H', I3, rfl, q3⟩⟩
    | next => exact False.elim hq'
    | brk => exact False.elim hq'
    | cont => exact False.elim hq'
theorem pe_makeS (M : Mk X.K C f) (F : FnOk X.prog X.w X.K X.mg X.base CX k f fd ps sp) (hr : Room (k + 1) X.A) (hg : Gl X x) (hm : X.mg x = some (.ref C)) (hb : Binds X.K fd ps []) (hx : ∀ σ, PassesAt CX X σ (E σ))
    (ha : PA X (e :: es) t) (hdb : (x == ("__debug__" : Str)) = false) (he : starEach (e :: es) X.env = (false, eval e X.env) :: starEach es X.env) (hpl : (backTo pos (starEach es X.env)).any (·.1) = false) :
    PE X (.Call (.Name x p) (e :: es) [] pos) (tMakeS C sp E t) := by
  refine ⟨fun pins s σ H Q I h => ?_⟩
  refine wpAny_Call_Name_kw (ld_glob I hg hm ?_ hdb)
  refine PySem.W.callWith_K (h₀ := X.base) I.ok.mod.kin M.kp (thn (ha.run pos pins s σ H _ I h) fun us s1 ⟨vs, H1, I1, r, q⟩ => ⟨I1.kIn, ?_⟩) he hpl
  exact run_makeS (E := E) M F hr hb (hx σ) I1 r q
theorem pe_makeS0 (M : Mk X.K C f) (F : FnOk X.prog X.w X.K X.mg X.base CX k f fd ps sp) (hr : Room (k + 1) X.A) (hg : Gl X x) (hm : X.mg x = some (.ref C)) (hb : Binds X.K fd ps []) (hx : ∀ σ, PassesAt CX X σ (E σ))
    (hdb : (x == ("__debug__" : Str)) = false) : PE X (.Call (.Name x p) [] [] pos) (tMakeS C sp E tNil) := by
  refine ⟨fun pins s σ H Q I h => ?_⟩
  refine wpAny_Call_Name_kw (ld_glob I hg hm ?_ hdb)
  exact PySem.W.callWith_K0 I.kIn M.kp (run_makeS (us := []) (E := E) M F hr hb (hx σ) I .nil h)
end

/-! ### what is known of the program around -/
/-- a def's promise: the interpreter's call -/
def spG (C : Cf) (g : List W → Store → R W) : Sp := fun vs H Q E => ∃ m ws S r, RelH C m S H ∧ RWs C.K m H ws vs ∧ g ws S = some r ∧ PG (RW C.K) C (fun cls d _ H => E cls d H) m S H [] r Q
def isaNm (cnm : List Str) : Isa → Option Str
  | .int => some "int" | .bool => some "bool" | .str => some "str" | .tuple => some "tuple" | .list => some "list" | .dict => some "dict" | .ve => some "ValueError"
  | .own c => cnm[c]?
def isaU (C : Cf) : Isa → Value
  | .int => .type "int" | .bool => .type "bool" | .str => .type "str" | .tuple => .type "tuple" | .list => .type "list" | .dict => .type "dict" | .ve => .type "ValueError"
  | .own c => .ref (C.cl c)
def isaV (C : Cf) : Isa → V
  | .int => .ty "int" | .bool => .ty "bool" | .str => .ty "str" | .tuple => .ty "tuple" | .list => .ty "list" | .dict => .ty "dict" | .ve => .ty "ValueError"
  | .own c => .ref (C.cl c)
theorem isa_cls (C : Cf) : ∀ t : Isa, ClsV (isaV C t) (isaU C t)
  | .int => .ty _ | .bool => .ty _ | .str => .ty _ | .tuple => .ty _ | .list => .ty _ | .dict => .ty _ | .ve => .ty _ | .own _ => .own _
theorem isa_rel (C : Cf) : ∀ t : Isa, RelV (isaV C t) (isaU C t)
  | .int => rfl | .bool => rfl | .str => rfl | .tuple => rfl | .list => rfl | .dict => rfl | .ve => rfl | .own _ => rfl
/-- isinstance of what is no exception, or of the exception that a suite holds -/
def rIs (C : Cf) : List V → Hp → VK → Prop := fun xs H Q => rIsi C.K xs H Q ∨ ∃ (a : Addr) (c : Nat) (t : Isa) (b : Bool), xs = [.ref a, isaV C t] ∧ C.xi a (.ref (C.cl c)) none ∧ C.xc c ∧ PySem.W.kitOne C.K (.ref (C.cl c)) (isaU C t) = some b ∧ Q (.bl b) H
def rdX (C : Cf) (Γ : Gam) (Wx : WX) (e : Ex) (x : Nat) (n : Str) : TE := fun σ H Q => rdE C Γ Wx e σ H fun v H1 => ∃ a c d dd fs u, v = .ref a ∧ C.xi a (.ref (C.cl c)) d ∧ C.xc c ∧ Γ.fox c x = true ∧ d = some dd ∧ H1 dd = some (.xd fs) ∧ fs.lookup n = some u ∧ Q u H1
def tyN : Ty → String
  | .non => "NoneType" | .bl => "bool" | .int => "int" | .str => "str" | .tup => "tuple" | .lst => "list" | .dct => "dict"
def bnames : List Str := ["len", "abs", "int", "str", "list", "tuple", "max", "min", "sum", "any", "all", "range", "enumerate", "isinstance", "bool", "dict", "ValueError"]
structure Good (C : Cf) (Γ : Gam) (K : Ck) (hot : Bool) (X : Cx) : Prop where
  hK : X.K = C.K
  hN : X.N = K.N
  hsc : X.env.scope = K.sc
  hnd : X.N.Nodup
  hu : X.A.units + 64 < cLine
  calm : hot = false → X.calm = true
  hh : X.calm = true ∨ L2H.HotC X
  kind : X.env.scope.kind = .function
  bn : ∀ x ∈ bnames, X.mg x = none
  glob : ∀ g x w, K.gnm[g]? = some x → Γ.glob g = some w → ∃ u v, X.mg x = some u ∧ RelV v u ∧ ∀ m H, RW C.K m H w v
  isi : CallR X (.builtin "isinstance") (rIs C)
  cls : ∀ c x, K.cnm[c]? = some x → X.mg x = some (.ref (C.cl c))
  inj : ∀ (x k : Nat) (n : Str), K.mnm[x]? = some n → C.fn k = n → k = x
  /-- no built-in type is an own class; own classes among themselves -/
  kt : ∀ (t : Ty) (c : Nat) (x : Str), K.cnm[c]? = some x → PySem.W.kitOne C.K (.type (tyN t)) (.ref (C.cl c)) = some false
  xk : ∀ (c : Nat) (t : Isa) (x : Str), isaNm K.cnm t = some x → C.xc c → PySem.W.kitOne C.K (.ref (C.cl c)) (isaU C t) = some (isaX Γ c t)
  call : hot = false → ∀ f x, K.fnm[f]? = some (some x) → ∃ fa fd ps k, X.mg x = some (.ref fa) ∧ PySem.W.keepIn X.K (.ref fa) = true ∧ Binds X.K fd ps [] ∧ Room k X.A ∧ FnOk X.prog X.w X.K X.mg X.base (L2N.CX X.prog X.w) k fa fd ps (spG C (Γ.call f))
  meth : hot = false → ∀ c m f n, Γ.mt c m = some f → K.mnm[m]? = some n → ∃ fa fd ps k, Cls X.K (C.cl c) ∧ Meth X.K (C.cl c) n fa ∧ Binds X.K fd ps [] ∧ Room k X.A ∧ FnOk X.prog X.w X.K X.mg X.base (L2N.CX X.prog X.w) k fa fd ps (spG C (Γ.call f))
  make : hot = false → ∀ c x, K.cnm[c]? = some x → c ∈ K.mks → ∃ fI fd ps k init, Mk X.K (C.cl c) fI ∧ Binds X.K fd ps [] ∧ Room (k + 1) X.A ∧ FnOk X.prog X.w X.K X.mg X.base (L2N.CX X.prog X.w) k fI fd ps (spG C init) ∧
    ∀ ws S, Γ.make c ws S = bnd (init (.loc S.length :: ws) (S ++ [.ins c []])) fun r S1 => match r with
      | .non => rok (.loc S.length) S1
      | _ => none
  csm : hot = false → ∀ c m f n, c ∈ K.sups → Γ.mt c m = some f → K.mnm[m]? = some n → ∃ fa fd ps k, ClX.CRead X.K (C.cl c) (.type "type") ∧ PySem.W.findCls X.K (.ref (C.cl c)) (.type "type") n = some (.val (.ref fa)) ∧ PySem.W.keepIn X.K (.ref fa) = true ∧ Binds X.K fd ps [] ∧ Room k X.A ∧ FnOk X.prog X.w X.K X.mg X.base (L2N.CX X.prog X.w) k fa fd ps (spG C (Γ.call f))
  xno : hot = false → ∀ a c d, ¬ C.xi a c d
  xnn : hot = false → ∀ n, ¬ C.xn n
  fld : ∀ c x n, Γ.fok c x = true → K.mnm[x]? = some n → C.fn x = n ∧ Cls X.K (C.cl c) ∧ NoAttr X.K (C.cl c) n
  xcc : ∀ c, C.xc c → ExcC C.K (C.cl c) ∧ XfC C.K (C.cl c)
  flx : ∀ c x n, C.xc c → Γ.fox c x = true → K.mnm[x]? = some n → C.fn x = n ∧ PySem.W.findIn C.K (.ref (C.cl c)) n = some none
  xup : ∀ c d, C.xc c → d ∈ K.cts → PySem.W.exmOne C.K (.ref (C.cl c)) (.ref (C.cl d)) = some (Γ.up c d)
  fnT : ∀ x, K.fnc x = true → X.fn x = true
  xa : ∀ (Wx : WX) (y : Expr) (e : Ex) (n : Str) (p : Pos) (x : Nat), PE X y (rdE C Γ Wx e) → noSup y = true → K.mnm[x]? = some n → PE X (.Attribute y n p) (rdX C Γ Wx e x n)
section
variable {C : Cf} {Γ : Gam} {Wx : WX} {K : Ck} {hot : Bool} {X : Cx} {a b c d : Ex} {x y z t : Expr} {es : List Ex} {ys : List Expr} {pos p ap p2 : Pos}
theorem s_call {f : Nat} {n : Str} {e : Ex} (G : Good C Γ K false X) (tk : L2N.Takes X Wx) (hf : K.fnm[f]? = some (some n)) (hg : Gl X n) (hd : (n == ("__debug__" : Str)) = false) (h : PEs C Γ Wx X (e :: es) (y :: ys)) :
    PE X (.Call (.Name n p) (y :: ys) [] pos) (rdE C Γ Wx (.call f (e :: es))) := by
  obtain ⟨fa, fd, ps, k, h1, h2, h3, h4, h5⟩ := G.call rfl f n hf
  have hs := h.noStar
  rw [List.all_cons, Bool.and_eq_true] at hs
  refine pe_imp (pe_callS (E := WE Wx) h5 h4 hg h1 h2 h3 (fun σ => L2N.passAt tk σ) h.pa hd (star_cons hs.1) (star_plain hs.2)) fun σ H Q ⟨m, ρ, S, r, A, h, p⟩ => ?_
  unfold ev at h
  refine rd_stepA A h p fun ws S1 m1 H1 vs h1 A1 _ rv p1 => ⟨m1, ws, S1, r, A1.h, rv, h1, ?_⟩
  obtain ⟨r, S2⟩ := r
  cases r with
  | ok w => exact p1
  | ex w => exact p1
theorem rf_lookup {K : PySem.W.Frag} {fn : Nat → Str} {m : List Addr} {H : Hp} {n : Str} {x : Nat} (e : fn x = n) (inj : ∀ k, fn k = n → k = x) : ∀ {fs : List (Nat × W)} {ys : List (Str × V)} {w : W}, RF K fn m H fs ys → fs.lookup x = some w → ∃ v, ys.lookup n = some v ∧ RW K m H w v
  | _, _, _, .nil, h => by cases h
  | _, _, w, .cons (k := k) (w := w') (v := v') hw r, h => by
    by_cases hk : x = k
    · subst hk
      simp only [List.lookup, beq_self_eq_true] at h
      have e1 := Option.some.inj h
      subst e1
      refine ⟨v', ?_, hw⟩
      rw [e]
      simp [List.lookup]
    · have q : (x == k) = false := by simpa using hk
      simp only [List.lookup, q] at h
      obtain ⟨v, z1, z2⟩ := rf_lookup e inj r h
      have q2 : (n == fn k) = false := by
        have : ¬ n = fn k := fun z => hk (inj k z.symm).symm
        simpa using this
      exact ⟨v, by simp only [List.lookup, q2]; exact z1, z2⟩
theorem s_fld {x1 : Nat} {n : Str} (G : Good C Γ K hot X) (hn : K.mnm[x1]? = some n) (hb : noSup y = true) (ha : PE X y (rdE C Γ Wx a)) : PE X (.Attribute y n pos) (rdE C Γ Wx (.fld a x1)) := by
  refine pe_imp (pe_or2 (pe_fld ha (sup_base hb)) (G.xa Wx y a n pos x1 ha hb hn)) fun σ H Q ⟨m, ρ, S, r, A, h, p⟩ => ?_
  unfold ev at h
  cases hev : ev Γ a ρ S with
  | none => rw [hev] at h; cases h
  | some r1 =>
    obtain ⟨r1, S1⟩ := r1
    cases r1 with
    | ex x =>
      rw [hev] at h
      have e := Option.some.inj h
      subst e
      exact .inl ⟨m, ρ, S, _, A, hev, p⟩
    | ok w =>
      rw [hev, bnd_ok] at h
      split at h
      · rename_i u hu
        unfold fldW at hu
        split at hu
        · rename_i k
          split at hu
          · rename_i c fs hS
            split at hu
            · rename_i hf
              refine .inl ⟨m, ρ, S, _, A, hev, fun m1 H1 v R1 e1 rv => ?_⟩
              cases rv with
              | loc hk =>
                obtain ⟨f1, f2, f3⟩ := G.fld c x1 n hf hn
                obtain ⟨dx, zs, z1, z2⟩ := R1.cell _ _ _ hk hS
                obtain ⟨v, z3, z4⟩ := rf_lookup f1 (fun k => G.inj x1 k n hn) z2 hu
                exact ⟨_, _, dx, zs, v, rfl, z1, f2, f3, z3, (p.go e1).rok h R1 z4⟩
            · cases hu
          · rename_i c fs hS
            split at hu
            · rename_i hf
              refine .inr ⟨m, ρ, S, _, A, hev, fun m1 H1 v R1 e1 rv => ?_⟩
              cases rv with
              | loc hk =>
                obtain ⟨d, z1, zc, z2⟩ := R1.cell _ _ _ hk hS
                obtain ⟨f1, f2⟩ := G.flx c x1 n zc hf hn
                rcases z2 with ⟨z2, _⟩ | ⟨dd, zs, z2, z3, z4, _⟩
                · rw [z2] at hu
                  cases hu
                · obtain ⟨v, z5, z6⟩ := rf_lookup f1 (fun k => G.inj x1 k n hn) z4 hu
                  exact ⟨_, c, d, dd, zs, v, rfl, z1, zc, hf, z2, z3, z5, (p.go e1).rok h R1 z6⟩
            · cases hu
          · cases hu
        · cases hu
      · cases h
/-! ### isinstance -/
theorem isa_b (G : Good C Γ K hot X) {t : Isa} {x : Str} (hx : isaNm K.cnm t = some x) (T : Ty) : PySem.W.kitOne C.K (.type (tyN T)) (isaU C t) = some (isaT T t) := by
  cases t with
  | own c =>
    have e : isaT T (.own c) = false := by cases T <;> rfl
    rw [e]
    exact G.kt T c x hx
  | _ => cases T <;> exact kit_ty (by decide +kernel)
theorem isaW_ok {m : List Addr} {S : Store} {H : Hp} {w : W} {v : V} {t : Isa} {x : Str} {k : Bool} {Q : VK} (G : Good C Γ K hot X) (hx : isaNm K.cnm t = some x) (R : RelH C m S H) (rv : RW C.K m H w v) (e : isaW Γ S w t = some k) (q : Q (.bl k) H) : rIs C [v, isaV C t] H Q := by
  have base : ∀ {T : Ty}, TyX C.K H v (.type (tyN T)) → some (isaT T t) = some k → rIs C [v, isaV C t] H Q := fun {T} ty e => by
    have e1 := Option.some.inj e
    subst e1
    exact .inl ⟨_, _, _, _, _, rfl, isa_cls C t, ty, isa_b G hx T, q⟩
  unfold isaW at e
  cases rv with
  | non => exact base (T := .non) (.base .non) e
  | bl b => exact base (T := .bl) (.base (.bl b)) e
  | int b => exact base (T := .int) (.base (.int b)) e
  | str b => exact base (T := .str) (.base (.str b)) e
  | tup h r =>
    refine base (T := .tup) ?_ e
    rcases h with (h | ⟨o, h⟩) | ⟨o, its, n, h1, h2, _⟩
    · exact .base (.tup h)
    · exact .fTuple h
    · exact .kTuple h1 h2
  | loc h =>
    split at e
    any_goals contradiction
    · rename_i n hn
      have hn' := W.loc.inj hn
      subst hn'
      split at e
      · rename_i ws hS
        obtain ⟨xs, z1, z2⟩ := R.cell _ _ _ h hS
        exact base (T := .lst) (.base (.lst z1)) e
      · rename_i ws hS
        obtain ⟨xs, z1, z2⟩ := R.cell _ _ _ h hS
        refine base (T := .lst) ?_ e
        rcases z1 with ⟨o, z1⟩ | ⟨o, its, n, h1, h2, _⟩
        · exact .base (.frz z1)
        · exact .kList h1 h2
      · rename_i ws hS
        obtain ⟨xs, z1, z2⟩ := R.cell _ _ _ h hS
        exact base (T := .dct) (.base (.dK z1)) e
      · rename_i c fs hS
        split at e
        case isFalse => cases e
        rename_i hfs
        have e1 := Option.some.inj e
        subst e1
        obtain ⟨d, z1, zc, z2⟩ := R.cell _ _ _ h hS
        rcases z2 with ⟨z2, z3⟩ | ⟨dd, ys, z3, z4, z5, z6⟩
        · subst z3
          exact .inr ⟨_, _, t, _, rfl, z1, zc, G.xk c t x hx zc, q⟩
        · exact absurd hfs z6
      · cases e
theorem s_isi {t : Isa} {n : Str} (G : Good C Γ K hot X) (hx : isaNm K.cnm t = some n) (hg : Gl X "isinstance") (hn : Gl X n) (hd : (n == ("__debug__" : Str)) = false) (h1 : noStar y = true) (ha : PE X y (rdE C Γ Wx a)) :
    PE X (.Call (.Name "isinstance" p) [y, .Name n p2] [] pos) (rdE C Γ Wx (.isi a t)) := by
  have nm : PE X (.Name n p2) (tC (isaV C t)) := by
    have bl : ∀ {s : String}, n = Str.ofString s → Str.ofString s ∈ bnames → bootBuiltins (Str.ofString s) = some (.type s) → isaV C t = .ty s → Str.ofString s ≠ "__name__" → PE X (.Name n p2) (tC (isaV C t)) := fun {s} e hb hv ev hne => by
      rw [e] at hn hd ⊢
      rw [ev]
      exact pe_bltn hn (G.bn _ hb) hv (show RelV (.ty s) (.type s) from rfl) hne hd
    cases t with
    | own c => exact pe_glob hn (G.cls c n hx) (isa_rel C _) hd
    | int => exact bl (s := "int") (Option.some.inj hx).symm (by simp [bnames]) boot_int rfl (by decide)
    | bool => exact bl (s := "bool") (Option.some.inj hx).symm (by simp [bnames]) boot_bool rfl (by decide)
    | str => exact bl (s := "str") (Option.some.inj hx).symm (by simp [bnames]) boot_str rfl (by decide)
    | tuple => exact bl (s := "tuple") (Option.some.inj hx).symm (by simp [bnames]) boot_tuple rfl (by decide)
    | list => exact bl (s := "list") (Option.some.inj hx).symm (by simp [bnames]) boot_list rfl (by decide)
    | dict => exact bl (s := "dict") (Option.some.inj hx).symm (by simp [bnames]) (by decide +kernel) rfl (by decide)
    | ve => exact bl (s := "ValueError") (Option.some.inj hx).symm (by simp [bnames]) (by decide +kernel) rfl (by decide)
  refine pe_imp (pe_callB G.isi hg (G.bn _ (by simp [bnames])) boot_isinstance (pa_cons ha (pa_cons nm pa_nil (star_cons rfl)) (star_cons h1)) (by decide) (by decide) (star_cons h1) (star_plain (es := [.Name n p2]) rfl)) fun σ H Q ⟨m, ρ, S, r, A, h, p⟩ => ?_
  unfold ev at h
  refine rd_step A h p fun w S1 m1 H1 v h1 A1 _ rv p1 => ?_
  split at h1
  · rename_i k hk
    exact isaW_ok G hx A1.h rv hk (p1.rok h1 A1.h (.bl k))
  · cases h1
end
end Ip

/-! IpSnd6: methods, instances, walks, comprehensions. Written by an AI agent. -/
namespace Ip
open PySem PySem.Spec PyProof.Rows L2
theorem mcall_eval {o : Expr} {es : List Expr} {m : Str} {apos pos : Pos} {env : PySem.Env} (hb : noSup o = true) (hl : (apos.endLine == pos.line) = true) (hs : es.all noStar = true) (h30 : es.length < 30) :
    eval (.Call (.Attribute o m apos) es [] pos) env = (do
      let ov ← eval o env
      standAt apos.atName
      let (f, first) ← holding [ov] (getMethod ov m (plainOf o env))
      callWith pos f first (backTo pos (starEach es env)) (backToKw pos (keywordEach [] env))) := by
  have e : eval (.Call (.Attribute o m apos) es [] pos) env = (do
    let ov ← attributeBase o m env (eval o env)
    standAt apos.atName
    methodCall o m apos pos env ov (es.length + ([] : List Keyword).length) (backTo pos (starEach es env)) (backToKw pos (keywordEach [] env))) := rfl
  have hf : methodCallForm (es.length + ([] : List Keyword).length) (backTo pos (starEach es env)) (backToKw pos (keywordEach [] env)) = true := by
    unfold methodCallForm
    rw [star_few hs]
    have e1 : (backToKw pos (keywordEach [] env)).all (fun x => x.1.isSome) = true := rfl
    rw [e1]
    have e2 : (backToKw pos (keywordEach [] env)).isEmpty = true := rfl
    rw [e2]
    exact decide_eq_true h30
  rw [e, sup_base hb]
  congr 1
  funext ov
  congr 1
  funext _
  exact mcall_line hf hl
theorem rf_none {K : PySem.W.Frag} {fn : Nat → Str} {m : List Addr} {H : Hp} {n : Str} {x : Nat} (inj : ∀ k, fn k = n → k = x) : ∀ {fs : List (Nat × W)} {ys : List (Str × V)}, RF K fn m H fs ys → fs.lookup x = none → ys.lookup n = none
  | _, _, .nil, _ => rfl
  | _, _, .cons (k := k) hw r, h => by
    by_cases hk : x = k
    · subst hk
      simp [List.lookup] at h
    · have q : (x == k) = false := by simpa using hk
      simp only [List.lookup, q] at h
      have q2 : (n == fn k) = false := by
        have : ¬ n = fn k := fun z => hk (inj k z.symm).symm
        simpa using this
      simp only [List.lookup, q2]
      exact rf_none inj r h
section
variable {C : Cf} {Γ : Gam} {Wx : WX} {K : Ck} {hot : Bool} {X : Cx} {a b c d : Ex} {x y z t : Expr} {es : List Ex} {ys : List Expr} {pos p ap p2 : Pos}
theorem s_meth {mi : Nat} {n : Str} (G : Good C Γ K false X) (tk : L2N.Takes X Wx) (hn : K.mnm[mi]? = some n) (ho : PE X x (rdE C Γ Wx a)) (hb : noSup x = true) (hl : (ap.endLine == p.line) = true) (h30 : ys.length < 30) (h : PEs C Γ Wx X es ys) :
    PE X (.Call (.Attribute x n ap) ys [] p) (rdE C Γ Wx (.meth a mi es)) := by
  refine ⟨fun pins s σ H Q I q => ?_⟩
  obtain ⟨m, ρ, S, r, A, h1, p1⟩ := q
  unfold ev at h1
  -- the receiver's class
  cases hev : ev Γ a ρ S with
  | none => rw [hev] at h1; cases h1
  | some r1 =>
    obtain ⟨r1, S1⟩ := r1
    cases r1 with
    | ex x' =>
      -- the receiver raises: any rule of a built-in's method will do
      rw [hev] at h1
      have e := Option.some.inj h1
      subst e
      refine PySem.W.methodCall_KW (pl := plainOf x X.env) (thn (ho.run pins s σ H (fun _ _ => False) I ⟨m, ρ, S, _, A, hev, p1⟩) fun u s1 hh => ?_) (mcall_eval hb hl h.noStar h30)
      obtain ⟨_, _, _, _, z⟩ := hh
      exact z.elim
    | ok w =>
      rw [hev, bnd_ok] at h1
      split at h1
      · rename_i k
        split at h1
        · rename_i c fs hS
          split at h1
          · rename_i f hlk hmt
            obtain ⟨fa, fd, ps, kk, g1, g2, g3, g4, g5⟩ := G.meth rfl c mi f n hmt hn
            have rd : rdE C Γ Wx a σ H fun v H1 => ∃ a' dx fs', v = .ref a' ∧ H1 a' = some (.ins (C.cl c) dx fs') ∧ fs'.lookup n = none ∧ rdA C Γ Wx es σ H1 fun vs H2 => spG C (Γ.call f) (v :: vs) H2 Q (WE Wx σ) := by
              refine ⟨m, ρ, S, _, A, hev, fun m1 H1 v R1 e1 rv => ?_⟩
              cases rv with
              | loc hk =>
                obtain ⟨dx, zs, z1, z2⟩ := R1.cell _ _ _ hk hS
                refine ⟨_, dx, zs, rfl, z1, rf_none (fun k => G.inj mi k n hn) z2 hlk, rd_stepA (A.go R1 e1) h1 (p1.go e1) fun ws S2 m2 H2 vs h3 A2 e2 rs p2 => ?_⟩
                refine ⟨m2, .loc k :: ws, S2, r, A2.h, .cons (.loc (e2.at hk)) rs, h3, ?_⟩
                obtain ⟨r, S3⟩ := r
                cases r with
                | ok w => exact p2
                | ex w => exact p2
            cases h with
            | nil =>
              refine (pe_methS0 (E := WE Wx) ho g1 g2 g5 g4 g3 (fun σ => L2N.passAt tk σ) (mcall_eval hb hl rfl h30)).run pins s σ H Q I ?_
              obtain ⟨m', ρ', S', r', A', h', p'⟩ := rd
              refine ⟨m', ρ', S', r', A', h', ?_⟩
              obtain ⟨r', S3⟩ := r'
              cases r' with
              | ex x => exact p'
              | ok w =>
                intro m2 H2 v R2 e2 rv
                obtain ⟨q1, q2, q3, q4, q5, q6, m3, ρ3, S4, r4, A4, h4, p4⟩ := p' m2 H2 v R2 e2 rv
                refine ⟨q1, q2, q3, q4, q5, q6, ?_⟩
                unfold evs at h4
                exact p4.rokA h4 A4.h .nil
            | cons he hs hset hr =>
              have hall := (PEs.cons he hs hset hr).noStar
              have hall2 := hall
              rw [List.all_cons, Bool.and_eq_true] at hall2
              exact (pe_methS (E := WE Wx) ho g1 g2 g5 g4 g3 (fun σ => L2N.passAt tk σ) (PEs.cons he hs hset hr).pa (star_cons hall2.1) (star_plain hall2.2) (mcall_eval hb hl hall h30)).run pins s σ H Q I rd
          · cases h1
        · cases h1
      · cases h1
theorem s_callc {ci mi : Nat} {cn n : Str} {e : Ex} (G : Good C Γ K false X) (tk : L2N.Takes X Wx) (hc : K.cnm[ci]? = some cn) (hs : ci ∈ K.sups) (hn : K.mnm[mi]? = some n) (hg : Gl X cn) (hd : (cn == ("__debug__" : Str)) = false) (hl : (ap.endLine == p.line) = true) (h30 : (y :: ys).length < 30) (h : PEs C Γ Wx X (e :: es) (y :: ys)) :
    PE X (.Call (.Attribute (.Name cn p2) n ap) (y :: ys) [] p) (rdE C Γ Wx (.callc ci mi (e :: es))) := by
  cases hf : Γ.mt ci mi with
  | none => exact ⟨fun pins s σ H Q I ⟨m, ρ, S, r, A, h', _⟩ => by
      unfold ev at h'
      rw [hf] at h'
      cases h'⟩
  | some f =>
    obtain ⟨fa, fd, ps, k, g1, g2, g3, g4, g5, g6⟩ := G.csm rfl ci mi f n hs hf hn
    have hall := h.noStar
    have hall2 := hall
    rw [List.all_cons, Bool.and_eq_true] at hall2
    refine pe_imp (pe_clsS (E := WE Wx) (pl := plainOf (.Name cn p2) X.env) hg (G.cls ci cn hc) hd g1 g2 g3 g6 g5 g4 (fun σ => L2N.passAt tk σ) h.pa (star_cons hall2.1) (star_plain hall2.2) (mcall_eval rfl hl hall h30)) fun σ H Q ⟨m, ρ, S, r, A, h, p⟩ => ?_
    unfold ev at h
    rw [hf] at h
    refine rd_stepA A h p fun ws S1 m1 H1 vs h1 A1 _ rv p1 => ⟨m1, ws, S1, r, A1.h, rv, h1, ?_⟩
    obtain ⟨r, S2⟩ := r
    cases r with
    | ok w => exact p1
    | ex w => exact p1
theorem s_mk {ci : Nat} {n : Str} (G : Good C Γ K false X) (tk : L2N.Takes X Wx) (hn : K.cnm[ci]? = some n) (hm : ci ∈ K.mks) (hg : Gl X n) (hd : (n == ("__debug__" : Str)) = false) (h : PEs C Γ Wx X es ys) : PE X (.Call (.Name n p) ys [] pos) (rdE C Γ Wx (.mk ci es)) := by
  obtain ⟨fI, fd, ps, k, init, g1, g2, g3, g4, g5⟩ := G.make rfl ci n hn hm
  have gc := G.cls ci n hn
  have core : ∀ {m : List Addr} {S S1 : Store} {H H1 : Hp} {ρ : Env} {σ : L2.St} {r : Rs W × Store} {Q : VK} {ws : List W} {vs : List V}, Γ.make ci ws S1 = some r → At C m S1 H1 ρ σ → RWs C.K m H1 ws vs → PG (RW C.K) C Wx m S1 H1 σ r Q →
      ∀ x dx, H1 x = none → H1 dx = none → dx ≠ x → spG C init (.ref x :: vs) (upd (upd H1 dx (.own x)) x (.ins (C.cl ci) dx [])) (fun v H2 => v = .non ∧ Q (.ref x) H2) (WE Wx σ) := fun {m S S1 H H1 ρ σ r Q ws vs} h A rs p x dx hx hdx hne => by
    have n1 := A.h.tuple (o := .own x) hdx rfl
    have hx1 : upd H1 dx (.own x) x = none := by rw [upd_ne (Ne.symm hne)]; exact hx
    have n2 := n1.1.new (c := .ins ci []) (o := .ins (C.cl ci) dx []) hx1 rfl ⟨dx, [], upd_same, .nil⟩
    have ext := n1.2.trans n2.2
    rw [g5] at h
    obtain ⟨r1, h1, p1⟩ := pg_bnd (Rl := RW C.K) (Q' := fun v H2 => v = .non ∧ Q (.ref x) H2) h (p.go ext) fun w S2 m2 H2 v _ z1 z2 z3 z4 z5 => by
      cases z4 with
      | non => exact ⟨rfl, z5.rok z1 z2 (.loc (z3.at (by rw [← A.h.len]; simp)))⟩
      | _ => cases z1
    refine ⟨m ++ [x], .loc S1.length :: ws, S1 ++ [.ins ci []], r1, n2.1, .cons (.loc (by rw [← A.h.len]; simp)) (rs.mono ext), h1, ?_⟩
    obtain ⟨r1, S3⟩ := r1
    cases r1 with
    | ok w => exact p1
    | ex w => exact p1
  cases h with
  | nil =>
    refine pe_imp (pe_makeS0 (E := WE Wx) g1 g4 g3 hg gc g2 (fun σ => L2N.passAt tk σ) hd) fun σ H Q ⟨m, ρ, S, r, A, h, p⟩ => ?_
    unfold ev at h
    unfold evs at h
    exact core (S := S) (H := H) h A .nil p
  | cons he hs hset hr =>
    have hall := (PEs.cons he hs hset hr).noStar
    rw [List.all_cons, Bool.and_eq_true] at hall
    refine pe_imp (pe_makeS (E := WE Wx) g1 g4 g3 hg gc g2 (fun σ => L2N.passAt tk σ) (PEs.cons he hs hset hr).pa hd (star_cons hall.1) (star_plain hall.2)) fun σ H Q ⟨m, ρ, S, r, A, h, p⟩ => ?_
    unfold ev at h
    exact rd_stepA A h p fun ws S1 m1 H1 vs h1 A1 _ rv p1 => core (S := S) (H := H) h1 A1 rv p1
end

/-! ### walks -/
/-- what an iterator gives is what the source gives -/
def Wlk (C : Cf) (m0 : List Addr) (S0 : Store) (H0 : Hp) (src : Src) (J : It) : Prop :=
  ∀ m S H, RelH C m S H → Ext m0 S0 H0 m S H → ∀ i, (∀ w, srcAt S i src = some (some w) → J.go i H ∧ ∀ x H', J.yld i H x H' → RelH C m S H' ∧ Ext m S H m S H' ∧ RW C.K m H' w x) ∧ (srcAt S i src = some none → J.stop i H)
section
variable {C : Cf} {Γ : Gam} {Wx : WX} {K : Ck} {hot : Bool} {X : Cx} {a b c d : Ex} {x y z t : Expr} {es : List Ex} {ys : List Expr} {pos p ap p2 : Pos}
theorem wlk_list {m0 : List Addr} {S0 : Store} {H0 : Hp} {n : Nat} {a : Addr} (h : m0[n]? = some a) : Wlk C m0 S0 H0 (.live n) (Itl C.K a) := fun m S H R e i => by
  have ha := e.at h
  refine ⟨fun w hw => ?_, fun hw => ?_⟩
  · obtain ⟨ws, h1, h2⟩ := Option.map_eq_some_iff.mp hw
    obtain ⟨xs, z1, z2⟩ := R.listAt ha h1
    obtain ⟨v, z3, z4⟩ := z2.get h2
    refine ⟨⟨xs, v, z1, z3⟩, fun x H' y => ?_⟩
    obtain ⟨e1, y⟩ := y
    subst e1
    have := y xs z1
    rw [z3] at this
    have e2 := Option.some.inj this
    subst e2
    exact ⟨R, Ext.refl, z4⟩
  · obtain ⟨ws, h1, h2⟩ := Option.map_eq_some_iff.mp hw
    obtain ⟨xs, z1, z2⟩ := R.listAt ha h1
    exact ⟨xs, z1, List.getElem?_eq_none_iff.mp (z2.none_of h2)⟩
theorem wlk_enum {m0 : List Addr} {S0 : Store} {H0 : Hp} {n : Nat} {a : Addr} (h : m0[n]? = some a) : Wlk C m0 S0 H0 (.enum n) (Ite C.K a) := fun m S H R e i => by
  have ha := e.at h
  refine ⟨fun w hw => ?_, fun hw => ?_⟩
  · obtain ⟨ws, h1, h2⟩ := Option.map_eq_some_iff.mp hw
    obtain ⟨w', h3, h4⟩ := Option.map_eq_some_iff.mp h2
    subst h4
    obtain ⟨xs, z1, z2⟩ := R.listAt ha h1
    obtain ⟨v, z3, z4⟩ := z2.get h3
    refine ⟨⟨xs, v, z1, z3⟩, fun x H' y => ?_⟩
    obtain ⟨T, x', e1, hT, e2, y⟩ := y
    subst e1 e2
    have := y xs z1
    rw [z3] at this
    have e2 := Option.some.inj this
    subst e2
    have n1 := R.tuple (o := .tup [.int (i : Nat), v]) hT rfl
    exact ⟨n1.1, n1.2, .tup (SqT.of upd_same) (.cons (.int _) (.cons (z4.mono n1.2) .nil))⟩
  · obtain ⟨ws, h1, h2⟩ := Option.map_eq_some_iff.mp hw
    have h3 : ws[i]? = none := by
      cases q : ws[i]? with
      | none => rfl
      | some w => rw [q] at h2; cases h2
    obtain ⟨xs, z1, z2⟩ := R.listAt ha h1
    exact ⟨xs, z1, List.getElem?_eq_none_iff.mp (z2.none_of h3)⟩
theorem wlk_tup {m0 : List Addr} {S0 : Store} {H0 : Hp} {a : Addr} {ws : List W} {xs : List V} (h : SqT C.K H0 a xs) (r : RWs C.K m0 H0 ws xs) : Wlk C m0 S0 H0 (.fixed ws) (Itt C.K a) := fun m S H R e i => by
  have h1 := e.sqT h
  have r1 := r.mono e
  refine ⟨fun w hw => ?_, fun hw => ?_⟩
  · obtain ⟨v, z3, z4⟩ := r1.get (Option.some.inj hw)
    refine ⟨⟨xs, v, h1, z3⟩, fun x H' y => ?_⟩
    obtain ⟨e1, y⟩ := y
    subst e1
    have := y xs h1
    rw [z3] at this
    have e2 := Option.some.inj this
    subst e2
    exact ⟨R, Ext.refl, z4⟩
  · exact ⟨xs, h1, List.getElem?_eq_none_iff.mp (r1.none_of (Option.some.inj hw))⟩
theorem wlk_str {m0 : List Addr} {S0 : Store} {H0 : Hp} {z : Str} : Wlk C m0 S0 H0 (.fixed (z.cps.toList.map fun c => .str ⟨#[c]⟩)) (Its z) := fun m S H R e i => by
  refine ⟨fun w hw => ?_, fun hw => ?_⟩
  · have h1 := Option.some.inj hw
    rw [List.getElem?_map] at h1
    obtain ⟨c, h2, h3⟩ := Option.map_eq_some_iff.mp h1
    subst h3
    have h4 : z.cps[i]? = some c := by simpa using h2
    refine ⟨(Array.getElem?_eq_some_iff.mp h4).1, fun x H' y => ?_⟩
    obtain ⟨e1, c', h5, h6⟩ := y
    subst e1 h6
    rw [h4] at h5
    have e2 := Option.some.inj h5
    subst e2
    exact ⟨R, Ext.refl, .str _⟩
  · have h1 := Option.some.inj hw
    have := List.getElem?_eq_none_iff.mp h1
    show z.cps.size ≤ i
    simpa using this
theorem wlk_rng {m0 : List Addr} {S0 : Store} {H0 : Hp} {lo : Int} {n : Nat} : Wlk C m0 S0 H0 (.fixed ((List.range n).map fun (i : Nat) => .int (lo + (i : Int)))) (Itr lo n) := fun m S H R e i => by
  refine ⟨fun w hw => ?_, fun hw => ?_⟩
  · have h1 := Option.some.inj hw
    rw [List.getElem?_map] at h1
    obtain ⟨c, h2, h3⟩ := Option.map_eq_some_iff.mp h1
    subst h3
    obtain ⟨h4, h5⟩ := List.getElem?_eq_some_iff.mp h2
    rw [List.length_range] at h4
    rw [List.getElem_range] at h5
    subst h5
    refine ⟨h4, fun x H' y => ?_⟩
    obtain ⟨e1, h6⟩ := y
    subst e1 h6
    exact ⟨R, Ext.refl, .int _⟩
  · have h1 := List.getElem?_eq_none_iff.mp (Option.some.inj hw)
    show n ≤ i
    simpa using h1
/-- the reading of what is walked -/
def rdI (C : Cf) (Γ : Gam) (Wx : WX) (k : Ik) (es : List Ex) : TI := fun σ H R => ∃ m ρ S r, At C m S H ρ σ ∧ evs Γ es ρ S = some r ∧
  match r with
  | (.ok ws, S1) => ∃ src, srcOf k S1 ws = some src ∧ ∀ m1 H1 J, RelH C m1 S1 H1 → Ext m S H m1 S1 H1 → Wlk C m1 S1 H1 src J → R J H1
  | (.ex x, S1) => ∀ m' H' cls d, RelH C m' S1 H' → Ext m S H m' S1 H' → RX C m' H' x cls d → Wx cls d σ H'
theorem pi_imp {tg : Expr} {wi wi' : TI} (h : PI X tg x wi) (i : ∀ σ H R, wi' σ H R → wi σ H R) : PI X tg x wi' := ⟨fun pins s σ H R I q => h.run pins s σ H R I (i σ H R q)⟩
theorem evs_one {ρ : Env} {S : Store} {e : Ex} {r : Rs (List W) × Store} (h : evs Γ [e] ρ S = some r) : ∃ r1, ev Γ e ρ S = some r1 ∧ match r1 with
    | (.ok w, S1) => r = (.ok [w], S1)
    | (.ex x, S1) => r = (.ex x, S1) := by
  unfold evs at h
  unfold evs at h
  cases he : ev Γ e ρ S with
  | none => rw [he] at h; cases h
  | some r1 =>
    obtain ⟨r1, S1⟩ := r1
    rw [he] at h
    cases r1 with
    | ok w =>
      have e := Option.some.inj h
      exact ⟨_, rfl, e.symm⟩
    | ex w =>
      have e := Option.some.inj h
      exact ⟨_, rfl, e.symm⟩
theorem i_val {tg : Expr} {e : Ex} (hK : X.K = C.K) (h : PE X x (rdE C Γ Wx e)) : PI X tg x (rdI C Γ Wx .val [e]) := by
  refine ⟨fun pins s σ H R I q => ?_⟩
  obtain ⟨m, ρ, S, r, A, h1, p⟩ := q
  obtain ⟨r1, h2, h3⟩ := evs_one h1
  obtain ⟨r1, S1⟩ := r1
  cases r1 with
  | ex w =>
    subst h3
    exact (pi_list h).run pins s σ H R I ⟨m, ρ, S, _, A, h2, p⟩
  | ok w =>
    subst h3
    obtain ⟨src, h4, p⟩ := p
    unfold srcOf at h4
    split at h4
    · rename_i ws hk hw
      cases hw
      have e4 := Option.some.inj h4
      subst e4
      refine (pi_tup h).run pins s σ H R I ⟨m, ρ, S, _, A, h2, fun m1 H1 v R1 e1 rv => ?_⟩
      rw [hK]
      cases rv with
      | tup z1 z2 => exact ⟨_, rfl, ⟨_, z1⟩, p m1 H1 _ R1 e1 (wlk_tup z1 z2)⟩
    · rename_i ws hk hw
      cases hw
      have e4 := Option.some.inj h4
      subst e4
      refine (pi_str h).run pins s σ H R I ⟨m, ρ, S, _, A, h2, fun m1 H1 v R1 e1 rv => ?_⟩
      cases rv
      exact ⟨_, rfl, p m1 H1 _ R1 e1 wlk_str⟩
    · rename_i n hk hw
      cases hw
      split at h4
      · rename_i ws hS
        have e4 := Option.some.inj h4
        subst e4
        refine (pi_list h).run pins s σ H R I ⟨m, ρ, S, _, A, h2, fun m1 H1 v R1 e1 rv => ?_⟩
        rw [hK]
        cases rv with
        | loc hn =>
          obtain ⟨xs, z1, z2⟩ := R1.listAt hn hS
          exact ⟨_, rfl, ⟨xs, z1⟩, p m1 H1 _ R1 e1 (wlk_list hn)⟩
      · cases h4
    all_goals (first | contradiction | (rename_i hk _; cases hk) | skip)
theorem i_range1 {tg : Expr} {e : Ex} (hg : Gl X "range") (hm : X.mg "range" = none) (h : PEs C Γ Wx X [e] [x]) : PI X tg (.Call (.Name "range" p) [x] [] pos) (rdI C Γ Wx .range1 [e]) := by
  have hs := h.noStar
  rw [List.all_cons, Bool.and_eq_true] at hs
  refine pi_imp (pi_range1 hg hm h.pa (star_cons hs.1)) fun σ H R ⟨m, ρ, S, r, A, h1, p⟩ => ?_
  obtain ⟨r, S1⟩ := r
  cases r with
  | ex w => exact ⟨m, ρ, S, _, A, h1, p⟩
  | ok ws =>
    obtain ⟨src, h4, p⟩ := p
    refine ⟨m, ρ, S, _, A, h1, fun m1 H1 vs R1 e1 rs => ?_⟩
    unfold srcOf at h4
    split at h4
    all_goals (first | contradiction | skip)
    · rename_i j hw
      cases hw
      split at h4
      · rename_i hj
        have e4 := Option.some.inj h4
        subst e4
        cases rs with
        | cons r1 r2 =>
          cases r2; cases r1
          exact ⟨j, rfl, hj.1, hj.2, p m1 H1 _ R1 e1 wlk_rng⟩
      · cases h4
theorem i_range2 {tg : Expr} {e f : Ex} (hg : Gl X "range") (hm : X.mg "range" = none) (h : PEs C Γ Wx X [e, f] [x, y]) : PI X tg (.Call (.Name "range" p) [x, y] [] pos) (rdI C Γ Wx .range2 [e, f]) := by
  have hs := h.noStar
  rw [List.all_cons, List.all_cons, Bool.and_eq_true, Bool.and_eq_true] at hs
  have h2 : starEach [y] X.env = [(false, eval y X.env)] := star_cons hs.2.1
  refine pi_imp (pi_range2 hg hm h.pa (by rw [star_cons hs.1, h2]) h2) fun σ H R ⟨m, ρ, S, r, A, h1, p⟩ => ?_
  obtain ⟨r, S1⟩ := r
  cases r with
  | ex w => exact ⟨m, ρ, S, _, A, h1, p⟩
  | ok ws =>
    obtain ⟨src, h4, p⟩ := p
    refine ⟨m, ρ, S, _, A, h1, fun m1 H1 vs R1 e1 rs => ?_⟩
    unfold srcOf at h4
    split at h4
    all_goals (first | contradiction | skip)
    · rename_i i j hw
      cases hw
      split at h4
      · rename_i hj
        have e4 := Option.some.inj h4
        subst e4
        cases rs with
        | cons r1 r2 =>
          cases r1
          cases r2 with
          | cons r1 r2 =>
            cases r2; cases r1
            exact ⟨i, j, rfl, ⟨hj.1, hj.2.1, hj.2.2.1, hj.2.2.2⟩, p m1 H1 _ R1 e1 wlk_rng⟩
      · cases h4
theorem i_enum {elts : List Expr} {kk : Nat} {tpos : Pos} {e : Ex} (hK : X.K = C.K) (hg : Gl X "enumerate") (hm : X.mg "enumerate" = none) (h : PEs C Γ Wx X [e] [x]) : PI X (.Tuple elts kk tpos) (.Call (.Name "enumerate" p) [x] [] pos) (rdI C Γ Wx .enum [e]) := by
  have hs := h.noStar
  rw [List.all_cons, Bool.and_eq_true] at hs
  refine pi_imp (pi_enum hg hm h.pa (star_cons hs.1)) fun σ H R ⟨m, ρ, S, r, A, h1, p⟩ => ?_
  obtain ⟨r, S1⟩ := r
  cases r with
  | ex w => exact ⟨m, ρ, S, _, A, h1, p⟩
  | ok ws =>
    obtain ⟨src, h4, p⟩ := p
    refine ⟨m, ρ, S, _, A, h1, fun m1 H1 vs R1 e1 rs => ?_⟩
    unfold srcOf at h4
    split at h4
    all_goals (first | contradiction | skip)
    · rename_i n hk hw
      cases hw
      split at h4
      · rename_i ws hS
        have e4 := Option.some.inj h4
        subst e4
        cases rs with
        | cons r1 r2 =>
          cases r2
          cases r1 with
          | loc hn =>
            obtain ⟨xs, z1, z2⟩ := R1.listAt hn hS
            exact ⟨_, xs, rfl, by rw [hK]; exact z1, by rw [hK]; exact p m1 H1 _ R1 e1 (wlk_enum hn)⟩
      · cases h4
end
end Ip

/-! IpSnd7: targets, comprehensions. Written by an AI agent. -/
namespace Ip
open PySem PySem.Spec PyProof.Rows L2

/-! ### a heap whose things that stand are kept -/
section
variable {K : PySem.W.Frag} {C : Cf} {m m0 : List Addr} {S S0 : Store} {H H' H0 : Hp} {fn : Nat → Str}
def Imm (H H' : Hp) : Prop := ∀ a o, H a = some o → isM o = false → H' a = some o
theorem Imm.sqT (e : Imm H H') {a : Addr} {xs : List V} (h : SqT K H a xs) : SqT K H' a xs := by
  rcases h with (h | ⟨o, h⟩) | h
  · exact .inl (.inl (e _ _ h rfl))
  · exact .inl (.inr ⟨o, e _ _ h rfl⟩)
  · exact .inr h
mutual
theorem RW.imm (e : Imm H H') : ∀ {w : W} {v : V}, RW K m H w v → RW K m H' w v
  | _, _, .non => .non
  | _, _, .bl b => .bl b
  | _, _, .int i => .int i
  | _, _, .str x => .str x
  | _, _, .tup h r => .tup (e.sqT h) (RWs.imm e r)
  | _, _, .loc h => .loc h
theorem RWs.imm (e : Imm H H') : ∀ {w : List W} {v : List V}, RWs K m H w v → RWs K m H' w v
  | _, _, .nil => .nil
  | _, _, .cons h r => .cons (RW.imm e h) (RWs.imm e r)
end
theorem RF.imm (e : Imm H H') : ∀ {fs : List (Nat × W)} {ys : List (Str × V)}, RF K fn m H fs ys → RF K fn m H' fs ys
  | _, _, .nil => .nil
  | _, _, .cons h r => .cons (h.imm e) (RF.imm e r)
theorem RD.imm (e : Imm H H') : ∀ {fs : List (Key × W)} {ys : List (Key × V)}, RD K m H fs ys → RD K m H' fs ys
  | _, _, .nil => .nil
  | _, _, .cons h r => .cons (h.imm e) (RD.imm e r)
theorem RC.imm (e : Imm H H') {a : Addr} (same : ∀ o, isM o = true → H a = some o → H' a = some o) : ∀ {c : Cell}, c.mut = true → RC C m H a c → RC C m H' a c
  | .lst _, _, ⟨xs, h1, h2⟩ => ⟨xs, same _ rfl h1, h2.imm e⟩
  | .dct _, _, ⟨ys, h1, h2⟩ => ⟨ys, same _ rfl h1, h2.imm e⟩
  | .ins _ _, _, ⟨dx, ys, h1, h2⟩ => ⟨dx, ys, same _ rfl h1, h2.imm e⟩
theorem RC.immF (e : Imm H H') {a : Addr} : ∀ {c : Cell}, c.mut = false → RC C m H a c → RC C m H' a c
  | .fro _, _, ⟨xs, h1, h2⟩ => ⟨xs, h1.imp (fun ⟨o, z⟩ => ⟨o, e _ _ z rfl⟩) id, h2.imm e⟩
  | .exn _ _, _, ⟨d, h1, hc, h2⟩ => ⟨d, h1, hc, h2.imp id fun ⟨dd, ys, z1, z2, z3, z4⟩ => ⟨dd, ys, z1, e _ _ z2 rfl, z3.imm e, z4⟩⟩
  | .dead, _, _ => trivial
/-- a list beside the cells is written -/
theorem imm_touch {D : Addr} {l : List V} {o : HO} (h : H D = some (.lst l)) : Imm H (upd H D o) := fun a u hu hm => by
  have ne : a ≠ D := fun z => by
    subst z
    rw [h] at hu
    have e := Option.some.inj hu
    subst e
    cases hm
  rw [upd_ne ne]
  exact hu
theorem RelH.touch (R : RelH C m S H) {D : Addr} {l : List V} {o : HO} (h : H D = some (.lst l)) (hn : ¬ MA m S D) : RelH C m S (upd H D o) := by
  refine ⟨R.len, fun n a c h1 h2 => ?_, R.dis, R.exs⟩
  have r := R.cell n a c h1 h2
  cases hm : c.mut with
  | false => exact r.immF (imm_touch h) hm
  | true =>
    refine r.imm (imm_touch h) (fun u _ hu => ?_) hm
    have ne : a ≠ D := fun z => by
      subst z
      exact hn ⟨n, c, h1, h2, hm⟩
    rw [upd_ne ne]
    exact hu
theorem ext_touch (e : Ext m0 S0 H0 m S H) {D : Addr} {o : HO} (h0 : H0 D = none) : Ext m0 S0 H0 m S (upd H D o) := ⟨e.pre, fun a u h k => by
  obtain ⟨h1, h2⟩ := e.keep a u h k
  exact ⟨by rw [upd_ne (ne_of_none h h0)]; exact h1, h2⟩⟩
/-- it is taken in as a cell -/
theorem ext_adopt {D : Addr} {c : Cell} (hl : m.length = S.length) (e : Ext m0 S0 H0 m S H) (h0 : H0 D = none) : Ext m0 S0 H0 (m ++ [D]) (S ++ [c]) H := by
  obtain ⟨r, hr⟩ := e.pre
  refine ⟨⟨r ++ [D], by rw [hr, List.append_assoc]⟩, fun a u h k => ?_⟩
  obtain ⟨h1, h2⟩ := e.keep a u h k
  refine ⟨h1, fun hu z => ?_⟩
  obtain ⟨n, d, q1, q2, q3⟩ := z
  by_cases hn : n < m.length
  · rw [List.getElem?_append_left hn] at q1
    rw [List.getElem?_append_left (by rw [← hl]; exact hn)] at q2
    exact h2 hu ⟨n, d, q1, q2, q3⟩
  · rw [List.getElem?_append_right (by omega)] at q1
    have : n - m.length = 0 := by
      by_cases z : n - m.length = 0
      · exact z
      · rw [List.getElem?_eq_none (by simp; omega)] at q1
        cases q1
    rw [this] at q1
    have e1 : D = a := Option.some.inj q1
    subst e1
    rw [h0] at h
    cases h
theorem RelH.adopt (R : RelH C m S H) {D : Addr} {l : List V} {ws : List W} (h : H D = some (.lst l)) (hn : ¬ MA m S D) (r : RWs C.K m H ws l) : RelH C (m ++ [D]) (S ++ [.lst ws]) H ∧ RW C.K (m ++ [D]) H (.loc S.length) (.ref D) := by
  have old : ∀ {n : Nat}, n < S.length → (m ++ [D])[n]? = m[n]? ∧ (S ++ [Cell.lst ws])[n]? = S[n]? := fun {n} h => ⟨List.getElem?_append_left (by rw [R.len]; exact h), List.getElem?_append_left h⟩
  have last : ∀ {n : Nat} {d : Cell}, ¬ n < S.length → (S ++ [Cell.lst ws])[n]? = some d → n = S.length ∧ d = .lst ws := fun {n d} h q => by
    rw [List.getElem?_append_right (by omega)] at q
    have z : n - S.length = 0 := by
      by_cases z : n - S.length = 0
      · exact z
      · rw [List.getElem?_eq_none (by simp; omega)] at q
        cases q
    rw [z] at q
    exact ⟨by omega, (Option.some.inj q).symm⟩
  have lastm : (m ++ [D])[S.length]? = some D := by rw [← R.len]; simp
  have e : Ext m S H (m ++ [D]) (S ++ [Cell.lst ws]) H ∨ True := .inr trivial
  -- places stay
  have mono : ∀ {ws : List W} {l : List V}, RWs C.K m H ws l → RWs C.K (m ++ [D]) H ws l := fun {ws l} r => by
    have e0 : Ext m ([] : Store) H (m ++ [D]) ([] : Store) H := ⟨⟨[D], rfl⟩, fun a o h k => ⟨h, fun _ z => by
      obtain ⟨n, c, _, q, _⟩ := z
      simp at q⟩⟩
    exact r.mono e0
  have e0 : Ext m ([] : Store) H (m ++ [D]) ([] : Store) H := ⟨⟨[D], rfl⟩, fun a o h k => ⟨h, fun _ z => by
    obtain ⟨n, c, _, q, _⟩ := z
    simp at q⟩⟩
  refine ⟨⟨by rw [List.length_append, List.length_append, R.len]; rfl, fun n a d h1 h2 => ?_, fun n k a d f h1 h2 h3 h4 h5 h6 => ?_, fun n c' fs h => ?_⟩, .loc lastm⟩
  · by_cases hn : n < S.length
    · rw [(old hn).1] at h1
      rw [(old hn).2] at h2
      exact RC.mono e0 (fun _ u h _ => h) (R.cell n a d h1 h2)
    · obtain ⟨en, ed⟩ := last hn h2
      subst ed
      rw [en, lastm] at h1
      have e1 : D = a := Option.some.inj h1
      subst e1
      exact ⟨l, h, mono r⟩
  · have key : ∀ {n k : Nat} {d f : Cell}, n < S.length → ¬ k < S.length → (m ++ [D])[n]? = some a → (m ++ [D])[k]? = some a → (S ++ [Cell.lst ws])[n]? = some d → (S ++ [Cell.lst ws])[k]? = some f → d.mut = true → False := fun {n k d f} hn' hk h1 h2 h3 h4 h5 => by
      rw [(old hn').1] at h1
      rw [(old hn').2] at h3
      obtain ⟨ek, _⟩ := last hk h4
      rw [ek, lastm] at h2
      have e1 : D = a := Option.some.inj h2
      subst e1
      exact hn ⟨n, d, h1, h3, h5⟩
    by_cases hn' : n < S.length
    · by_cases hk : k < S.length
      · rw [(old hn').1] at h1
        rw [(old hk).1] at h2
        rw [(old hn').2] at h3
        rw [(old hk).2] at h4
        exact R.dis n k a d f h1 h2 h3 h4 h5 h6
      · exact (key hn' hk h1 h2 h3 h4 h5).elim
    · by_cases hk : k < S.length
      · exact (key hk hn' h2 h1 h4 h3 h6).elim
      · exact ((last hn' h3).1).trans ((last hk h4).1).symm
  · by_cases hn : n < S.length
    · rw [(old hn).2] at h
      exact R.exs n c' fs h
    · obtain ⟨_, ed⟩ := last hn h
      cases ed
end

/-! ### targets -/
def gT (K : PySem.W.Frag) : List Nat → TG
  | [i] => gName i
  | [i, j] => gTup K 2 (gCons (gName i) (gCons (gName j) gNil))
  | [i, j, k] => gTup K 3 (gCons (gName i) (gCons (gName j) (gCons (gName k) gNil)))
  | [i, j, k, l] => gTup K 4 (gCons (gName i) (gCons (gName j) (gCons (gName k) (gCons (gName l) gNil))))
  | _ => fun _ _ _ _ => False
/-- all but some slots -/
def RstX (K : PySem.W.Frag) (m : List Addr) (H : Hp) (vs : List Nat) (ρ : Env) (σ : L2.St) : Prop := ρ.length = σ.length ∧ ∀ (i : Nat) (w : W), i ∉ vs → ρ[i]? = some (some w) → ∃ v, σ[i]? = some (some v) ∧ RW K m H w v
theorem wipe_get {σ : L2.St} {i : Nat} : ∀ {vs : List Nat}, i ∉ vs → (wipe σ vs)[i]? = σ[i]?
  | [], _ => rfl
  | v :: vs, h => by
    unfold wipe
    rw [List.mem_cons, not_or] at h
    rw [List.getElem?_set_ne (fun e => h.1 e.symm)]
    exact wipe_get h.2
theorem wipe_in {σ : L2.St} {i : Nat} : ∀ {vs : List Nat}, i ∈ vs → i < σ.length → (wipe σ vs)[i]? = some none
  | v :: vs, h, hl => by
    unfold wipe
    by_cases hv : v = i
    · subst hv
      rw [List.getElem?_set_self (by rw [wipe_length]; exact hl)]
    · rw [List.getElem?_set_ne hv]
      rcases List.mem_cons.mp h with e | h
      · exact absurd e.symm hv
      · exact wipe_in h hl
theorem wipe_same {σ τ : L2.St} {vs : List Nat} (hl : σ.length = τ.length) (h : ∀ i, i ∉ vs → σ[i]? = τ[i]?) : wipe σ vs = wipe τ vs := by
  apply List.ext_getElem?
  intro i
  by_cases hi : i ∈ vs
  · by_cases hk : i < σ.length
    · rw [wipe_in hi hk, wipe_in hi (by rw [← hl]; exact hk)]
    · rw [List.getElem?_eq_none (by rw [wipe_length]; omega), List.getElem?_eq_none (by rw [wipe_length]; omega)]
  · rw [wipe_get hi, wipe_get hi]
    exact h i hi
section
variable {C : Cf} {m m' : List Addr} {S S' : Store} {H H' : Hp} {ρ ρ1 : Env} {σ : L2.St}
theorem Rst.x (r : Rst C.K m H ρ σ) {vs : List Nat} : RstX C.K m H vs ρ σ := ⟨r.1, fun i w _ h => r.2 i w h⟩
theorem RstX.all (r : RstX C.K m H [] ρ σ) : Rst C.K m H ρ σ := ⟨r.1, fun i w h => r.2 i w (by simp) h⟩
theorem Rst.wiped (r : Rst C.K m H ρ σ) {vs : List Nat} : RstX C.K m H vs ρ (wipe σ vs) := ⟨by rw [wipe_length]; exact r.1, fun i w hi h => by rw [wipe_get hi]; exact r.2 i w h⟩
theorem RstX.mono {vs : List Nat} (e : Ext m S H m' S' H') (r : RstX C.K m H vs ρ σ) : RstX C.K m' H' vs ρ σ := ⟨r.1, fun i w hi h => by
  obtain ⟨v, h1, h2⟩ := r.2 i w hi h
  exact ⟨v, h1, h2.mono e⟩⟩
theorem RstX.set {w : W} {v : V} {i : Nat} {vs : List Nat} (r : RstX C.K m H (i :: vs) ρ σ) (h : RW C.K m H w v) : RstX C.K m H vs (ρ.set i (some w)) (σ.set i (some v)) := by
  refine ⟨by rw [List.length_set, List.length_set]; exact r.1, fun j u hj hu => ?_⟩
  by_cases hj' : i = j
  · subst hj'
    by_cases hl : i < ρ.length
    · rw [List.getElem?_set_self hl] at hu
      have e : w = u := Option.some.inj (Option.some.inj hu)
      subst e
      exact ⟨v, List.getElem?_set_self (by rw [← r.1]; exact hl), h⟩
    · rw [List.getElem?_eq_none (by rw [List.length_set]; omega)] at hu
      cases hu
  · rw [List.getElem?_set_ne hj'] at hu
    obtain ⟨x, h1, h2⟩ := r.2 j u (by rw [List.mem_cons, not_or]; exact ⟨fun e => hj' e.symm, hj⟩) hu
    exact ⟨x, by rw [List.getElem?_set_ne hj']; exact h1, h2⟩
/-- a target is set -/
theorem gT_set {tg : List Nat} {w : W} {v : V} {Q : L2.St → Hp → Prop} (h : setT tg w ρ = some ρ1) (r : RstX C.K m H tg ρ σ) (rv : RW C.K m H w v)
    (hq : ∀ σ', Rst C.K m H ρ1 σ' → σ'.length = σ.length → (∀ i, i ∉ tg → σ'[i]? = σ[i]?) → Q σ' H) : gT C.K tg v σ H Q := by
  unfold setT at h
  split at h
  · rename_i i w'
    have e := Option.some.inj h
    subst e
    refine hq _ (r.set rv).all (by rw [List.length_set]) fun k hk => ?_
    rw [List.getElem?_set_ne (fun e => hk (by rw [e]; simp))]
  · rename_i i j a b
    have e := Option.some.inj h
    subst e
    cases rv with
    | tup h1 h2 =>
      cases h2 with
      | cons ra h2 =>
        cases h2 with
        | cons rb h2 =>
          cases h2
          refine ⟨_, _, rfl, h1, rfl, _, _, rfl, _, _, rfl, rfl, ?_⟩
          refine hq _ ((r.set ra).set rb).all (by rw [List.length_set, List.length_set]) fun k hk => ?_
          rw [List.getElem?_set_ne (fun e => hk (by rw [e]; simp)), List.getElem?_set_ne (fun e => hk (by rw [e]; simp))]
  · rename_i i j k a b c
    have e := Option.some.inj h
    subst e
    cases rv with
    | tup h1 h2 =>
      cases h2 with
      | cons ra h2 =>
        cases h2 with
        | cons rb h2 =>
          cases h2 with
          | cons rc h2 =>
            cases h2
            refine ⟨_, _, rfl, h1, rfl, _, _, rfl, _, _, rfl, _, _, rfl, rfl, ?_⟩
            refine hq _ (((r.set ra).set rb).set rc).all (by rw [List.length_set, List.length_set, List.length_set]) fun k hk => ?_
            rw [List.getElem?_set_ne (fun e => hk (by rw [e]; simp)), List.getElem?_set_ne (fun e => hk (by rw [e]; simp)), List.getElem?_set_ne (fun e => hk (by rw [e]; simp))]
  · rename_i i j k l a b c d
    have e := Option.some.inj h
    subst e
    cases rv with
    | tup h1 h2 =>
      cases h2 with
      | cons ra h2 =>
        cases h2 with
        | cons rb h2 =>
          cases h2 with
          | cons rc h2 =>
            cases h2 with
            | cons rd h2 =>
              cases h2
              refine ⟨_, _, rfl, h1, rfl, _, _, rfl, _, _, rfl, _, _, rfl, _, _, rfl, rfl, ?_⟩
              refine hq _ ((((r.set ra).set rb).set rc).set rd).all (by rw [List.length_set, List.length_set, List.length_set, List.length_set]) fun k hk => ?_
              rw [List.getElem?_set_ne (fun e => hk (by rw [e]; simp)), List.getElem?_set_ne (fun e => hk (by rw [e]; simp)), List.getElem?_set_ne (fun e => hk (by rw [e]; simp)), List.getElem?_set_ne (fun e => hk (by rw [e]; simp))]
  · cases h
end

/-! ### the tests of a comprehension -/
def W0 : WX := fun _ _ _ _ => False
def rdTs (C : Cf) (Γ : Gam) (Wx : WX) (es : List Ex) : TT := fun σ H Q => ∃ m ρ S r, At C m S H ρ σ ∧ evAll Γ es ρ S = some r ∧ PG EqB C Wx m S H σ r Q
section
variable {C : Cf} {Γ : Gam} {Wx : WX} {K : Ck} {hot : Bool} {X : Cx} {a b c d : Ex} {x y z t : Expr} {es : List Ex} {ys : List Expr} {pos p ap p2 : Pos}
theorem pts_imp {u u' : TT} (h : PTs X ys u) (i : ∀ σ H Q, u' σ H Q → u σ H Q) : PTs X ys u' := ⟨fun pins s σ H Q I q => h.run pins s σ H Q I (i σ H Q q)⟩
theorem ts_nil : PTs X [] (rdTs C Γ Wx []) := pts_imp pts_nil fun σ H Q ⟨m, ρ, S, r, A, h, p⟩ => by
  unfold evAll at h
  exact p.rokB h A.h
theorem ts_one (h : PT X x (rdT C Γ Wx a)) : PTs X [x] (rdTs C Γ Wx [a]) := pts_imp (pts_one h) fun σ H Q ⟨m, ρ, S, r, A, h, p⟩ => by
  unfold evAll at h
  refine rd_stepT A h p fun w S1 m1 H1 h1 A1 _ p1 => ?_
  cases w with
  | true =>
    unfold evAll at h1
    exact p1.rokB h1 A1.h
  | false => exact p1.rokB h1 A1.h
theorem lc_rd {tg : List Nat} {k : Ik} {ifs : List Ex} {elt : Ex} {σ : L2.St} {H : Hp} {Q : VK} (h : rdE C Γ Wx (.lc elt tg k es ifs) σ H Q) :
    tLc (rdI C Γ Wx k es) (gT C.K tg) (rdTs C Γ W0 ifs) (rdE C Γ W0 elt) tg σ H Q := by
  obtain ⟨m, ρ, S, r, A, h, p⟩ := h
  unfold ev at h
  cases he : evs Γ es ρ S with
  | none => rw [he] at h; cases h
  | some r1 =>
    obtain ⟨r1, S1⟩ := r1
    rw [he] at h
    cases r1 with
    | ex x =>
      have e := Option.some.inj h
      subst e
      exact ⟨m, ρ, S, _, A, he, p⟩
    | ok ws =>
      rw [bnd_ok] at h
      refine ⟨m, ρ, S, _, A, he, ?_⟩
      cases hs : srcOf k S1 ws with
      | none => rw [hs] at h; cases h
      | some src =>
        refine ⟨src, hs, fun m1 H1 J R1 e1 wlk D hD => ?_⟩
        rw [hs] at h
        dsimp only at h
        generalize hG : (fun (w : W) (S2 : Store) => (match setT tg w ρ with
          | none => none
          | some ρ1 => bnd (evAll Γ ifs ρ1 S2) fun b S3 => match b with
            | true => bnd (ev Γ elt ρ1 S3) fun y S4 => rok (some y) S4
            | false => rok none S3 : R (Option W))) = G at h
        cases hl : lcL G src big 0 S1 with
        | none => rw [hl] at h; cases h
        | some z =>
          obtain ⟨tot, Sf⟩ := z
          rw [hl] at h
          dsimp only at h
          split at h
          case isFalse => cases h
          rename_i hlen
          have er := Option.some.inj h
          subst er
          have b0 := R1.beside (o := .lst []) hD
          refine ⟨fun i n H' => ∃ m2 S2 acc accV ys, RelH C m2 S2 H' ∧ Ext m1 S1 H1 m2 S2 H' ∧ H' D = some (.lst accV) ∧ ¬ MA m2 S2 D ∧ RWs C.K m2 H' acc accV ∧ lcL G src n i S2 = some (ys, Sf) ∧ acc ++ ys = tot, ⟨big, m1, S1, [], [], tot, b0.1, b0.2.1, upd_same, b0.2.2, .nil, hl, rfl⟩, ?_⟩
          rintro i n H2 ⟨m2, S2, acc, accV, ys, R2, e2, hD2, nD2, ra2, l2, et⟩
          cases n with
          | zero => unfold lcL at l2; cases l2
          | succ n =>
            unfold lcL at l2
            have wk := wlk m2 S2 H2 R2 e2 i
            split at l2
            · cases l2
            · rename_i hat
              have ez := Option.some.inj l2
              cases ez
              refine .inl ⟨wk.2 hat, ?_⟩
              rw [List.append_nil] at et
              subst et
              obtain ⟨R3, rv⟩ := R2.adopt hD2 nD2 ra2
              exact p _ _ _ R3 (e1.trans (ext_adopt R2.len e2 hD)) rv
            · rename_i w hat
              refine .inr ⟨(wk.1 w hat).1, fun H' => ∃ m2 S2 acc accV ys, RelH C m2 S2 H' ∧ Ext m1 S1 H1 m2 S2 H' ∧ H' D = some (.lst accV) ∧ ¬ MA m2 S2 D ∧ RWs C.K m2 H' acc accV ∧ lcL G src n (i + 1) S2 = some (ys, Sf) ∧ acc ++ ys = tot, fun H' q => ⟨n, Nat.lt_succ_self _, q⟩, fun x H3 y => ?_⟩
              obtain ⟨R3, e3, rx⟩ := (wk.1 w hat).2 x H3 y
              obtain ⟨hD3, nD3⟩ := e3.keep D _ hD2 (fun _ => nD2)
              have e13 := e2.trans e3
              split at l2
              case h_2 => cases l2
              rename_i o S4 hg
              rw [← hG] at hg
              dsimp only at hg
              cases ht : setT tg w ρ with
              | none => rw [ht] at hg; cases hg
              | some ρ1 =>
                rw [ht] at hg
                dsimp only at hg
                refine gT_set ht ((A.s.mono (e1.trans e13)).wiped) rx fun σ' r' hl' hk' => ⟨?_, ?_⟩
                · refine (wipe_same (by rw [hl', wipe_length]) fun k hk => ?_).trans rfl
                  rw [hk' k hk, wipe_get hk]
                obtain ⟨b, S5, hb, hg⟩ := bnd_some hg
                refine ⟨m2, ρ1, S2, _, ⟨R3, r'⟩, hb, fun m5 H5 b' R5 e5 eb => ?_⟩
                have eb' : b = b' := eb
                subst eb'
                obtain ⟨hD5, nD5⟩ := e5.keep D _ hD3 (fun _ => nD3 rfl)
                cases b with
                | false =>
                  dsimp only at hg
                  have ez := Option.some.inj hg
                  cases ez
                  refine iteF ?_
                  split at l2
                  case h_2 => cases l2
                  rename_i ys' S6 hn
                  have ez := Option.some.inj l2
                  cases ez
                  exact ⟨m5, _, acc, accV, ys', R5, e13.trans e5, hD5, nD5 rfl, ra2.mono (e3.trans e5), hn, et⟩
                | true =>
                  refine iteT ?_
                  obtain ⟨yv, S6, hy, hg⟩ := bnd_some hg
                  have ez := Option.some.inj hg
                  cases ez
                  split at l2
                  case h_2 => cases l2
                  rename_i ys' S7 hn
                  have ez := Option.some.inj l2
                  cases ez
                  refine ⟨m5, ρ1, S5, _, ⟨R5, r'.mono e5⟩, hy, fun m6 H6 v R6 e6 rv => ?_⟩
                  obtain ⟨hD6, nD6⟩ := e6.keep D _ hD5 (fun _ => nD5 rfl)
                  have e63 := (e3.trans e5).trans e6
                  have tot1 : acc.length + 1 + ys'.length = tot.length := by
                    rw [← et]
                    simp
                    omega
                  refine ⟨accV, hD6, ?_, m6, _, acc ++ [yv], accV ++ [v], ys', R6.touch hD6 (nD6 rfl), ext_touch ((e13.trans e5).trans e6) hD, upd_same, nD6 rfl, ?_, hn, by rw [← et]; simp⟩
                  · have : accV.length + 1 ≤ sizeLine := sl_le (by rw [← ra2.length]; omega)
                    omega
                  · exact ((ra2.mono e63).append (.cons rv .nil)).imm (imm_touch hD6)
/-! ### the block -/
def Ck.blk (K : Ck) (scope : Scope) : Ck := { K with sc := relS scope K.sc, fnc := fun x => scope.names.lookup x == some .cell }
theorem Good.blk {scope : Scope} (G : Good C Γ K false X) (hk : scope.kind = .function) (s : Shared) (H : Hp) (D : Addr) (cl : List (Str × Addr)) (fp : List Addr) : Good C Γ (K.blk scope) false (X.blk s H scope (compEnvC scope cl D X.env) fp) := by
  have no : ∀ a c d, ¬ C.xi a c d := G.xno rfl
  refine ⟨G.hK, G.hN, ?_, G.hnd, G.hu, G.calm, .inl (G.calm rfl), hk, G.bn, G.glob, ?_, G.cls, G.inj, G.kt, G.xk, G.call, G.meth, G.make, G.csm, G.xno, G.xnn, G.fld, G.xcc, G.flx, G.xup, fun x hx => hx, fun Wx y e n p x hp hb hn => ?_⟩
  · show relS scope X.env.scope = relS scope K.sc
    rw [G.hsc]
  · intro pins s' σ H' xs us Q I r h
    rcases h with h | ⟨a, c, t, b, _, z, _, _⟩
    · rw [← G.hK] at h
      exact call_isi (X := X.blk s H scope (compEnvC scope cl D X.env) fp) pins s' σ H' xs us Q I r h
    · exact absurd z (no _ _ _)
  · refine pe_imp (pe_fld hp (sup_base hb)) fun σ H Q ⟨m, ρ, S, r, A, h, p⟩ => ⟨m, ρ, S, r, A, h, ?_⟩
    obtain ⟨r, S'⟩ := r
    cases r with
    | ex x => exact p
    | ok w =>
      intro m' H' v R e rv
      obtain ⟨a, c, d, _, _, _, _, z, _⟩ := p m' H' v R e rv
      exact absurd z (no _ _ _)
theorem s_lc {tg : List Nat} {k : Ik} {ifs : List Ex} {elt : Ex} {pelt ptg piter : Expr} {pifs : List Expr} {scope : Scope} {own : List (Str × Nat)} (G : Good C Γ K false X) (hi : PI X ptg piter (rdI C Γ Wx k es)) (ok : BlkOk X.N X.env.scope scope own) (ho : own.map (·.2) = tg)
    (hg : ∀ (s : Shared) (H : Hp) (D : Addr) (cl : List (Str × Addr)) (fp : List Addr), L2.PG (X.blk s H scope (compEnvC scope cl D X.env) fp) ptg (gT C.K tg)) (ht : ∀ (s : Shared) (H : Hp) (D : Addr) (cl : List (Str × Addr)) (fp : List Addr), PTs (X.blk s H scope (compEnvC scope cl D X.env) fp) pifs (rdTs C Γ W0 ifs))
    (he : ∀ (s : Shared) (H : Hp) (D : Addr) (cl : List (Str × Addr)) (fp : List Addr), PE (X.blk s H scope (compEnvC scope cl D X.env) fp) pelt (rdE C Γ W0 elt)) (hs : ∀ x, foldedSetIterable piter X.env x = pure x) :
    PE X (.ListComp pelt [⟨ptg, piter, pifs, 0⟩] scope pos) (rdE C Γ Wx (.lc elt tg k es ifs)) := by
  refine pe_imp (pe_lc (G.calm rfl) G.hnd hi ok hg ht he hs) fun σ H Q h => ?_
  rw [ho]
  exact lc_rd h
end
end Ip

/-! IpChk: the check of expressions, and that it is enough. Written by an AI agent. -/
namespace Ip
open PySem PySem.Spec PyProof.Rows L2
def noIte : Expr → Bool
  | .IfExp _ _ _ _ => false
  | _ => true
def locB (K : Ck) (n : Str) : Bool := match K.sc.names.lookup n with
  | some .local => true
  | some .cell => K.fnc n
  | _ => false
def nmB (K : Ck) (i : Nat) (n : Str) : Bool := decide (K.N[i]? = some n) && locB K n
/-- a target -/
def chkTg (K : Ck) : List Nat → Expr → Bool
  | [i], .Name n _ => nmB K i n
  | [i, j], .Tuple [.Name n _, .Name n2 _] _ _ => nmB K i n && nmB K j n2
  | [i, j, k], .Tuple [.Name n _, .Name n2 _, .Name n3 _] _ _ => nmB K i n && nmB K j n2 && nmB K k n3
  | [i, j, k, l], .Tuple [.Name n _, .Name n2 _, .Name n3 _, .Name n4 _] _ _ => nmB K i n && nmB K j n2 && nmB K k n3 && nmB K l n4
  | _, _ => false
/-- what is walked: its arguments -/
def itArgs (sc : Scope) (k : Ik) (ptg : Expr) (e : Expr) : Option (List Expr) := match k with
  | .val => some [e]
  | .range1 => match e with
    | .Call (.Name n _) [x] [] _ => if n = "range" ∧ glB sc n = true then some [x] else none
    | _ => none
  | .range2 => match e with
    | .Call (.Name n _) [x, y] [] _ => if n = "range" ∧ glB sc n = true then some [x, y] else none
    | _ => none
  | .enum => match ptg, e with
    | .Tuple _ _ _, .Call (.Name n _) [x] [] _ => if n = "enumerate" ∧ glB sc n = true then some [x] else none
    | _, _ => none
def bmAr (m : Bm) (n : Nat) : Bool := match m with
  | .get => false
  | .clear => n == 0
  | _ => n != 0
def ownOf (N : List Str) (tg : List Nat) : List (Str × Nat) := tg.map fun i => ((N[i]?).getD "", i)
mutual
def chkE (h : Bool) (K : Ck) : Ex → Expr → Bool
  | .var i, x => (match x with
    | .Name n _ => decide (K.N[i]? = some n) && visB K.sc n && okName n
    | _ => false)
  | .int i, x => (match x with
    | .Constant (.int j) _ _ => decide (i = j)
    | _ => false)
  | .str i, x => (match x with
    | .Constant (.str j) _ _ => decide (i = j)
    | _ => false)
  | .bl i, x => (match x with
    | .Constant (.bool j) _ _ => decide (i = j)
    | _ => false)
  | .non, x => (match x with
    | .Constant .none _ _ => true
    | _ => false)
  | .glob g, x => (match x with
    | .Name n _ => decide (K.gnm[g]? = some n) && glB K.sc n
    | _ => false)
  | .bin op a b, x => (match x with
    | .BinOp x o y _ => op2Eq op o && chkE h K a x && chkE h K b y
    | _ => false)
  | .neg a, x => (match x with
    | .UnaryOp .USub x _ => chkE h K a x
    | _ => false)
  | .cmp op a b, x => (match x with
    | .Compare x [o] [y] _ => cmEq op o && noSet y && chkE h K a x && chkE h K b y
    | _ => false)
  | .chn o1 o2 a b c, x => (match x with
    | .Compare x [p1, p2] [y, z] _ => cmEq o1 p1 && cmEq o2 p2 && noSet y && noSet z && chkE h K a x && chkE h K b y && chkE h K c z
    | _ => false)
  | .chn3 o1 o2 o3 a b c d, x => (match x with
    | .Compare x [p1, p2, p3] [y, z, t] _ => cmEq o1 p1 && cmEq o2 p2 && cmEq o3 p3 && noSet y && noSet z && noSet t && chkE h K a x && chkE h K b y && chkE h K c z && chkE h K d t
    | _ => false)
  | .and es, x => (match x with
    | .BoolOp .And ys _ => !es.isEmpty && chkTs h K es ys
    | _ => false)
  | .or es, x => (match x with
    | .BoolOp .Or ys _ => !es.isEmpty && chkTs h K es ys
    | _ => false)
  | .not a, x => (match x with
    | .UnaryOp .Not x _ => noIte x && chkE h K a x
    | _ => false)
  | .ite c a b, x => (match x with
    | .IfExp z x y _ => noIte z && chkE h K c z && chkE h K a x && chkE h K b y
    | _ => false)
  | .tup es, x => (match x with
    | .Tuple ys _ _ => decide (es.length ≤ 16777216) && chkEs h K es ys
    | _ => false)
  | .lst es, x => (match x with
    | .List ys _ => decide (es.length ≤ 16777216) && chkEs h K es ys
    | _ => false)
  | .idx a i, x => (match x with
    | .Subscript x y _ => noSlc y && chkE h K a x && chkE h K i y
    | _ => false)
  | .slc a lo hi, x => (match x with
    | .Subscript x (.Slice l u Option.none _) _ => chkE h K a x && chkEs h K lo l.toList && chkEs h K hi u.toList
    | _ => false)
  | .call f es, x => (match x with
    | .Call (.Name n _) ys [] _ => !h && decide (K.fnm[f]? = some (some n)) && glB K.sc n && !es.isEmpty && chkEs h K es ys
    | _ => false)
  | .mk c es, x => (match x with
    | .Call (.Name n _) ys [] _ => !h && decide (K.cnm[c]? = some n) && decide (c ∈ K.mks) && glB K.sc n && chkEs h K es ys
    | _ => false)
  | .callc c m es, x => (match x with
    | .Call (.Attribute (.Name cn _) n ap) ys [] p => !h && decide (K.cnm[c]? = some cn) && decide (c ∈ K.sups) && decide (K.mnm[m]? = some n) && glB K.sc cn && (ap.endLine == p.line) && decide (ys.length < 30) && !es.isEmpty && chkEs h K es ys
    | _ => false)
  | .bif b es, x => (match x with
    | .Call (.Name n _) ys [] _ => (!h || bfHot b) && decide (n = bfNm b) && glB K.sc n && !es.isEmpty && chkEs h K es ys
    | _ => false)
  | .isi a t, x => (match x with
    | .Call (.Name f _) [y, .Name n _] [] _ => decide (f = "isinstance") && glB K.sc f && decide (isaNm K.cnm t = some n) && glB K.sc n && noStar y && chkE h K a y
    | _ => false)
  | .bm o m es, x => (match x with
    | .Call (.Attribute x n ap) ys [] p => decide (n = bmNm m) && noSup x && (ap.endLine == p.line) && decide (ys.length < 30) && bmAr m es.length && chkE h K o x && chkEs h K es ys
    | _ => false)
  | .meth o m es, x => (match x with
    | .Call (.Attribute x n ap) ys [] p => !h && decide (K.mnm[m]? = some n) && noSup x && (ap.endLine == p.line) && decide (ys.length < 30) && chkE h K o x && chkEs h K es ys
    | _ => false)
  | .fld o f, x => (match x with
    | .Attribute y n _ => decide (K.mnm[f]? = some n) && noSup y && chkE h K o y
    | _ => false)
  | .lc elt tg k es ifs, x => (match x with
    | .ListComp pelt [⟨ptg, piter, pifs, 0⟩] scope _ => !h && blkC K.N K.sc scope (ownOf K.N tg) && noSet piter && chkTg (K.blk scope) tg ptg && decide (ifs.length ≤ 1) && (match itArgs K.sc k ptg piter with
      | some args => decide (es.length = args.length) && chkEs h K es args
      | none => false) && chkTs false (K.blk scope) ifs pifs && chkE false (K.blk scope) elt pelt
    | _ => false)
def chkEs (h : Bool) (K : Ck) : List Ex → List Expr → Bool
  | [], ys => ys.isEmpty
  | e :: es, ys => (match ys with
    | y :: ys => chkE h K e y && noStar y && noSet y && chkEs h K es ys
    | [] => false)
def chkTs (h : Bool) (K : Ck) : List Ex → List Expr → Bool
  | [], ys => ys.isEmpty
  | e :: es, ys => (match ys with
    | y :: ys => chkE h K e y && noIte y && chkTs h K es ys
    | [] => false)
end
section
variable {C : Cf} {Γ : Gam} {Wx : WX} {K : Ck} {hot : Bool} {X : Cx} {n : Str} {i : Nat}
theorem vis_ok (G : Good C Γ K hot X) (h : visB K.sc n = true) : Vis X.env.scope n := by
  rw [G.hsc]
  unfold visB at h
  split at h
  · rename_i e; exact .inl e
  · rename_i e; exact .inr (.inl e)
  · rename_i e; exact .inr (.inr e)
  · cases h
theorem okn_ok (h : okName n = true) : (n == ("__debug__" : Str)) = false ∧ (n == ("__classdict__" : Str)) = false := by
  unfold okName at h
  have := ba h
  exact ⟨by simpa using this.1, by simpa using this.2⟩
theorem gl_ok (G : Good C Γ K hot X) (h : glB K.sc n = true) : Gl X n ∧ (n == ("__debug__" : Str)) = false := by
  unfold glB at h
  have h := ba h
  refine ⟨?_, (okn_ok h.2).1⟩
  show X.env.scope.names.lookup n = _
  rw [G.hsc]
  exact of_decide_eq_true h.1
theorem loc_ok (G : Good C Γ K hot X) (h : locB K n = true) : Loc X.env.scope n ∧ (X.fn n = true ∨ X.env.scope.names.lookup n = some .local) := by
  rw [G.hsc]
  unfold locB at h
  split at h
  · rename_i e; exact ⟨.inl e, .inr e⟩
  · rename_i e; exact ⟨.inr e, .inl (G.fnT n h)⟩
  · cases h
theorem nm_ok (G : Good C Γ K hot X) (h : nmB K i n = true) {p : Pos} : L2.PG X (.Name n p) (gName i) := by
  unfold nmB at h
  have h := ba h
  have l := loc_ok G h.2
  exact pg_name G.hnd (by rw [G.hN]; exact of_decide_eq_true h.1) l.1 l.2
theorem tg_ok (G : Good C Γ K false X) {tg : List Nat} {t : Expr} (h : chkTg K tg t = true) : L2.PG X t (gT C.K tg) := by
  unfold chkTg at h
  split at h
  · exact nm_ok G h
  · have h := ba h
    rw [← G.hK]
    exact pg_tup (G.calm rfl) (pgs_cons (nm_ok G h.1) (pgs_cons (nm_ok G h.2) pgs_nil))
  · have h := ba h
    have h1 := ba h.1
    rw [← G.hK]
    exact pg_tup (G.calm rfl) (pgs_cons (nm_ok G h1.1) (pgs_cons (nm_ok G h1.2) (pgs_cons (nm_ok G h.2) pgs_nil)))
  · have h := ba h
    have h1 := ba h.1
    have h2 := ba h1.1
    rw [← G.hK]
    exact pg_tup (G.calm rfl) (pgs_cons (nm_ok G h2.1) (pgs_cons (nm_ok G h2.2) (pgs_cons (nm_ok G h1.2) (pgs_cons (nm_ok G h.2) pgs_nil))))
  · cases h
theorem fold_ok {e : Expr} (h : noSet e = true) : ∀ x, foldedSetIterable e X.env x = pure x := by
  cases e <;> first | (intro _; rfl) | cases h
theorem it_ok {k : Ik} {es : List Ex} {ptg piter : Expr} {args : List Expr} (G : Good C Γ K hot X) (h : itArgs K.sc k ptg piter = some args) (hl : es.length = args.length) (he : PEs C Γ Wx X es args) : PI X ptg piter (rdI C Γ Wx k es) := by
  unfold itArgs at h
  split at h
  · have e := Option.some.inj h
    subst e
    cases he with
    | cons h1 h2 h3 h4 =>
      cases h4
      exact i_val G.hK h1
  · split at h
    · split at h
      · rename_i q
        have e := Option.some.inj h
        subst e
        obtain ⟨q1, q2⟩ := q
        subst q1
        have h0 := he
        cases he with
        | cons h1 h2 h3 h4 =>
          cases h4
          exact i_range1 (gl_ok G q2).1 (G.bn _ (by simp [bnames])) h0
      · cases h
    · cases h
  · split at h
    · split at h
      · rename_i q
        have e := Option.some.inj h
        subst e
        obtain ⟨q1, q2⟩ := q
        subst q1
        have h0 := he
        cases he with
        | cons h1 h2 h3 h4 =>
          cases h4 with
          | cons h1 h2 h3 h4 =>
            cases h4
            exact i_range2 (gl_ok G q2).1 (G.bn _ (by simp [bnames])) h0
      · cases h
    · cases h
  · split at h
    · split at h
      · rename_i q
        have e := Option.some.inj h
        subst e
        obtain ⟨q1, q2⟩ := q
        subst q1
        have h0 := he
        cases he with
        | cons h1 h2 h3 h4 =>
          cases h4
          exact i_enum G.hK (gl_ok G q2).1 (G.bn _ (by simp [bnames])) h0
      · cases h
    · cases h
theorem own_map {N : List Str} (tg : List Nat) : (ownOf N tg).map (·.2) = tg := by
  unfold ownOf
  rw [List.map_map]
  exact List.map_id _
end
theorem ne_of_isEmpty {α : Type} {l : List α} (h : (!l.isEmpty) = true) : l ≠ [] := fun e => by subst e; cases h
theorem ntakes0 {X : Cx} : L2N.Takes X W0 := fun _ _ x => by
  obtain ⟨_, _, _, _, _, _, _, _, _, _, _, _, _, _, _, _, z⟩ := x
  exact z.elim
theorem both {C : Cf} {Γ : Gam} {Wx : WX} {X : Cx} {x : Expr} {e : Ex} (p : PE X x (rdE C Γ Wx e)) (he : ∀ whole, isTrue x X.env whole = (do let v ← whole; standAt x.pos; holding [v] (truthy v))) : PE X x (rdE C Γ Wx e) ∧ (noIte x = true → PT X x (rdT C Γ Wx e)) := ⟨p, fun _ => t_val p he⟩
theorem bfnm_in : ∀ b : Bf, bfNm b ∈ bnames := fun b => by cases b <;> decide +kernel
mutual
theorem okE (C : Cf) (Γ : Gam) : ∀ (e : Ex) (hot : Bool) (K : Ck) (X : Cx) (Wx : WX) (x : Expr), Good C Γ K hot X → (hot = false → L2N.Takes X Wx) → chkE hot K e x = true → PE X x (rdE C Γ Wx e) ∧ (noIte x = true → PT X x (rdT C Γ Wx e))
  | .var i, hot, K, X, Wx, x, G, tk, h => by
    unfold chkE at h
    split at h
    · rename_i n pos
      have h := ba h
      have h1 := ba h.1
      have o := okn_ok h.2
      exact both (s_var (pos := pos) (C := C) (Γ := Γ) (Wx := Wx) (by rw [G.hN]; exact of_decide_eq_true h1.1) (vis_ok G h1.2) o.1 o.2) fun _ => rfl
    · cases h
  | .int i, hot, K, X, Wx, x, G, tk, h => by
    unfold chkE at h
    split at h
    · have e := of_decide_eq_true h
      subst e
      exact ⟨s_int, fun _ => t_val s_int fun _ => rfl⟩
    · cases h
  | .str i, hot, K, X, Wx, x, G, tk, h => by
    unfold chkE at h
    split at h
    · have e := of_decide_eq_true h
      subst e
      exact ⟨s_str, fun _ => t_val s_str fun _ => rfl⟩
    · cases h
  | .bl i, hot, K, X, Wx, x, G, tk, h => by
    unfold chkE at h
    split at h
    · have e := of_decide_eq_true h
      subst e
      exact ⟨s_bl, fun _ => t_val s_bl fun _ => rfl⟩
    · cases h
  | .non, hot, K, X, Wx, x, G, tk, h => by
    unfold chkE at h
    split at h
    · exact ⟨s_non, fun _ => t_val s_non fun _ => rfl⟩
    · cases h
  | .glob g, hot, K, X, Wx, x, G, tk, h => by
    unfold chkE at h
    split at h
    · rename_i n p
      have h := ba h
      have q := gl_ok G h.2
      cases hw : Γ.glob g with
      | none =>
        have pe : PE X (.Name n p) (rdE C Γ Wx (.glob g)) := ⟨fun pins s σ H Q I ⟨m, ρ, S, r, A, h', _⟩ => by
          unfold ev at h'
          rw [hw] at h'
          cases h'⟩
        exact ⟨pe, fun _ => t_val pe fun _ => rfl⟩
      | some w =>
        obtain ⟨u, v, g1, g2, g3⟩ := G.glob g n w (of_decide_eq_true h.1) hw
        have pe := s_glob (C := C) (Wx := Wx) (pos := p) q.1 g1 g2 hw g3 q.2
        exact ⟨pe, fun _ => t_val pe fun _ => rfl⟩
    · cases h
  | .bin op a b, hot, K, X, Wx, x, G, tk, h => by
    unfold chkE at h
    split at h
    · have h := ba h
      have h1 := ba h.1
      have e := op2Eq_ok h1.1
      subst e
      exact both (s_bin G.hK (okE C Γ a hot K X Wx _ G tk h1.2).1 (okE C Γ b hot K X Wx _ G tk h.2).1) fun _ => rfl
    · cases h
  | .neg a, hot, K, X, Wx, x, G, tk, h => by
    unfold chkE at h
    split at h
    · exact both (s_neg (okE C Γ a hot K X Wx _ G tk h).1) fun _ => rfl
    · cases h
  | .cmp op a b, hot, K, X, Wx, x, G, tk, h => by
    unfold chkE at h
    split at h
    · have h := ba h
      have h1 := ba h.1
      have h2 := ba h1.1
      have e := cmEq_ok h2.1
      subst e
      have pa := (okE C Γ a hot K X Wx _ G tk h1.2).1
      have pb := (okE C Γ b hot K X Wx _ G tk h.2).1
      exact ⟨s_cmp G.hK G.hu h2.2 pa pb, fun _ => t_cmp G.hK G.hu h2.2 pa pb⟩
    · cases h
  | .chn o1 o2 a b c, hot, K, X, Wx, x, G, tk, h => by
    unfold chkE at h
    split at h
    · have h := ba h
      have h1 := ba h.1
      have h2 := ba h1.1
      have h3 := ba h2.1
      have h4 := ba h3.1
      have h5 := ba h4.1
      have e := cmEq_ok h5.1
      subst e
      have e := cmEq_ok h5.2
      subst e
      have pa := (okE C Γ a hot K X Wx _ G tk h2.2).1
      have pb := (okE C Γ b hot K X Wx _ G tk h1.2).1
      have pc := (okE C Γ c hot K X Wx _ G tk h.2).1
      exact ⟨s_chn G.hK G.hu h4.2 h3.2 pa pb pc, fun _ => t_chn G.hK G.hu h4.2 h3.2 pa pb pc⟩
    · cases h
  | .chn3 o1 o2 o3 a b c d, hot, K, X, Wx, x, G, tk, h => by
    unfold chkE at h
    split at h
    · have h := ba h
      have h1 := ba h.1
      have h2 := ba h1.1
      have h3 := ba h2.1
      have h4 := ba h3.1
      have h5 := ba h4.1
      have h6 := ba h5.1
      have h7 := ba h6.1
      have h8 := ba h7.1
      have e := cmEq_ok h8.1
      subst e
      have e := cmEq_ok h8.2
      subst e
      have e := cmEq_ok h7.2
      subst e
      have pa := (okE C Γ a hot K X Wx _ G tk h3.2).1
      have pb := (okE C Γ b hot K X Wx _ G tk h2.2).1
      have pc := (okE C Γ c hot K X Wx _ G tk h1.2).1
      have pd := (okE C Γ d hot K X Wx _ G tk h.2).1
      exact ⟨s_chn3 G.hK G.hu h6.2 h5.2 h4.2 pa pb pc pd, fun _ => t_chn3 G.hK G.hu h6.2 h5.2 h4.2 pa pb pc pd⟩
    · cases h
  | .and es, hot, K, X, Wx, x, G, tk, h => by
    unfold chkE at h
    split at h
    · have h := ba h
      have p := okTs C Γ es hot K X Wx _ G tk h.2
      exact ⟨s_and p (ne_of_isEmpty h.1), fun _ => (t_and p (ne_of_isEmpty h.1)).pt⟩
    · cases h
  | .or es, hot, K, X, Wx, x, G, tk, h => by
    unfold chkE at h
    split at h
    · have h := ba h
      have p := okTs C Γ es hot K X Wx _ G tk h.2
      exact ⟨s_or p (ne_of_isEmpty h.1), fun _ => (t_or p (ne_of_isEmpty h.1)).pt⟩
    · cases h
  | .not a, hot, K, X, Wx, x, G, tk, h => by
    unfold chkE at h
    split at h
    · have h := ba h
      have p := okE C Γ a hot K X Wx _ G tk h.2
      exact ⟨s_not p.1, fun _ => t_not (p.2 h.1)⟩
    · cases h
  | .ite c a b, hot, K, X, Wx, x, G, tk, h => by
    unfold chkE at h
    split at h
    · have h := ba h
      have h1 := ba h.1
      have h2 := ba h1.1
      exact ⟨s_ite ((okE C Γ c hot K X Wx _ G tk h2.2).2 h2.1) (okE C Γ a hot K X Wx _ G tk h1.2).1 (okE C Γ b hot K X Wx _ G tk h.2).1, fun z => by cases z⟩
    · cases h
  | .tup es, hot, K, X, Wx, x, G, tk, h => by
    unfold chkE at h
    split at h
    · have h := ba h
      have p := okEs C Γ es hot K X Wx _ G tk h.2
      exact ⟨s_tup p (of_decide_eq_true h.1), fun _ => t_val (s_tup p (of_decide_eq_true h.1)) fun _ => rfl⟩
    · cases h
  | .lst es, hot, K, X, Wx, x, G, tk, h => by
    unfold chkE at h
    split at h
    · have h := ba h
      have p := okEs C Γ es hot K X Wx _ G tk h.2
      exact ⟨s_lst p (of_decide_eq_true h.1), fun _ => t_val (s_lst p (of_decide_eq_true h.1)) fun _ => rfl⟩
    · cases h
  | .idx a i, hot, K, X, Wx, x, G, tk, h => by
    unfold chkE at h
    split at h
    · have h := ba h
      have h1 := ba h.1
      exact both (s_idx G.hK G.hu h1.1 (okE C Γ a hot K X Wx _ G tk h1.2).1 (okE C Γ i hot K X Wx _ G tk h.2).1) fun _ => rfl
    · cases h
  | .slc a lo hi, hot, K, X, Wx, x, G, tk, h => by
    unfold chkE at h
    split at h
    · rename_i x l u p1 p2
      have h := ba h
      have h1 := ba h.1
      have pl := okEs C Γ lo hot K X Wx _ G tk h1.2
      have pu := okEs C Γ hi hot K X Wx _ G tk h.2
      have prt : ∀ {es : List Ex} {o : Option Expr}, PEs C Γ Wx X es o.toList → Prt C Γ Wx X es o := fun {es o} h => by
        cases o with
        | none => cases h; exact .none
        | some y => cases h with
          | cons h1 h2 h3 h4 => cases h4; exact .some h1
      exact both (s_slc (pos := p2) (p2 := p1) G.hK (okE C Γ a hot K X Wx _ G tk h1.1).1 (prt pl) (prt pu)) fun _ => rfl
    · cases h
  | .call f es, hot, K, X, Wx, x, G, tk, h => by
    unfold chkE at h
    split at h
    · have h := ba h
      have h1 := ba h.1
      have h2 := ba h1.1
      have h3 := ba h2.1
      have hh : hot = false := by simpa using h3.1
      subst hh
      have p := okEs C Γ es false K X Wx _ G tk h.2
      have q := gl_ok G h2.2
      cases p with
      | nil => exact absurd rfl (ne_of_isEmpty h1.2)
      | cons p1 p2 p3 p4 =>
        exact both (s_call G (tk rfl) (of_decide_eq_true h3.2) q.1 q.2 (.cons p1 p2 p3 p4)) fun _ => rfl
    · cases h
  | .mk c es, hot, K, X, Wx, x, G, tk, h => by
    unfold chkE at h
    split at h
    · have h := ba h
      have h1 := ba h.1
      have h2 := ba h1.1
      have h3 := ba h2.1
      have hh : hot = false := by simpa using h3.1
      subst hh
      have p := okEs C Γ es false K X Wx _ G tk h.2
      have q := gl_ok G h1.2
      exact both (s_mk G (tk rfl) (of_decide_eq_true h3.2) (of_decide_eq_true h2.2) q.1 q.2 p) fun _ => rfl
    · cases h
  | .callc c m es, hot, K, X, Wx, x, G, tk, h => by
    unfold chkE at h
    split at h
    · have h := ba h
      have h1 := ba h.1
      have h2 := ba h1.1
      have h3 := ba h2.1
      have h4 := ba h3.1
      have h5 := ba h4.1
      have h6 := ba h5.1
      have h7 := ba h6.1
      have hh : hot = false := by simpa using h7.1
      subst hh
      have q := gl_ok G h4.2
      have pes := okEs C Γ es false K X Wx _ G tk h.2
      have ne := ne_of_isEmpty h1.2
      cases pes with
      | nil => exact absurd rfl ne
      | cons a1 a2 a3 a4 => exact both (s_callc G (tk rfl) (of_decide_eq_true h7.2) (of_decide_eq_true h6.2) (of_decide_eq_true h5.2) q.1 q.2 h3.2 (of_decide_eq_true h2.2) (.cons a1 a2 a3 a4)) fun _ => rfl
    · cases h
  | .bif b es, hot, K, X, Wx, x, G, tk, h => by
    unfold chkE at h
    split at h
    · have h := ba h
      have h1 := ba h.1
      have h2 := ba h1.1
      have h3 := ba h2.1
      have p := okEs C Γ es hot K X Wx _ G tk h.2
      have q := gl_ok G h2.2
      have e := of_decide_eq_true h3.2
      subst e
      cases p with
      | nil => exact absurd rfl (ne_of_isEmpty h1.2)
      | cons p1 p2 p3 p4 =>
        exact both (s_bif (b := b) G.hK (fun z => G.calm (by simpa [z] using h3.1)) G.hh q.1 (G.bn _ (bfnm_in b)) (.cons p1 p2 p3 p4)) fun _ => rfl
    · cases h
  | .isi a t, hot, K, X, Wx, x, G, tk, h => by
    unfold chkE at h
    split at h
    · have h := ba h
      have h1 := ba h.1
      have h2 := ba h1.1
      have h3 := ba h2.1
      have h4 := ba h3.1
      have e := of_decide_eq_true h4.1
      subst e
      have q := gl_ok G h2.2
      exact both (s_isi (t := t) G (of_decide_eq_true h3.2) (gl_ok G h4.2).1 q.1 q.2 h1.2 (okE C Γ a hot K X Wx _ G tk h.2).1) fun _ => rfl
    · cases h
  | .bm o m es, hot, K, X, Wx, x, G, tk, h => by
    unfold chkE at h
    split at h
    · have h := ba h
      have h1 := ba h.1
      have h2 := ba h1.1
      have h3 := ba h2.1
      have h4 := ba h3.1
      have h5 := ba h4.1
      have e := of_decide_eq_true h5.1
      subst e
      have po := (okE C Γ o hot K X Wx _ G tk h1.2).1
      have p := okEs C Γ es hot K X Wx _ G tk h.2
      cases p with
      | nil =>
        have hm : m = .clear := by
          have := h2.2
          cases m <;> first | rfl | cases this
        subst hm
        exact both (s_bm0 G.hK po h5.2 h4.2) fun _ => rfl
      | cons p1 p2 p3 p4 =>
        have hm : m ≠ .get ∧ m ≠ .clear := by
          have := h2.2
          constructor <;> (intro e; subst e; cases this)
        exact both (s_bm (b := m) G.hK po h5.2 h4.2 (of_decide_eq_true h3.2) (.cons p1 p2 p3 p4) hm.1 hm.2) fun _ => rfl
    · cases h
  | .meth o m es, hot, K, X, Wx, x, G, tk, h => by
    unfold chkE at h
    split at h
    · have h := ba h
      have h1 := ba h.1
      have h2 := ba h1.1
      have h3 := ba h2.1
      have h4 := ba h3.1
      have h5 := ba h4.1
      have hh : hot = false := by simpa using h5.1
      subst hh
      have po := (okE C Γ o false K X Wx _ G tk h1.2).1
      have p := okEs C Γ es false K X Wx _ G tk h.2
      exact both (s_meth (mi := m) G (tk rfl) (of_decide_eq_true h5.2) po h4.2 h3.2 (of_decide_eq_true h2.2) p) fun _ => rfl
    · cases h
  | .fld o f, hot, K, X, Wx, x, G, tk, h => by
    unfold chkE at h
    split at h
    · have h := ba h
      have h1 := ba h.1
      exact both (s_fld G (of_decide_eq_true h1.1) h1.2 (okE C Γ o hot K X Wx _ G tk h.2).1) fun _ => rfl
    · cases h
  | .lc elt tg k es ifs, hot, K, X, Wx, x, G, tk, h => by
    unfold chkE at h
    split at h
    · rename_i pelt ptg piter pifs scope pos
      have h := ba h
      have h1 := ba h.1
      have h2 := ba h1.1
      have h3 := ba h2.1
      have h4 := ba h3.1
      have h5 := ba h4.1
      have h6 := ba h5.1
      have hh : hot = false := by simpa using h6.1
      subst hh
      have ok : BlkOk X.N X.env.scope scope (ownOf K.N tg) := by
        rw [G.hN, G.hsc]
        exact blkOk_by h6.2
      have G' := G.blk ok.kind
      have hi : PI X ptg piter (rdI C Γ Wx k es) := by
        have q := h2.2
        split at q
        · rename_i args ha
          have q := ba q
          exact it_ok G ha (of_decide_eq_true q.1) (okEs C Γ es false K X Wx _ G tk q.2)
        · cases q
      have ht : ∀ (s : Shared) (H : Hp) (D : Addr) (cl : List (Str × Addr)) (fp : List Addr), PTs (X.blk s H scope (compEnvC scope cl D X.env) fp) pifs (rdTs C Γ W0 ifs) := fun s H D cl fp => by
        have q := okTs C Γ ifs false (K.blk scope) _ W0 _ (G' s H D cl fp) (fun _ => ntakes0) h1.2
        have hl := of_decide_eq_true h3.2
        cases q with
        | nil => exact ts_nil
        | cons q1 q2 q3 =>
          cases q3 with
          | nil => exact ts_one q2
          | cons _ _ _ => simp at hl
      exact both (s_lc (pos := pos) G hi ok (own_map tg) (fun s H D cl fp => tg_ok (G' s H D cl fp) h4.2) ht
        (fun s H D cl fp => (okE C Γ elt false (K.blk scope) _ W0 _ (G' s H D cl fp) (fun _ => ntakes0) h.2).1) (fold_ok h5.2)) fun _ => rfl
    · cases h
  termination_by structural e => e
theorem okEs (C : Cf) (Γ : Gam) : ∀ (es : List Ex) (hot : Bool) (K : Ck) (X : Cx) (Wx : WX) (ys : List Expr), Good C Γ K hot X → (hot = false → L2N.Takes X Wx) → chkEs hot K es ys = true → PEs C Γ Wx X es ys
  | [], hot, K, X, Wx, ys, G, tk, h => by
    unfold chkEs at h
    cases ys with
    | nil => exact .nil
    | cons y ys => cases h
  | e :: es, hot, K, X, Wx, ys, G, tk, h => by
    unfold chkEs at h
    split at h
    · have h := ba h
      have h1 := ba h.1
      have h2 := ba h1.1
      exact .cons (okE C Γ e hot K X Wx _ G tk h2.1).1 h2.2 h1.2 (okEs C Γ es hot K X Wx _ G tk h.2)
    · cases h
  termination_by structural es => es
theorem okTs (C : Cf) (Γ : Gam) : ∀ (es : List Ex) (hot : Bool) (K : Ck) (X : Cx) (Wx : WX) (ys : List Expr), Good C Γ K hot X → (hot = false → L2N.Takes X Wx) → chkTs hot K es ys = true → PTs2 C Γ Wx X es ys
  | [], hot, K, X, Wx, ys, G, tk, h => by
    unfold chkTs at h
    cases ys with
    | nil => exact .nil
    | cons y ys => cases h
  | e :: es, hot, K, X, Wx, ys, G, tk, h => by
    unfold chkTs at h
    split at h
    · have h := ba h
      have h1 := ba h.1
      have q := okE C Γ e hot K X Wx _ G tk h1.1
      exact .cons q.1 (q.2 h1.2) (okTs C Γ es hot K X Wx _ G tk h.2)
    · cases h
  termination_by structural es => es
end
end Ip

/-! IpOex: exceptions with an __init__ of their own. Written by an AI agent (after HandS.ExcInit). -/
namespace Ip
open PySem PySem.Spec PyProof.Rows L2
section
variable {X : Cx} {ta : TA} {e : Expr} {es : List Expr} {p pos p2 : Pos}
theorem pmk_oexN {CX : CXT} {x : Str} {C fI : Addr} {k : Nat} {fd : FuncData} {ps : List Str} {sp : Sp} (T : OexC X.K C) (iC : PySem.W.findIn X.K (.ref C) "__init__" = some (some (.ref fI))) (tI : PySem.W.typeIn X.K (.ref fI) = some (.type "function"))
    (F1 : FnOk X.prog X.w X.K X.mg X.base CX k fI fd ps sp) (hr : Room (k + 1) X.A) (hb : Binds X.K fd ps []) (hx : Passes CX X (fun _ _ _ => False)) (hg : Gl X x) (hm : X.mg x = some (.ref C)) (ha : PA X (e :: es) ta)
    (hdb : (x == ("__debug__" : Str)) = false) (he : starEach (e :: es) X.env = (false, eval e X.env) :: starEach es X.env) (hpl : (backTo pos (starEach es X.env)).any (·.1) = false) :
    L2N.PMk X (.Call (.Name x p) (e :: es) [] pos) (tMkO C sp [] ta) := by
  intro pins s σ H Q I h
  obtain ⟨nm, q, N, bs, bm, sn, sub, ab, col, dd, k0, k1, k2, k3, k5, hC, hbm⟩ := T.cls
  refine wpAny_Call_Name_kw (ld_glob I hg hm ?_ hdb)
  refine PySem.W.callWith_K (h₀ := X.base) I.ok.mod.kin T.kC (thn (ha.run pos pins s σ H _ I h) fun us s1 ⟨vs, H1, I1, r1, hz, q1⟩ => ⟨I1.kIn, ?_⟩) he hpl
  show wpAny _ _ (call (.ref C) us) _ _ _
  obtain ⟨hp, g, dr, tk, os⟩ := s1
  have hsz : hp.objs.size ≤ hp.objs.size + 1 := Nat.le_succ _
  have hn : H1 (hp.objs.size + 1) = none := I1.hok.fresh hsz
  have hq := q1 (hp.objs.size + 1) hn
  have kk : ∀ b o, hp.get? b = some o → ((hp.push (PySem.W.kdv_tup us)).push (PySem.HandSPX.excO C hp.objs.size)).get? b = some o := fun b o e => Heap.get?_push_of_some _ (Heap.get?_push_of_some _ e)
  have hget : ((hp.push (PySem.W.kdv_tup us)).push (PySem.HandSPX.excO C hp.objs.size)).get? (hp.objs.size + 1) = some (PySem.HandSPX.excO C hp.objs.size) := by heap_get
  have I2 : Inv X pins σ (upd H1 (hp.objs.size + 1) (exo (hp.objs.size + 1) C none)) ⟨(hp.push (PySem.W.kdv_tup us)).push (PySem.HandSPX.excO C hp.objs.size), g, dr, tk, os⟩ :=
    I1.laid (t' := tk) (a := hp.objs.size + 1) (o := exo (hp.objs.size + 1) C none) (h' := (hp.push (PySem.W.kdv_tup us)).push (PySem.HandSPX.excO C hp.objs.size)) kk hsz (exo_ok hget)
  have r2 : Vals (V.ref (hp.objs.size + 1) :: (vs ++ [])) (Value.ref (hp.objs.size + 1) :: (us ++ [])) := .cons rfl (r1.append .nil)
  have hl : (Value.ref (hp.objs.size + 1) :: us ++ []).length = ps.length := by
    have e := r2.length
    rw [F1.len _ _ _ _ hq] at e
    exact e.symm
  have hus : us.length ≤ sizeLine := by
    rw [← Paired.length r1, sizeLine_eq]
    omega
  refine wpAny_call (PySem.HandSPX.call_own F.excBase_ValueError (fun Y => PySem.HandSPX.refsVE_contains Y bm hbm) (I1.kIn _ _ hC) (PySem.W.looks_findIn I1.kIn iC) (fun self => PySem.W.bind_fn I1.kIn self tI) hus
    (codeAny_mono (F1.run _ X.stack _ _ ⟨Value.ref (hp.objs.size + 1) :: us, []⟩ (Value.ref (hp.objs.size + 1) :: (us ++ [])) _ _ (fun _ _ _ => False) (hr.make C us []) (I2.env0.make C us []) (by simpa only [List.cons_append] using hb _ (Value.ref (hp.objs.size + 1) :: us) I2.kIn hl) r2 hq) fun r s' hq' => ?_))
  cases r with
  | error er => exact hx pins σ _ _ er s' I2 hq'
  | ok fl =>
    cases fl with
    | ret u =>
      obtain ⟨v, H2, os2, bare2, un2, hok2, rv, ev, d, fs, ea, ed, hd1, q2⟩ := hq'
      subst ev
      obtain ⟨h2, g2, d2, t2, os'⟩ := s'
      obtain ⟨t0, G, J, kG, ge, hoe, na⟩ := mk_end0 (d2 := d2) (t2 := t2) I1 hsz kk un2 hok2 os2 bare2 ea ed hd1
      exact ⟨rv, hp.objs.size + 1, _, _, ⟨G, g2, d2, t2, os'⟩, _, .ref C, some d, rfl, J, kG, ge, hoe, ⟨rfl, rfl, fun vs h => by cases h; rfl⟩, rfl, rfl, na, os2 ▸ rfl, bare2, raises_own T.exC T.tyC, q2⟩
    | next => exact False.elim hq'
    | brk => exact False.elim hq'
    | cont => exact False.elim hq'
/-- B.__init__(self, ..), B an own class that has it from ValueError -/
theorem pe_baseinit {cn : Str} {Cb : Addr} {pl : Sem Bool} (hg : Gl X cn) (hcm : X.mg cn = some (.ref Cb)) (hdb : (cn == ("__debug__" : Str)) = false) (r : ClX.CRead X.K Cb (.type "type")) (fc : PySem.W.findCls X.K (.ref Cb) (.type "type") "__init__" = some (.val (.builtin "ValueError.__init__"))) (ha : PA X (e :: es) ta)
    (hc : eval (.Call (.Attribute (.Name cn p) "__init__" p2) (e :: es) [] pos) X.env = (do
      let ov ← eval (.Name cn p) X.env
      standAt p2.atName
      let (f, first) ← holding [ov] (getMethod ov "__init__" pl)
      callWith pos f first (backTo pos (starEach (e :: es) X.env)) (backToKw pos (keywordEach [] X.env))))
    (he : starEach (e :: es) X.env = (false, eval e X.env) :: starEach es X.env) (hpl : (backTo pos (starEach es X.env)).any (·.1) = false) :
    PE X (.Call (.Attribute (.Name cn p) "__init__" p2) (e :: es) [] pos) (tVeI X.K ta) := by
  refine ⟨fun pins s σ H Q I h => ?_⟩
  refine PySem.W.methodCall_KW (pl := pl) (ld_glob I hg hcm ?_ hdb) hc
  refine PySem.W.method_cls (I.tok _).kIn r.ga (PySem.W.cls_value (I.tok _).kIn r.rd fc (by decide +kernel) ?_)
  show wpAny _ _ (callWith pos (Value.builtin "ValueError.__init__") [] (backTo pos (starEach (e :: es) X.env)) []) _ _ _
  refine PyProof.Rows.callWith_method1 (thn (ha.run pos pins _ σ H _ ((I.tok _).tok _) h) fun us s1 ⟨vs, H1, I1, r1, a, C, ws, ev, hl, T, ea, q⟩ => ?_) he hpl
  subst ev
  cases r1 with
  | @cons _ u0 _ ur ra rw' =>
    obtain rfl : u0 = Value.ref a := ra
    have hlen : ur.length ≤ sizeLine := by
      rw [← Paired.length rw', sizeLine_eq]
      omega
    exact oinit_ok T I1 ea hlen fun s' J => ⟨.non, H1, J, rfl, q⟩
end
/-- what such an __init__ does: its arguments become the fields -/
def spI (C : Addr) (flds : List Str) : Sp := fun vs H Q E => ∃ a ws, vs = .ref a :: ws ∧ ws.length = flds.length ∧ H a = some (exo a C none) ∧
  ∀ d H2, H d = none → d ≠ a → H2 a = some (exo a C (some d)) → H2 d = some (exd d (flds.zip ws).reverse) → (∀ b, b ≠ a → b ≠ d → H2 b = H b) → Q .non H2
section
variable {C : Cf} {Γ : Gam} {Wx : WX} {K : Ck} {X : Cx} {e : Ex} {es : List Ex} {y : Expr} {ys : List Expr} {p pos ap : Pos}
theorem passF {P : Program} {w : World} {X : Cx} : Passes (L2N.CX P w) X (fun _ _ _ => False) := fun pins σ H s e s' I h => by
  obtain ⟨_, _, _, _, _, _, _, _, _, _, _, _, z⟩ := h
  exact z.elim
/-- the fields' names -/
theorem RF.zip {K : PySem.W.Frag} {fn : Nat → Str} {m : List Addr} {H : Hp} : ∀ (fs : List Nat) {ws : List W} {vs : List V}, RWs K m H ws vs → RF K fn m H (fs.zip ws) ((fs.map fn).zip vs)
  | [], _, _, _ => .nil
  | _ :: _, _, _, .nil => .nil
  | f :: fs, _, _, .cons h r => .cons h (RF.zip fs r)
theorem RF.app {K : PySem.W.Frag} {fn : Nat → Str} {m : List Addr} {H : Hp} : ∀ {fs gs : List (Nat × W)} {ys zs : List (Str × V)}, RF K fn m H fs ys → RF K fn m H gs zs → RF K fn m H (fs ++ gs) (ys ++ zs)
  | _, _, _, _, .nil, r => r
  | _, _, _, _, .cons h q, r => .cons h (q.app r)
theorem RF.rev {K : PySem.W.Frag} {fn : Nat → Str} {m : List Addr} {H : Hp} : ∀ {fs : List (Nat × W)} {ys : List (Str × V)}, RF K fn m H fs ys → RF K fn m H fs.reverse ys.reverse
  | _, _, .nil => .nil
  | _, _, .cons h r => by
    rw [List.reverse_cons, List.reverse_cons]
    exact r.rev.app (.cons h .nil)
end
end Ip

/-! IpSt: statements. Written by an AI agent. -/
namespace Ip
open PySem PySem.Spec PyProof.Rows L2

/-! ### readings -/
def PF (C : Cf) (Wx : WX) (m : List Addr) (S : Store) (H : Hp) (D : Ends) (f : Fl) (ρ' : Env) (S' : Store) : Prop := match f with
  | .nxt => ∀ m' H' σ', RelH C m' S' H' → Ext m S H m' S' H' → Rst C.K m' H' ρ' σ' → D.nx σ' H'
  | .brk => ∀ m' H' σ', RelH C m' S' H' → Ext m S H m' S' H' → Rst C.K m' H' ρ' σ' → D.bk σ' H'
  | .cnt => ∀ m' H' σ', RelH C m' S' H' → Ext m S H m' S' H' → Rst C.K m' H' ρ' σ' → D.ct σ' H'
  | .ret w => ∀ m' H' v, RelH C m' S' H' → Ext m S H m' S' H' → RW C.K m' H' w v → D.rt v H'
  | .ex x => ∀ m' H' σ' cls d, RelH C m' S' H' → Ext m S H m' S' H' → Rst C.K m' H' ρ' σ' → RX C m' H' x cls d → Wx cls d σ' H'
def rdS (C : Cf) (Γ : Gam) (Wx : WX) (s : Sx) : TS := fun D σ H => ∃ m ρ S f ρ' S', At C m S H ρ σ ∧ x1 Γ s ρ S = some (f, ρ', S') ∧ PF C Wx m S H D f ρ' S'
def rdSs (C : Cf) (Γ : Gam) (Wx : WX) (s : List Sx) : TS := fun D σ H => ∃ m ρ S f ρ' S', At C m S H ρ σ ∧ xs Γ s ρ S = some (f, ρ', S') ∧ PF C Wx m S H D f ρ' S'
section
variable {C : Cf} {Γ : Gam} {Wx : WX} {m m' : List Addr} {S S' S2 : Store} {H H' : Hp} {ρ ρ' : Env} {σ : L2.St} {D : Ends} {f : Fl}
theorem PF.go (p : PF C Wx m S H D f ρ' S2) (e : Ext m S H m' S' H') : PF C Wx m' S' H' D f ρ' S2 := by
  cases f with
  | nxt => exact fun m2 H2 s h1 h2 h3 => p m2 H2 s h1 (e.trans h2) h3
  | brk => exact fun m2 H2 s h1 h2 h3 => p m2 H2 s h1 (e.trans h2) h3
  | cnt => exact fun m2 H2 s h1 h2 h3 => p m2 H2 s h1 (e.trans h2) h3
  | ret w => exact fun m2 H2 v h1 h2 h3 => p m2 H2 v h1 (e.trans h2) h3
  | ex x => exact fun m2 H2 s c d h1 h2 h3 h4 => p m2 H2 s c d h1 (e.trans h2) h3 h4
theorem st_step {e : Ex} {k : W → Store → Option (Fl × Env × Store)} {Q' : VK} (A : At C m S H ρ σ) (h : toFl (ev Γ e ρ S) ρ k = some (f, ρ', S')) (p : PF C Wx m S H D f ρ' S')
    (hk : ∀ w S1 m1 H1 v, k w S1 = some (f, ρ', S') → At C m1 S1 H1 ρ σ → Ext m S H m1 S1 H1 → RW C.K m1 H1 w v → PF C Wx m1 S1 H1 D f ρ' S' → Q' v H1) : rdE C Γ Wx e σ H Q' := by
  cases he : ev Γ e ρ S with
  | none => rw [he] at h; cases h
  | some r =>
    obtain ⟨r, S1⟩ := r
    rw [he] at h
    refine ⟨m, ρ, S, _, A, he, ?_⟩
    cases r with
    | ex x =>
      have e := Option.some.inj h
      cases e
      exact fun m1 H1 c d h1 h2 h3 => p m1 H1 σ c d h1 h2 (A.s.mono h2) h3
    | ok w => exact fun m1 H1 v h1 h2 h3 => hk w S1 m1 H1 v h (A.go h1 h2) h2 h3 (p.go h2)
theorem st_stepA {es : List Ex} {k : List W → Store → Option (Fl × Env × Store)} {Q' : List V → Hp → Prop} (A : At C m S H ρ σ) (h : toFls (evs Γ es ρ S) ρ k = some (f, ρ', S')) (p : PF C Wx m S H D f ρ' S')
    (hk : ∀ w S1 m1 H1 v, k w S1 = some (f, ρ', S') → At C m1 S1 H1 ρ σ → Ext m S H m1 S1 H1 → RWs C.K m1 H1 w v → PF C Wx m1 S1 H1 D f ρ' S' → Q' v H1) : rdA C Γ Wx es σ H Q' := by
  cases he : evs Γ es ρ S with
  | none => rw [he] at h; cases h
  | some r =>
    obtain ⟨r, S1⟩ := r
    rw [he] at h
    refine ⟨m, ρ, S, _, A, he, ?_⟩
    cases r with
    | ex x =>
      have e := Option.some.inj h
      cases e
      exact fun m1 H1 c d h1 h2 h3 => p m1 H1 σ c d h1 h2 (A.s.mono h2) h3
    | ok w => exact fun m1 H1 v h1 h2 h3 => hk w S1 m1 H1 v h (A.go h1 h2) h2 h3 (p.go h2)
end
section
variable {X : Cx} {st : Stmt} {sts : List Stmt} {t t' : TS}
theorem ps_imp (h : PS X st t) (i : ∀ D σ H, t' D σ H → t D σ H) : PS X st t' := ⟨fun pins s σ H D I q => h.run pins s σ H D I (i D σ H q)⟩
theorem pss_imp (h : PSs X sts t) (i : ∀ D σ H, t' D σ H → t D σ H) : PSs X sts t' := ⟨fun pins s σ H D I q => h.run pins s σ H D I (i D σ H q)⟩
end

/-! ### the context of statements -/
structure GoodS (C : Cf) (Γ : Gam) (K : Ck) (hot : Bool) (X : Cx) : Prop where
  g : Good C Γ K hot X
  stk : X.stack = X.env :: X.outer
  frm : X.env.frame = some X.env.locals
  pass : PassesOwn (model X.prog X.w) X.A X.env X.xe
  rsf : hot = false → ∀ c x f fs, K.cnm[c]? = some x → (c, f :: fs) ∈ K.rsf → C.xc c ∧ OexC X.K (C.cl c) ∧ ∃ fI k fd ps, PySem.W.findIn X.K (.ref (C.cl c)) "__init__" = some (some (.ref fI)) ∧ PySem.W.typeIn X.K (.ref fI) = some (.type "function") ∧ FnOk X.prog X.w X.K X.mg X.base (L2N.CX X.prog X.w) k fI fd ps (spI (C.cl c) ((f :: fs).map C.fn)) ∧ Room (k + 1) X.A ∧ Binds X.K fd ps []
  rse : ∀ c x, K.cnm[c]? = some x → c ∈ K.rs → C.xc c ∧ Raises X (.ref (C.cl c)) ∧ PySem.W.keepIn X.K (.ref (C.cl c)) = true ∧ ∃ B newId initId bmB, ExcBaseFacts B newId initId bmB ∧ PySem.W.excIn X.K (C.cl c) bmB newId = true
section
variable {C : Cf} {Γ : Gam} {Wx : WX} {K : Ck} {hot : Bool} {X : Cx} {a b c d : Ex} {x y z t : Expr} {es : List Ex} {ys : List Expr} {pos p ap p2 : Pos} {st : Stmt} {sts : List Stmt} {i j : Nat} {n n2 : Str} {bs cs : List Sx} {ss ts : List Stmt}
theorem S_nil : PSs X [] (rdSs C Γ Wx []) := pss_imp pss_nil fun D σ H ⟨m, ρ, S, f, ρ', S', A, h, p⟩ => by
  unfold xs at h
  cases (Option.some.inj h)
  exact p m H σ A.h Ext.refl A.s
theorem S_cons {s : Sx} (h1 : PS X st (rdS C Γ Wx s)) (h2 : PSs X sts (rdSs C Γ Wx bs)) : PSs X (st :: sts) (rdSs C Γ Wx (s :: bs)) := pss_imp (pss_cons h1 h2) fun D σ H ⟨m, ρ, S, f, ρ', S', A, h, p⟩ => by
  unfold xs at h
  split at h
  · rename_i ρ1 S1 hx
    exact ⟨m, ρ, S, _, _, _, A, hx, fun m1 H1 σ1 R1 e1 r1 => ⟨m1, ρ1, S1, f, ρ', S', ⟨R1, r1⟩, h, p.go e1⟩⟩
  · rename_i o hn
    refine ⟨m, ρ, S, f, ρ', S', A, h, ?_⟩
    cases f with
    | nxt => exact absurd h (hn _ _)
    | brk => exact p
    | cnt => exact p
    | ret w => exact p
    | ex w => exact p
theorem S_asg {e : Ex} (hN : X.N.Nodup) (hi : X.N[i]? = some n) (hx : Loc X.env.scope n) (hf : X.fn n = true ∨ X.env.scope.names.lookup n = some .local) (he : PE X x (rdE C Γ Wx e)) (hs : swapsWith x (some (.Name n p)) pos.line X.env = pure false) :
    PS X (.Assign [.Name n p] x pos) (rdS C Γ Wx (.asg i e)) := ps_imp (ps_set hN hi hx he hs hf) fun D σ H ⟨m, ρ, S, f, ρ', S', A, h, p⟩ => by
  unfold x1 at h
  refine st_step A h p fun w S1 m1 H1 v h1 A1 _ rv p1 => ?_
  cases (Option.some.inj h1)
  exact p1 m1 H1 _ A1.h Ext.refl (A1.s.set i rv)
theorem S_asgLc {tg : List Nat} {k : Ik} {ifs : List Ex} {elt : Ex} {pelt ptg piter : Expr} {pifs : List Expr} {scope : Scope} {own : List (Str × Nat)} (G : Good C Γ K false X) (hy : X.N[i]? = some n) (hyl : X.env.scope.names.lookup n = some .local)
    (hsw : swapsWith (.ListComp pelt [⟨ptg, piter, pifs, 0⟩] scope p2) (some (.Name n p)) pos.line X.env = pure true)
    (hi : PI X ptg piter (rdI C Γ Wx k es)) (ok : BlkOk X.N X.env.scope scope own) (ho : own.map (·.2) = tg)
    (hg : ∀ (s : Shared) (H : Hp) (D : Addr) (cl : List (Str × Addr)) (fp : List Addr), L2.PG (X.blk s H scope (compEnvC scope cl D X.env) fp) ptg (gT C.K tg)) (ht : ∀ (s : Shared) (H : Hp) (D : Addr) (cl : List (Str × Addr)) (fp : List Addr), PTs (X.blk s H scope (compEnvC scope cl D X.env) fp) pifs (rdTs C Γ W0 ifs))
    (he : ∀ (s : Shared) (H : Hp) (D : Addr) (cl : List (Str × Addr)) (fp : List Addr), PE (X.blk s H scope (compEnvC scope cl D X.env) fp) pelt (rdE C Γ W0 elt)) (hs : ∀ x, foldedSetIterable piter X.env x = pure x) :
    PS X (.Assign [.Name n p] (.ListComp pelt [⟨ptg, piter, pifs, 0⟩] scope p2) pos) (rdS C Γ Wx (.asg i (.lc elt tg k es ifs))) := by
  refine ps_imp (ps_setLc (G.calm rfl) G.hnd hy hyl hsw hi ok hg ht he hs) fun D σ H ⟨m, ρ, S, f, ρ', S', A, h, p⟩ => ?_
  unfold x1 at h
  have q : rdE C Γ Wx (.lc elt tg k es ifs) σ H (fun v H1 => D.nx (σ.set i (some v)) H1) := st_step A h p fun w S1 m1 H1 v h1 A1 _ rv p1 => by
    cases (Option.some.inj h1)
    exact p1 m1 H1 _ A1.h Ext.refl (A1.s.set i rv)
  show tLc _ _ _ _ _ σ H (fun v H1 => gName i v σ H1 D.nx)
  rw [ho]
  exact lc_rd q
theorem S_unp {e : Ex} {is : List Nat} {ti : List Expr} {kk : Nat} (he : PE X x (rdE C Γ Wx e)) (hg : L2.PG X (.Tuple ti kk p) (gT C.K is)) (hs : swapsWithSole [.Tuple ti kk p] x pos.line X.env = pure false) (hw : swappedStores [.Tuple ti kk p] x X.env = pure Option.none) :
    PS X (.Assign [.Tuple ti kk p] x pos) (rdS C Γ Wx (.unp is e)) := ps_imp (ps_asg he hg hs hw) fun D σ H ⟨m, ρ, S, f, ρ', S', A, h, p⟩ => by
  unfold x1 at h
  refine st_step A h p fun w S1 m1 H1 v h1 A1 _ rv p1 => ?_
  split at h1
  · rename_i ws
    obtain ⟨ρ1, h2, h3⟩ := Option.map_eq_some_iff.mp h1
    cases h3
    exact gT_set h2 A1.s.x rv fun σ' r' _ _ => p1 m1 H1 σ' A1.h Ext.refl r'
  · cases h1
theorem S_par {e e2 : Ex} {px py pt : Pos} {kt k2 : Nat} {pt2 : Pos} (hc : X.calm = true) (hN : X.N.Nodup) (hi : X.N[i]? = some n) (hj : X.N[j]? = some n2) (hij : i ≠ j) (hx : X.env.scope.names.lookup n = some .local) (hy : X.env.scope.names.lookup n2 = some .local)
    (h : PEs C Γ Wx X [e, e2] [x, y]) (hw : swappedStores [.Tuple [.Name n px, .Name n2 py] kt pt] (.Tuple [x, y] k2 pt2) X.env = pure (some [n, n2])) :
    PS X (.Assign [.Tuple [.Name n px, .Name n2 py] kt pt] (.Tuple [x, y] k2 pt2) pos) (rdS C Γ Wx (.par i j e e2)) := ps_imp (ps_par hc hN hi hj hij hx hy h.pa hw rfl) fun D σ H ⟨m, ρ, S, f, ρ', S', A, h, p⟩ => by
  unfold x1 at h
  have h' : toFls (evs Γ [e, e2] ρ S) ρ (fun ws S1 => match ws with
      | [v, w] => some (Fl.nxt, (ρ.set i (some v)).set j (some w), S1)
      | _ => none) = some (f, ρ', S') := by
    rw [← h]
    unfold evs
    cases ev Γ e ρ S with
    | none => rfl
    | some r =>
      obtain ⟨r, S1⟩ := r
      cases r with
      | ex w => rfl
      | ok w =>
        rw [bnd_ok]
        show toFls (bnd (evs Γ [e2] ρ S1) _) ρ _ = toFl (ev Γ e2 ρ S1) ρ _
        unfold evs
        cases ev Γ e2 ρ S1 with
        | none => rfl
        | some r =>
          obtain ⟨r, S2⟩ := r
          cases r with
          | ex w => rfl
          | ok w => rfl
  refine st_stepA A h' p fun w S1 m1 H1 v h1 A1 _ rv p1 => ?_
  split at h1
  · rename_i u1 u2
    cases (Option.some.inj h1)
    cases rv with
    | cons r1 r2 =>
      cases r2 with
      | cons r2 r3 =>
        cases r3
        exact ⟨_, _, rfl, p1 m1 H1 _ A1.h Ext.refl ((A1.s.set i r1).set j r2)⟩
  · cases h1
theorem S_sub {o k e : Ex} (hsw : swapsWithSole [.Subscript x y p] z pos.line X.env = pure false) (hn : noSlc y = true) (ho : PE X x (rdE C Γ Wx o)) (hk : PE X y (rdE C Γ Wx k)) (he : PE X z (rdE C Γ Wx e)) :
    PS X (.Assign [.Subscript x y p] z pos) (rdS C Γ Wx (.sub o k e)) := by
  refine ps_imp (ps_asg he (pg_sub ho hk set_list (fun v => by cases y <;> first | rfl | cases hn)) hsw rfl (by cases y <;> first | rfl | cases hn)) fun D σ H ⟨m, ρ, S, f, ρ', S', A, h, p⟩ => ?_
  unfold x1 at h
  refine st_step A h p fun w S1 m1 H1 v h1 A1 _ rv p1 => st_step A1 h1 p1 fun w2 S2 m2 H2 v2 h2 A2 e2 rv2 p2 => st_step A2 h2 p2 fun w3 S3 m3 H3 v3 h3 A3 e3 rv3 p3 => ?_
  obtain ⟨S4, h4, h5⟩ := Option.map_eq_some_iff.mp h3
  cases h5
  unfold setIx at h4
  split at h4
  · rename_i k
    split at h4
    · rename_i ws iv hS
      obtain ⟨j, hj, hS4⟩ := Option.map_eq_some_iff.mp h4
      subst hS4
      cases rv3
      have rv2' := rv2.mono e3
      cases rv2' with
      | loc hm =>
        obtain ⟨xs, z1, z2⟩ := A3.h.cell _ _ _ hm hS
        have rvv := rv.mono (e2.trans e3)
        refine ⟨_, xs, iv, j, rfl, rfl, z1, by rw [← z2.length]; exact hj, ?_⟩
        have n1 := A3.h.set (d := .lst (ws.set j w)) (o := .lst (xs.set j v)) hm hS rfl rfl rfl ⟨_, upd_same, (z2.set rvv j).imm (imm_touch z1)⟩
        exact p3 m3 _ σ n1.1 n1.2 (A3.s.mono n1.2)
    · cases h4
  · cases h4
theorem S_aug {op : Op2} {e : Ex} (hN : X.N.Nodup) (hi : X.N[i]? = some n) (hx : Loc X.env.scope n) (hf : X.fn n = true ∨ X.env.scope.names.lookup n = some .local) (hop : op = .add ∨ op = .sub) (he : PE X x (rdE C Γ Wx e)) :
    PS X (.AugAssign (.Name n p) (pyOp op) x pos) (rdS C Γ Wx (.aug i op e)) := by
  have core : ∀ (g : Int → Int → Int), (∀ a b w, augW op a b = some w → ∃ x y, a = .int x ∧ b = .int y ∧ w = .int (g x y)) → ∀ D σ H, rdS C Γ Wx (.aug i op e) D σ H → tAug i (rdE C Γ Wx e) (ipI g) D σ H := fun g hg D σ H ⟨m, ρ, S, f, ρ', S', A, h, p⟩ => by
    unfold x1 at h
    split at h
    · rename_i a ha
      obtain ⟨v, hv, rv⟩ := A.s.2 i a ha
      refine ⟨v, hv, st_step A h p fun w S1 m1 H1 u h1 A1 e1 ru p1 => ?_⟩
      obtain ⟨w2, h2, h3⟩ := Option.map_eq_some_iff.mp h1
      cases h3
      obtain ⟨i1, i2, q1, q2, q3⟩ := hg _ _ _ h2
      subst q1 q2 q3
      cases rv
      cases ru
      exact ⟨i1, i2, rfl, rfl, p1 m1 H1 _ A1.h Ext.refl (A1.s.set i (.int _))⟩
    · cases h
  rcases hop with e1 | e1
  · subst e1
    exact ps_imp (ps_aug hN hi hx he ip_add hf) (core _ fun a b w h => by cases a <;> cases b <;> first | (cases h; exact ⟨_, _, rfl, rfl, rfl⟩) | cases h)
  · subst e1
    exact ps_imp (ps_aug hN hi hx he ip_sub hf) (core _ fun a b w h => by cases a <;> cases b <;> first | (cases h; exact ⟨_, _, rfl, rfl, rfl⟩) | cases h)
theorem S_exp {e : Ex} (hs : swapsWith x Option.none pos.line X.env = pure false) (he : PE X x (rdE C Γ Wx e)) : PS X (.Expr x pos) (rdS C Γ Wx (.exp e)) := ps_imp (ps_expr he hs) fun D σ H ⟨m, ρ, S, f, ρ', S', A, h, p⟩ => by
  unfold x1 at h
  refine st_step A h p fun w S1 m1 H1 v h1 A1 _ rv p1 => ?_
  cases (Option.some.inj h1)
  exact p1 m1 H1 _ A1.h Ext.refl A1.s
theorem S_iff {c : Ex} (hc : PT X z (rdT C Γ Wx c)) (ha : PSs X ss (rdSs C Γ Wx bs)) (hb : PSs X ts (rdSs C Γ Wx cs)) : PS X (.If z ss ts pos) (rdS C Γ Wx (.iff c bs cs)) := ps_imp (ps_if hc ha hb) fun D σ H ⟨m, ρ, S, f, ρ', S', A, h, p⟩ => by
  unfold x1 at h
  split at h
  · rename_i S1 he
    refine ⟨m, ρ, S, _, A, he, fun m1 H1 k R1 e1 ek => ?_⟩
    have ek' : true = k := ek
    subst ek'
    exact iteT ⟨m1, ρ, S1, _, _, _, A.go R1 e1, h, p.go e1⟩
  · rename_i S1 he
    refine ⟨m, ρ, S, _, A, he, fun m1 H1 k R1 e1 ek => ?_⟩
    have ek' : false = k := ek
    subst ek'
    exact iteF ⟨m1, ρ, S1, _, _, _, A.go R1 e1, h, p.go e1⟩
  · rename_i x S1 he
    cases (Option.some.inj h)
    exact ⟨m, ρ, S, _, A, he, fun m1 H1 c d h1 h2 h3 => p m1 H1 σ c d h1 h2 (A.s.mono h2) h3⟩
  · cases h
theorem S_while {c : Ex} (hp : PassesOwn (model X.prog X.w) X.A X.env X.xe) (hc : PT X z (rdT C Γ Wx c)) (ha : PSs X ss (rdSs C Γ Wx bs)) : PS X (.While z ss [] pos) (rdS C Γ Wx (.while c bs)) := ps_imp (ps_while hp hc ha) fun D σ H ⟨m, ρ, S, f, ρ', S', A, h, p⟩ => by
  unfold x1 at h
  refine ⟨fun n σ1 H1 => ∃ m1 ρ1 S1, At C m1 S1 H1 ρ1 σ1 ∧ Ext m S H m1 S1 H1 ∧ whlL (fun ρ1 S1 => truth (ev Γ c ρ1 S1)) (fun ρ1 S1 => xs Γ bs ρ1 S1) n ρ1 S1 = some (f, ρ', S'), ⟨big, m, ρ, S, A, Ext.refl, h⟩, ?_⟩
  rintro n σ1 H1 ⟨m1, ρ1, S1, A1, e1, h1⟩
  cases n with
  | zero => unfold whlL at h1; cases h1
  | succ n =>
    unfold whlL at h1
    split at h1
    · cases h1
    · rename_i x S2 he
      cases (Option.some.inj h1)
      exact ⟨m1, _, S1, _, A1, he, fun m2 H2 c d h1 h2 h3 => p m2 H2 σ1 c d h1 (e1.trans h2) (A1.s.mono h2) h3⟩
    · rename_i S2 he
      cases (Option.some.inj h1)
      refine ⟨m1, _, S1, _, A1, he, fun m2 H2 k R2 e2 ek => ?_⟩
      have ek' : false = k := ek
      subst ek'
      exact iteF (p m2 H2 σ1 R2 (e1.trans e2) (A1.s.mono e2))
    · rename_i S2 he
      refine ⟨m1, ρ1, S1, _, A1, he, fun m2 H2 k R2 e2 ek => ?_⟩
      have ek' : true = k := ek
      subst ek'
      refine iteT ⟨fun σ3 H3 => ∃ m3 ρ3 S3, At C m3 S3 H3 ρ3 σ3 ∧ Ext m S H m3 S3 H3 ∧ whlL (fun ρ1 S1 => truth (ev Γ c ρ1 S1)) (fun ρ1 S1 => xs Γ bs ρ1 S1) n ρ3 S3 = some (f, ρ', S'), fun σ3 H3 q => ⟨n, Nat.lt_succ_self _, q⟩, ?_⟩
      have e12 := e1.trans e2
      split at h1
      · rename_i ρ3 S3 hx
        exact ⟨m2, ρ1, S2, _, _, _, A1.go R2 e2, hx, fun m3 H3 σ3 R3 e3 r3 => ⟨m3, ρ3, S3, ⟨R3, r3⟩, e12.trans e3, h1⟩⟩
      · rename_i ρ3 S3 hx
        exact ⟨m2, ρ1, S2, _, _, _, A1.go R2 e2, hx, fun m3 H3 σ3 R3 e3 r3 => ⟨m3, ρ3, S3, ⟨R3, r3⟩, e12.trans e3, h1⟩⟩
      · rename_i ρ3 S3 hx
        cases (Option.some.inj h1)
        exact ⟨m2, ρ1, S2, _, _, _, A1.go R2 e2, hx, fun m3 H3 σ3 R3 e3 r3 => p m3 H3 σ3 R3 (e12.trans e3) r3⟩
      · rename_i r hn1 hn2 hn3 hx
        cases (Option.some.inj h1)
        refine ⟨m2, ρ1, S2, _, _, _, A1.go R2 e2, hx, ?_⟩
        have p2 := p.go e12
        cases f with
        | nxt => exact absurd rfl (hn1 _ _)
        | cnt => exact absurd rfl (hn2 _ _)
        | brk => exact absurd rfl (hn3 _ _)
        | ret w => exact p2
        | ex w => exact p2
      · cases h1
theorem S_for {tg : List Nat} {k : Ik} {ptg piter : Expr} (hp : PassesOwn (model X.prog X.w) X.A X.env X.xe) (hc : X.calm = true) (hi : PI X ptg piter (rdI C Γ Wx k es)) (hg : L2.PG X ptg (gT C.K tg)) (ha : PSs X ss (rdSs C Γ Wx bs)) (hs : ∀ x, foldedSetIterable piter X.env x = pure x) :
    PS X (.For ptg piter ss [] pos) (rdS C Γ Wx (.for tg k es bs)) := ps_imp (ps_for hp hc hi hg ha hs) fun D σ H ⟨m, ρ, S, f, ρ', S', A, h, p⟩ => by
  unfold x1 at h
  cases he : evs Γ es ρ S with
  | none => rw [he] at h; cases h
  | some r1 =>
    obtain ⟨r1, S1⟩ := r1
    rw [he] at h
    cases r1 with
    | ex x =>
      cases (Option.some.inj h)
      exact ⟨m, ρ, S, _, A, he, fun m1 H1 c d h1 h2 h3 => p m1 H1 σ c d h1 h2 (A.s.mono h2) h3⟩
    | ok ws =>
      refine ⟨m, ρ, S, _, A, he, ?_⟩
      cases hsr : srcOf k S1 ws with
      | none =>
        simp only [toFls, hsr] at h
        cases h
      | some src =>
        refine ⟨src, hsr, fun m1 H1 J R1 e1 wlk => ?_⟩
        simp only [toFls, hsr] at h
        generalize hG : (fun (w : W) (ρ1 : Env) (S2 : Store) => (match setT tg w ρ1 with
          | none => none
          | some ρ2 => xs Γ bs ρ2 S2 : Option (Fl × Env × Store))) = G at h
        refine ⟨fun i n σ2 H2 => ∃ m2 S2 ρ2, At C m2 S2 H2 ρ2 σ2 ∧ Ext m1 S1 H1 m2 S2 H2 ∧ forL G src n i ρ2 S2 = some (f, ρ', S'), ⟨big, m1, S1, ρ, A.go R1 e1, Ext.refl, h⟩, ?_⟩
        rintro i n σ2 H2 ⟨m2, S2, ρ2, A2, e2, h2⟩
        cases n with
        | zero => unfold forL at h2; cases h2
        | succ n =>
          unfold forL at h2
          have wk := wlk m2 S2 H2 A2.h e2 i
          have e12 := e1.trans e2
          split at h2
          · cases h2
          · rename_i hat
            cases (Option.some.inj h2)
            exact .inl ⟨wk.2 hat, p m2 H2 σ2 A2.h e12 A2.s⟩
          · rename_i w hat
            refine .inr ⟨(wk.1 w hat).1, fun σ3 H3 => ∃ m3 S3 ρ3, At C m3 S3 H3 ρ3 σ3 ∧ Ext m1 S1 H1 m3 S3 H3 ∧ forL G src n (i + 1) ρ3 S3 = some (f, ρ', S'), fun σ3 H3 q => ⟨n, Nat.lt_succ_self _, q⟩, fun x H3 y => ?_⟩
            obtain ⟨R3, e3, rx⟩ := (wk.1 w hat).2 x H3 y
            have e13 := e2.trans e3
            have key : ∀ {fl : Fl} {ρ4 : Env} {S4 : Store}, G w ρ2 S2 = some (fl, ρ4, S4) → (PF C Wx m2 S2 H3 { D with nx := fun σ3 H3 => ∃ m3 S3 ρ3, At C m3 S3 H3 ρ3 σ3 ∧ Ext m1 S1 H1 m3 S3 H3 ∧ forL G src n (i + 1) ρ3 S3 = some (f, ρ', S'), ct := fun σ3 H3 => ∃ m3 S3 ρ3, At C m3 S3 H3 ρ3 σ3 ∧ Ext m1 S1 H1 m3 S3 H3 ∧ forL G src n (i + 1) ρ3 S3 = some (f, ρ', S'), bk := D.nx } fl ρ4 S4) →
                gT C.K tg x σ2 H3 fun σ3 H4 => rdSs C Γ Wx bs { D with nx := fun σ3 H3 => ∃ m3 S3 ρ3, At C m3 S3 H3 ρ3 σ3 ∧ Ext m1 S1 H1 m3 S3 H3 ∧ forL G src n (i + 1) ρ3 S3 = some (f, ρ', S'), ct := fun σ3 H3 => ∃ m3 S3 ρ3, At C m3 S3 H3 ρ3 σ3 ∧ Ext m1 S1 H1 m3 S3 H3 ∧ forL G src n (i + 1) ρ3 S3 = some (f, ρ', S'), bk := D.nx } σ3 H4 := fun {fl ρ4 S4} hg pf => by
              rw [← hG] at hg
              dsimp only at hg
              split at hg
              · cases hg
              · rename_i ρ3 ht
                exact gT_set ht ((A2.s.mono e3).x) rx fun σ' r' _ _ => ⟨m2, ρ3, S2, _, _, _, ⟨R3, r'⟩, hg, pf⟩
            split at h2
            · rename_i ρ3 S3 hx
              exact key hx fun m4 H4 σ4 R4 e4 r4 => ⟨m4, S3, ρ3, ⟨R4, r4⟩, e13.trans e4, h2⟩
            · rename_i ρ3 S3 hx
              exact key hx fun m4 H4 σ4 R4 e4 r4 => ⟨m4, S3, ρ3, ⟨R4, r4⟩, e13.trans e4, h2⟩
            · rename_i ρ3 S3 hx
              cases (Option.some.inj h2)
              exact key hx fun m4 H4 σ4 R4 e4 r4 => p m4 H4 σ4 R4 ((e1.trans e13).trans e4) r4
            · rename_i r hn1 hn2 hn3 hx
              cases (Option.some.inj h2)
              refine key hx ?_
              have p2 := p.go (e1.trans e13)
              cases f with
              | nxt => exact absurd rfl (hn1 _ _)
              | cnt => exact absurd rfl (hn2 _ _)
              | brk => exact absurd rfl (hn3 _ _)
              | ret w => exact p2
              | ex w => exact p2
            · cases h2
theorem S_ret {e : Ex} (he : PE X x (rdE C Γ Wx e)) : PS X (.Return (some x) pos) (rdS C Γ Wx (.ret e)) := ps_imp (ps_ret he) fun D σ H ⟨m, ρ, S, f, ρ', S', A, h, p⟩ => by
  unfold x1 at h
  refine st_step A h p fun w S1 m1 H1 v h1 A1 _ rv p1 => ?_
  cases (Option.some.inj h1)
  exact p1 m1 H1 _ A1.h Ext.refl rv
theorem S_retN : PS X (.Return Option.none pos) (rdS C Γ Wx .retN) := ps_imp ps_retN fun D σ H ⟨m, ρ, S, f, ρ', S', A, h, p⟩ => by
  unfold x1 at h
  cases (Option.some.inj h)
  exact p m H _ A.h Ext.refl .non
theorem S_pass : PS X (.Pass pos) (rdS C Γ Wx .pass) := ps_imp ps_pass fun D σ H ⟨m, ρ, S, f, ρ', S', A, h, p⟩ => by
  unfold x1 at h
  cases (Option.some.inj h)
  exact p m H σ A.h Ext.refl A.s
theorem S_doc {s : Str} {k : Nat} : PS X (.Expr (.Constant (.str s) k p) pos) (rdS C Γ Wx .pass) := ps_imp ps_doc fun D σ H ⟨m, ρ, S, f, ρ', S', A, h, p⟩ => by
  unfold x1 at h
  cases (Option.some.inj h)
  exact p m H σ A.h Ext.refl A.s
theorem S_brk : PS X (.Break pos) (rdS C Γ Wx .brk) := ps_imp ps_break fun D σ H ⟨m, ρ, S, f, ρ', S', A, h, p⟩ => by
  unfold x1 at h
  cases (Option.some.inj h)
  exact p m H σ A.h Ext.refl A.s
theorem S_cnt : PS X (.Continue pos) (rdS C Γ Wx .cnt) := ps_imp ps_continue fun D σ H ⟨m, ρ, S, f, ρ', S', A, h, p⟩ => by
  unfold x1 at h
  cases (Option.some.inj h)
  exact p m H σ A.h Ext.refl A.s
theorem S_raise {c : Nat} {n s : Str} {k : Nat} (G : GoodS C Γ K false X) (tk : L2N.Takes X Wx) (hn : K.cnm[c]? = some n) (hr : c ∈ K.rs) (hg : Gl X n) (hd : (n == ("__debug__" : Str)) = false) :
    PS X (.Raise (some (.Call (.Name n p) [.Constant (.str s) k p2] [] ap)) Option.none pos) (rdS C Γ Wx (.raise c [] [])) := by
  obtain ⟨h1, h2, h3, B, newId, initId, bmB, F, q⟩ := G.rse c n hn hr
  refine ps_imp (L2N.ps_raise (G.g.calm rfl) tk (L2N.pmk_own F q (G.g.cls c n hn) h3 h2 hg hd)) fun D σ H ⟨m, ρ, S, f, ρ', S', A, h, p⟩ => ?_
  unfold x1 at h
  unfold evs at h
  simp only [rok, toFls, List.length_nil, if_true] at h
  cases (Option.some.inj h)
  exact p m H σ _ _ A.h Ext.refl A.s ⟨rfl, h1, .inl ⟨rfl, rfl⟩⟩
theorem S_fset {f : Nat} {o e : Ex} (G : Good C Γ K hot X) (hn : K.mnm[f]? = some n) (hs : swapsWith z (some (.Attribute x n p)) pos.line X.env = pure false) (ho : PE X x (rdE C Γ Wx o)) (he : PE X z (rdE C Γ Wx e)) :
    PS X (.Assign [.Attribute x n p] z pos) (rdS C Γ Wx (.fset o f e)) := by
  refine ps_imp (ps_fld ho he hs) fun D σ H ⟨m, ρ, S, f', ρ', S', A, h, p⟩ => ?_
  unfold x1 at h
  refine st_step A h p fun w S1 m1 H1 v h1 A1 _ rv p1 => st_step A1 h1 p1 fun w2 S2 m2 H2 v2 h2 A2 e2 rv2 p2 => ?_
  obtain ⟨S4, h4, h5⟩ := Option.map_eq_some_iff.mp h2
  cases h5
  unfold setFl at h4
  split at h4
  · rename_i k
    split at h4
    · rename_i c fs hS
      split at h4
      · rename_i hq
        cases (Option.some.inj h4)
        cases rv2 with
        | loc hm =>
          rename_i a2
          obtain ⟨f1, f2, f3⟩ := G.fld c f n hq.1 hn
          obtain ⟨dx, ys, z1, z2⟩ := A2.h.cell _ _ _ hm hS
          have rvv := rv.mono e2
          have len : ∀ {fs : List (Nat × W)} {ys : List (Str × V)}, RF C.K C.fn m2 H2 fs ys → fs.length = ys.length := fun r => by
            induction r with
            | nil => rfl
            | cons _ _ ih => rw [List.length_cons, List.length_cons, ih]
          have put : ∀ {fs : List (Nat × W)} {ys : List (Str × V)}, RF C.K C.fn m2 H2 fs ys → RF C.K C.fn m2 H2 (putW f w fs) (putF n v ys) := fun r => by
            induction r with
            | nil =>
              have q : RF C.K C.fn m2 H2 [(f, w)] [(C.fn f, v)] := .cons rvv .nil
              rw [f1] at q
              exact q
            | cons hw r ih =>
              rename_i k2 w2 v2 fs2 ys2
              unfold putW putF
              by_cases hk : k2 = f
              · subst hk
                rw [if_pos rfl, if_pos f1]
                exact .cons rvv r
              · rw [if_neg hk, if_neg (fun e => hk (G.inj f k2 n hn e))]
                exact .cons hw ih
          refine ⟨_, _, dx, ys, rfl, z1, f2, f3, by rw [← len z2]; exact hq.2, ?_⟩
          have im : Imm H2 (upd H2 a2 (.ins (C.cl c) dx (putF n v ys))) := fun a u hu hmu => by
            have ne : a ≠ a2 := fun z => by
              rw [z, z1] at hu
              have e := Option.some.inj hu
              subst e
              cases hmu
            rw [upd_ne ne]
            exact hu
          have n1 := A2.h.set (d := .ins c (putW f w fs)) (o := .ins (C.cl c) dx (putF n v ys)) hm hS rfl rfl rfl ⟨dx, _, upd_same, (put z2).imm im⟩
          exact p2 m2 _ σ n1.1 n1.2 (A2.s.mono n1.2)
      · cases h4
    · cases h4
  · cases h4
theorem S_raiseF {c : Nat} {n : Str} {f : Nat} {fs : List Nat} (G : Good C Γ K false X) (tk : L2N.Takes X Wx) (hn : K.cnm[c]? = some n) (hg : Gl X n) (hd : (n == ("__debug__" : Str)) = false) (hl : (e :: es).length = (f :: fs).length) (h30 : es.length < 900)
    (hx : C.xc c) (T : OexC X.K (C.cl c)) {fI : Addr} {k : Nat} {fd : FuncData} {ps : List Str} (iC : PySem.W.findIn X.K (.ref (C.cl c)) "__init__" = some (some (.ref fI))) (tI : PySem.W.typeIn X.K (.ref fI) = some (.type "function"))
    (F1 : FnOk X.prog X.w X.K X.mg X.base (L2N.CX X.prog X.w) k fI fd ps (spI (C.cl c) ((f :: fs).map C.fn))) (hr : Room (k + 1) X.A) (hb : Binds X.K fd ps []) (h : PEs C Γ Wx X (e :: es) (y :: ys)) :
    PS X (.Raise (some (.Call (.Name n p) (y :: ys) [] ap)) Option.none pos) (rdS C Γ Wx (.raise c (f :: fs) (e :: es))) := by
  have hs := h.noStar
  rw [List.all_cons, Bool.and_eq_true] at hs
  refine ps_imp (L2N.ps_raise (G.calm rfl) tk (pmk_oexN T iC tI F1 hr hb passF hg (G.cls c n hn) h.pa hd (star_cons hs.1) (star_plain hs.2))) fun D σ H ⟨m, ρ, S, f', ρ', S', A, h, p⟩ => ?_
  unfold x1 at h
  refine st_stepA A h p fun ws S1 m1 H1 vs h1 A1 _ rv p1 => ?_
  split at h1
  case isFalse => cases h1
  rename_i hlen
  cases (Option.some.inj h1)
  have lv := rv.length
  refine ⟨?_, fun a ha => ⟨a, vs ++ [], rfl, by simp; simp at hlen; omega, upd_same, fun d H2 hd0 hda e1 e2 e3 => ⟨rfl, d, _, e1, e2, ?_, ?_⟩⟩⟩
  · simp at hlen hl
    omega
  · rw [upd_ne hda] at hd0
    exact hd0
  · have hd1 : H1 d = none := by rw [upd_ne hda] at hd0; exact hd0
    have eH : upd (del H2 a) d (.xd (((f :: fs).map C.fn).zip (vs ++ [])).reverse) = upd H1 d (.xd (((f :: fs).map C.fn).zip vs).reverse) := by
      rw [List.append_nil]
      funext b
      by_cases hb1 : b = d
      · subst hb1; rw [upd_same, upd_same]
      · rw [upd_ne hb1, upd_ne hb1]
        by_cases hb2 : b = a
        · subst hb2; rw [del_same, ha]
        · rw [del_ne hb2, e3 b hb2 hb1, upd_ne hb2]
    rw [eH]
    have nt := A1.h.tuple (o := .xd (((f :: fs).map C.fn).zip vs).reverse) hd1 rfl
    refine p1 m1 _ σ _ _ nt.1 nt.2 (A1.s.mono nt.2) ⟨rfl, hx, .inr ⟨d, _, rfl, upd_same, (RF.zip _ (rv.mono nt.2)).rev, ?_⟩⟩
    intro z
    have z2 := congrArg List.length z
    simp at z2 hlen
    cases ws with
    | nil => simp at hlen
    | cons w ws => simp at z2
end
end Ip

/-! IpTry: try, except; the check of statements. Written by an AI agent. -/
namespace Ip
open PySem PySem.Spec PyProof.Rows L2

/-! ### the caught exception -/
def Cf.exn (C : Cf) (a : Addr) (cls : Value) (d : Option Addr) (k : Nat) : Cf := { C with xi := fun b c e => b = a ∧ c = cls ∧ e = d, xn := fun n => n = k }
section
variable {C : Cf} {m m' m2 : List Addr} {S S' S2 : Store} {H H' H2 : Hp} {ρ : Env} {σ : L2.St} {a : Addr} {cls : Value} {d : Option Addr} {k : Nat}
theorem RC.into (no : ∀ a c d, ¬ C.xi a c d) {b : Addr} : ∀ {c : Cell}, RC C m H b c → RC (C.exn a cls d k) m H b c
  | .lst _, h => h
  | .fro _, h => h
  | .dct _, h => h
  | .ins _ _, h => h
  | .exn _ _, ⟨_, h, _⟩ => absurd h (no _ _ _)
  | .dead, h => h
theorem RelH.into (no : ∀ a c d, ¬ C.xi a c d) (non : ∀ n, ¬ C.xn n) (R : RelH C m S H) : RelH (C.exn a cls d k) m S H :=
  ⟨R.len, fun n b c h1 h2 => RC.into no (R.cell n b c h1 h2), R.dis, fun n c fs h => absurd (R.exs n c fs h) (non n)⟩
theorem RelH.exn {c : Nat} {fs : List (Nat × W)} (R : RelH (C.exn a cls d S.length) m S H) (e : cls = .ref (C.cl c)) (hc : C.xc c) (hd : RXd C m H d fs) :
    RelH (C.exn a cls d S.length) (m ++ [a]) (S ++ [.exn c fs]) H ∧ Ext m S H (m ++ [a]) (S ++ [.exn c fs]) H ∧ (m ++ [a])[S.length]? = some a := by
  have old : ∀ {n : Nat}, n < S.length → (m ++ [a])[n]? = m[n]? ∧ (S ++ [Cell.exn c fs])[n]? = S[n]? := fun {n} h => ⟨List.getElem?_append_left (by rw [R.len]; exact h), List.getElem?_append_left h⟩
  have last : ∀ {n : Nat} {d : Cell}, ¬ n < S.length → (S ++ [Cell.exn c fs])[n]? = some d → n = S.length ∧ d = .exn c fs := fun {n d} h q => by
    rw [List.getElem?_append_right (by omega)] at q
    have z : n - S.length = 0 := by
      by_cases z : n - S.length = 0
      · exact z
      · rw [List.getElem?_eq_none (by simp; omega)] at q
        cases q
    rw [z] at q
    exact ⟨by omega, (Option.some.inj q).symm⟩
  have lastm : (m ++ [a])[S.length]? = some a := by rw [← R.len]; simp
  have ext : Ext m S H (m ++ [a]) (S ++ [Cell.exn c fs]) H := ⟨⟨[a], rfl⟩, fun b o h k => ⟨h, fun ho z => by
    obtain ⟨n, u, q1, q2, q3⟩ := z
    by_cases hn : n < S.length
    · rw [(old hn).1] at q1
      rw [(old hn).2] at q2
      exact k ho ⟨n, u, q1, q2, q3⟩
    · obtain ⟨_, e⟩ := last hn q2
      subst e
      cases q3⟩⟩
  refine ⟨⟨by rw [List.length_append, List.length_append, R.len]; rfl, fun n b u h1 h2 => ?_, fun n k b u f h1 h2 h3 h4 h5 h6 => ?_, fun n c' fs' h => ?_⟩, ext, lastm⟩
  · by_cases hn : n < S.length
    · rw [(old hn).1] at h1
      rw [(old hn).2] at h2
      exact RC.mono ext (fun _ o h _ => h) (R.cell n b u h1 h2)
    · obtain ⟨en, ed⟩ := last hn h2
      subst ed
      rw [en, lastm] at h1
      have e1 : a = b := Option.some.inj h1
      subst e1
      exact ⟨d, ⟨rfl, e.symm, rfl⟩, hc, hd.mono ext⟩
  · by_cases hn : n < S.length
    · by_cases hk : k < S.length
      · rw [(old hn).1] at h1
        rw [(old hk).1] at h2
        rw [(old hn).2] at h3
        rw [(old hk).2] at h4
        exact R.dis n k b u f h1 h2 h3 h4 h5 h6
      · obtain ⟨_, e⟩ := last hk h4
        subst e
        cases h6
    · obtain ⟨_, e⟩ := last hn h3
      subst e
      cases h5
  · by_cases hn : n < S.length
    · rw [(old hn).2] at h
      exact R.exs n c' fs' h
    · exact (last hn h).1
/-- behind the suite -/
theorem RelH.out (R : RelH (C.exn a cls d k) m S H) : RelH C m (S.set k .dead) H := by
  refine ⟨by rw [List.length_set]; exact R.len, fun n b c h1 h2 => ?_, fun n j b c e h1 h2 h3 h4 h5 h6 => ?_, fun n c fs h => ?_⟩
  · by_cases hk : k = n
    · subst hk
      by_cases hl : k < S.length
      · rw [List.getElem?_set_self hl] at h2
        have e := Option.some.inj h2
        subst e
        exact trivial
      · rw [List.getElem?_eq_none (by rw [List.length_set]; omega)] at h2
        cases h2
    · rw [List.getElem?_set_ne hk] at h2
      have r := R.cell n b c h1 h2
      cases c with
      | exn c fs => exact absurd (R.exs n c fs h2).symm hk
      | _ => exact r
  · have back : ∀ {n : Nat} {c : Cell}, (S.set k .dead)[n]? = some c → c.mut = true → S[n]? = some c := fun {n c} h hm => by
      by_cases hk : k = n
      · subst hk
        by_cases hl : k < S.length
        · rw [List.getElem?_set_self hl] at h
          have e := Option.some.inj h
          subst e
          cases hm
        · rw [List.getElem?_eq_none (by rw [List.length_set]; omega)] at h
          cases h
      · rw [List.getElem?_set_ne hk] at h
        exact h
    exact R.dis n j b c e h1 h2 (back h3 h5) (back h4 h6) h5 h6
  · by_cases hk : k = n
    · subst hk
      by_cases hl : k < S.length
      · rw [List.getElem?_set_self hl] at h
        cases (Option.some.inj h)
      · rw [List.getElem?_eq_none (by rw [List.length_set]; omega)] at h
        cases h
    · rw [List.getElem?_set_ne hk] at h
      exact absurd (R.exs n c fs h).symm hk
theorem ext_out (e : Ext m S H m2 S2 H2) : Ext m S H m2 (S2.set k .dead) H2 := ⟨e.pre, fun b o h q => by
  obtain ⟨h1, h2⟩ := e.keep b o h q
  refine ⟨h1, fun ho z => h2 ho ?_⟩
  obtain ⟨n, c, q1, q2, q3⟩ := z
  by_cases hk : k = n
  · subst hk
    by_cases hl : k < S2.length
    · rw [List.getElem?_set_self hl] at q2
      have e := Option.some.inj q2
      subst e
      cases q3
    · rw [List.getElem?_eq_none (by rw [List.length_set]; omega)] at q2
      cases q2
  · rw [List.getElem?_set_ne hk] at q2
    exact ⟨n, c, q1, q2, q3⟩⟩
theorem Rst.unset (r : Rst C.K m H ρ σ) (i : Nat) : Rst C.K m H (ρ.set i none) (σ.set i none) := by
  refine ⟨by rw [List.length_set, List.length_set]; exact r.1, fun j w hw => ?_⟩
  by_cases hj : i = j
  · subst hj
    by_cases hl : i < ρ.length
    · rw [List.getElem?_set_self hl] at hw
      cases (Option.some.inj hw)
    · rw [List.getElem?_eq_none (by rw [List.length_set]; omega)] at hw
      cases hw
  · rw [List.getElem?_set_ne hj] at hw
    obtain ⟨v, h1, h2⟩ := r.2 j w hw
    exact ⟨v, by rw [List.getElem?_set_ne hj]; exact h1, h2⟩
end

/-! ### the contexts of a try -/
section
variable {C : Cf} {Γ : Gam} {K : Ck} {X : Cx} {a : Addr} {oe : Obj} {cls : Value} {d : Option Addr} {pn : List (Addr × Obj)} {k : Nat} {xe : Value → Shared → Prop}
theorem Good.tr (G : Good C Γ K false X) : Good C Γ K false (X.tr pn xe) := by
  have no : ∀ a c d, ¬ C.xi a c d := G.xno rfl
  refine ⟨G.hK, G.hN, G.hsc, G.hnd, G.hu, G.calm, .inl (G.calm rfl), G.kind, G.bn, G.glob, ?_, G.cls, G.inj, G.kt, G.xk, G.call, G.meth, G.make, G.csm, G.xno, G.xnn, G.fld, G.xcc, G.flx, G.xup, G.fnT, fun Wx y e n p x hp hb hn => ?_⟩
  · intro pins s' σ H' xs us Q I r h
    rcases h with h | ⟨a, c, t, b, _, z, _, _⟩
    · rw [← G.hK] at h
      exact call_isi (X := X.tr pn xe) pins s' σ H' xs us Q I r h
    · exact absurd z (no _ _ _)
  · refine pe_imp (pe_fld hp (sup_base hb)) fun σ H Q ⟨m, ρ, S, r, A, h, p⟩ => ⟨m, ρ, S, r, A, h, ?_⟩
    obtain ⟨r, S'⟩ := r
    cases r with
    | ex x => exact p
    | ok w =>
      intro m' H' v R e rv
      obtain ⟨a, c, d, _, _, _, _, z, _⟩ := p m' H' v R e rv
      exact absurd z (no _ _ _)
theorem GoodS.tr (G : GoodS C Γ K false X) (hp : PassesOwn (model X.prog X.w) X.A X.env xe) : GoodS C Γ K false (X.tr pn xe) := ⟨G.g.tr, G.stk, G.frm, hp, G.rsf, G.rse⟩
theorem Good.suite (G : Good C Γ K false X) (hz : L2N.Zn cls d oe) (hf : ∃ vs, oe.data = .fields vs) : Good (C.exn a cls d k) Γ K true (X.suite a ((a, oe) :: pn)) := by
  refine ⟨G.hK, G.hN, G.hsc, G.hnd, G.hu, (fun z => by cases z), .inr ?_, G.kind, G.bn, G.glob, ?_, G.cls, G.inj, G.kt, G.xk, (fun z => by cases z), (fun z => by cases z), (fun z => by cases z), (fun z => by cases z), (fun z => by cases z), (fun z => by cases z), G.fld, G.xcc, G.flx, G.xup, G.fnT, fun Wx y e n p x hp hb hn => ?_⟩
  · obtain ⟨vs, hv⟩ := hf
    exact ⟨(a, oe), ⟨rfl, vs, hv, hz.2.2 vs hv⟩, List.mem_cons_self⟩
  · intro pins s' σ H' xs us Q I r h
    rcases h with h | ⟨a', c, t, b, e1, z, zc, e, q⟩
    · have hK' : (C.exn a cls d k).K = (X.suite a ((a, oe) :: pn)).K := G.hK.symm
      rw [hK'] at h
      exact call_isi (X := X.suite a ((a, oe) :: pn)) pins s' σ H' xs us Q I r h
    · obtain ⟨z1, z2, z3⟩ := z
      change Value.ref (C.cl c) = cls at z2
      change C.xc c at zc
      change PySem.W.kitOne C.K (.ref (C.cl c)) (isaU C t) = some b at e
      change xs = [_, isaV C t] at e1
      subst z1
      subst z2
      subst z3
      have xc := (G.xcc c zc).1
      rw [← G.hK] at xc
      refine call_isE (X := X) (D := C.cl c) xc hz.zc hf pins s' σ H' xs us Q I r ⟨isaV C t, isaU C t, b, e1, fun u ru => (isa_cls C t).eq ru, ?_, q⟩
      rw [G.hK]
      exact e
  · by_cases hh : ∃ c, C.xc c ∧ cls = .ref (C.cl c) ∧ PySem.W.findIn C.K (.ref (C.cl c)) n = some Option.none
    · obtain ⟨c, hc, ec, hno⟩ := hh
      have xf := (G.xcc c hc).2
      rw [← G.hK] at xf hno
      refine pe_imp (pe_xf (X := X) (d := d) xf hno hz.zc hf hp (sup_base hb)) fun σ H Q ⟨m, ρ, S, r, A, h, p⟩ => ⟨m, ρ, S, r, A, h, ?_⟩
      obtain ⟨r, S'⟩ := r
      cases r with
      | ex x => exact p
      | ok w =>
        intro m' H' v R e1 rv
        obtain ⟨a', c', d', dd, fs, u, ev, ⟨z1, z2, z3⟩, zc, hfo, ed, hdd, hl, q⟩ := p m' H' v R e1 rv
        subst z1
        exact ⟨ev, ec, dd, fs, u, by rw [← z3]; exact ed, hdd, hl, q⟩
    · refine ⟨fun pins s σ H Q I q => ?_⟩
      refine (pe_imp (pe_fld (X := X.suite a ((a, oe) :: pn)) (f := n) (pos := p) hp (sup_base hb)) fun σ H Q (h : rdX (C.exn a cls d k) Γ Wx e x n σ H Q) => ?_).run pins s σ H Q I q
      obtain ⟨m, ρ, S, r, A, h, p⟩ := h
      refine ⟨m, ρ, S, r, A, h, ?_⟩
      obtain ⟨r, S'⟩ := r
      cases r with
      | ex x => exact p
      | ok w =>
        intro m' H' v R e1 rv
        obtain ⟨a', c', d', dd, fs, u, ev, ⟨z1, z2, z3⟩, zc, hfo, ed, hdd, hl, q⟩ := p m' H' v R e1 rv
        exact absurd ⟨c', zc, z2.symm, (G.flx c' x n zc hfo hn).2⟩ hh
theorem GoodS.suite (G : GoodS C Γ K false X) (hz : L2N.Zn cls d oe) (hf : ∃ vs, oe.data = .fields vs) : GoodS (C.exn a cls d k) Γ K true (X.suite a ((a, oe) :: pn)) := ⟨G.g.suite hz hf, G.stk, G.frm, PassesOwn.never, (fun z => by cases z), G.rse⟩
end
section
variable {C : Cf} {Γ : Gam} {Wx : WX} {K : Ck} {X : Cx} {pos p ap p2 : Pos} {i c : Nat} {n n2 : Str} {bs cs : List Sx} {ss ts : List Stmt} {s0 : Stmt}
theorem S_tryAs (G : GoodS C Γ K false X) (tk : L2N.Takes X Wx) (hi : X.N[i]? = some n) (hl : X.env.scope.names.lookup n = some .local) (hn : K.cnm[c]? = some n2) (hc : c ∈ K.cts) (hg : Gl X n2) (hd : (n2 == ("__debug__" : Str)) = false)
    (hb : ∀ (W : WX) (pn : List (Addr × Obj)) (xe : Value → Shared → Prop), GoodS C Γ K false (X.tr pn xe) → L2N.Takes (X.tr pn xe) W → PSs (X.tr pn xe) ss (rdSs C Γ W bs))
    (hs : ∀ (a : Addr) (oe : Obj) (cls : Value) (d : Option Addr) (pn : List (Addr × Obj)) (k : Nat), GoodS (C.exn a cls d k) Γ K true (X.suite a ((a, oe) :: pn)) → PSs (X.suite a ((a, oe) :: pn)) (s0 :: ts) (rdSs (C.exn a cls d k) Γ W0 cs)) :
    PS X (.Try ss [.ExceptHandler (some (.Name n2 p)) (some n) (s0 :: ts) p2] [] [] pos) (rdS C Γ Wx (.tryAs bs c i cs)) := by
  refine ps_imp (L2N.ps_try_as (tb := fun W => rdSs C Γ W bs) (ts := fun a cls d D σ H => ∃ k, rdSs (C.exn a cls d k) Γ W0 cs D σ H) G.stk G.frm G.g.hnd hi hl ⟨hg, hd, .inl (G.g.cls c n2 hn)⟩ tk
    (fun W pn xe tk' hp => hb W pn xe (G.tr hp) tk')
    (fun a oe cls d pn hz hf => ⟨fun pins s σ H D I ⟨k, q⟩ => (hs a oe cls d pn k (G.suite hz hf)).run pins s σ H D I q⟩)) fun D σ H ⟨m, ρ, S, f, ρ', S', A, h, pf⟩ => ?_
  unfold x1 at h
  have no := G.g.xno rfl
  have non := G.g.xnn rfl
  split at h
  · rename_i e ρ1 S1 hx
    refine ⟨m, ρ, S, _, _, _, A, hx, fun m1 H1 σ1 cls d R1 e1 r1 rx => ?_⟩
    obtain ⟨ecls, hxc, hxd⟩ := rx
    refine ⟨Γ.up e.cls c, ?_, fun hup a ha => ?_, fun hup => ?_⟩
    · rw [G.g.hK, ecls]
      exact G.g.xup e.cls c hxc hc
    · rw [if_pos hup] at h
      obtain ⟨R2, e2, hm2⟩ := (R1.into (a := a) (cls := cls) (d := d) (k := S1.length) no non).exn ecls hxc hxd
      have fin : ∀ {f : Fl} {ρ2 : Env} {S2 : Store}, xs Γ cs (ρ1.set i (some (.loc S1.length))) (S1 ++ [.exn e.cls e.fs]) = some (f, ρ2, S2) →
          PF (C.exn a cls d S1.length) W0 (m1 ++ [a]) (S1 ++ [.exn e.cls e.fs]) H1 { nx := fun σ' H' => D.nx (σ'.set i none) H', rt := D.rt, bk := fun σ' H' => D.bk (σ'.set i none) H', ct := fun σ' H' => D.ct (σ'.set i none) H' } f ρ2 S2 →
          ∃ k, rdSs (C.exn a cls d k) Γ W0 cs { nx := fun σ' H' => D.nx (σ'.set i none) H', rt := D.rt, bk := fun σ' H' => D.bk (σ'.set i none) H', ct := fun σ' H' => D.ct (σ'.set i none) H' } (σ1.set i (some (.ref a))) H1 := fun {f ρ2 S2} hs2 pf2 =>
        ⟨S1.length, m1 ++ [a], _, _, f, ρ2, S2, ⟨R2, (r1.mono e2).set i (.loc hm2)⟩, hs2, pf2⟩
      have e12 := e1.trans e2
      split at h
      · cases h
      · rename_i f2 ρ2 S2 hne hs2
        cases (Option.some.inj h)
        refine fin hs2 ?_
        cases f with
        | nxt => exact fun m3 H3 σ3 R3 e3 r3 => pf m3 H3 _ R3.out (ext_out (e12.trans e3)) (r3.unset i)
        | brk => exact fun m3 H3 σ3 R3 e3 r3 => pf m3 H3 _ R3.out (ext_out (e12.trans e3)) (r3.unset i)
        | cnt => exact fun m3 H3 σ3 R3 e3 r3 => pf m3 H3 _ R3.out (ext_out (e12.trans e3)) (r3.unset i)
        | ret w => exact fun m3 H3 v R3 e3 r3 => pf m3 H3 v R3.out (ext_out (e12.trans e3)) r3
        | ex x => exact (hne _ rfl).elim
      · cases h
    · rw [if_neg (by rw [hup]; exact Bool.false_ne_true)] at h
      cases (Option.some.inj h)
      exact pf m1 H1 σ1 cls d R1 e1 r1 ⟨ecls, hxc, hxd⟩
  · rename_i o hne
    refine ⟨m, ρ, S, f, ρ', S', A, h, ?_⟩
    cases f with
    | nxt => exact pf
    | brk => exact pf
    | cnt => exact pf
    | ret w => exact pf
    | ex x => exact absurd h (hne _ _ _)
theorem S_tryOnly (G : GoodS C Γ K false X) (tk : L2N.Takes X Wx) (hn : K.cnm[c]? = some n2) (hc : c ∈ K.cts) (hg : Gl X n2) (hd : (n2 == ("__debug__" : Str)) = false)
    (hb : ∀ (W : WX) (pn : List (Addr × Obj)) (xe : Value → Shared → Prop), GoodS C Γ K false (X.tr pn xe) → L2N.Takes (X.tr pn xe) W → PSs (X.tr pn xe) ss (rdSs C Γ W bs))
    (hs : ∀ (a : Addr) (oe : Obj) (cls : Value) (d : Option Addr) (pn : List (Addr × Obj)) (k : Nat), GoodS (C.exn a cls d k) Γ K true (X.suite a ((a, oe) :: pn)) → PSs (X.suite a ((a, oe) :: pn)) (s0 :: ts) (rdSs (C.exn a cls d k) Γ W0 cs)) :
    PS X (.Try ss [.ExceptHandler (some (.Name n2 p)) Option.none (s0 :: ts) p2] [] [] pos) (rdS C Γ Wx (.tryOnly bs c cs)) := by
  refine ps_imp (L2N.ps_try_many (tb := fun W => rdSs C Γ W bs) (l := [(Value.ref (C.cl c), fun a cls d D σ H => ∃ k, rdSs (C.exn a cls d k) Γ W0 cs D σ H)]) G.stk G.frm tk
    (fun W pn xe tk' hp => hb W pn xe (G.tr hp) tk')
    (.cons ⟨hg, hd, .inl (G.g.cls c n2 hn)⟩ (fun a oe cls d pn hz hf => ⟨fun pins s σ H D I ⟨k, q⟩ => (hs a oe cls d pn k (G.suite hz hf)).run pins s σ H D I q⟩) .nil)) fun D σ H ⟨m, ρ, S, f, ρ', S', A, h, pf⟩ => ?_
  unfold x1 at h
  have no := G.g.xno rfl
  have non := G.g.xnn rfl
  split at h
  · rename_i e ρ1 S1 hx
    refine ⟨m, ρ, S, _, _, _, A, hx, fun m1 H1 σ1 cls d R1 e1 r1 rx => ?_⟩
    obtain ⟨ecls, hxc, hxd⟩ := rx
    refine ⟨Γ.up e.cls c, ?_, fun hup a ha => ?_, fun hup => ?_⟩
    · rw [G.g.hK, ecls]
      exact G.g.xup e.cls c hxc hc
    · rw [if_pos hup] at h
      have R2 := R1.into (a := a) (cls := cls) (d := d) (k := S1.length) no non
      have outN : ∀ {m3 : List Addr} {S3 : Store} {H3 : Hp}, RelH (C.exn a cls d (S1.length + S3.length)) m3 S3 H3 → RelH C m3 S3 H3 := fun {m3 S3 H3} R3 => by
        have r := R3.out
        rw [List.set_eq_of_length_le (by omega)] at r
        exact r
      split at h
      · cases h
      · rename_i hne
        have R2' := R1.into (a := a) (cls := cls) (d := d) (k := S1.length + S'.length) no non
        refine ⟨S1.length + S'.length, m1, ρ1, S1, f, ρ', S', ⟨R2', r1⟩, h, ?_⟩
        cases f with
        | nxt => exact fun m3 H3 σ3 R3 e3 r3 => pf m3 H3 _ (outN R3) (e1.trans e3) r3
        | brk => exact fun m3 H3 σ3 R3 e3 r3 => pf m3 H3 _ (outN R3) (e1.trans e3) r3
        | cnt => exact fun m3 H3 σ3 R3 e3 r3 => pf m3 H3 _ (outN R3) (e1.trans e3) r3
        | ret w => exact fun m3 H3 v R3 e3 r3 => pf m3 H3 v (outN R3) (e1.trans e3) r3
        | ex x => exact absurd h (hne _ _ _)
    · rw [if_neg (by rw [hup]; exact Bool.false_ne_true)] at h
      cases (Option.some.inj h)
      exact pf m1 H1 σ1 cls d R1 e1 r1 ⟨ecls, hxc, hxd⟩
  · rename_i o hne
    refine ⟨m, ρ, S, f, ρ', S', A, h, ?_⟩
    cases f with
    | nxt => exact pf
    | brk => exact pf
    | cnt => exact pf
    | ret w => exact pf
    | ex x => exact absurd h (hne _ _ _)
end
end Ip

/-! IpChkS: the check of statements, and that it is enough. Written by an AI agent. -/
namespace Ip
open PySem PySem.Spec PyProof.Rows L2
def noComp : Expr → Bool
  | .ListComp _ _ _ _ => false
  | .SetComp _ _ _ _ => false
  | .DictComp _ _ _ _ _ => false
  | _ => true
def noTup : Expr → Bool
  | .Tuple _ _ _ => false
  | _ => true
def locL (K : Ck) (n : Str) : Bool := decide (K.sc.names.lookup n = some .local)
/-- name = value: no comprehension but a list's -/
def asgB : Expr → Bool
  | .ListComp _ _ _ _ => true
  | x => noComp x
def isAS : Op2 → Bool
  | .add => true
  | .sub => true
  | _ => false
mutual
def chkS (h : Bool) (K : Ck) : Sx → Stmt → Bool
  | .asg i e, s => (match s with
    | .Assign [.Name n _] x _ => nmB K i n && asgB x && chkE h K e x
    | _ => false)
  | .unp is e, s => (match s with
    | .Assign [.Tuple ti kk p] x _ => !h && chkTg K is (.Tuple ti kk p) && noComp x && noTup x && chkE h K e x
    | _ => false)
  | .par i j a b, s => (match s with
    | .Assign [.Tuple [.Name n px, .Name n2 py] _ _] (.Tuple [x, y] _ _) _ => !h && decide (K.N[i]? = some n) && decide (K.N[j]? = some n2) && decide (i ≠ j) && decide (n ≠ n2) && locL K n && locL K n2 && (py.line == px.line) && !([x, y].all (foldedForSure 8)) && !([x, y].all (constantsAlone 8)) && chkEs h K [a, b] [x, y]
    | _ => false)
  | .sub o i e, s => (match s with
    | .Assign [.Subscript x y _] z _ => noSlc y && chkE h K o x && chkE h K i y && chkE h K e z
    | _ => false)
  | .fset o f e, s => (match s with
    | .Assign [.Attribute x n _] z _ => decide (K.mnm[f]? = some n) && noComp z && chkE h K o x && chkE h K e z
    | _ => false)
  | .aug i op e, s => (match s with
    | .AugAssign (.Name n _) o x _ => op2Eq op o && isAS op && nmB K i n && chkE h K e x
    | _ => false)
  | .augs _ _ _ _, _ => false
  | .exp e, s => (match s with
    | .Expr x _ => noComp x && chkE h K e x
    | _ => false)
  | .iff c a b, s => (match s with
    | .If z ss ts _ => noIte z && chkE h K c z && chkSs h K a ss && chkSs h K b ts
    | _ => false)
  | .for tg k es b, s => (match s with
    | .For ptg piter ss [] _ => !h && chkTg K tg ptg && noSet piter && (match itArgs K.sc k ptg piter with
      | some args => decide (es.length = args.length) && chkEs h K es args
      | none => false) && chkSs h K b ss
    | _ => false)
  | .while c b, s => (match s with
    | .While z ss [] _ => noIte z && chkE h K c z && chkSs h K b ss
    | _ => false)
  | .ret e, s => (match s with
    | .Return (some x) _ => chkE h K e x
    | _ => false)
  | .retN, s => (match s with
    | .Return none _ => true
    | _ => false)
  | .raise c fs es, s => (match s with
    | .Raise (some (.Call (.Name n _) [.Constant (.str _) _ _] [] _)) none _ => !h && fs.isEmpty && es.isEmpty && decide (K.cnm[c]? = some n) && decide (c ∈ K.rs) && glB K.sc n
    | .Raise (some (.Call (.Name n _) ys [] _)) none _ => !h && decide (K.cnm[c]? = some n) && decide ((c, fs) ∈ K.rsf) && !fs.isEmpty && decide (es.length = fs.length) && decide (es.length < 900) && glB K.sc n && chkEs h K es ys
    | _ => false)
  | .tryAs b c i su, s => (match s with
    | .Try ss [.ExceptHandler (some (.Name n2 _)) (some n) (s0 :: ts) _] [] [] _ => !h && decide (K.N[i]? = some n) && locL K n && decide (K.cnm[c]? = some n2) && decide (c ∈ K.cts) && glB K.sc n2 && chkSs false K b ss && chkSs true K su (s0 :: ts)
    | _ => false)
  | .tryOnly b c su, s => (match s with
    | .Try ss [.ExceptHandler (some (.Name n2 _)) none (s0 :: ts) _] [] [] _ => !h && decide (K.cnm[c]? = some n2) && decide (c ∈ K.cts) && glB K.sc n2 && chkSs false K b ss && chkSs true K su (s0 :: ts)
    | _ => false)
  | .pass, s => (match s with
    | .Pass _ => true
    | .Expr (.Constant (.str _) _ _) _ => true
    | _ => false)
  | .brk, s => (match s with
    | .Break _ => true
    | _ => false)
  | .cnt, s => (match s with
    | .Continue _ => true
    | _ => false)
def chkSs (h : Bool) (K : Ck) : List Sx → List Stmt → Bool
  | [], ss => ss.isEmpty
  | s :: r, ss => (match ss with
    | st :: ss => chkS h K s st && chkSs h K r ss
    | [] => false)
end
section
variable {C : Cf} {Γ : Gam} {Wx : WX} {K : Ck} {hot : Bool} {X : Cx} {x y : Expr} {n n2 : Str} {l : Nat} {pos p : Pos}
theorem sw_none (h : noComp x = true) (t : Option Expr) : swapsWith x t l X.env = pure false := by
  cases x <;> first | rfl | cases h
theorem sw_sole (h : noComp x = true) {t : Expr} : swapsWithSole [t] x l X.env = pure false := sw_none h _
theorem sw_subs {a b : Expr} : swapsWithSole [.Subscript a b p] x l X.env = pure false := by
  cases x <;> rfl
theorem sst_none (h : noTup x = true) {t : Expr} : swappedStores [t] x X.env = pure Option.none := by
  cases x <;> first | rfl | (cases t <;> rfl) | cases h
theorem sst_par {px py pt pt2 : Pos} {kt k2 : Nat} (hk : X.env.scope.kind = .function) (h1 : X.env.scope.names.lookup n = some .local) (h2 : X.env.scope.names.lookup n2 = some .local) (hne : n ≠ n2) (hl : (py.line == px.line) = true)
    (hx : noStar x = true) (hy : noStar y = true) (hf : (!([x, y].all (foldedForSure 8))) = true) (hc : (!([x, y].all (constantsAlone 8))) = true) :
    swappedStores [.Tuple [.Name n px, .Name n2 py] kt pt] (.Tuple [x, y] k2 pt2) X.env = pure (some [n, n2]) := by
  have hb : X.env.blockKind = .function := by unfold Env.blockKind; rw [hk]; rfl
  have k1 : X.env.kindOf n = some .local := h1
  have k2 : X.env.kindOf n2 = some .local := h2
  have hf' : [x, y].all (foldedForSure 8) = false := by
    cases h : [x, y].all (foldedForSure 8) with
    | false => rfl
    | true => rw [h] at hf; cases hf
  have hc' : [x, y].all (constantsAlone 8) = false := by
    cases h : [x, y].all (constantsAlone 8) with
    | false => rfl
    | true => rw [h] at hc; cases hc
  have st : ∀ {e : Expr}, noStar e = true → (match (generalizing := false) e with | .Starred _ _ => true | _ => false) = false := fun {e} h => by
    cases e <;> first | rfl | cases h
  have hs : ([x, y].any fun | .Starred _ _ => true | _ => false) = false := by
    show ((match (generalizing := false) x with | .Starred _ _ => true | _ => false) || ((match (generalizing := false) y with | .Starred _ _ => true | _ => false) || false)) = false
    rw [st hx, st hy]
    rfl
  have ed : [n, n2].eraseDups.length = 2 := by
    have e3 : (n2 == n) = false := by simpa using (Ne.symm hne)
    simp [List.eraseDups_cons, e3]
  have e1 : (X.env.blockKind != .function) = false := by rw [hb]; rfl
  have g1 : (some NameKind.local == some NameKind.local) = true := rfl
  have g2 : (px.line == px.line) = true := by simp
  unfold swappedStores
  show (if (!([Expr.Name n px, Expr.Name n2 py].length == 2 || [Expr.Name n px, Expr.Name n2 py].length == 3) || [x, y].length != [Expr.Name n px, Expr.Name n2 py].length || X.env.blockKind != .function) = true then (pure Option.none : Sem (Option (List Str))) else _) = _
  rw [if_neg (by rw [e1]; exact Bool.false_ne_true)]
  show (if ([x, y].any fun | .Starred _ _ => true | _ => false) = true then (pure Option.none : Sem (Option (List Str))) else _) = _
  rw [hs, if_neg Bool.false_ne_true]
  have hfm : ([Expr.Name n px, Expr.Name n2 py].filterMap fun
      | .Name id pos => if (X.env.kindOf id == some .local && pos.line == px.line) = true then some id else Option.none
      | _ => Option.none) = [n, n2] := by
    simp only [List.filterMap_cons, List.filterMap_nil, k1, k2, g1, g2, hl, Bool.and_self, if_true]
  have goal : ∀ (nl : List Str), nl = [n, n2] → (if (nl.length != 2 || nl.eraseDups.length != nl.length) = true then (pure Option.none : Sem (Option (List Str))) else if [x, y].all (foldedForSure 8) = true then pure Option.none else
      if [x, y].all (constantsAlone 8) = true then (do let _ ← (unsupported "assign.tuple-of-constant-expressions:order-of-the-stores" : Sem PUnit); pure (some nl)) else pure (some nl)) = pure (some [n, n2]) := fun nl e => by
    subst e
    rw [if_neg (by rw [ed]; exact Bool.false_ne_true), hf', if_neg Bool.false_ne_true, hc', if_neg Bool.false_ne_true]
  exact goal _ hfm
theorem sw_lc {elt : Expr} {gs : List Comprehension} {scope : Scope} {p2 : Pos} : swapsWith (.ListComp elt gs scope p2) (some (.Name n p)) l X.env = pure (X.env.blockKind == .function && X.env.kindOf n == some .local && p.line == p2.line && !(scope.names.any fun (m, k) => m == n && (k == .local || k == .cell))) := rfl
end
mutual
theorem okS (Γ : Gam) : ∀ (s : Sx) (C : Cf) (hot : Bool) (K : Ck) (X : Cx) (Wx : WX) (st : Stmt), GoodS C Γ K hot X → (hot = false → L2N.Takes X Wx) → chkS hot K s st = true → PS X st (rdS C Γ Wx s)
  | .asg i e, C, hot, K, X, Wx, st, G, tk, h => by
    unfold chkS at h
    split at h
    · rename_i n p x pos
      have h := ba h
      have h1 := ba h.1
      have hnm := h1.1
      unfold nmB at hnm
      have hnm := ba hnm
      have hi : X.N[i]? = some n := by rw [G.g.hN]; exact of_decide_eq_true hnm.1
      have l := loc_ok G.g hnm.2
      have he := (okE C Γ e hot K X Wx x G.g tk h.2).1
      by_cases hc : noComp x = true
      · exact S_asg G.g.hnd hi l.1 l.2 he (sw_none hc _)
      · have ha := h1.2
        cases x <;> try (first | exact absurd rfl hc | exact absurd (show false = true from ha) Bool.false_ne_true)
        rename_i elt gs scope p2 _
        cases hb : (X.env.blockKind == .function && X.env.kindOf n == some .local && p.line == p2.line && !(scope.names.any fun (m, k) => m == n && (k == .local || k == .cell))) with
        | false => exact S_asg G.g.hnd hi l.1 l.2 he (by rw [sw_lc, hb])
        | true =>
          cases e with
          | lc elt' tg k es ifs =>
            have q := h.2
            unfold chkE at q
            split at q
            · rename_i pelt ptg piter pifs scope' p3 heq
              cases heq
              have h := ba q
              have h1 := ba h.1
              have h2 := ba h1.1
              have h3 := ba h2.1
              have h4 := ba h3.1
              have h5 := ba h4.1
              have h6 := ba h5.1
              have hh : hot = false := by simpa using h6.1
              subst hh
              have ok : BlkOk X.N X.env.scope scope (ownOf K.N tg) := by
                rw [G.g.hN, G.g.hsc]
                exact blkOk_by h6.2
              have G' := G.g.blk ok.kind
              have hi' : PI X ptg piter (rdI C Γ Wx k es) := by
                have q := h2.2
                split at q
                · rename_i args ha
                  have q := ba q
                  exact it_ok G.g ha (of_decide_eq_true q.1) (okEs C Γ es false K X Wx _ G.g tk q.2)
                · cases q
              have ht : ∀ (s : Shared) (H : Hp) (D : Addr) (cl : List (Str × Addr)) (fp : List Addr), PTs (X.blk s H scope (compEnvC scope cl D X.env) fp) pifs (rdTs C Γ W0 ifs) := fun s H D cl fp => by
                have q := okTs C Γ ifs false (K.blk scope) _ W0 _ (G' s H D cl fp) (fun _ => ntakes0) h1.2
                have hl := of_decide_eq_true h3.2
                cases q with
                | nil => exact ts_nil
                | cons q1 q2 q3 =>
                  cases q3 with
                  | nil => exact ts_one q2
                  | cons _ _ _ => simp at hl
              have hloc : X.env.scope.names.lookup n = some .local := by
                have z := ba (ba (ba hb).1).1
                have z2 : (X.env.kindOf n == some .local) = true := z.2
                exact beq_iff_eq.mp z2
              exact S_asgLc G.g hi hloc (by rw [sw_lc, hb]) hi' ok (own_map tg) (fun s H D cl fp => tg_ok (G' s H D cl fp) h4.2) ht
                (fun s H D cl fp => (okE C Γ elt' false (K.blk scope) _ W0 _ (G' s H D cl fp) (fun _ => ntakes0) h.2).1) (fold_ok h5.2)
            · cases q
          | _ =>
            have q := h.2
            unfold chkE at q
            cases q
    · cases h
  | .unp is e, C, hot, K, X, Wx, st, G, tk, h => by
    unfold chkS at h
    split at h
    · have h := ba h
      have h1 := ba h.1
      have h2 := ba h1.1
      have h3 := ba h2.1
      have hh : hot = false := by simpa using h3.1
      subst hh
      exact S_unp (okE C Γ e false K X Wx _ G.g tk h.2).1 (tg_ok G.g h3.2) (sw_sole h2.2) (sst_none h1.2)
    · cases h
  | .par i j a b, C, hot, K, X, Wx, st, G, tk, h => by
    unfold chkS at h
    split at h
    · rename_i n px n2 py kt pt x y k2 pt2 pos
      have h := ba h
      have h1 := ba h.1
      have h2 := ba h1.1
      have h3 := ba h2.1
      have h4 := ba h3.1
      have h5 := ba h4.1
      have h6 := ba h5.1
      have h7 := ba h6.1
      have h8 := ba h7.1
      have h9 := ba h8.1
      have hh : hot = false := by simpa using h9.1
      subst hh
      have p := okEs C Γ [a, b] false K X Wx _ G.g tk h.2
      have hs := p.noStar
      rw [List.all_cons, List.all_cons, Bool.and_eq_true, Bool.and_eq_true] at hs
      have l1 : X.env.scope.names.lookup n = some .local := by rw [G.g.hsc]; exact of_decide_eq_true h5.2
      have l2 : X.env.scope.names.lookup n2 = some .local := by rw [G.g.hsc]; exact of_decide_eq_true h4.2
      exact S_par (G.g.calm rfl) G.g.hnd (by rw [G.g.hN]; exact of_decide_eq_true h9.2) (by rw [G.g.hN]; exact of_decide_eq_true h8.2) (of_decide_eq_true h7.2) l1 l2 p
        (sst_par G.g.kind l1 l2 (of_decide_eq_true h6.2) h3.2 hs.1 hs.2.1 h2.2 h1.2)
    · cases h
  | .sub o i e, C, hot, K, X, Wx, st, G, tk, h => by
    unfold chkS at h
    split at h
    · have h := ba h
      have h1 := ba h.1
      have h2 := ba h1.1
      exact S_sub sw_subs h2.1 (okE C Γ o hot K X Wx _ G.g tk h2.2).1 (okE C Γ i hot K X Wx _ G.g tk h1.2).1 (okE C Γ e hot K X Wx _ G.g tk h.2).1
    · cases h
  | .fset o f e, C, hot, K, X, Wx, st, G, tk, h => by
    unfold chkS at h
    split at h
    · have h := ba h
      have h1 := ba h.1
      have h2 := ba h1.1
      exact S_fset G.g (of_decide_eq_true h2.1) (sw_none h2.2 _) (okE C Γ o hot K X Wx _ G.g tk h1.2).1 (okE C Γ e hot K X Wx _ G.g tk h.2).1
    · cases h
  | .aug i op e, C, hot, K, X, Wx, st, G, tk, h => by
    unfold chkS at h
    split at h
    · have h := ba h
      have h1 := ba h.1
      have h2 := ba h1.1
      have e := op2Eq_ok h2.1
      subst e
      have hnm := h1.2
      unfold nmB at hnm
      have hnm := ba hnm
      have l := loc_ok G.g hnm.2
      have ho : op = .add ∨ op = .sub := by
        have q := h2.2
        cases op <;> first | exact .inl rfl | exact .inr rfl | cases q
      exact S_aug G.g.hnd (by rw [G.g.hN]; exact of_decide_eq_true hnm.1) l.1 l.2 ho (okE C Γ _ hot K X Wx _ G.g tk h.2).1
    · cases h
  | .augs _ _ _ _, C, hot, K, X, Wx, st, G, tk, h => by
    unfold chkS at h
    cases h
  | .exp e, C, hot, K, X, Wx, st, G, tk, h => by
    unfold chkS at h
    split at h
    · have h := ba h
      exact S_exp (sw_none h.1 _) (okE C Γ e hot K X Wx _ G.g tk h.2).1
    · cases h
  | .iff c a b, C, hot, K, X, Wx, st, G, tk, h => by
    unfold chkS at h
    split at h
    · have h := ba h
      have h1 := ba h.1
      have h2 := ba h1.1
      exact S_iff ((okE C Γ c hot K X Wx _ G.g tk h2.2).2 h2.1) (okSs Γ a C hot K X Wx _ G tk h1.2) (okSs Γ b C hot K X Wx _ G tk h.2)
    · cases h
  | .for tg k es b, C, hot, K, X, Wx, st, G, tk, h => by
    unfold chkS at h
    split at h
    · rename_i ptg piter ss pos
      have h := ba h
      have h1 := ba h.1
      have h2 := ba h1.1
      have h3 := ba h2.1
      have hh : hot = false := by simpa using h3.1
      subst hh
      have hi : PI X ptg piter (rdI C Γ Wx k es) := by
        have q := h1.2
        split at q
        · rename_i args ha
          have q := ba q
          exact it_ok G.g ha (of_decide_eq_true q.1) (okEs C Γ es false K X Wx _ G.g tk q.2)
        · cases q
      exact S_for G.pass (G.g.calm rfl) hi (tg_ok G.g h3.2) (okSs Γ b C false K X Wx _ G tk h.2) (fold_ok h2.2)
    · cases h
  | .while c b, C, hot, K, X, Wx, st, G, tk, h => by
    unfold chkS at h
    split at h
    · have h := ba h
      have h1 := ba h.1
      exact S_while G.pass ((okE C Γ c hot K X Wx _ G.g tk h1.2).2 h1.1) (okSs Γ b C hot K X Wx _ G tk h.2)
    · cases h
  | .ret e, C, hot, K, X, Wx, st, G, tk, h => by
    unfold chkS at h
    split at h
    · exact S_ret (okE C Γ e hot K X Wx _ G.g tk h).1
    · cases h
  | .retN, C, hot, K, X, Wx, st, G, tk, h => by
    unfold chkS at h
    split at h
    · exact S_retN
    · cases h
  | .raise c fs es, C, hot, K, X, Wx, st, G, tk, h => by
    unfold chkS at h
    split at h
    · have h := ba h
      have h1 := ba h.1
      have h2 := ba h1.1
      have h3 := ba h2.1
      have h4 := ba h3.1
      have hh : hot = false := by simpa using h4.1
      subst hh
      have e1 : fs = [] := List.isEmpty_iff.mp h4.2
      have e2 : es = [] := List.isEmpty_iff.mp h3.2
      subst e1 e2
      have q := gl_ok G.g h.2
      exact S_raise G (tk rfl) (of_decide_eq_true h2.2) (of_decide_eq_true h1.2) q.1 q.2
    · have h := ba h
      have h1 := ba h.1
      have h2 := ba h1.1
      have h3 := ba h2.1
      have h4 := ba h3.1
      have h5 := ba h4.1
      have h6 := ba h5.1
      have hh : hot = false := by simpa using h6.1
      subst hh
      have ne := ne_of_isEmpty h4.2
      have q := gl_ok G.g h1.2
      have hl := of_decide_eq_true h3.2
      have pes := okEs C Γ es false K X Wx _ G.g (tk) h.2
      cases fs with
      | nil => exact absurd rfl ne
      | cons f fs =>
        obtain ⟨g1, g2, fI, k, fd, ps, g3, g4, g5, g6, g7⟩ := G.rsf rfl c _ f fs (of_decide_eq_true h6.2) (of_decide_eq_true h5.2)
        cases pes with
        | nil => simp at hl
        | cons a1 a2 a3 a4 => exact S_raiseF G.g (tk rfl) (of_decide_eq_true h6.2) q.1 q.2 (by simpa using hl) (by have := of_decide_eq_true h2.2; simp at this; omega) g1 g2 g3 g4 g5 g6 g7 (.cons a1 a2 a3 a4)
    · cases h
  | .tryAs b c i su, C, hot, K, X, Wx, st, G, tk, h => by
    unfold chkS at h
    split at h
    · have h := ba h
      have h1 := ba h.1
      have h2 := ba h1.1
      have h3 := ba h2.1
      have h4 := ba h3.1
      have h5 := ba h4.1
      have h6 := ba h5.1
      have hh : hot = false := by simpa using h6.1
      subst hh
      have q := gl_ok G.g h2.2
      exact S_tryAs G (tk rfl) (by rw [G.g.hN]; exact of_decide_eq_true h6.2) (by rw [G.g.hsc]; exact of_decide_eq_true h5.2) (of_decide_eq_true h4.2) (of_decide_eq_true h3.2) q.1 q.2
        (fun W pn xe G' tk' => okSs Γ b C false K _ W _ G' (fun _ => tk') h1.2)
        (fun a oe cls d pn k G' => okSs Γ su (C.exn a cls d k) true K _ W0 _ G' (fun z => by cases z) h.2)
    · cases h
  | .tryOnly b c su, C, hot, K, X, Wx, st, G, tk, h => by
    unfold chkS at h
    split at h
    · have h := ba h
      have h1 := ba h.1
      have h2 := ba h1.1
      have h3 := ba h2.1
      have h4 := ba h3.1
      have hh : hot = false := by simpa using h4.1
      subst hh
      have q := gl_ok G.g h2.2
      exact S_tryOnly G (tk rfl) (of_decide_eq_true h4.2) (of_decide_eq_true h3.2) q.1 q.2
        (fun W pn xe G' tk' => okSs Γ b C false K _ W _ G' (fun _ => tk') h1.2)
        (fun a oe cls d pn k G' => okSs Γ su (C.exn a cls d k) true K _ W0 _ G' (fun z => by cases z) h.2)
    · cases h
  | .pass, C, hot, K, X, Wx, st, G, tk, h => by
    unfold chkS at h
    split at h
    · exact S_pass
    · exact S_doc
    · cases h
  | .brk, C, hot, K, X, Wx, st, G, tk, h => by
    unfold chkS at h
    split at h
    · exact S_brk
    · cases h
  | .cnt, C, hot, K, X, Wx, st, G, tk, h => by
    unfold chkS at h
    split at h
    · exact S_cnt
    · cases h
  termination_by structural s => s
theorem okSs (Γ : Gam) : ∀ (s : List Sx) (C : Cf) (hot : Bool) (K : Ck) (X : Cx) (Wx : WX) (st : List Stmt), GoodS C Γ K hot X → (hot = false → L2N.Takes X Wx) → chkSs hot K s st = true → PSs X st (rdSs C Γ Wx s)
  | [], C, hot, K, X, Wx, st, G, tk, h => by
    unfold chkSs at h
    cases st with
    | nil => exact S_nil
    | cons y ys => cases h
  | s :: r, C, hot, K, X, Wx, st, G, tk, h => by
    unfold chkSs at h
    split at h
    · have h := ba h
      exact S_cons (okS Γ s C hot K X Wx _ G tk h.1) (okSs Γ r C hot K X Wx _ G tk h.2)
    · cases h
  termination_by structural s => s
end
end Ip

/-! IpTab: the table of defs: what each def computes is the interpreter's call. Written by an AI agent. -/
namespace Ip
open PySem PySem.Spec PyProof.Rows L2
structure DI where
  d : He.DefD
  N : List Str
  ps : List Str
/-- an exception class with an __init__ of its own: base, def, fields -/
structure XI where
  c : Nat
  b : Nat
  i : DI
  fl : List Nat
structure Mo where
  T : Tab
  dd : List DI
  fnm : List (Option Str) := []
  cnm : List Str := []
  gnm : List Str := []
  mnm : List Str := []
  mks : List Nat := []
  cts : List Nat := []
  rs : List Nat := []
  sups : List Nat := []
  xin : List XI := []
def Mo.ck (M : Mo) (i : DI) : Ck := { sc := i.d.scope, N := i.N, fnm := M.fnm, cnm := M.cnm, gnm := M.gnm, mnm := M.mnm, mks := M.mks, cts := M.cts, rs := M.rs, sups := M.sups, rsf := M.xin.map fun x => (x.c, x.fl) }
def BA (params : Arguments) (ps : List Str) : Prop := ∀ (x qual : Str) (body : List Stmt) (scope : Scope) (kV doc pm : Value) (an : Option Addr) (cdv ct : Value) (us : List Value), us.length = ps.length → bindArgs (PySem.W.fnOf x qual params body scope .none kV doc pm an cdv ct) ⟨us, []⟩ = pure (ps.zip us)
/-- B.__init__(self, text); self.f = f; .. -/
def iniB (M : Mo) (x : XI) : Bool := match x.i.d.body with
  | [.Expr (.Call (.Attribute (.Name b _) n0 ap) [.Name s _, .Constant (.str _) _ _] [] p) _, .Assign [.Attribute (.Name s2 _) f1 _] (.Name q1 _) _] => (match x.i.N, x.fl with
    | [s0, v1], [g1] => decide (M.cnm[x.b]? = some b) && decide (n0 = "__init__") && (ap.endLine == p.line) && glB x.i.d.scope b && decide (s = s0) && decide (s2 = s0) && decide (q1 = v1) && decide (M.mnm[g1]? = some f1) && visB x.i.d.scope s0 && visB x.i.d.scope v1 && okName s0 && okName v1 && decide (x.i.ps = [s0, v1])
    | _, _ => false)
  | [.Expr (.Call (.Attribute (.Name b _) n0 ap) [.Name s _, .Constant (.str _) _ _] [] p) _, .Assign [.Attribute (.Name s2 _) f1 _] (.Name q1 _) _, .Assign [.Attribute (.Name s3 _) f2 _] (.Name q2 _) _] => (match x.i.N, x.fl with
    | [s0, v1, v2], [g1, g2] => decide (M.cnm[x.b]? = some b) && decide (n0 = "__init__") && (ap.endLine == p.line) && glB x.i.d.scope b && decide (s = s0) && decide (s2 = s0) && decide (q1 = v1) && decide (M.mnm[g1]? = some f1) && visB x.i.d.scope s0 && visB x.i.d.scope v1 && okName s0 && okName v1 && decide (s3 = s0) && decide (q2 = v2) && decide (M.mnm[g2]? = some f2) && visB x.i.d.scope v2 && okName v2 && decide (x.i.ps = [s0, v1, v2])
    | _, _ => false)
  | _ => false
/-- what stands without the heap -/
structure MoOk (M : Mo) : Prop where
  len : M.dd.length = M.T.fns.length
  sc : ∀ (f : Nat) (i : DI), M.dd[f]? = some i → FnScope i.N i.ps i.d.scope
  ba : ∀ (f : Nat) (i : DI), M.dd[f]? = some i → BA i.d.params i.ps
  dfl : ∀ (f : Nat) (i : DI), M.dd[f]? = some i → i.d.dfl = [] ∧ i.d.kwd = []
  ck : ∀ (f : Nat) (i : DI) (d : FnI), M.dd[f]? = some i → M.T.fns[f]? = some d → d.ps = i.ps.length ∧ d.n = i.N.length ∧ chkSs false (M.ck i) d.body i.d.body = true
  glo : ∀ (f : Nat) (x : Str), M.fnm[f]? = some (some x) → ∃ i : DI, M.dd[f]? = some i ∧ i.d.at_ = (x, none)
  xin : ∀ x ∈ M.xin, FnScope x.i.N x.i.ps x.i.d.scope ∧ BA x.i.d.params x.i.ps ∧ iniB M x = true
/-- what the heap behind the top says -/
structure Stands (M : Mo) (C : Cf) (mg : Str → Option Value) : Prop where
  def_ : ∀ (f : Nat) (i : DI), M.dd[f]? = some i → ∃ fd, FunD C.K i.d.name i.d.qual i.d.params i.d.body i.d.scope [] [] (He.fAd C.K i.d.at_) fd
  gl : ∀ (f : Nat) (x : Str), M.fnm[f]? = some (some x) → mg x = some (.ref (He.ga C.K x))
  bn : ∀ x ∈ bnames, mg x = none
  glob : ∀ (g : Nat) (x : Str) (w : W), M.gnm[g]? = some x → M.T.globs[g]? = some w → ∃ u v, mg x = some u ∧ RelV v u ∧ ∀ m H, RW C.K m H w v
  cls : ∀ (c : Nat) (x : Str), M.cnm[c]? = some x → mg x = some (.ref (C.cl c))
  inj : ∀ (x k : Nat) (n : Str), M.mnm[x]? = some n → C.fn k = n → k = x
  kt : ∀ (t : Ty) (c : Nat) (x : Str), M.cnm[c]? = some x → PySem.W.kitOne C.K (.type (tyN t)) (.ref (C.cl c)) = some false
  xk : ∀ (c : Nat) (t : Isa) (x : Str), isaNm M.cnm t = some x → C.xc c → PySem.W.kitOne C.K (.ref (C.cl c)) (isaU C t) = some (isaX (M.T.gam (fun _ _ _ => none) (fun _ _ _ => none)) c t)
  no : ∀ a c d, ¬ C.xi a c d
  non : ∀ n, ¬ C.xn n
  fld : ∀ (c x : Nat) (n : Str), (M.T.gam (fun _ _ _ => none) (fun _ _ _ => none)).fok c x = true → M.mnm[x]? = some n → C.fn x = n ∧ Cls C.K (C.cl c) ∧ NoAttr C.K (C.cl c) n
  xcc : ∀ c, C.xc c → ExcC C.K (C.cl c) ∧ XfC C.K (C.cl c)
  flx : ∀ (c x : Nat) (n : Str), C.xc c → (M.T.gam (fun _ _ _ => none) (fun _ _ _ => none)).fox c x = true → M.mnm[x]? = some n → C.fn x = n ∧ PySem.W.findIn C.K (.ref (C.cl c)) n = some none
  xup : ∀ (c d : Nat), C.xc c → d ∈ M.cts → PySem.W.exmOne C.K (.ref (C.cl c)) (.ref (C.cl d)) = some ((M.T.gam (fun _ _ _ => none) (fun _ _ _ => none)).up c d)
  rse : ∀ (c : Nat) (x : Str), M.cnm[c]? = some x → c ∈ M.rs → C.xc c ∧ PySem.W.subIn C.K (.ref (C.cl c)) (.type "BaseException") = some true ∧ PySem.W.typeIn C.K (.ref (C.cl c)) = some (.type "type") ∧ PySem.W.keepIn C.K (.ref (C.cl c)) = true ∧ ∃ B newId initId bmB, ExcBaseFacts B newId initId bmB ∧ PySem.W.excIn C.K (C.cl c) bmB newId = true
  csm : ∀ (c m f : Nat) (n : Str), c ∈ M.sups → (M.T.gam (fun _ _ _ => none) (fun _ _ _ => none)).mt c m = some f → M.mnm[m]? = some n → ∃ i : DI, M.dd[f]? = some i ∧ ClX.CRead C.K (C.cl c) (.type "type") ∧ PySem.W.findCls C.K (.ref (C.cl c)) (.type "type") n = some (.val (.ref (He.fAd C.K i.d.at_))) ∧ PySem.W.keepIn C.K (.ref (He.fAd C.K i.d.at_)) = true
  xin : ∀ x ∈ M.xin, C.xc x.c ∧ OexC C.K (C.cl x.c) ∧ PySem.W.findIn C.K (.ref (C.cl x.c)) "__init__" = some (some (.ref (He.fAd C.K x.i.d.at_))) ∧ PySem.W.typeIn C.K (.ref (He.fAd C.K x.i.d.at_)) = some (.type "function") ∧ (∃ fd, FunD C.K x.i.d.name x.i.d.qual x.i.d.params x.i.d.body x.i.d.scope [] [] (He.fAd C.K x.i.d.at_) fd) ∧
    ClX.CRead C.K (C.cl x.b) (.type "type") ∧ PySem.W.findCls C.K (.ref (C.cl x.b)) (.type "type") "__init__" = some (.val (.builtin "ValueError.__init__")) ∧ ∀ (f : Nat) (n : Str), f ∈ x.fl → M.mnm[f]? = some n → C.fn f = n ∧ PySem.W.findIn C.K (.ref (C.cl x.c)) n = some none
  meth : ∀ (c m f : Nat) (n : Str), (M.T.gam (fun _ _ _ => none) (fun _ _ _ => none)).mt c m = some f → M.mnm[m]? = some n → ∃ i : DI, M.dd[f]? = some i ∧ Cls C.K (C.cl c) ∧ Meth C.K (C.cl c) n (He.fAd C.K i.d.at_)
  make : ∀ (c : Nat) (x : Str), M.cnm[c]? = some x → c ∈ M.mks → ∃ (cl : ClI) (fI : Nat) (i : DI), M.T.cls[c]? = some cl ∧ cl.init = some fI ∧ M.dd[fI]? = some i ∧ Mk C.K (C.cl c) (He.fAd C.K i.d.at_)
section
variable {M : Mo} {C : Cf} {mg : Str → Option Value} {P : Program} {w : World} {base : Heap}
theorem spG_len {g : List W → Store → R W} {vs : List V} {H : Hp} {Q : VK} {E : XK} (h : spG C g vs H Q E) : ∃ ws S r, ws.length = vs.length ∧ g ws S = some r := by
  obtain ⟨m, ws, S, r, _, h1, h2, _⟩ := h
  exact ⟨ws, S, r, h1.length, h2⟩
theorem fn_none {g : List W → Store → R W} (hg : ∀ ws S, g ws S = none) {k : Nat} {f : Addr} {fd : FuncData} {ps : List Str} : FnOk P w C.K mg base (L2N.CX P w) k f fd ps (spG C g) :=
  ⟨(fun vs H Q E h => by
      obtain ⟨ws, S, r, _, e⟩ := spG_len h
      rw [hg] at e
      cases e),
    (fun A outer s H args us vs Q E hr e0 hb r h => by
      obtain ⟨ws, S, r, _, e⟩ := spG_len h
      rw [hg] at e
      cases e)⟩
theorem okn2 {n : Str} (h : okName n = true) : (n == ("__debug__" : Str)) = false ∧ (n == ("__classdict__" : Str)) = false := okn_ok h
theorem visX {X : Cx} {n : Str} (h : visB X.env.scope n = true) : Vis X.env.scope n := by
  unfold visB at h
  split at h
  · rename_i e; exact .inl e
  · rename_i e; exact .inr (.inl e)
  · rename_i e; exact .inr (.inr e)
  · cases h
theorem glX {X : Cx} {n : Str} (h : glB X.env.scope n = true) : Gl X n ∧ (n == ("__debug__" : Str)) = false := by
  unfold glB at h
  have h := ba h
  refine ⟨?_, (okn_ok h.2).1⟩
  show X.env.scope.names.lookup n = _
  exact of_decide_eq_true h.1
/-- such an __init__ keeps its promise -/
theorem init_ok (O : MoOk M) (S : Stands M C mg) {x : XI} (hx : x ∈ M.xin) {fd : FuncData} (F : FunD C.K x.i.d.name x.i.d.qual x.i.d.params x.i.d.body x.i.d.scope [] [] (He.fAd C.K x.i.d.at_) fd) :
    FnOk P w C.K mg base (L2N.CX P w) 1 (He.fAd C.K x.i.d.at_) fd x.i.ps (spI (C.cl x.c) (x.fl.map C.fn)) := by
  obtain ⟨sc, _, hB⟩ := O.xin x hx
  obtain ⟨s1, s2, s3, s4, _, s6, s7, s8⟩ := S.xin x hx
  unfold iniB at hB
  split at hB
  · rename_i b p1 n0 ap s p2 tx k4 p4 p5 p6 ss2 p7 f1 p8 q1 p9 p10 hbody
    split at hB
    · rename_i s0 v1 g1 hN hfl
      simp only [Bool.and_eq_true, decide_eq_true_eq] at hB
      obtain ⟨⟨⟨⟨⟨⟨⟨⟨⟨⟨⟨⟨h1, h2⟩, h3⟩, h4⟩, h5⟩, h6⟩, h7⟩, h8⟩, h9⟩, h10⟩, h11⟩, h12⟩, h13⟩ := hB
      subst h2 h5 h6 h7
      rw [hbody] at F
      refine F.ok sc (fun vs H Q E h => ?_) fun cdv A outer st H vs Q E hr h => ?_
      · obtain ⟨a, ws, e, l, _⟩ := h
        subst e
        rw [h13, List.length_cons, l, hfl]
        rfl
      · obtain ⟨a, ws, e, l, ea, hq⟩ := h
        subst e
        rw [hfl] at l hq
        match ws, l with
        | [w1], _ =>
        rw [hN]
        obtain ⟨e1, e2⟩ := s8 g1 f1 (by rw [hfl]; simp) h8
        have pv0 : PE (cxOf (L2N.CX P w) P w C.K mg base [ss2, q1] x.i.d.qual x.i.d.scope (He.fAd C.K x.i.d.at_) cdv A outer st H E) (.Name ss2 p2) (tVar 0) := pe_var (i := 0) rfl (visX h9) (okn2 h11).1 (okn2 h11).2
        have pv0' : PE (cxOf (L2N.CX P w) P w C.K mg base [ss2, q1] x.i.d.qual x.i.d.scope (He.fAd C.K x.i.d.at_) cdv A outer st H E) (.Name ss2 p7) (tVar 0) := pe_var (i := 0) rfl (visX h9) (okn2 h11).1 (okn2 h11).2
        have pv1 : PE (cxOf (L2N.CX P w) P w C.K mg base [ss2, q1] x.i.d.qual x.i.d.scope (He.fAd C.K x.i.d.at_) cdv A outer st H E) (.Name q1 p9) (tVar 1) := pe_var (i := 1) rfl (visX h10) (okn2 h12).1 (okn2 h12).2
        have g := glX (X := cxOf (L2N.CX P w) P w C.K mg base [ss2, q1] x.i.d.qual x.i.d.scope (He.fAd C.K x.i.d.at_) cdv A outer st H E) h4
        refine ⟨_, pss_cons (ps_expr (pe_baseinit (pl := plainOf _ _) g.1 (S.cls _ _ h1) g.2 s6 s7 (pa_cons pv0 (pa_cons pe_str pa_nil)) (mcall_eval rfl h3 rfl (by simp)) rfl rfl)) (pss_cons (ps_ost pv0' pv1) pss_nil), ?_⟩
        refine ⟨_, rfl, a, C.cl x.c, _, rfl, by simp, s2, ea, _, rfl, _, rfl, a, C.cl x.c, rfl, s2, e2, .inl ⟨ea, fun dx h1 h2 => ?_⟩⟩
        refine hq dx _ h1 h2 upd_same ?_ fun b hb1 hb2 => ?_
        · rw [upd_ne h2, upd_same, List.map_cons, e1]
          rfl
        · rw [upd_ne hb1, upd_ne hb2]
    · cases hB
  · rename_i b p1 n0 ap s p2 tx k4 p4 p5 p6 ss2 p7 f1 p8 q1 p9 p10 ss3 p11 f2 p12 q2 p13 p14 hbody
    split at hB
    · rename_i s0 v1 v2 g1 g2 hN hfl
      simp only [Bool.and_eq_true, decide_eq_true_eq] at hB
      obtain ⟨⟨⟨⟨⟨⟨⟨⟨⟨⟨⟨⟨⟨⟨⟨⟨⟨h1, h2⟩, h3⟩, h4⟩, h5⟩, h6⟩, h7⟩, h8⟩, h9⟩, h10⟩, h11⟩, h12⟩, h14⟩, h15⟩, h16⟩, h17⟩, h18⟩, h13⟩ := hB
      subst h2 h5 h6 h7 h14 h15
      rw [hbody] at F
      refine F.ok sc (fun vs H Q E h => ?_) fun cdv A outer st H vs Q E hr h => ?_
      · obtain ⟨a, ws, e, l, _⟩ := h
        subst e
        rw [h13, List.length_cons, l, hfl]
        rfl
      · obtain ⟨a, ws, e, l, ea, hq⟩ := h
        subst e
        rw [hfl] at l hq
        match ws, l with
        | [w1, w2], _ =>
        rw [hN]
        obtain ⟨e1, e2⟩ := s8 g1 f1 (by rw [hfl]; simp) h8
        obtain ⟨e3, e4⟩ := s8 g2 f2 (by rw [hfl]; simp) h16
        have pv : ∀ p, PE (cxOf (L2N.CX P w) P w C.K mg base [ss3, q1, q2] x.i.d.qual x.i.d.scope (He.fAd C.K x.i.d.at_) cdv A outer st H E) (.Name ss3 p) (tVar 0) := fun p => pe_var (i := 0) rfl (visX h9) (okn2 h11).1 (okn2 h11).2
        have pv1 : PE (cxOf (L2N.CX P w) P w C.K mg base [ss3, q1, q2] x.i.d.qual x.i.d.scope (He.fAd C.K x.i.d.at_) cdv A outer st H E) (.Name q1 p9) (tVar 1) := pe_var (i := 1) rfl (visX h10) (okn2 h12).1 (okn2 h12).2
        have pv2 : PE (cxOf (L2N.CX P w) P w C.K mg base [ss3, q1, q2] x.i.d.qual x.i.d.scope (He.fAd C.K x.i.d.at_) cdv A outer st H E) (.Name q2 p13) (tVar 2) := pe_var (i := 2) rfl (visX h17) (okn2 h18).1 (okn2 h18).2
        have g := glX (X := cxOf (L2N.CX P w) P w C.K mg base [ss3, q1, q2] x.i.d.qual x.i.d.scope (He.fAd C.K x.i.d.at_) cdv A outer st H E) h4
        refine ⟨_, pss_cons (ps_expr (pe_baseinit (pl := plainOf _ _) g.1 (S.cls _ _ h1) g.2 s6 s7 (pa_cons (pv p2) (pa_cons pe_str pa_nil)) (mcall_eval rfl h3 rfl (by simp)) rfl rfl)) (pss_cons (ps_ost (pv p7) pv1) (pss_cons (ps_ost (pv p11) pv2) pss_nil)), ?_⟩
        refine ⟨_, rfl, a, C.cl x.c, _, rfl, by simp, s2, ea, _, rfl, _, rfl, a, C.cl x.c, rfl, s2, e2, .inl ⟨ea, fun dx h1 h2 => ?_⟩⟩
        refine ⟨_, rfl, _, rfl, a, C.cl x.c, rfl, s2, e4, .inr ⟨dx, [(f1, w1)], upd_same, by rw [upd_ne h2, upd_same], by simp, ?_⟩⟩
        refine hq dx _ h1 h2 ?_ ?_ fun b hb1 hb2 => ?_
        · rw [upd_ne (Ne.symm h2), upd_same]
        · rw [upd_same, List.map_cons, List.map_cons, e1, e3]
          rfl
        · rw [upd_ne hb2, upd_ne hb1, upd_ne hb2]
    · cases hB
  · cases hB
/-- the context of a def's body is a good one -/
theorem good_of (O : MoOk M) (S : Stands M C mg) {i : DI} {f : Nat} (hi : M.dd[f]? = some i) {k : Nat} (hk : 1 ≤ k)
    (ih1 : ∀ (f : Nat) (i : DI) (fd : FuncData), M.dd[f]? = some i → FunD C.K i.d.name i.d.qual i.d.params i.d.body i.d.scope [] [] (He.fAd C.K i.d.at_) fd → FnOk P w C.K mg base (L2N.CX P w) (k + 1) (He.fAd C.K i.d.at_) fd i.ps (spG C (M.T.callF (k + 1) f)))
    (ih0 : ∀ (f : Nat) (i : DI) (fd : FuncData), M.dd[f]? = some i → FunD C.K i.d.name i.d.qual i.d.params i.d.body i.d.scope [] [] (He.fAd C.K i.d.at_) fd → FnOk P w C.K mg base (L2N.CX P w) k (He.fAd C.K i.d.at_) fd i.ps (spG C (M.T.callF k f)))
    {qual : Str} {fa : Addr} {cd : Value} {A : Around} {outer : List PySem.Env} {s : Shared} {H : Hp} {E : XK} (hr : Room (k + 1) (A.deeper (envOfC qual i.d.scope s.heap.objs.size fa cd))) :
    GoodS C (M.T.gam (M.T.callF (k + 1)) (M.T.callF k)) (M.ck i) false (cxOf (L2N.CX P w) P w C.K mg base i.N qual i.d.scope fa cd A outer s H E) := by
  have sc := O.sc f i hi
  have bnd : ∀ {f : Nat} {i : DI} {fd : FuncData}, M.dd[f]? = some i → FunD C.K i.d.name i.d.qual i.d.params i.d.body i.d.scope [] [] (He.fAd C.K i.d.at_) fd → Binds C.K fd i.ps [] := fun {f i fd} h F => F.bindsN (O.ba f i h _ _ _ _)
  refine ⟨⟨rfl, rfl, rfl, sc.nd, ?_, fun _ => rfl, .inl rfl, sc.kind, S.bn, S.glob, ?_, S.cls, S.inj, S.kt, S.xk, fun _ g x hx => ?_, fun _ c m g n hg hn => ?_, fun _ c x hx hm => ?_, fun _ c m f n hs hf hn => ?_, fun _ => S.no, fun _ => S.non, S.fld, S.xcc, S.flx, S.xup, fun _ _ => rfl, fun Wx y e n p x hp hb hn => ?_⟩, rfl, rfl, passes_of rfl, fun _ c x f fs hx hc => ?_, fun c x hx hc => ?_⟩
  · have := hr.un
    show (A.deeper _).units + 64 < cLine
    omega
  · intro pins s' σ H' xs us Q I r h
    rcases h with h | ⟨a, c, t, b, _, z, _, _⟩
    · exact call_isi (X := cxOf (L2N.CX P w) P w C.K mg base i.N qual i.d.scope fa cd A outer s H E) pins s' σ H' xs us Q I r h
    · exact absurd z (S.no _ _ _)
  · obtain ⟨j, hj, ha⟩ := O.glo g x hx
    obtain ⟨fd, F⟩ := S.def_ g j hj
    have e : He.fAd C.K j.d.at_ = He.ga C.K x := by rw [ha]; rfl
    refine ⟨_, fd, j.ps, k + 1, ?_, F.kp, bnd hj F, hr, ih1 g j fd hj F⟩
    rw [e]
    exact S.gl g x hx
  · obtain ⟨j, hj, h1, h2⟩ := S.meth c m g n hg hn
    obtain ⟨fd, F⟩ := S.def_ g j hj
    exact ⟨_, fd, j.ps, k + 1, h1, h2, bnd hj F, hr, ih1 g j fd hj F⟩
  · obtain ⟨cl, fI, j, h1, h2, hj, hM⟩ := S.make c x hx hm
    obtain ⟨fd, F⟩ := S.def_ fI j hj
    refine ⟨_, fd, j.ps, k, M.T.callF k fI, hM, bnd hj F, hr, ih0 fI j fd hj F, fun ws S' => ?_⟩
    show (match M.T.cls[c]? with
      | some d => match d.init with
        | some f => _
        | none => none
      | none => none) = _
    rw [h1]
    dsimp only
    rw [h2]
    all_goals rfl
  · obtain ⟨j, hj, h1, h2, h3⟩ := S.csm c m f n hs hf hn
    obtain ⟨fd, F⟩ := S.def_ f j hj
    exact ⟨_, fd, j.ps, k + 1, h1, h2, h3, bnd hj F, hr, ih1 f j fd hj F⟩
  · refine pe_imp (pe_fld hp (sup_base hb)) fun σ H Q ⟨m, ρ, S', r, A, h, p⟩ => ⟨m, ρ, S', r, A, h, ?_⟩
    obtain ⟨r, S2⟩ := r
    cases r with
    | ex x => exact p
    | ok w =>
      intro m' H' v R e rv
      obtain ⟨a, c, d, _, _, _, _, z, _⟩ := p m' H' v R e rv
      exact absurd z (S.no _ _ _)
  · obtain ⟨y, hy, e⟩ := List.mem_map.mp hc
    obtain ⟨g1, g2, g3, g4, ⟨fd, F⟩, _⟩ := S.xin y hy
    have F1 := init_ok (P := P) (w := w) (base := base) O S hy F
    have F2 := F.bindsN ((O.xin y hy).2.1 _ _ _ _)
    have ec : y.c = c := congrArg Prod.fst e
    have ef : y.fl = f :: fs := congrArg Prod.snd e
    rw [ef, ec] at F1
    rw [ec] at g1 g2 g3
    exact ⟨g1, g2, _, 1, fd, y.i.ps, g3, g4, F1, hr.mono (by omega), F2⟩
  · obtain ⟨h1, h2, h3, h4, h5⟩ := S.rse c x hx hc
    exact ⟨h1, raises_own h2 h3, h4, h5⟩
theorem Rst.start {K : PySem.W.Frag} {m : List Addr} {H : Hp} {N : List Str} {n : Nat} (hn : n = N.length) : ∀ {ws : List W} {vs : List V}, RWs K m H ws vs → Rst K m H (ws.map some ++ List.replicate (n - ws.length) none) (start N vs) := fun {ws vs} r => by
  have hl := r.length
  refine ⟨?_, fun i w h => ?_⟩
  · unfold L2.start
    simp [hl, hn]
  · by_cases hi : i < ws.length
    · rw [List.getElem?_append_left (by simpa using hi), List.getElem?_map] at h
      obtain ⟨w', h1, h2⟩ := Option.map_eq_some_iff.mp h
      cases h2
      obtain ⟨v, h3, h4⟩ := r.get h1
      refine ⟨v, ?_, h4⟩
      unfold L2.start
      rw [List.getElem?_append_left (by simpa [← hl] using hi), List.getElem?_map, h3]
      rfl
    · rw [List.getElem?_append_right (by simpa using hi), List.getElem?_replicate] at h
      split at h <;> cases h
theorem fn_ok (O : MoOk M) (S : Stands M C mg) : ∀ (k f : Nat) (i : DI) (fd : FuncData), M.dd[f]? = some i → FunD C.K i.d.name i.d.qual i.d.params i.d.body i.d.scope [] [] (He.fAd C.K i.d.at_) fd → FnOk P w C.K mg base (L2N.CX P w) k (He.fAd C.K i.d.at_) fd i.ps (spG C (M.T.callF k f))
  | 0, f, i, fd, _, _ => fn_none fun _ _ => by unfold Tab.callF; rfl
  | 1, f, i, fd, _, _ => fn_none fun _ _ => by unfold Tab.callF; rfl
  | 2, f, i, fd, _, _ => fn_none fun _ _ => by unfold Tab.callF; rfl
  | k + 3, f, i, fd, hi, F => by
    have ih1 := fn_ok O S (k + 2)
    have ih0 := fn_ok O S (k + 1)
    have hlt : f < M.T.fns.length := by rw [← O.len]; exact (List.getElem?_eq_some_iff.mp hi).1
    obtain ⟨d, hd⟩ : ∃ d, M.T.fns[f]? = some d := ⟨_, List.getElem?_eq_getElem hlt⟩
    obtain ⟨c1, c2, c3⟩ := O.ck f i d hi hd
    have sc := O.sc f i hi
    have ev : ∀ ws S', M.T.callF (k + 3) f ws S' = if ws.length = d.ps then fin (xs (M.T.gam (M.T.callF (k + 2)) (M.T.callF (k + 1))) d.body (ws.map some ++ List.replicate (d.n - d.ps) none) S') else none := fun ws S' => by
      rw [Tab.callF, hd]
    refine F.ok sc (fun vs H Q E h => ?_) fun cdv A outer s H vs Q E hr h => ?_
    · obtain ⟨ws, S', r, hl, e⟩ := spG_len h
      rw [ev] at e
      split at e
      · rename_i hq
        rw [← hl, hq, c1]
      · cases e
    · obtain ⟨m, ws, S', r, hR, hw, e, p⟩ := h
      rw [ev] at e
      split at e
      case isFalse => cases e
      rename_i hq
      have G := good_of (P := P) (w := w) (base := base) O S hi (k := k + 1) (by omega) ih1 ih0 (qual := i.d.qual) (fa := He.fAd C.K i.d.at_) (cd := cdv) (A := A) (outer := outer) (s := s) (H := H) (E := E) hr
      have tk : L2N.Takes (cxOf (L2N.CX P w) P w C.K mg base i.N i.d.qual i.d.scope (He.fAd C.K i.d.at_) cdv A outer s H E) (fun cls d _ H => E cls d H) := L2N.takes_of rfl rfl rfl rfl
      refine ⟨_, okSs _ d.body C false (M.ck i) _ _ i.d.body G (fun _ => tk) c3, ?_⟩
      unfold fin at e
      rw [← hq] at e
      split at e
      · rename_i v ρ' S2 hx
        cases (Option.some.inj e)
        exact ⟨m, _, S', _, _, _, ⟨hR, Rst.start c2 hw⟩, hx, fun m1 H1 v R1 e1 rv => p m1 H1 v R1 e1 rv⟩
      · rename_i ρ' S2 hx
        cases (Option.some.inj e)
        exact ⟨m, _, S', _, _, _, ⟨hR, Rst.start c2 hw⟩, hx, fun m1 H1 σ1 R1 e1 _ => p m1 H1 .non R1 e1 .non⟩
      · rename_i x ρ' S2 hx
        cases (Option.some.inj e)
        exact ⟨m, _, S', _, _, _, ⟨hR, Rst.start c2 hw⟩, hx, fun m1 H1 σ1 cls dd R1 e1 _ rx => p m1 H1 cls dd R1 e1 rx⟩
      · cases e
end
/-! ### the law's call -/
theorem rel_script {C : Cf} {H : Hp} {a : Addr} {ns : List Int} (hO : Only H) (hS : SqL C.K H a (ns.map V.int)) : RelH C [a] [.fro (ns.map W.int)] H := by
  have scriptW : ∀ {m : List Addr} (l : List Int), RWs C.K m H (l.map W.int) (l.map V.int) := fun {m} l => by
    induction l with
    | nil => exact .nil
    | cons i r ih => exact .cons (.int i) ih
  refine ⟨rfl, fun n b c h1 h2 => ?_, fun n k b c e h1 h2 h3 h4 h5 h6 => ?_, fun n c fs h => ?_⟩
  · cases n with
    | zero =>
      simp at h1 h2
      subst h1 h2
      refine ⟨_, ?_, scriptW ns⟩
      rcases hS with (h | h) | h
      · rcases hO a with z | ⟨o, xs, z⟩
        · rw [z] at h; cases h
        · rw [z] at h; cases h
      · exact .inl h
      · exact .inr h
    | succ n => simp at h1
  · cases n with
    | zero =>
      simp at h3
      subst h3
      cases h5
    | succ n => simp at h1
  · cases n with
    | zero => simp at h
    | succ n => simp at h
/-- the law holds if the interpreter's call gives True -/
theorem walk_EB {l : PySem.W.OpenLaw} {n k : Nat} {q : Program} {loose : List Str} {XP : (Str → Option Value) → Heap → Prop} {YP : World → Heap → Prop} {d : DefRec} {x : Str} {M : Mo} {fL : Nat} {i : DI}
    (hn : l.most = some n) (hn2 : n ≤ sizeLine) (hdf : d.params.defaults = []) (hr : Room k callerA) (O : MoOk M) (hi : M.dd[fL]? = some i) (hps : i.ps = [x]) (hat : i.d.at_ = (d.name, none))
    (S : ∀ (w : World) (mg : Str → Option Value) (h : Heap), YP w h → h.Ns mainGlobals mg → ∃ C : Cf, C.K.In h ∧ mg d.name = some (.ref (He.ga C.K d.name)) ∧ ∀ base : Heap, C.K.In base → base.Ns mainGlobals mg → Stands M C mg)
    (pure_ : ∀ ns : List Int, ns.length ≤ n → (∀ z ∈ ns, Builtin.Int.intBits z ≤ 1048576) → ∃ S', M.T.callF k fL [.loc 0] [.fro (ns.map W.int)] = some (.ok (.bl true), S')) :
    PySem.W.WalkO q loose XP YP l.row.toRowW d [] (fun f vs => PySem.call f vs) := by
  refine Att.attach_callB hn hdf fun w s₀ s₁ mg mb fa o pm cd doc a vs ns G Y ho hd hcd hmg hobj hints hlen hbits hg => ?_
  obtain ⟨C, KX, hname, hS⟩ := S w mg _ Y G.T.g
  have e : fa = He.fAd C.K i.d.at_ := by
    rw [hname] at hmg
    rw [hat]
    exact (Value.ref.inj (Option.some.inj hmg)).symm
  have S0 := hS _ KX G.T.g
  obtain ⟨fd, F⟩ := S0.def_ fL i hi
  have hb : ∀ (s : Shared) (u : Value), BindsTo s fd ⟨[u], []⟩ [(x, u)] := fun s u => by
    have b := FunD.bindsA F (O.ba fL i hi _ _ _ _) s [u] (by rw [hps]; rfl)
    rw [hps] at b
    exact b
  subst e
  have hF : ∀ base : Heap, C.K.In base → base.Ns mainGlobals mg → FnOk l.prog w C.K mg base (L2N.CX l.prog w) k (He.fAd C.K i.d.at_) fd [x] (spG C (M.T.callF k fL)) := fun base hb1 hb2 => by
    have := fn_ok (P := l.prog) (w := w) (base := base) O (hS base hb1 hb2) k fL i fd hi F
    rw [hps] at this
    exact this
  refine law_call KX G.T.g G.T.b G.T.builtins G.T.nolimit hg hobj hints (Nat.le_trans hlen hn2) hr hF hb (fun H hO hSq => ?_) fun H e s' z => ?_
  · obtain ⟨S', hp⟩ := pure_ ns hlen hbits
    exact ⟨[a], [.loc 0], [.fro (ns.map W.int)], _, rel_script hO hSq, .cons (.loc rfl) .nil, hp, fun m' H' v _ _ rv => by cases rv; rfl⟩
  · obtain ⟨_, _, _, _, _, _, _, _, _, _, _, _, z⟩ := z
    exact z
end Ip

/-! IpHead: the checks without the heap, the facts of the heap. Written by an AI agent. -/
namespace Ip
open PySem PySem.Spec PyProof.Rows L2
theorem zip_look : ∀ {ps : List Str} {us : List Value} (l : List (Str × Value)), ps.Nodup → us.length = ps.length → (∀ x ∈ ps, ∀ v, (ps.zip us).lookup x = some v → l.lookup x = some v) → (ps.filterMap fun n => (l.lookup n).map (n, ·)) = ps.zip us ∧ (ps.filter fun n => (l.lookup n).isNone) = []
  | [], us, l, _, h, _ => by simp
  | p :: ps, [], l, _, h, _ => by simp at h
  | p :: ps, u :: us, l, nd, h, hl => by
    have h0 : l.lookup p = some u := hl p (by simp) u (by simp [List.lookup])
    rw [List.filterMap_cons, h0]
    have nd' := List.nodup_cons.mp nd
    have := zip_look (ps := ps) (us := us) l nd'.2 (by simpa using h) fun x hx v hv => hl x (List.mem_cons_of_mem _ hx) v (by
      have ne : x ≠ p := fun e => nd'.1 (e ▸ hx)
      have : (x == p) = false := by simpa using ne
      simp [List.lookup, this, hv])
    refine ⟨by simp [this.1], ?_⟩
    rw [List.filter_cons, h0, this.2]
    rfl
theorem ba_plain (args : List Arg) (ps : List Str) (e : args.map (·.arg) = ps) (nd : ps.Nodup) : BA ⟨[], args, none, [], [], none, []⟩ ps := fun x qual body scope kV doc pm an cdv ct us hl => by
  obtain ⟨hz, hm⟩ := zip_look (ps := ps) (us := us) _ nd hl (fun x _ v h => h)
  have h0 : seqItems? Value.none = pure none := rfl
  have hg : ¬ us.length > ps.length := by omega
  unfold bindArgs
  simp only [PySem.W.fnOf, h0, e, List.map_nil, List.nil_append, List.append_nil, List.forIn_nil, pure_bind, Option.getD_none, List.drop_nil, List.length_nil, Nat.sub_zero, Nat.zero_sub, List.take_length, hm, List.drop_length, List.zip_nil_left, hz]
  simp [hg, hm, hz]

/-! ### without the heap -/
def argB (p : Arguments) (ps : List Str) : Bool := p.posonlyargs.isEmpty && p.vararg.isNone && p.kwonlyargs.isEmpty && p.kw_defaults.isEmpty && p.kwarg.isNone && p.defaults.isEmpty && decide (p.args.map (·.arg) = ps) && decide ps.Nodup
theorem argB_ok {p : Arguments} {ps : List Str} (h : argB p ps = true) : BA p ps := by
  obtain ⟨a1, a2, a3, a4, a5, a6, a7⟩ := p
  have h := ba h
  have h1 := ba h.1
  have h2 := ba h1.1
  have h3 := ba h2.1
  have h4 := ba h3.1
  have h5 := ba h4.1
  have h6 := ba h5.1
  have e1 : a1 = [] := List.isEmpty_iff.mp h6.1
  have e3 : a3 = none := Option.isNone_iff_eq_none.mp h6.2
  have e4 : a4 = [] := List.isEmpty_iff.mp h5.2
  have e5 : a5 = [] := List.isEmpty_iff.mp h4.2
  have e6 : a6 = none := Option.isNone_iff_eq_none.mp h3.2
  have e7 : a7 = [] := List.isEmpty_iff.mp h2.2
  subst e1 e3 e4 e5 e6 e7
  exact ba_plain a2 ps (of_decide_eq_true h1.2) (of_decide_eq_true h.2)
def scB (i : DI) : Bool := (match i.d.scope.kind with | .function => true | _ => false) && !i.d.scope.isCoroutine && !i.d.scope.isGenerator && decide i.N.Nodup && decide (i.N.take i.ps.length = i.ps) &&
  (i.ps.all fun x => decide (i.d.scope.names.lookup x = some .local) || decide (i.d.scope.names.lookup x = some .cell)) && (i.d.scope.names.all fun y => decide (y.2 ≠ .free))
theorem scB_ok {i : DI} (h : scB i = true) : FnScope i.N i.ps i.d.scope := by
  have h := ba h
  have h1 := ba h.1
  have h2 := ba h1.1
  have h3 := ba h2.1
  have h4 := ba h3.1
  have h5 := ba h4.1
  refine ⟨?_, by simpa using h5.2, by simpa using h4.2, of_decide_eq_true h3.2, of_decide_eq_true h2.2, fun x hx => ?_, fun y hy => ?_⟩
  · have q := h5.1
    split at q
    · assumption
    · cases q
  · have q := List.all_eq_true.mp h1.2 x hx
    rcases Bool.or_eq_true_iff.mp q with q | q
    · exact .inl (of_decide_eq_true q)
    · exact .inr (of_decide_eq_true q)
  · exact of_decide_eq_true (List.all_eq_true.mp h.2 y hy)
def gloB : List (Option Str) → List DI → Bool
  | [], _ => true
  | none :: r, _ :: l => gloB r l
  | some x :: r, i :: l => decide (i.d.at_ = (x, none)) && gloB r l
  | _, [] => false
theorem gloB_ok : ∀ {fs : List (Option Str)} {l : List DI}, gloB fs l = true → ∀ (f : Nat) (x : Str), fs[f]? = some (some x) → ∃ i : DI, l[f]? = some i ∧ i.d.at_ = (x, none)
  | [], _, _, f, x, e => by simp at e
  | none :: r, [], h, _, _, _ => by cases h
  | none :: r, _ :: l, h, 0, x, e => by simp at e
  | none :: r, _ :: l, h, f + 1, x, e => by
    obtain ⟨i, h1, h2⟩ := gloB_ok (fs := r) (l := l) h f x (by simpa using e)
    exact ⟨i, by simpa using h1, h2⟩
  | some y :: r, [], h, _, _, _ => by cases h
  | some y :: r, i :: l, h, 0, x, e => by
    have h := ba h
    have e : y = x := by simpa using e
    subst e
    exact ⟨i, rfl, of_decide_eq_true h.1⟩
  | some y :: r, i :: l, h, f + 1, x, e => by
    have h := ba h
    obtain ⟨i, h1, h2⟩ := gloB_ok (fs := r) (l := l) h.2 f x (by simpa using e)
    exact ⟨i, by simpa using h1, h2⟩
def ckB (M : Mo) : List DI → List FnI → Bool
  | [], [] => true
  | i :: l, d :: ds => (d.ps == i.ps.length) && (d.n == i.N.length) && chkSs false (M.ck i) d.body i.d.body && ckB M l ds
  | _, _ => false
theorem ckB_ok {M : Mo} : ∀ {l : List DI} {ds : List FnI}, ckB M l ds = true → l.length = ds.length ∧ ∀ (f : Nat) (i : DI) (d : FnI), l[f]? = some i → ds[f]? = some d → d.ps = i.ps.length ∧ d.n = i.N.length ∧ chkSs false (M.ck i) d.body i.d.body = true
  | [], [], _ => ⟨rfl, fun f i d h => by simp at h⟩
  | [], _ :: _, h => by cases h
  | _ :: _, [], h => by cases h
  | i :: l, d :: ds, h => by
    have h := ba h
    have h1 := ba h.1
    have h2 := ba h1.1
    obtain ⟨q1, q2⟩ := ckB_ok (l := l) (ds := ds) h.2
    refine ⟨by rw [List.length_cons, List.length_cons, q1], fun f i' d' e1 e2 => ?_⟩
    cases f with
    | zero =>
      simp at e1 e2
      subst e1 e2
      exact ⟨beq_iff_eq.mp h2.1, beq_iff_eq.mp h2.2, h1.2⟩
    | succ f => exact q2 f i' d' (by simpa using e1) (by simpa using e2)
def dflB (i : DI) : Bool := i.d.dfl.isEmpty && i.d.kwd.isEmpty
def moB (M : Mo) : Bool := ckB M M.dd M.T.fns && M.dd.all scB && (M.dd.all fun i => argB i.d.params i.ps) && M.dd.all dflB && gloB M.fnm M.dd && (M.xin.all fun x => scB x.i && argB x.i.d.params x.i.ps && iniB M x)
theorem moB_ok {M : Mo} (h : moB M = true) : MoOk M := by
  have h0 := ba h
  have h := ba h0.1
  have h1 := ba h.1
  have h2 := ba h1.1
  have h3 := ba h2.1
  obtain ⟨q1, q2⟩ := ckB_ok h3.1
  have all : ∀ {p : DI → Bool}, M.dd.all p = true → ∀ (f : Nat) (i : DI), M.dd[f]? = some i → p i = true := fun h f i e => List.all_eq_true.mp h i (List.mem_of_getElem? e)
  exact ⟨q1, fun f i e => scB_ok (all h3.2 f i e), fun f i e => argB_ok (all h2.2 f i e), fun f i e => by
    have q := ba (all h1.2 f i e)
    exact ⟨List.isEmpty_iff.mp q.1, List.isEmpty_iff.mp q.2⟩, q2, gloB_ok h.2, fun x hx => by
    have q := ba (List.all_eq_true.mp h0.2 x hx)
    have q1 := ba q.1
    exact ⟨scB_ok q1.1, argB_ok q1.2, q.2⟩⟩

/-! ### by the heap -/
def gam0 (M : Mo) : Gam := M.T.gam (fun _ _ _ => none) (fun _ _ _ => none)
/-- the exception classes -/
structure Mx where
  m : Mo
  xcs : List Nat := []
def cfOf (M : Mx) (K : PySem.W.Frag) : Cf := { K := K, cl := fun c => He.ga K (M.m.cnm.getD c ""), fn := fun k => M.m.mnm.getD k "", xi := fun _ _ _ => False, xc := fun c => c ∈ M.xcs, xn := fun _ => False }
def globFa : List Str → List W → List He.Fa
  | x :: xs, .str z :: ws => .str x z :: globFa xs ws
  | x :: xs, .int i :: ws => .int x i :: globFa xs ws
  | _, _ => []
def globB : List Str → List W → Bool
  | [], [] => true
  | _ :: xs, .str _ :: ws => globB xs ws
  | _ :: xs, .int _ :: ws => globB xs ws
  | _, _ => false
def clsFa (M : Mo) : List Str → List ClI → Nat → List He.Fa
  | x :: xs, d :: ds, c => (if d.flds.isEmpty && d.mets.isEmpty then [] else [He.Fa.cls x]) ++ d.flds.map (fun k => He.Fa.noat x (M.mnm.getD k "")) ++ d.mets.map (fun p => He.Fa.meth x (M.mnm.getD p.1 "")) ++ (if c ∈ M.mks then [He.Fa.mkr x] else []) ++ clsFa M xs ds (c + 1)
  | _, _, _ => []
def Mx.fa (M : Mx) : List He.Fa := (M.m.fnm.filterMap (·.map He.Fa.glo)) ++ bnames.map He.Fa.free ++ M.m.cnm.map He.Fa.glo ++ globFa M.m.gnm M.m.T.globs ++ M.m.rs.map (fun c => He.Fa.exc (M.m.cnm.getD c "")) ++
  (M.xcs.flatMap fun c => M.m.cts.map fun d => He.Fa.exm (M.m.cnm.getD c "") (M.m.cnm.getD d "") ((gam0 M.m).up c d)) ++ clsFa M.m M.m.cnm M.m.T.cls 0
def Mx.fn (M : Mx) : List He.DefD := M.m.dd.map (·.d) ++ M.m.xin.map (·.i.d)
def tys : List Ty := [.non, .bl, .int, .str, .tup, .lst, .dct]
def isas (n : Nat) : List Isa := [.int, .bool, .str, .tuple, .list, .dict, .ve] ++ (List.range n).map Isa.own
def exccB (K : PySem.W.Frag) (D : Addr) : Bool :=
  decide (PySem.W.findIn K (.ref D) "__getattribute__" = some (some (.builtin "BaseException.__getattribute__"))) && (decide (PySem.W.findIn K (.ref D) "__getattr__" = some none) && (decide (PySem.W.subIn K (.ref D) (.type "BaseException") = some true) && (PySem.W.hasDictIn K D &&
  (decide (PySem.W.findIn K (.ref D) "__class__" = some (some (.builtin "object.__class__"))) && (decide (PySem.W.specialIn K (.builtin "object.__class__") "__get__" = some (some (.builtin "getset_descriptor.__get__"))) &&
  (decide (PySem.W.takesIn K (.builtin "object.__class__") = some true) && decide (PySem.W.mroIn K D (.type "object") = some true)))))))
theorem exccB_ok {K : PySem.W.Frag} {D : Addr} (h : exccB K D = true) : ExcC K D := by
  obtain ⟨h1, h⟩ := ba h
  obtain ⟨h2, h⟩ := ba h
  obtain ⟨h3, h⟩ := ba h
  obtain ⟨h4, h⟩ := ba h
  obtain ⟨h5, h⟩ := ba h
  obtain ⟨h6, h⟩ := ba h
  obtain ⟨h7, h8⟩ := ba h
  exact ⟨of_decide_eq_true h1, of_decide_eq_true h2, of_decide_eq_true h3, h4, of_decide_eq_true h5, of_decide_eq_true h6, of_decide_eq_true h7, of_decide_eq_true h8⟩
def flxB (M : Mx) (K : PySem.W.Frag) (c : Nat) : Bool := match M.m.T.cls[c]? with
  | some d => d.xfl.all fun k => decide (PySem.W.findIn K (.ref ((cfOf M K).cl c)) (M.m.mnm.getD k "") = some none)
  | none => true
def oexB (K : PySem.W.Frag) (C : Addr) : Bool := (match K.lookup C with
  | some ⟨.type "type", _, .cls cd, sl⟩ => (match cd.mro, sl.toList with
    | .ref C' :: bm, [_, _, _, _, some (.builtin n), _] => C' == C && n == "ValueError.__new__" && !cd.hasDel && cd.hasDict && PySem.HandSPX.refsVE bm
    | _, _ => false)
  | _ => false) && (decide (PySem.W.findIn K (.ref C) "__setattr__" = some (some (.builtin "object.__setattr__"))) && (decide (PySem.W.subIn K (.ref C) (.type "BaseException") = some true) && (decide (PySem.W.typeIn K (.ref C) = some (.type "type")) && PySem.W.keepIn K (.ref C))))
theorem oexB_ok {K : PySem.W.Frag} {C : Addr} (h : oexB K C = true) : OexC K C := by
  obtain ⟨q, h⟩ := ba h
  obtain ⟨h1, h⟩ := ba h
  obtain ⟨h2, h⟩ := ba h
  obtain ⟨h3, h4⟩ := ba h
  refine ⟨?_, of_decide_eq_true h1, of_decide_eq_true h2, of_decide_eq_true h3, h4⟩
  split at q
  · rename_i dd cd sl ho
    split at q
    · rename_i C' bm k0 k1 k2 k3 n k5 hm hs
      simp only [Bool.and_eq_true, beq_iff_eq, Bool.not_eq_true'] at q
      obtain ⟨⟨⟨⟨rfl, rfl⟩, hdel⟩, hdi⟩, ht⟩ := q
      obtain ⟨nm, bs, mro, ns, qn, hd, sn, sub, ab, col, del⟩ := cd
      dsimp only at hm hdel hdi
      subst hm hdel hdi
      have hsl : sl = #[k0, k1, k2, k3, some (.builtin "ValueError.__new__"), k5] := by
        obtain ⟨l⟩ := sl
        simp only at hs
        rw [hs]
      subst hsl
      exact ⟨nm, qn, ns, bs, bm, sn, sub, ab, col, dd, k0, k1, k2, k3, k5, ho, ht⟩
    · cases q
  · cases q
def creadB (K : PySem.W.Frag) (C : Addr) : Bool := PySem.W.readsIn K C (.type "type") && decide (PySem.W.specialIn K (.ref C) "__getattribute__" = some (some (.builtin "type.__getattribute__")))
theorem creadB_ok {K : PySem.W.Frag} {C : Addr} (h : creadB K C = true) : ClX.CRead K C (.type "type") := ⟨(ba h).1, of_decide_eq_true (ba h).2⟩
def clsFn (K : PySem.W.Frag) (C : Addr) (n : Str) (v : Value) : Bool := match PySem.W.findCls K (.ref C) (.type "type") n with
  | some (.val u) => decide (u = v)
  | _ => false
theorem clsFn_ok {K : PySem.W.Frag} {C : Addr} {n : Str} {v : Value} (h : clsFn K C n v = true) : PySem.W.findCls K (.ref C) (.type "type") n = some (.val v) := by
  unfold clsFn at h
  split at h
  · rename_i e
    rw [of_decide_eq_true h] at e
    exact e
  · cases h
def csmB (M : Mx) (K : PySem.W.Frag) (c : Nat) : Bool := match M.m.T.cls[c]? with
  | some d => creadB K ((cfOf M K).cl c) && d.mets.all fun p => (match M.m.dd[p.2]? with
    | some i => clsFn K ((cfOf M K).cl c) (M.m.mnm.getD p.1 "") (.ref (He.fAd K i.d.at_)) && PySem.W.keepIn K (.ref (He.fAd K i.d.at_))
    | none => false)
  | none => true
def xinB (M : Mx) (K : PySem.W.Frag) (x : XI) : Bool := oexB K ((cfOf M K).cl x.c) && (decide (PySem.W.findIn K (.ref ((cfOf M K).cl x.c)) "__init__" = some (some (.ref (He.fAd K x.i.d.at_)))) && (decide (PySem.W.typeIn K (.ref (He.fAd K x.i.d.at_)) = some (.type "function")) &&
  (creadB K ((cfOf M K).cl x.b) && (clsFn K ((cfOf M K).cl x.b) "__init__" (.builtin "ValueError.__init__") && x.fl.all fun f => decide (PySem.W.findIn K (.ref ((cfOf M K).cl x.c)) (M.m.mnm.getD f "") = some none)))))
/-! the hook: what is reached from the module's names, and the statics -/
def frY (g : Addr → Option Obj) (n : Nat) : PySem.W.Frag := He.frT g (cStatics :: He.asD g n)
def obsY (n : Nat) (fa : List He.Fa) (fn : List He.DefD) (ex : PySem.W.Frag → Bool) (g : Addr → Option Obj) : He.AlX := (He.obsT fa fn [] (frY g n), ex (frY g n))
theorem saysY_of {n : Nat} {fa : List He.Fa} {fn : List He.DefD} {ex : PySem.W.Frag → Bool} {w : World} {h : Heap} (e : obsY n fa fn ex h.get? = He.valX fn [] w) : He.SaysX fa fn [] [] ex w h (frY h.get? n) :=
  ⟨congrArg (fun z : He.AlX => z.1) e, congrArg (fun z : He.AlX => z.2) e, fun p hp => absurd hp (by simp), fun p hp => absurd hp (by simp), fun p hp => absurd hp (by simp)⟩
def hookY (n : Nat) (fa : List He.Fa) (fn : List He.DefD) (ex : PySem.W.Frag → Bool) : PySem.W.Hook where
  α := He.AlX
  obs := fun s => obsY n fa fn ex s.heap.get?
  val := fun w => He.valX fn [] w
  says := fun w h => ∃ K : PySem.W.Frag, K.In h ∧ He.SaysX fa fn [] [] ex w h K
  of := fun _ _ e => ⟨_, He.frT_in, saysY_of e⟩
  keeps := fun _ _ _ ⟨K, hK, c⟩ k => ⟨K, PySem.W.Frag.In.keeps hK k, ⟨c.t, c.more, c.hd, c.out, fun p hp => k _ _ (c.empty p hp)⟩⟩
theorem obsY_eq {n : Nat} {fa : List He.Fa} {fn : List He.DefD} {ex : PySem.W.Frag → Bool} {g : Addr → Option Obj} {s : Shared} (h : ∀ a, g a = s.heap.get? a) : obsY n fa fn ex g = (hookY n fa fn ex).obs s := by
  have e : g = s.heap.get? := funext h
  rw [e] <;> rfl
/-- methods stand where the class's own look finds them -/
def metsH (M : Mo) (K : PySem.W.Frag) : Nat → List ClI → Bool
  | _, [] => true
  | c, d :: ds => (d.mets.all fun p => (match M.dd[p.2]? with
      | some i => decide (He.fAd K i.d.at_ = He.ma K (He.ga K (M.cnm.getD c "")) (M.mnm.getD p.1 ""))
      | none => true)) && (decide (c ∉ M.mks) || (match d.init with
      | some f => (match M.dd[f]? with
        | some i => decide (He.fAd K i.d.at_ = He.ma K (He.ga K (M.cnm.getD c "")) "__init__")
        | none => true)
      | none => true)) && metsH M K (c + 1) ds
def exB (M : Mx) (K : PySem.W.Frag) : Bool :=
  (M.m.cnm.all fun x => tys.all fun t => decide (PySem.W.kitOne K (.type (tyN t)) (.ref (He.ga K x)) = some false)) && ((M.xcs.all fun c => (isas M.m.cnm.length).all fun t => decide (PySem.W.kitOne K (.ref ((cfOf M K).cl c)) (isaU (cfOf M K) t) = some (isaX (gam0 M.m) c t))) &&
  ((M.xcs.all fun c => exccB K ((cfOf M K).cl c) && xfB K ((cfOf M K).cl c)) && ((M.xcs.all fun c => flxB M K c) && ((M.m.sups.all fun c => csmB M K c) && ((M.m.xin.all fun x => xinB M K x) && metsH M.m K 0 M.m.T.cls)))))
/-- the names without the heap -/
def clsB (M : Mo) : Bool := (M.cnm.length == M.T.cls.length) && decide M.mnm.Nodup && decide (("" : Str) ∉ M.mnm) && (M.rs.all fun c => decide (c < M.cnm.length))
def metsB (M : Mo) : Nat → List ClI → Bool
  | _, [] => true
  | c, d :: ds => (d.mets.all fun p => (match M.dd[p.2]? with
      | some i => decide (p.1 < M.mnm.length)
      | none => false)) && (decide (c ∉ M.mks) || (match d.init with
      | some f => (match M.dd[f]? with
        | some i => true
        | none => false)
      | none => false)) && (d.flds.all fun k => decide (k < M.mnm.length)) && metsB M (c + 1) ds
def headB (M : Mx) : Bool := clsB M.m && globB M.m.gnm M.m.T.globs && metsB M.m 0 M.m.T.cls && (M.xcs.all fun c => decide (c < M.m.cnm.length)) && (M.m.rs.all fun c => decide (c ∈ M.xcs)) && (M.m.dd.all dflB) && (M.m.xin.all fun x => decide (x.c ∈ M.xcs) && dflB x.i)
theorem glob_fa {K : PySem.W.Frag} {h : Heap} {mg : Str → Option Value} (X : K.In h) (G : h.Ns mainGlobals mg) : ∀ {xs : List Str} {ws : List W}, globB xs ws = true → (∀ f ∈ globFa xs ws, f.ok K = true) → ∀ (g : Nat) (x : Str) (w : W), xs[g]? = some x → ws[g]? = some w → ∃ u v, mg x = some u ∧ RelV v u ∧ ∀ m H, RW K m H w v
  | [], [], _, _, g, x, w, e, _ => by simp at e
  | [], _ :: _, h, _, _, _, _, _, _ => by cases h
  | _ :: _, [], h, _, _, _, _, _, _ => by cases h
  | y :: xs, u :: ws, h, hf, g, x, w, e1, e2 => by
    cases u with
    | str z =>
      cases g with
      | zero =>
        simp at e1 e2
        subst e1 e2
        obtain ⟨t, q⟩ := He.str_ok X G (hf (.str y z) (by simp [globFa]))
        exact ⟨_, .str z, q, ⟨t, rfl⟩, fun m H => .str z⟩
      | succ g => exact glob_fa X G (xs := xs) (ws := ws) h (fun f hm => hf f (by simp [globFa, hm])) g x w (by simpa using e1) (by simpa using e2)
    | int z =>
      cases g with
      | zero =>
        simp at e1 e2
        subst e1 e2
        obtain ⟨t, q⟩ := He.int_ok X G (hf (.int y z) (by simp [globFa]))
        exact ⟨_, .int z, q, ⟨t, rfl⟩, fun m H => .int z⟩
      | succ g => exact glob_fa X G (xs := xs) (ws := ws) h (fun f hm => hf f (by simp [globFa, hm])) g x w (by simpa using e1) (by simpa using e2)
    | _ => cases h
theorem cls_fa {M : Mo} {K : PySem.W.Frag} : ∀ {xs : List Str} {ds : List ClI} {c0 : Nat}, (∀ f ∈ clsFa M xs ds c0, f.ok K = true) → ∀ (j : Nat) (x : Str) (d : ClI), xs[j]? = some x → ds[j]? = some d →
    ((d.flds.isEmpty && d.mets.isEmpty) = false → Cls K (He.ga K x)) ∧ (∀ k ∈ d.flds, NoAttr K (He.ga K x) (M.mnm.getD k "")) ∧ (∀ p ∈ d.mets, Meth K (He.ga K x) (M.mnm.getD p.1 "") (He.ma K (He.ga K x) (M.mnm.getD p.1 ""))) ∧ (c0 + j ∈ M.mks → Mk K (He.ga K x) (He.ma K (He.ga K x) "__init__"))
  | [], _, _, _, j, x, d, e, _ => by simp at e
  | _ :: _, [], _, _, j, x, d, _, e => by simp at e
  | y :: xs, u :: ds, c0, hf, 0, x, d, e1, e2 => by
    simp at e1 e2
    subst e1 e2
    unfold clsFa at hf
    simp only [List.mem_append] at hf
    refine ⟨fun h => He.cls_ok (hf (.cls y) ?_), fun k hk => He.noat_ok (hf (.noat y (M.mnm.getD k "")) ?_), fun p hp => He.meth_ok (hf (.meth y (M.mnm.getD p.1 "")) ?_), fun hm => He.mkr_ok (hf (.mkr y) ?_)⟩
    · refine .inl (.inl (.inl (.inl ?_)))
      rw [h]
      simp
    · exact .inl (.inl (.inl (.inr (List.mem_map.mpr ⟨k, hk, rfl⟩))))
    · exact .inl (.inl (.inr (List.mem_map.mpr ⟨p, hp, rfl⟩)))
    · refine .inl (.inr ?_)
      rw [if_pos (by simpa using hm)]
      simp
  | y :: xs, u :: ds, c0, hf, j + 1, x, d, e1, e2 => by
    unfold clsFa at hf
    have r := cls_fa (M := M) (K := K) (xs := xs) (ds := ds) (c0 := c0 + 1) (fun f hm => hf f (by simp only [List.mem_append]; exact .inr hm)) j x d (by simpa using e1) (by simpa using e2)
    have e : c0 + 1 + j = c0 + (j + 1) := by omega
    rw [e] at r
    exact r
theorem mets_ok {M : Mo} : ∀ {ds : List ClI} {c0 : Nat}, metsB M c0 ds = true → ∀ (j : Nat) (d : ClI), ds[j]? = some d →
    (∀ p ∈ d.mets, p.1 < M.mnm.length ∧ ∃ i : DI, M.dd[p.2]? = some i) ∧ (c0 + j ∈ M.mks → ∃ (f : Nat) (i : DI), d.init = some f ∧ M.dd[f]? = some i) ∧ ∀ k ∈ d.flds, k < M.mnm.length
  | [], _, _, j, d, e => by simp at e
  | u :: ds, c0, h, 0, d, e => by
    simp at e
    subst e
    unfold metsB at h
    have h := ba h
    have h1 := ba h.1
    have h2 := ba h1.1
    refine ⟨fun p hp => ?_, fun hm => ?_, fun k hk => of_decide_eq_true (List.all_eq_true.mp h1.2 k hk)⟩
    · have q := List.all_eq_true.mp h2.1 p hp
      split at q
      · rename_i i hi
        exact ⟨of_decide_eq_true q, i, hi⟩
      · cases q
    · rcases Bool.or_eq_true_iff.mp h2.2 with q | q
      · exact absurd (by simpa using hm) (of_decide_eq_true q)
      · split at q
        · rename_i f hf
          split at q
          · rename_i i hi
            exact ⟨f, i, hf, hi⟩
          · cases q
        · cases q
  | u :: ds, c0, h, j + 1, d, e => by
    unfold metsB at h
    have h := ba h
    have r := mets_ok (M := M) (ds := ds) (c0 := c0 + 1) h.2 j d (by simpa using e)
    have e : c0 + 1 + j = c0 + (j + 1) := by omega
    rw [e] at r
    exact r
theorem metsH_ok {M : Mo} {K : PySem.W.Frag} : ∀ {ds : List ClI} {c0 : Nat}, metsH M K c0 ds = true → ∀ (j : Nat) (d : ClI), ds[j]? = some d →
    (∀ p ∈ d.mets, ∀ i : DI, M.dd[p.2]? = some i → He.fAd K i.d.at_ = He.ma K (He.ga K (M.cnm.getD (c0 + j) "")) (M.mnm.getD p.1 "")) ∧ (c0 + j ∈ M.mks → ∀ (f : Nat) (i : DI), d.init = some f → M.dd[f]? = some i → He.fAd K i.d.at_ = He.ma K (He.ga K (M.cnm.getD (c0 + j) "")) "__init__")
  | [], _, _, j, d, e => by simp at e
  | u :: ds, c0, h, 0, d, e => by
    simp at e
    subst e
    unfold metsH at h
    have h := ba h
    have h1 := ba h.1
    refine ⟨fun p hp i hi => ?_, fun hm f i hf hi => ?_⟩
    · have q := List.all_eq_true.mp h1.1 p hp
      rw [hi] at q
      exact of_decide_eq_true q
    · rcases Bool.or_eq_true_iff.mp h1.2 with q | q
      · exact absurd (by simpa using hm) (of_decide_eq_true q)
      · rw [hf] at q
        dsimp only at q
        rw [hi] at q
        exact of_decide_eq_true q
  | u :: ds, c0, h, j + 1, d, e => by
    unfold metsH at h
    have h := ba h
    have r := metsH_ok (M := M) (ds := ds) (c0 := c0 + 1) h.2 j d (by simpa using e)
    have e : c0 + 1 + j = c0 + (j + 1) := by omega
    rw [e] at r
    exact r
theorem look_fst {β : Type} {a : Nat} {b : β} : ∀ {l : List (Nat × β)}, l.lookup a = some b → (a, b) ∈ l
  | [], h => by cases h
  | (k, v) :: r, h => by
    by_cases hk : a = k
    · subst hk
      simp [List.lookup] at h
      subst h
      simp
    · have q : (a == k) = false := by simpa using hk
      simp only [List.lookup, q] at h
      exact List.mem_cons_of_mem _ (look_fst h)
theorem stands_of {M : Mx} {K : PySem.W.Frag} {h0 : Heap} {mg : Str → Option Value} {base : Heap} {w : World} (hB : headB M = true) (c : He.SaysX M.fa M.fn [] [] (exB M) w h0 K) (X : K.In base) (G : base.Ns mainGlobals mg) : Stands M.m (cfOf M K) mg := by
  have hB0 := ba hB
  have hB := ba hB0.1
  have b1 := ba hB.1
  have b2 := ba b1.1
  have b3 := ba b2.1
  have b4 := ba b3.1
  have c1 := ba b4.1
  have c2 := ba c1.1
  have c3 := ba c2.1
  have lenC : M.m.cnm.length = M.m.T.cls.length := beq_iff_eq.mp c3.1
  have nd : M.m.mnm.Nodup := of_decide_eq_true c3.2
  have ne0 : ("" : Str) ∉ M.m.mnm := of_decide_eq_true c2.2
  have sd : He.SaysD M.fa M.fn K := c.t.d
  have fact : ∀ {f : He.Fa}, f ∈ M.fa → f.ok K = true := fun h => He.SaysD.facts sd h
  obtain ⟨e1, e⟩ := ba c.more
  obtain ⟨e2, e⟩ := ba e
  obtain ⟨e3, e⟩ := ba e
  obtain ⟨e4, e⟩ := ba e
  obtain ⟨e5, e⟩ := ba e
  obtain ⟨e6, e7⟩ := ba e
  have mtH := metsH_ok (M := M.m) (K := K) (ds := M.m.T.cls) (c0 := 0) e7
  have gD : ∀ {l : List Str} {k : Nat} {n : Str}, l[k]? = some n → l.getD k "" = n := fun h => by rw [List.getD_eq_getElem?_getD, h]; rfl
  have inFa : ∀ {f : He.Fa}, (f ∈ M.m.fnm.filterMap (·.map He.Fa.glo) ∨ f ∈ bnames.map He.Fa.free ∨ f ∈ M.m.cnm.map He.Fa.glo ∨ f ∈ globFa M.m.gnm M.m.T.globs ∨ f ∈ M.m.rs.map (fun c => He.Fa.exc (M.m.cnm.getD c "")) ∨ f ∈ (M.xcs.flatMap fun c => M.m.cts.map fun d => He.Fa.exm (M.m.cnm.getD c "") (M.m.cnm.getD d "") ((gam0 M.m).up c d)) ∨ f ∈ clsFa M.m M.m.cnm M.m.T.cls 0) → f.ok K = true := fun {f} h => fact (by
    unfold Mx.fa
    simp only [List.mem_append]
    rcases h with h | h | h | h | h | h | h
    · exact .inl (.inl (.inl (.inl (.inl (.inl h)))))
    · exact .inl (.inl (.inl (.inl (.inl (.inr h)))))
    · exact .inl (.inl (.inl (.inl (.inr h))))
    · exact .inl (.inl (.inl (.inr h)))
    · exact .inl (.inl (.inr h))
    · exact .inl (.inr h)
    · exact .inr h)
  have clF := cls_fa (M := M.m) (K := K) (xs := M.m.cnm) (ds := M.m.T.cls) (c0 := 0) (fun f hf => inFa (.inr (.inr (.inr (.inr (.inr (.inr hf)))))))
  have mtF := mets_ok (M := M.m) (ds := M.m.T.cls) (c0 := 0) b3.2
  have cnmOf : ∀ {c : Nat} {d : ClI}, M.m.T.cls[c]? = some d → ∃ x, M.m.cnm[c]? = some x := fun {c d} h => by
    have hl : c < M.m.cnm.length := by rw [lenC]; exact (List.getElem?_eq_some_iff.mp h).1
    exact ⟨_, List.getElem?_eq_getElem hl⟩
  refine ⟨fun f i hi => ?_, fun f x hf => ?_, fun x hx => ?_, fun g x w h1 h2 => ?_, fun c x hx => ?_, fun x k n hx hk => ?_, fun t c x hx => ?_, fun c t x hx hc => ?_, fun _ _ _ z => z, fun _ z => z, fun c x n hf hn => ?_, fun c hc => ?_, fun c x n hc hf hn => ?_, fun c d hc hd => ?_, fun c x hx hc => ?_, fun c m f n hs hf hn => ?_, fun x hx => ?_, fun c m f n hf hn => ?_, fun c x hx hm => ?_⟩
  · obtain ⟨fd, F⟩ := He.SaysD.defs sd (d := i.d) (List.mem_append_left _ (List.mem_map.mpr ⟨i, List.mem_of_getElem? hi, rfl⟩))
    have q := ba (List.all_eq_true.mp hB.2 i (List.mem_of_getElem? hi))
    have q1 : i.d.dfl = [] := List.isEmpty_iff.mp q.1
    have q2 : i.d.kwd = [] := List.isEmpty_iff.mp q.2
    have z1 : i.d.dvs K = [] := by unfold He.DefD.dvs; rw [q1]; rfl
    have z2 : i.d.kws K = [] := by unfold He.DefD.kws; rw [q2]; rfl
    rw [z1, z2] at F
    exact ⟨fd, F⟩
  · exact He.glo_ok X G (inFa (.inl (List.mem_filterMap.mpr ⟨some x, List.mem_of_getElem? hf, rfl⟩)))
  · exact He.free_ok X G (inFa (.inr (.inl (List.mem_map.mpr ⟨x, hx, rfl⟩))))
  · exact glob_fa X G b4.2 (fun f hf => inFa (.inr (.inr (.inr (.inl hf))))) g x w h1 h2
  · have q := He.glo_ok X G (inFa (.inr (.inr (.inl (List.mem_map.mpr ⟨x, List.mem_of_getElem? hx, rfl⟩)))))
    show mg x = some (.ref (He.ga K (M.m.cnm.getD c "")))
    rw [gD hx]
    exact q
  · have hk : M.m.mnm.getD k "" = n := hk
    have hl : k < M.m.mnm.length := by
      by_cases hl : k < M.m.mnm.length
      · exact hl
      · rw [List.getD_eq_getElem?_getD, List.getElem?_eq_none (by omega)] at hk
        have hk : "" = n := hk
        subst hk
        exact absurd (List.mem_of_getElem? hx) ne0
    have h2 : M.m.mnm[k]? = some n := by
      rw [List.getD_eq_getElem?_getD, List.getElem?_eq_getElem hl] at hk
      rw [List.getElem?_eq_getElem hl]
      exact congrArg some hk
    exact nodup_ix nd h2 hx
  · have q := of_decide_eq_true (List.all_eq_true.mp (List.all_eq_true.mp e1 x (List.mem_of_getElem? hx)) t (by cases t <;> simp [tys]))
    show PySem.W.kitOne K _ (.ref (He.ga K (M.m.cnm.getD c ""))) = _
    rw [gD hx]
    exact q
  · have ht : t ∈ isas M.m.cnm.length := by
      unfold isas
      cases t with
      | own d =>
        have hl : d < M.m.cnm.length := (List.getElem?_eq_some_iff.mp hx).1
        exact List.mem_append_right _ (List.mem_map.mpr ⟨d, List.mem_range.mpr hl, rfl⟩)
      | _ => simp
    exact of_decide_eq_true (List.all_eq_true.mp (List.all_eq_true.mp e2 c hc) t ht)
  · have hf : (match M.m.T.cls[c]? with
      | some k => k.flds.contains x
      | none => false) = true := hf
    split at hf
    · rename_i d hd
      have hm : x ∈ d.flds := by simpa using hf
      obtain ⟨y, hy⟩ := cnmOf hd
      obtain ⟨q1, q2, q3, q4⟩ := clF c y d hy hd
      have ec : (cfOf M K).cl c = He.ga K y := congrArg (He.ga K) (gD hy)
      rw [ec]
      have hne : (d.flds.isEmpty && d.mets.isEmpty) = false := by
        cases hd2 : d.flds with
        | nil => rw [hd2] at hm; cases hm
        | cons _ _ => rfl
      have q := q2 x hm
      rw [gD hn] at q
      exact ⟨gD hn, q1 hne, q⟩
    · cases hf
  · have q := ba (List.all_eq_true.mp e3 c hc)
    exact ⟨exccB_ok q.1, xfB_ok q.2⟩
  · have hf : (match M.m.T.cls[c]? with
      | some k => k.xfl.contains x
      | none => false) = true := hf
    have q := List.all_eq_true.mp e4 c hc
    unfold flxB at q
    split at hf
    · rename_i d hd
      rw [hd] at q
      have hm : x ∈ d.xfl := by simpa using hf
      have q2 := of_decide_eq_true (List.all_eq_true.mp q x hm)
      rw [gD hn] at q2
      exact ⟨gD hn, q2⟩
    · cases hf
  · exact He.exm_ok (inFa (.inr (.inr (.inr (.inr (.inr (.inl (List.mem_flatMap.mpr ⟨c, hc, List.mem_map.mpr ⟨d, hd, rfl⟩⟩))))))))
  · obtain ⟨h1, h2, h3, h4⟩ := He.exc_ok (inFa (.inr (.inr (.inr (.inr (.inl (List.mem_map.mpr ⟨c, hc, rfl⟩)))))))
    exact ⟨(show c ∈ M.xcs from of_decide_eq_true (List.all_eq_true.mp b1.2 c hc)), h3, h4, h2, _, _, _, _, PySem.F.excBase_ValueError, h1⟩
  · have hf : (match M.m.T.cls[c]? with
      | some d => d.mets.lookup m
      | none => none) = some f := hf
    have q := List.all_eq_true.mp e5 c hs
    unfold csmB at q
    split at hf
    · rename_i d hd
      rw [hd] at q
      have q := ba q
      have hm := look_fst hf
      have z := List.all_eq_true.mp q.2 _ hm
      split at z
      · rename_i i hi
        have z := ba z
        have z1 := clsFn_ok z.1
        rw [gD hn] at z1
        exact ⟨i, hi, creadB_ok q.1, z1, z.2⟩
      · cases z
    · cases hf
  · have q := List.all_eq_true.mp e6 x hx
    unfold xinB at q
    obtain ⟨q1, q⟩ := ba q
    obtain ⟨q2, q⟩ := ba q
    obtain ⟨q3, q⟩ := ba q
    obtain ⟨q4, q⟩ := ba q
    obtain ⟨q5, q6⟩ := ba q
    have st := ba (List.all_eq_true.mp hB0.2 x hx)
    refine ⟨(show x.c ∈ M.xcs from of_decide_eq_true st.1), oexB_ok q1, of_decide_eq_true q2, of_decide_eq_true q3, ?_, creadB_ok q4, clsFn_ok q5, fun f n hf hn => ?_⟩
    · obtain ⟨fd, F⟩ := He.SaysD.defs sd (d := x.i.d) (List.mem_append_right _ (List.mem_map.mpr ⟨x, hx, rfl⟩))
      have q := ba st.2
      have q1 : x.i.d.dfl = [] := List.isEmpty_iff.mp q.1
      have q2 : x.i.d.kwd = [] := List.isEmpty_iff.mp q.2
      have z1 : x.i.d.dvs K = [] := by unfold He.DefD.dvs; rw [q1]; rfl
      have z2 : x.i.d.kws K = [] := by unfold He.DefD.kws; rw [q2]; rfl
      rw [z1, z2] at F
      exact ⟨fd, F⟩
    · have z := of_decide_eq_true (List.all_eq_true.mp q6 f hf)
      rw [gD hn] at z
      exact ⟨gD hn, z⟩
  · have hf : (match M.m.T.cls[c]? with
      | some d => d.mets.lookup m
      | none => none) = some f := hf
    split at hf
    · rename_i d hd
      have hm := look_fst hf
      obtain ⟨y, hy⟩ := cnmOf hd
      obtain ⟨q1, q2, q3, q4⟩ := clF c y d hy hd
      obtain ⟨r1, r2, r3⟩ := mtF c d hd
      obtain ⟨_, i, hi⟩ := r1 _ hm
      have hat := (mtH c d hd).1 _ hm i hi
      have ec : (cfOf M K).cl c = He.ga K y := congrArg (He.ga K) (gD hy)
      have hne : (d.flds.isEmpty && d.mets.isEmpty) = false := by
        cases hd2 : d.mets with
        | nil => rw [hd2] at hm; cases hm
        | cons _ _ => simp
      refine ⟨i, hi, by rw [ec]; exact q1 hne, ?_⟩
      have q := q3 _ hm
      have ea : He.fAd K i.d.at_ = He.ma K (He.ga K y) n := by
        rw [hat]
        show He.ma K (He.ga K (M.m.cnm.getD (0 + c) "")) (M.m.mnm.getD m "") = _
        rw [Nat.zero_add, gD hy, gD hn]
      rw [ec]
      show Meth K (He.ga K y) n (He.fAd K i.d.at_)
      rw [ea]
      have gn := gD hn
      simp only [gn] at q
      exact q
    · cases hf
  · have hl : c < M.m.T.cls.length := by rw [← lenC]; exact (List.getElem?_eq_some_iff.mp hx).1
    have hd : M.m.T.cls[c]? = some M.m.T.cls[c] := List.getElem?_eq_getElem hl
    obtain ⟨q1, q2, q3, q4⟩ := clF c x _ hx hd
    obtain ⟨r1, r2, r3⟩ := mtF c _ hd
    rw [Nat.zero_add] at q4 r2
    obtain ⟨f, i, h1, h2⟩ := r2 hm
    have hat := (mtH c _ hd).2 (by rw [Nat.zero_add]; exact hm) f i h1 h2
    refine ⟨_, f, i, hd, h1, h2, ?_⟩
    have ea : He.fAd K i.d.at_ = He.ma K (He.ga K x) "__init__" := by
      rw [hat, Nat.zero_add, gD hx]
    have ec : (cfOf M K).cl c = He.ga K x := congrArg (He.ga K) (gD hx)
    show Mk K ((cfOf M K).cl c) (He.fAd K i.d.at_)
    rw [ec, ea]
    exact q4 hm
end Ip

/-! IpU: the interpreter over values, no store: lists and dicts by value; a list that is changed belongs to one name. Written by an AI agent. -/
namespace Ip
open PySem (Str)
/-- an equation that simp doesn't take for a definition's -/
theorem nr {α : Sort u} {a b : α} (h : a = b) : a = b := h
theorem big_eq : big = 1000000000 := by unfold big; rfl
theorem log2_lt {n k : Nat} (h : n < 2 ^ k) (hk : 0 < k) : n.log2 < k := by
  by_cases h0 : n = 0
  · subst h0; simpa using hk
  · exact (Nat.log2_lt h0).mpr h
theorem atI_nat {α : Type} {ws : List α} {i : Int} (h0 : 0 ≤ i) (h1 : i < ws.length) : L2.atI ws i = ws[i.toNat]? := by
  unfold L2.atI L2.ixN
  rw [if_pos h0, if_pos (by omega)]
  rfl
inductive U where
  | non | bl (b : Bool) | int (i : Int) | str (x : Str) | tup (us : List U) | lst (us : List U) | fro (us : List U) | dct (kvs : List (Key × U)) | ins (c : Nat) (fs : List (Nat × U)) | exn (c : Nat) (fs : List (Nat × U))
/-- a name's slot: empty, a value, a value whose top cell is the name's own -/
inductive Sl where
  | emp | val (u : U) | own (u : U)
abbrev EU := List Sl
def Sl.get : Sl → Option U
  | .emp => none
  | .val u => some u
  | .own u => some u
structure ExU where
  cls : Nat
  fs : List (Nat × U)
inductive Ru (α : Type) where
  | ok (a : α)
  | ex (e : ExU)
abbrev RU (α : Type) := Option (Ru α)
inductive FlU where
  | nxt | brk | cnt | ret (fr : Bool) (u : U) | ex (e : ExU)
def bndU {α β : Type} (x : RU α) (f : α → RU β) : RU β := match x with
  | none => none
  | some (.ex e) => some (.ex e)
  | some (.ok a) => f a
def okU {α : Type} (a : α) : RU α := some (.ok a)
@[simp] theorem bndU_ok {α β : Type} (a : α) (f : α → RU β) : bndU (some (.ok a)) f = f a := nr rfl
@[simp] theorem bndU_ex {α β : Type} (e : ExU) (f : α → RU β) : bndU (some (.ex e)) f = some (.ex e) := nr rfl
@[simp] theorem bndU_none {α β : Type} (f : α → RU β) : bndU none f = none := nr rfl
@[simp] theorem okU_eq {α : Type} (a : α) : okU a = some (.ok a) := nr rfl

/-! ### flat values -/
def flatU : U → Bool
  | .non => true
  | .bl _ => true
  | .int _ => true
  | .str _ => true
  | _ => false
def wOf : U → W
  | .non => .non
  | .bl b => .bl b
  | .int i => .int i
  | .str x => .str x
  | _ => .loc 0
def uOf : W → Option U
  | .non => some .non
  | .bl b => some (.bl b)
  | .int i => some (.int i)
  | .str x => some (.str x)
  | _ => none
mutual
/-- without lists, dicts, objects at any depth -/
def pureU : U → Bool
  | .non => true
  | .bl _ => true
  | .int _ => true
  | .str _ => true
  | .tup us => pureUs us
  | _ => false
def pureUs : List U → Bool
  | [] => true
  | u :: us => pureU u && pureUs us
end
/-! ### operators -/
mutual
def datU : Nat → U → Option PySem.PyData
  | _, .non => some .none
  | _, .bl b => some (.bool b)
  | _, .int i => some (.int i)
  | _, .str x => some (.str x)
  | 0, _ => none
  | k + 1, .tup us => (datUs k us).map .tuple
  | k + 1, .lst us => (datUs k us).map .list
  | _ + 1, _ => none
def datUs : Nat → List U → Option (List PySem.PyData)
  | _, [] => some []
  | k, u :: us => match datU k u, datUs k us with
    | some d, some ds => some (d :: ds)
    | _, _ => none
end
def opU (op : Op2) (a b : U) : Option U := match op, a, b with
  | .add, .int i, .int j => some (.int (i + j))
  | .add, .str x, .str y => if x.length + y.length ≤ 16777216 then some (.str (x ++ y)) else none
  | .add, .tup xs, .tup ys => if xs.length + ys.length ≤ 16777216 then some (.tup (xs ++ ys)) else none
  | .add, .lst xs, .lst ys => if xs.length + ys.length ≤ 16777216 then some (.lst (xs ++ ys)) else none
  | .sub, .int i, .int j => some (.int (i - j))
  | .mul, .int i, .int j => if i.natAbs.log2 + j.natAbs.log2 < 1000000 then some (.int (i * j)) else none
  | .mul, .lst xs, .int k => if -(2 ^ 63) ≤ k ∧ k < 2 ^ 63 ∧ xs.length * k.toNat ≤ 16777216 then some (.lst (List.replicate k.toNat xs).flatten) else none
  | .fdiv, .int i, .int j => if j ≠ 0 ∧ j.natAbs.log2 < 9000 then some (.int (i.fdiv j)) else none
  | .mod, .int i, .int j => if j ≠ 0 then some (.int (i.fmod j)) else none
  | .pow, .int i, .int j => if 0 ≤ j ∧ j ≤ 1000000 ∧ i.natAbs < 2 ^ 64 then some (.int (i ^ j.toNat)) else none
  | _, _, _ => none
def eqDeepU (a b : U) : Option Bool := match datU 64 a, datU 64 b with
  | some d, some e => if d.canLay0 && e.canLay0 then some (PySem.PyData.eqv d e) else none
  | _, _ => none
def eqU : U → U → Option Bool
  | .int i, .int j => some (decide (i = j))
  | .bl a, .bl b => some (decide (a = b))
  | .str x, .str y => some (decide (x = y))
  | a, b => eqDeepU a b
def keyU : U → Option Key
  | .int i => some (.inl i)
  | .str x => some (.inr x)
  | _ => none
def getU (k : Key) : List (Key × U) → Option U
  | [] => none
  | (q, w) :: r => if q = k then some w else getU k r
def isinU (a b : U) : Option Bool := match a, b with
  | .str x, .str y => some (isinS x y)
  | a, .tup us => if flatU a && us.all flatU then some (inW (wOf a) (us.map wOf)) else none
  | a, .lst us => if flatU a && us.all flatU then some (inW (wOf a) (us.map wOf)) else none
  | a, .dct kvs => match keyU a with
    | some k => some (getU k kvs).isSome
    | none => none
  | _, _ => none
def isNU : U → Bool
  | .non => true
  | _ => false
def cmU (op : Cm) (a b : U) : Option Bool := match op with
  | .eq => eqU a b
  | .ne => (eqU a b).map (!·)
  | .isN => if isNU b then some (isNU a) else none
  | .notN => if isNU b then some (!isNU a) else none
  | .isin => isinU a b
  | .notin => (isinU a b).map (!·)
  | .lt => match a, b with
    | .int i, .int j => some (decide (i < j))
    | _, _ => none
  | .le => match a, b with
    | .int i, .int j => some (decide (i ≤ j))
    | _, _ => none
  | .gt => match a, b with
    | .int i, .int j => some (decide (j < i))
    | _, _ => none
  | .ge => match a, b with
    | .int i, .int j => some (decide (j ≤ i))
    | _, _ => none
def idxU (a i : U) : Option U := match a, i with
  | .tup us, .int i => L2.atI us i
  | .lst us, .int i => L2.atI us i
  | .fro us, .int i => L2.atI us i
  | .str z, .int i => if z.length ≤ 16777216 then (L2.atI z.cps.toList i).map fun c => .str ⟨#[c]⟩ else none
  | .dct kvs, i => match keyU i with
    | some k => getU k kvs
    | none => none
  | _, _ => none
def cutL {α : Type} (xs : List α) (lo hi : Option Int) : List α := (xs.drop (HT.sIx xs.length 0 lo)).take (HT.sIx xs.length xs.length hi - HT.sIx xs.length 0 lo)
def slcU (a : U) (lo hi : Option Int) : Option U := match a with
  | .str z => if z.length ≤ 16777216 then some (.str (L2.cutS z lo hi)) else none
  | .tup us => some (.tup (cutL us lo hi))
  | .lst us => some (.lst (cutL us lo hi))
  | .fro us => some (.lst (cutL us lo hi))
  | _ => none
def bfnU (b : Bf) (us : List U) : Option U := match b, us with
  | .len, [.str x] => if x.length ≤ 16777216 then some (.int x.length) else none
  | .len, [.tup us] => some (.int us.length)
  | .len, [.lst us] => some (.int us.length)
  | .len, [.fro us] => some (.int us.length)
  | .abs, [.int i] => some (.int (if i < 0 then -i else i))
  | .int, [.int i] => some (.int i)
  | .int, [.bl b] => some (.int (if b then 1 else 0))
  | .int, [.str x] => if x.length ≤ 640 then (PySem.intText? x).map fun n => .int n else none
  | .str, [.int i] => if i.natAbs.log2 < 1920 then some (.str (toString i)) else none
  | .list, [.tup us] => some (.lst us)
  | .list, [.lst us] => some (.lst us)
  | .list, [.fro us] => some (.lst us)
  | .tuple, [.lst us] => some (.tup us)
  | .max2, [.int i, .int j] => some (.int (if j > i then j else i))
  | .min2, [.int i, .int j] => some (.int (if j < i then j else i))
  | .max1, [.lst us] => match intsOf (us.map wOf) with
    | some ns => if 0 < ns.length then some (.int (maxL ns)) else none
    | none => none
  | .min1, [.lst us] => match intsOf (us.map wOf) with
    | some ns => if 0 < ns.length then some (.int (minL ns)) else none
    | none => none
  | .sum, [.lst us] => match intsOf (us.map wOf) with
    | some ns => some (.int ns.sum)
    | none => none
  | .any, [.lst us] => match blsOf (us.map wOf) with
    | some bs => some (.bl (bs.any id))
    | none => none
  | .all, [.lst us] => match blsOf (us.map wOf) with
    | some bs => some (.bl (bs.all id))
    | none => none
  | _, _ => none
/-- methods that change nothing -/
def bmtU (m : Bm) (o : U) (us : List U) : Option U := match m, o, us with
  | .index, .lst xs, [x] => if flatU x && xs.all flatU then (ixOf (wOf x) (xs.map wOf)).map fun (j : Nat) => .int (j : Int) else none
  | .join, .str a, [.lst us] => match strsOf (us.map wOf) with
    | some ys => if (ys.map (·.length)).sum + ys.length * a.length ≤ 16777216 then some (.str (PySem.Txt.join a ys)) else none
    | none => none
  | .split, .str a, [.str b] => if (b.length == 0) = false ∧ a.length + 2 ≤ 16777216 then some (.lst ((PySem.Txt.split a b).map U.str)) else none
  | .partition, .str a, [.str b] => if (b.length == 0) = false ∧ a.length ≤ 16777216 then some (.tup [.str (PySem.Txt.partition a b).1, .str (PySem.Txt.partition a b).2.1, .str (PySem.Txt.partition a b).2.2]) else none
  | _, _, _ => none
def bmTyU (m : Bm) : U → Bool
  | .str _ => bmStr m
  | .lst _ => !bmStr m
  | _ => false
/-- methods that change a list: what they give, the list behind -/
def mutU (m : Bm) (xs : List U) (us : List U) : Option (U × List U) := match m, us with
  | .append, [u] => if xs.length < 16777216 then some (.non, xs ++ [u]) else none
  | .pop, [.int i] => if -(2 ^ 63) ≤ i ∧ i < 2 ^ 63 then (L2.ixN xs.length i).bind fun k => (xs[k]?).map fun u => (u, xs.eraseIdx k) else none
  | .insert, [.int i, u] => if xs.length < 16777216 ∧ 0 ≤ i ∧ i < 2 ^ 63 then some (.non, xs.take i.toNat ++ u :: xs.drop i.toNat) else none
  | .clear, [] => some (.non, [])
  | _, _ => none
def itU (k : Ik) (us : List U) : Option (List U) := match k, us with
  | .val, [.tup us] => some us
  | .val, [.lst us] => some us
  | .val, [.fro us] => some us
  | .val, [.str x] => some (x.cps.toList.map fun c => .str ⟨#[c]⟩)
  | .range1, [.int j] => if -(2 ^ 62) ≤ j ∧ j < 2 ^ 62 then some ((List.range j.toNat).map fun (i : Nat) => .int (0 + (i : Int))) else none
  | .range2, [.int i, .int j] => if -(2 ^ 62) ≤ i ∧ i < 2 ^ 62 ∧ -(2 ^ 62) ≤ j ∧ j < 2 ^ 62 then some ((List.range (j - i).toNat).map fun (k : Nat) => .int (i + (k : Int))) else none
  | .enum, [.lst us] => some (us.mapIdx fun i u => .tup [.int i, u])
  | _, _ => none
def setU (tg : List Nat) (u : U) (ρ : EU) : Option EU := match tg, u with
  | [i], u => some (ρ.set i (.val u))
  | [i, j], .tup [a, b] => some ((ρ.set i (.val a)).set j (.val b))
  | [i, j, k], .tup [a, b, c] => some (((ρ.set i (.val a)).set j (.val b)).set k (.val c))
  | [i, j, k, l], .tup [a, b, c, d] => some ((((ρ.set i (.val a)).set j (.val b)).set k (.val c)).set l (.val d))
  | _, _ => none
def lcU (g : U → RU (Option U)) : List U → Option (List U)
  | [] => some []
  | u :: us => match g u with
    | some (.ok o) => match lcU g us with
      | some ys => some (o.toList ++ ys)
      | none => none
    | _ => none
def forU (step : U → EU → Option (FlU × EU)) : List U → EU → Option (FlU × EU)
  | [], ρ => some (.nxt, ρ)
  | u :: us, ρ => match step u ρ with
    | some (.nxt, ρ1) => forU step us ρ1
    | some (.cnt, ρ1) => forU step us ρ1
    | some (.brk, ρ1) => some (.nxt, ρ1)
    | some r => some r
    | none => none
def whlU (pre : EU → EU) (c : EU → RU Bool) (b : EU → Option (FlU × EU)) : Nat → EU → Option (FlU × EU)
  | 0, _ => none
  | k + 1, ρ => match c (pre ρ) with
    | none => none
    | some (.ex e) => some (.ex e, pre ρ)
    | some (.ok false) => some (.nxt, pre ρ)
    | some (.ok true) => match b (pre ρ) with
      | some (.nxt, ρ2) => whlU pre c b k ρ2
      | some (.cnt, ρ2) => whlU pre c b k ρ2
      | some (.brk, ρ2) => some (.nxt, ρ2)
      | some r => some r
      | none => none

/-! ### the names that escape -/
def isVar : Ex → Bool
  | .var _ => true
  | _ => false
mutual
def esc (fl : Nat → Bool) : Ex → List Nat
  | .var i => [i]
  | .int _ => []
  | .str _ => []
  | .bl _ => []
  | .non => []
  | .glob _ => []
  | .bin _ a b => (if isVar a then [] else esc fl a) ++ (if isVar b then [] else esc fl b)
  | .neg a => esc fl a
  | .cmp _ a b => (if isVar a then [] else esc fl a) ++ (if isVar b then [] else esc fl b)
  | .chn _ _ a b c => esc fl a ++ esc fl b ++ esc fl c
  | .chn3 _ _ _ a b c d => esc fl a ++ esc fl b ++ esc fl c ++ esc fl d
  | .and es => escs fl es
  | .or es => escs fl es
  | .not a => esc fl a
  | .ite c a b => esc fl c ++ esc fl a ++ esc fl b
  | .tup es => escs fl es
  | .lst es => escs fl es
  | .idx a i => (if isVar a then [] else esc fl a) ++ esc fl i
  | .slc a lo hi => (if isVar a then [] else esc fl a) ++ escs fl lo ++ escs fl hi
  | .call f es => if fl f then escBs fl es else escs fl es
  | .mk _ es => escs fl es
  | .callc _ _ es => escs fl es
  | .bif _ es => escBs fl es
  | .isi a _ => if isVar a then [] else esc fl a
  | .bm o _ es => (if isVar o then [] else esc fl o) ++ escBs fl es
  | .meth o _ es => esc fl o ++ escs fl es
  | .fld o _ => if isVar o then [] else esc fl o
  | .lc elt _ _ es ifs => esc fl elt ++ escBs fl es ++ escs fl ifs
def escs (fl : Nat → Bool) : List Ex → List Nat
  | [] => []
  | e :: es => esc fl e ++ escs fl es
def escBs (fl : Nat → Bool) : List Ex → List Nat
  | [] => []
  | e :: es => (if isVar e then [] else esc fl e) ++ escBs fl es
end
def uno1 (ρ : EU) (i : Nat) : EU := match ρ[i]? with
  | some (.own u) => ρ.set i (.val u)
  | _ => ρ
def uno (mu : List Nat) (is : List Nat) (ρ : EU) : EU := (is.filter mu.contains).foldl uno1 ρ
/-- an expression whose list or dict is new -/
def frE (fr : Nat → Bool) : Ex → Bool
  | .lst _ => true
  | .lc _ _ _ _ _ => true
  | .bif .list _ => true
  | .bin .add _ _ => true
  | .bin .mul _ _ => true
  | .slc _ _ _ => true
  | .call f _ => fr f
  | _ => false
def isLst : U → Bool
  | .lst _ => true
  | _ => false

/-! ### the interpreter -/
structure GamU where
  /-- an __init__ run on an instance that a name owns -/
  ini : Nat → Nat → List (Nat × U) → List U → Option (List (Nat × U))
  call : Nat → List U → RU U
  make : Nat → List U → RU U
  mt : Nat → Nat → Option Nat
  glob : Nat → Option W
  up : Nat → Nat → Bool
  fok : Nat → Nat → Bool
  fox : Nat → Nat → Bool
  fl : Nat → Bool
  fr : Nat → Bool
def liftU (x : Option U) : RU U := x.map Ru.ok
def truthU (x : RU U) : RU Bool := bndU x fun w => match w with
  | .bl b => okU b
  | _ => none
def tyU : U → Option Ty
  | .non => some .non
  | .bl _ => some .bl
  | .int _ => some .int
  | .str _ => some .str
  | .tup _ => some .tup
  | .lst _ => some .lst
  | .fro _ => some .lst
  | .dct _ => some .dct
  | _ => none
def isaXU (Γ : GamU) (c : Nat) : Isa → Bool
  | .ve => true
  | .own d => Γ.up c d
  | _ => false
def isaU_ (Γ : GamU) (a : U) (t : Isa) : Option Bool := match a with
  | .exn c fs => if fs = [] then some (isaXU Γ c t) else none
  | a => (tyU a).map fun k => isaT k t
def fldU (Γ : GamU) (a : U) (x : Nat) : Option U := match a with
  | .ins c fs => if Γ.fok c x then fs.lookup x else none
  | .exn c fs => if Γ.fox c x then fs.lookup x else none
  | _ => none
def toPU (us : List U) : RU (Option Int) := match intsOf (us.map wOf) with
  | some l => okU l.head?
  | none => none
mutual
def evU (Γ : GamU) : Ex → EU → RU U
  | .var i, ρ => (match ρ[i]? with
    | some s => liftU s.get
    | none => none)
  | .int i, _ => okU (.int i)
  | .str x, _ => okU (.str x)
  | .bl b, _ => okU (.bl b)
  | .non, _ => okU .non
  | .glob x, _ => (match Γ.glob x with
    | some w => liftU (uOf w)
    | none => none)
  | .bin op a b, ρ => bndU (evU Γ a ρ) fun x => bndU (evU Γ b ρ) fun y => liftU (opU op x y)
  | .neg a, ρ => bndU (evU Γ a ρ) fun x => (match x with
    | .int i => okU (.int (-i))
    | _ => none)
  | .cmp op a b, ρ => bndU (evU Γ a ρ) fun x => bndU (evU Γ b ρ) fun y => liftU ((cmU op x y).map U.bl)
  | .chn o1 o2 a b c, ρ => bndU (evU Γ a ρ) fun x => bndU (evU Γ b ρ) fun y => (match cmU o1 x y with
    | some true => bndU (evU Γ c ρ) fun z => liftU ((cmU o2 y z).map U.bl)
    | some false => okU (.bl false)
    | none => none)
  | .chn3 o1 o2 o3 a b c d, ρ => bndU (evU Γ a ρ) fun x => bndU (evU Γ b ρ) fun y => (match cmU o1 x y with
    | some true => bndU (evU Γ c ρ) fun z => (match cmU o2 y z with
      | some true => bndU (evU Γ d ρ) fun u => liftU ((cmU o3 z u).map U.bl)
      | some false => okU (.bl false)
      | none => none)
    | some false => okU (.bl false)
    | none => none)
  | .and es, ρ => evAndU Γ es ρ
  | .or es, ρ => evOrU Γ es ρ
  | .not a, ρ => bndU (truthU (evU Γ a ρ)) fun b => okU (.bl (!b))
  | .ite c a b, ρ => bndU (truthU (evU Γ c ρ)) fun k => (match k with
    | true => evU Γ a ρ
    | false => evU Γ b ρ)
  | .tup es, ρ => bndU (evsU Γ es ρ) fun us => okU (.tup us)
  | .lst es, ρ => bndU (evsU Γ es ρ) fun us => okU (.lst us)
  | .idx a i, ρ => bndU (evU Γ a ρ) fun x => bndU (evU Γ i ρ) fun y => liftU (idxU x y)
  | .slc a lo hi, ρ => bndU (evU Γ a ρ) fun x => bndU (bndU (evsU Γ lo ρ) toPU) fun l => bndU (bndU (evsU Γ hi ρ) toPU) fun h => liftU (slcU x l h)
  | .call f es, ρ => bndU (evsU Γ es ρ) fun us => Γ.call f us
  | .mk c es, ρ => bndU (evsU Γ es ρ) fun us => Γ.make c us
  | .callc _ _ _, _ => none
  | .bif b es, ρ => bndU (evsU Γ es ρ) fun us => liftU (bfnU b us)
  | .isi a t, ρ => bndU (evU Γ a ρ) fun x => liftU ((isaU_ Γ x t).map U.bl)
  | .bm o m es, ρ => bndU (evU Γ o ρ) fun x => (match bmTyU m x with
    | true => bndU (evsU Γ es ρ) fun us => liftU (bmtU m x us)
    | false => none)
  | .meth o m es, ρ => bndU (evU Γ o ρ) fun x => (match x with
    | .ins c fs => (match fs.lookup m, Γ.mt c m with
      | none, some f => bndU (evsU Γ es ρ) fun us => Γ.call f (.ins c fs :: us)
      | _, _ => none)
    | _ => none)
  | .fld o x, ρ => bndU (evU Γ o ρ) fun a => liftU (fldU Γ a x)
  | .lc elt tg k es ifs, ρ => bndU (evsU Γ es ρ) fun us => (match itU k us with
    | none => none
    | some its => (match lcU (fun u => match setU tg u ρ with
        | none => none
        | some ρ1 => bndU (evAllU Γ ifs ρ1) fun b => match b with
          | true => bndU (evU Γ elt ρ1) fun y => okU (some y)
          | false => okU none) its with
      | some ys => if its.length < 1000000000 ∧ ys.length ≤ 16777216 then okU (.lst ys) else none
      | none => none))
def evsU (Γ : GamU) : List Ex → EU → RU (List U)
  | [], _ => okU []
  | e :: es, ρ => bndU (evU Γ e ρ) fun u => bndU (evsU Γ es ρ) fun us => okU (u :: us)
def evAndU (Γ : GamU) : List Ex → EU → RU U
  | [], _ => none
  | [e], ρ => evU Γ e ρ
  | e :: es, ρ => bndU (truthU (evU Γ e ρ)) fun b => (match b with
    | true => evAndU Γ es ρ
    | false => okU (.bl false))
def evOrU (Γ : GamU) : List Ex → EU → RU U
  | [], _ => none
  | [e], ρ => evU Γ e ρ
  | e :: es, ρ => bndU (truthU (evU Γ e ρ)) fun b => (match b with
    | false => evOrU Γ es ρ
    | true => okU (.bl true))
def evAllU (Γ : GamU) : List Ex → EU → RU Bool
  | [], _ => okU true
  | e :: es, ρ => bndU (truthU (evU Γ e ρ)) fun b => (match b with
    | true => evAllU Γ es ρ
    | false => okU false)
end
def toFlU {α : Type} (x : RU α) (ρ : EU) (k : α → Option (FlU × EU)) : Option (FlU × EU) := match x with
  | none => none
  | some (.ex e) => some (.ex e, ρ)
  | some (.ok w) => k w
def putU (x : Nat) (u : U) : List (Nat × U) → List (Nat × U)
  | [] => [(x, u)]
  | (y, v) :: r => if y = x then (y, u) :: r else (y, v) :: putU x u r
def augU (op : Op2) (a b : U) : Option U := match op, a, b with
  | .add, .int x, .int y => some (.int (x + y))
  | .sub, .int x, .int y => some (.int (x - y))
  | _, _, _ => none
/-- a change of a name's own list -/
def mutOf : Ex → Option (Nat × Bm × List Ex)
  | .bm (.var j) .append es => some (j, .append, es)
  | .bm (.var j) .pop es => some (j, .pop, es)
  | .bm (.var j) .insert es => some (j, .insert, es)
  | .bm (.var j) .clear es => some (j, .clear, es)
  | _ => none
/-- C.__init__(self, ..) -/
def iniOf : Ex → Option (Nat × Nat × Nat × List Ex)
  | .callc c m (.var j :: es) => some (c, m, j, es)
  | _ => none
def varOf : Ex → Option Nat
  | .var i => some i
  | _ => none
/-- the slot that an assigned value gets -/
def slot (mu : List Nat) (i : Nat) (fr : Bool) (u : U) : Sl := if mu.contains i && fr && isLst u then .own u else .val u
def isOwnAt (ρ : EU) (e : Ex) : Bool := match e with
  | .var i => (match ρ[i]? with
    | some (.own u) => isLst u
    | _ => false)
  | _ => false
mutual
def xsU (Γ : GamU) (mu : List Nat) : List Sx → EU → Option (FlU × EU)
  | [], ρ => some (.nxt, ρ)
  | s :: r, ρ => match x1U Γ mu s ρ with
    | some (.nxt, ρ1) => xsU Γ mu r ρ1
    | o => o
def x1U (Γ : GamU) (mu : List Nat) : Sx → EU → Option (FlU × EU)
  | .asg i e, ρ => (match mutOf e with
    | some (j, m, es) => (let ρ0 := uno mu (escs Γ.fl es) ρ
      match ρ0[j]? with
      | some (.own (.lst xs)) => toFlU (evsU Γ es ρ0) ρ0 fun us => (mutU m xs us).map fun p => (.nxt, (ρ0.set j (.own (.lst p.2))).set i (.val p.1))
      | _ => none)
    | none => (let ρ0 := uno mu (esc Γ.fl e) ρ
      toFlU (evU Γ e ρ0) ρ0 fun u => some (.nxt, ρ0.set i (slot mu i (frE Γ.fr e) u))))
  | .unp is e, ρ => (let ρ0 := uno mu (esc Γ.fl e) ρ
    toFlU (evU Γ e ρ0) ρ0 fun u => (match u with
      | .tup us => (setU is (.tup us) ρ0).map fun ρ1 => (.nxt, ρ1)
      | _ => none))
  | .par i j a b, ρ => (let ρ0 := uno mu (esc Γ.fl a ++ esc Γ.fl b) ρ
    toFlU (evU Γ a ρ0) ρ0 fun v => toFlU (evU Γ b ρ0) ρ0 fun w => some (.nxt, (ρ0.set i (.val v)).set j (.val w)))
  | .sub o i e, ρ => (match varOf o with
    | some j => (let ρ0 := uno mu (esc Γ.fl e ++ esc Γ.fl i) ρ
      match ρ0[j]? with
      | some (.own (.lst xs)) => toFlU (evU Γ e ρ0) ρ0 fun v => toFlU (evU Γ i ρ0) ρ0 fun y => (match y with
        | .int k => (L2.ixN xs.length k).map fun n => (.nxt, ρ0.set j (.own (.lst (xs.set n v))))
        | _ => none)
      | _ => none)
    | none => none)
  | .fset o x e, ρ => (match varOf o with
    | some j => (let ρ0 := uno mu (esc Γ.fl e) ρ
      toFlU (evU Γ e ρ0) ρ0 fun v => (match ρ0[j]? with
        | some (.own (.ins c fs)) => if Γ.fok c x = true ∧ fs.length < 1000 then some (.nxt, ρ0.set j (.own (.ins c (putU x v fs)))) else none
        | _ => none))
    | none => none)
  | .aug i op e, ρ => (let ρ0 := uno mu (esc Γ.fl e) ρ
    match ρ0[i]? with
    | some (.val a) => toFlU (evU Γ e ρ0) ρ0 fun b => (augU op a b).map fun w => (.nxt, ρ0.set i (.val w))
    | _ => none)
  | .augs _ _ _ _, _ => none
  | .exp e, ρ => (match mutOf e with
    | some (j, m, es) => (let ρ0 := uno mu (escs Γ.fl es) ρ
      match ρ0[j]? with
      | some (.own (.lst xs)) => toFlU (evsU Γ es ρ0) ρ0 fun us => (mutU m xs us).map fun p => (.nxt, ρ0.set j (.own (.lst p.2)))
      | _ => none)
    | none => (match iniOf e with
      | some (c, m, j, es) => (let ρ0 := uno mu (escs Γ.fl es) ρ
        match ρ0[j]?, Γ.mt c m with
        | some (.own (.ins d fs)), some f => toFlU (evsU Γ es ρ0) ρ0 fun us => (Γ.ini f d fs us).map fun gs => (.nxt, ρ0.set j (.own (.ins d gs)))
        | _, _ => none)
      | none => (let ρ0 := uno mu (esc Γ.fl e) ρ
        toFlU (evU Γ e ρ0) ρ0 fun _ => some (.nxt, ρ0))))
  | .iff c a b, ρ => (let ρ0 := uno mu (esc Γ.fl c) ρ
    match truthU (evU Γ c ρ0) with
    | some (.ok true) => xsU Γ mu a ρ0
    | some (.ok false) => xsU Γ mu b ρ0
    | some (.ex e) => some (.ex e, ρ0)
    | none => none)
  | .for tg k es body, ρ => (let ρ0 := uno mu (escs Γ.fl es) ρ
    toFlU (evsU Γ es ρ0) ρ0 fun us => (match itU k us with
      | none => none
      | some its => if its.length < 1000000000 then forU (fun u ρ1 => match setU tg u ρ1 with
        | none => none
        | some ρ2 => xsU Γ mu body ρ2) its ρ0 else none))
  | .while c body, ρ => whlU (uno mu (esc Γ.fl c)) (fun ρ1 => truthU (evU Γ c ρ1)) (fun ρ1 => xsU Γ mu body ρ1) big ρ
  | .ret e, ρ => (let ρ0 := uno mu (esc Γ.fl e) ρ
    toFlU (evU Γ e ρ0) ρ0 fun u => some (.ret ((isOwnAt ρ e || frE Γ.fr e) && isLst u) u, ρ0))
  | .retN, ρ => some (.ret false .non, ρ)
  | .raise c fs es, ρ => (let ρ0 := uno mu (escs Γ.fl es) ρ
    toFlU (evsU Γ es ρ0) ρ0 fun us => if fs.length = us.length then some (.ex ⟨c, (fs.zip us).reverse⟩, ρ0) else none)
  | .tryAs body c i suite, ρ => (match xsU Γ mu body ρ with
    | some (.ex e, ρ1) => if Γ.up e.cls c then (if mu.contains i then (match xsU Γ mu suite (ρ1.set i (.own (.exn e.cls e.fs))) with
          | some (.ex _, _) => none
          | some (f, ρ2) => (match ρ2[i]? with
            | some (.own (.exn _ _)) => some (f, ρ2.set i .emp)
            | _ => none)
          | none => none) else none)
      else some (.ex e, ρ1)
    | o => o)
  | .tryOnly body c suite, ρ => (match xsU Γ mu body ρ with
    | some (.ex e, ρ1) => if Γ.up e.cls c then (match xsU Γ mu suite ρ1 with
        | some (.ex _, _) => none
        | o => o)
      else some (.ex e, ρ1)
    | o => o)
  | .pass, ρ => some (.nxt, ρ)
  | .brk, ρ => some (.brk, ρ)
  | .cnt, ρ => some (.cnt, ρ)
end
/-! ### calls -/
structure FI where
  mu : List Nat := []
  fr : Bool := false
  fl : Bool := false
def inf (I : List FI) (f : Nat) : FI := (I[f]?).getD {}
def gamU (T : Tab) (I : List FI) (call : Nat → List U → RU U) (make : Nat → List U → RU U) (ini : Nat → Nat → List (Nat × U) → List U → Option (List (Nat × U))) : GamU :=
  let Γ := T.gam (fun _ _ _ => none) (fun _ _ _ => none)
  { ini := ini, call := call, make := make, mt := Γ.mt, glob := Γ.glob, up := Γ.up, fok := Γ.fok, fox := Γ.fox, fl := fun f => (inf I f).fl, fr := fun f => (inf I f).fr }
def finU (F : FI) (x : Option (FlU × EU)) : RU U := match x with
  | some (.ret r u, _) => if (F.fr → r = true) ∧ (F.fl → pureU u = true) then okU u else none
  | some (.nxt, _) => if F.fr then none else okU .non
  | some (.ex e, _) => if F.fl && !(e.fs.all fun p => pureU p.2) then none else some (.ex e)
  | _ => none
/-- an instance made by its __init__ -/
def initU (c : Nat) (x : Option (FlU × EU)) : Option (Ru (List (Nat × U))) := match x with
  | some (.nxt, ρ) => (match ρ[(0 : Nat)]? with
    | some (.own (.ins d fs)) => if d = c then some (.ok fs) else none
    | _ => none)
  | some (.ex e, _) => some (.ex e)
  | _ => none
def mkOf (T : Tab) (run : Nat → Nat → List (Nat × U) → List U → Option (Ru (List (Nat × U)))) (c : Nat) (us : List U) : RU U := match T.cls[c]? with
  | none => none
  | some d => match d.init with
    | none => none
    | some f => bndU (run f c [] us) fun fs => okU (.ins c fs)
def inOf (run : Nat → Nat → List (Nat × U) → List U → Option (Ru (List (Nat × U)))) (f c : Nat) (fs : List (Nat × U)) (us : List U) : Option (List (Nat × U)) := match run f c fs us with
  | some (.ok gs) => some gs
  | _ => none
mutual
def callU (T : Tab) (I : List FI) : Nat → Nat → List U → RU U
  | 0, _, _ => none
  | 1, _, _ => none
  | 2, _, _ => none
  | k + 3, f, us => match T.fns[f]? with
    | none => none
    | some d => if us.length = d.ps then finU (inf I f) (xsU (gamU T I (callU T I (k + 2)) (mkOf T (runU T I (k + 1))) (inOf (runU T I (k + 2)))) (inf I f).mu d.body (us.map Sl.val ++ List.replicate (d.n - d.ps) .emp)) else none
/-- an __init__ run on an instance -/
def runU (T : Tab) (I : List FI) : Nat → Nat → Nat → List (Nat × U) → List U → Option (Ru (List (Nat × U)))
  | 0, _, _, _, _ => none
  | 1, _, _, _, _ => none
  | 2, _, _, _, _ => none
  | k + 3, f, c, fs, us => match T.fns[f]? with
    | none => none
    | some e => if us.length + 1 = e.ps ∧ (inf I f).mu.contains 0 = true then initU c (xsU (gamU T I (callU T I (k + 2)) (mkOf T (runU T I (k + 1))) (inOf (runU T I (k + 2)))) (inf I f).mu e.body ((Sl.own (.ins c fs) :: us.map Sl.val) ++ List.replicate (e.n - e.ps) .emp)) else none
end
/-- what a body at depth k + 3 sees -/
def GU (T : Tab) (I : List FI) (k : Nat) : GamU := gamU T I (callU T I (k + 2)) (mkOf T (runU T I (k + 1))) (inOf (runU T I (k + 2)))
end Ip

/-! IpUs: what the interpreter over values tells, the one over stores does. Written by an AI agent. -/
namespace Ip
open PySem (Str)
/-- G: the store without the cells that belong to one name -/
def Sub (G S : Store) : Prop := G.length = S.length ∧ ∀ (n : Nat) (c : Cell), G[n]? = some c → c ≠ .dead → S[n]? = some c
mutual
inductive Rep (G : Store) : W → U → Prop
  | non : Rep G .non .non
  | bl (b : Bool) : Rep G (.bl b) (.bl b)
  | int (i : Int) : Rep G (.int i) (.int i)
  | str (x : Str) : Rep G (.str x) (.str x)
  | tup {ws us} : RepL G ws us → Rep G (.tup ws) (.tup us)
  | lst {n ws us} : G[n]? = some (.lst ws) → RepL G ws us → Rep G (.loc n) (.lst us)
  | fro {n ws us} : G[n]? = some (.fro ws) → RepL G ws us → Rep G (.loc n) (.fro us)
  | dct {n kws kvs} : G[n]? = some (.dct kws) → RepK G kws kvs → Rep G (.loc n) (.dct kvs)
  | ins {n c gs fs} : G[n]? = some (.ins c gs) → RepF G gs fs → Rep G (.loc n) (.ins c fs)
  | exn {n c gs fs} : G[n]? = some (.exn c gs) → RepF G gs fs → Rep G (.loc n) (.exn c fs)
inductive RepL (G : Store) : List W → List U → Prop
  | nil : RepL G [] []
  | cons {w u ws us} : Rep G w u → RepL G ws us → RepL G (w :: ws) (u :: us)
inductive RepK (G : Store) : List (Key × W) → List (Key × U) → Prop
  | nil : RepK G [] []
  | cons {k w u ws us} : Rep G w u → RepK G ws us → RepK G ((k, w) :: ws) ((k, u) :: us)
inductive RepF (G : Store) : List (Nat × W) → List (Nat × U) → Prop
  | nil : RepF G [] []
  | cons {k w u ws us} : Rep G w u → RepF G ws us → RepF G ((k, w) :: ws) ((k, u) :: us)
end
theorem Sub.refl (S : Store) : Sub S S := ⟨rfl, fun _ _ h _ => h⟩
theorem Sub.trans {A B C : Store} (h : Sub A B) (g : Sub B C) : Sub A C := ⟨h.1.trans g.1, fun n c e d => g.2 n c (h.2 n c e d) d⟩
theorem Sub.app {G S : Store} (h : Sub G S) (T : Store) : Sub (G ++ T) (S ++ T) := ⟨by simp [h.1], fun n c e d => by
  by_cases hn : n < G.length
  · rw [List.getElem?_append_left hn] at e
    rw [List.getElem?_append_left (by rw [← h.1]; exact hn)]
    exact h.2 n c e d
  · rw [List.getElem?_append_right (by omega)] at e
    rw [List.getElem?_append_right (by rw [← h.1]; omega), ← h.1]
    exact e⟩
/-- more live cells -/
def Le (G S : Store) : Prop := ∀ (n : Nat) (c : Cell), G[n]? = some c → c ≠ .dead → S[n]? = some c
theorem Sub.le {G S : Store} (h : Sub G S) : Le G S := h.2
theorem Le.app (G T : Store) : Le G (G ++ T) := fun n c e _ => by
  rw [List.getElem?_append_left (List.getElem?_eq_some_iff.mp e).1]
  exact e
theorem Le.trans {A B C : Store} (h : Le A B) (g : Le B C) : Le A C := fun n c e d => g n c (h n c e d) d
theorem Le.refl (A : Store) : Le A A := fun _ _ h _ => h
mutual
theorem Rep.mono {G S : Store} (h : Le G S) : ∀ {w : W} {u : U}, Rep G w u → Rep S w u
  | _, _, .non => .non
  | _, _, .bl b => .bl b
  | _, _, .int i => .int i
  | _, _, .str x => .str x
  | _, _, .tup r => .tup (RepL.mono h r)
  | _, _, .lst e r => .lst (h _ _ e (by simp)) (RepL.mono h r)
  | _, _, .fro e r => .fro (h _ _ e (by simp)) (RepL.mono h r)
  | _, _, .dct e r => .dct (h _ _ e (by simp)) (RepK.mono h r)
  | _, _, .ins e r => .ins (h _ _ e (by simp)) (RepF.mono h r)
  | _, _, .exn e r => .exn (h _ _ e (by simp)) (RepF.mono h r)
theorem RepL.mono {G S : Store} (h : Le G S) : ∀ {w : List W} {u : List U}, RepL G w u → RepL S w u
  | _, _, .nil => .nil
  | _, _, .cons r s => .cons (Rep.mono h r) (RepL.mono h s)
theorem RepK.mono {G S : Store} (h : Le G S) : ∀ {w : List (Key × W)} {u : List (Key × U)}, RepK G w u → RepK S w u
  | _, _, .nil => .nil
  | _, _, .cons r s => .cons (Rep.mono h r) (RepK.mono h s)
theorem RepF.mono {G S : Store} (h : Le G S) : ∀ {w : List (Nat × W)} {u : List (Nat × U)}, RepF G w u → RepF S w u
  | _, _, .nil => .nil
  | _, _, .cons r s => .cons (Rep.mono h r) (RepF.mono h s)
end
theorem RepL.length {G : Store} : ∀ {ws : List W} {us : List U}, RepL G ws us → ws.length = us.length
  | _, _, .nil => rfl
  | _, _, .cons _ r => by simp [r.length]
theorem RepL.get {G : Store} : ∀ {ws : List W} {us : List U} {i : Nat} {u : U}, RepL G ws us → us[i]? = some u → ∃ w, ws[i]? = some w ∧ Rep G w u
  | _, _, i, _, .nil, h => by simp at h
  | _, _, 0, _, .cons r _, h => by simp at h; subst h; exact ⟨_, rfl, r⟩
  | _, _, i + 1, _, .cons _ r, h => by simpa using r.get (i := i) (by simpa using h)
theorem RepL.app {G : Store} : ∀ {ws : List W} {us : List U} {ws2 : List W} {us2 : List U}, RepL G ws us → RepL G ws2 us2 → RepL G (ws ++ ws2) (us ++ us2)
  | _, _, _, _, .nil, r => r
  | _, _, _, _, .cons h q, r => .cons h (q.app r)
theorem RepL.take {G : Store} : ∀ {ws : List W} {us : List U} (n : Nat), RepL G ws us → RepL G (ws.take n) (us.take n)
  | _, _, 0, _ => by simp; exact .nil
  | _, _, _ + 1, .nil => by simp; exact .nil
  | _, _, n + 1, .cons h q => .cons h (q.take n)
theorem RepL.drop {G : Store} : ∀ {ws : List W} {us : List U} (n : Nat), RepL G ws us → RepL G (ws.drop n) (us.drop n)
  | _, _, 0, r => by simpa using r
  | _, _, _ + 1, .nil => by simp; exact .nil
  | _, _, n + 1, .cons h q => by simpa using q.drop n
theorem RepL.set {G : Store} : ∀ {ws : List W} {us : List U} (n : Nat) {w : W} {u : U}, RepL G ws us → Rep G w u → RepL G (ws.set n w) (us.set n u)
  | _, _, _, _, _, .nil, _ => by simp; exact .nil
  | _, _, 0, _, _, .cons _ q, r => .cons r q
  | _, _, n + 1, _, _, .cons h q, r => .cons h (q.set n r)
theorem RepL.erase {G : Store} : ∀ {ws : List W} {us : List U} (n : Nat), RepL G ws us → RepL G (ws.eraseIdx n) (us.eraseIdx n)
  | _, _, _, .nil => by simp; exact .nil
  | _, _, 0, .cons _ q => by simpa using q
  | _, _, n + 1, .cons h q => by simpa using .cons h (q.erase n)
theorem RepL.repl {G : Store} {ws : List W} {us : List U} (r : RepL G ws us) : ∀ k : Nat, RepL G (List.replicate k ws).flatten (List.replicate k us).flatten
  | 0 => by simp; exact .nil
  | k + 1 => by
    rw [List.replicate_succ, List.replicate_succ, List.flatten_cons, List.flatten_cons]
    exact r.app (r.repl k)
theorem RepL.strs {G : Store} : ∀ (xs : List Str), RepL G (xs.map W.str) (xs.map U.str)
  | [] => .nil
  | x :: xs => .cons (.str x) (RepL.strs xs)
theorem RepF.look {G : Store} : ∀ {gs : List (Nat × W)} {fs : List (Nat × U)}, RepF G gs fs → ∀ x, (∀ u, fs.lookup x = some u → ∃ w, gs.lookup x = some w ∧ Rep G w u) ∧ (fs.lookup x = none → gs.lookup x = none)
  | _, _, .nil, x => ⟨fun u h => by simp at h, fun _ => by simp⟩
  | _, _, .cons (k := k) h q, x => by
    have ih := q.look x
    by_cases e : x = k
    · subst e
      simp [List.lookup]
      exact h
    · have e' : (x == k) = false := by simpa using e
      simp only [List.lookup, e']
      exact ih
theorem RepF.put {G : Store} (x : Nat) {w : W} {u : U} (r : Rep G w u) : ∀ {gs : List (Nat × W)} {fs : List (Nat × U)}, RepF G gs fs → RepF G (putW x w gs) (putU x u fs)
  | _, _, .nil => by unfold putW putU; exact .cons r .nil
  | _, _, .cons (k := k) h q => by
    unfold putW putU
    by_cases e : k = x
    · rw [if_pos e, if_pos e]
      exact .cons r q
    · rw [if_neg e, if_neg e]
      exact .cons h (q.put x r)
theorem RepF.app {G : Store} : ∀ {ws : List (Nat × W)} {us : List (Nat × U)} {ws2 : List (Nat × W)} {us2 : List (Nat × U)}, RepF G ws us → RepF G ws2 us2 → RepF G (ws ++ ws2) (us ++ us2)
  | _, _, _, _, .nil, r => r
  | _, _, _, _, .cons h q, r => .cons h (q.app r)
theorem RepF.rev {G : Store} : ∀ {ws : List (Nat × W)} {us : List (Nat × U)}, RepF G ws us → RepF G ws.reverse us.reverse
  | _, _, .nil => .nil
  | _, _, .cons h q => by
    rw [List.reverse_cons, List.reverse_cons]
    exact q.rev.app (.cons h .nil)
theorem RepF.length {G : Store} : ∀ {gs : List (Nat × W)} {fs : List (Nat × U)}, RepF G gs fs → gs.length = fs.length
  | _, _, .nil => rfl
  | _, _, .cons _ r => by simp [r.length]
theorem RepK.get {G : Store} (k : Key) : ∀ {gs : List (Key × W)} {fs : List (Key × U)}, RepK G gs fs → (∀ u, getU k fs = some u → ∃ w, getK k gs = some w ∧ Rep G w u) ∧ (getU k fs).isSome = (getK k gs).isSome
  | _, _, .nil => ⟨fun u h => by simp [getU] at h, by simp [getU, getK]⟩
  | _, _, .cons (k := q) h r => by
    have ih := r.get k
    unfold getU getK
    by_cases e : q = k
    · rw [if_pos e, if_pos e]
      exact ⟨fun u hu => by cases hu; exact ⟨_, rfl, h⟩, rfl⟩
    · rw [if_neg e, if_neg e]
      exact ih
/-- read where it stands: the top may be a name's own -/
def BR (G S : Store) (w : W) : U → Prop
  | .non => w = .non
  | .bl b => w = .bl b
  | .int i => w = .int i
  | .str x => w = .str x
  | .tup us => ∃ ws, w = .tup ws ∧ RepL G ws us
  | .lst us => ∃ n ws, w = .loc n ∧ S[n]? = some (.lst ws) ∧ RepL G ws us
  | .fro us => ∃ n ws, w = .loc n ∧ S[n]? = some (.fro ws) ∧ RepL G ws us
  | .dct kvs => ∃ n ws, w = .loc n ∧ S[n]? = some (.dct ws) ∧ RepK G ws kvs
  | .ins c fs => ∃ n ws, w = .loc n ∧ S[n]? = some (.ins c ws) ∧ RepF G ws fs
  | .exn c fs => ∃ n ws, w = .loc n ∧ S[n]? = some (.exn c ws) ∧ RepF G ws fs
theorem Rep.br {G S : Store} (h : Sub G S) {w : W} {u : U} (r : Rep G w u) : BR G S w u := by
  cases r with
  | non => rfl
  | bl => rfl
  | int => rfl
  | str => rfl
  | tup r => exact ⟨_, rfl, r⟩
  | lst e r => exact ⟨_, _, rfl, h.2 _ _ e (by simp), r⟩
  | fro e r => exact ⟨_, _, rfl, h.2 _ _ e (by simp), r⟩
  | dct e r => exact ⟨_, _, rfl, h.2 _ _ e (by simp), r⟩
  | ins e r => exact ⟨_, _, rfl, h.2 _ _ e (by simp), r⟩
  | exn e r => exact ⟨_, _, rfl, h.2 _ _ e (by simp), r⟩
theorem BR.app {G S : Store} (T : Store) {w : W} {u : U} (r : BR G S w u) : BR (G ++ T) (S ++ T) w u := by
  have l : ∀ {n : Nat} {c : Cell}, S[n]? = some c → (S ++ T)[n]? = some c := fun e => by
    rw [List.getElem?_append_left (List.getElem?_eq_some_iff.mp e).1]
    exact e
  cases u with
  | non => exact r
  | bl => exact r
  | int => exact r
  | str => exact r
  | tup us => obtain ⟨ws, e, q⟩ := r; exact ⟨ws, e, q.mono (Le.app _ _)⟩
  | lst us => obtain ⟨n, ws, e, d, q⟩ := r; exact ⟨n, ws, e, l d, q.mono (Le.app _ _)⟩
  | fro us => obtain ⟨n, ws, e, d, q⟩ := r; exact ⟨n, ws, e, l d, q.mono (Le.app _ _)⟩
  | dct us => obtain ⟨n, ws, e, d, q⟩ := r; exact ⟨n, ws, e, l d, q.mono (Le.app _ _)⟩
  | ins c us => obtain ⟨n, ws, e, d, q⟩ := r; exact ⟨n, ws, e, l d, q.mono (Le.app _ _)⟩
  | exn c us => obtain ⟨n, ws, e, d, q⟩ := r; exact ⟨n, ws, e, l d, q.mono (Le.app _ _)⟩
inductive BRL (G S : Store) : List W → List U → Prop
  | nil : BRL G S [] []
  | cons {w u ws us} : BR G S w u → BRL G S ws us → BRL G S (w :: ws) (u :: us)
theorem BRL.app {G S : Store} (T : Store) : ∀ {ws : List W} {us : List U}, BRL G S ws us → BRL (G ++ T) (S ++ T) ws us
  | _, _, .nil => .nil
  | _, _, .cons h r => .cons (h.app T) (r.app T)
theorem RepL.br {G S : Store} (h : Sub G S) : ∀ {ws : List W} {us : List U}, RepL G ws us → BRL G S ws us
  | _, _, .nil => .nil
  | _, _, .cons r s => .cons (r.br h) (s.br h)
/-! ### flat ones -/
theorem Rep.flat {G : Store} {w : W} {u : U} (r : Rep G w u) : flatW w = flatU u ∧ (flatU u = true → w = wOf u) := by
  cases r <;> simp [flatW, flatU, wOf]
theorem BR.flat {G S : Store} {w : W} {u : U} (r : BR G S w u) : flatW w = flatU u ∧ (flatU u = true → w = wOf u) := by
  cases u with
  | non => cases r; simp [flatW, flatU, wOf]
  | bl => cases r; simp [flatW, flatU, wOf]
  | int => cases r; simp [flatW, flatU, wOf]
  | str => cases r; simp [flatW, flatU, wOf]
  | tup us => obtain ⟨ws, e, q⟩ := r; subst e; simp [flatW, flatU, wOf]
  | lst us => obtain ⟨n, ws, e, d, q⟩ := r; subst e; simp [flatW, flatU, wOf]
  | fro us => obtain ⟨n, ws, e, d, q⟩ := r; subst e; simp [flatW, flatU, wOf]
  | dct us => obtain ⟨n, ws, e, d, q⟩ := r; subst e; simp [flatW, flatU, wOf]
  | ins c us => obtain ⟨n, ws, e, d, q⟩ := r; subst e; simp [flatW, flatU, wOf]
  | exn c us => obtain ⟨n, ws, e, d, q⟩ := r; subst e; simp [flatW, flatU, wOf]
theorem RepL.flat {G : Store} : ∀ {ws : List W} {us : List U}, RepL G ws us → ws.all flatW = us.all flatU ∧ (us.all flatU = true → ws = us.map wOf)
  | _, _, .nil => ⟨rfl, fun _ => rfl⟩
  | _, _, .cons h r => by
    obtain ⟨a, b⟩ := h.flat
    obtain ⟨c, d⟩ := r.flat
    refine ⟨by simp only [List.all_cons, a, c], fun e => ?_⟩
    rw [List.all_cons, Bool.and_eq_true] at e
    rw [List.map_cons, ← b e.1, ← d e.2]
theorem RepL.ints {G : Store} : ∀ {ws : List W} {us : List U} {ns : List Int}, RepL G ws us → intsOf (us.map wOf) = some ns → intsOf ws = some ns
  | _, _, _, .nil, h => h
  | _, _, ns, .cons (us := us) h r, e => by
    cases h <;> simp [wOf, intsOf] at e ⊢
    obtain ⟨a, e1, e2⟩ := e
    exact ⟨a, r.ints e1, e2⟩
theorem RepL.bls {G : Store} : ∀ {ws : List W} {us : List U} {ns : List Bool}, RepL G ws us → blsOf (us.map wOf) = some ns → blsOf ws = some ns
  | _, _, _, .nil, h => h
  | _, _, ns, .cons (us := us) h r, e => by
    cases h <;> simp [wOf, blsOf] at e ⊢
    obtain ⟨a, e1, e2⟩ := e
    exact ⟨a, r.bls e1, e2⟩
theorem RepL.strsO {G : Store} : ∀ {ws : List W} {us : List U} {ns : List Str}, RepL G ws us → strsOf (us.map wOf) = some ns → strsOf ws = some ns
  | _, _, _, .nil, h => h
  | _, _, ns, .cons (us := us) h r, e => by
    cases h <;> simp [wOf, strsOf] at e ⊢
    obtain ⟨a, e1, e2⟩ := e
    exact ⟨a, r.strsO e1, e2⟩
theorem uOf_rep {G : Store} {w : W} {u : U} (h : uOf w = some u) : Rep G w u := by
  cases w <;> simp [uOf] at h <;> subst h
  · exact .non
  · exact .bl _
  · exact .int _
  · exact .str _
mutual
theorem Rep.pure {G K : Store} : ∀ {w : W} {u : U}, Rep G w u → pureU u = true → Rep K w u
  | _, _, .non, _ => .non
  | _, _, .bl b, _ => .bl b
  | _, _, .int i, _ => .int i
  | _, _, .str x, _ => .str x
  | _, _, .tup r, h => .tup (RepL.pure r (by simpa [pureU] using h))
  | _, _, .lst _ _, h => by simp [pureU] at h
  | _, _, .fro _ _, h => by simp [pureU] at h
  | _, _, .dct _ _, h => by simp [pureU] at h
  | _, _, .ins _ _, h => by simp [pureU] at h
  | _, _, .exn _ _, h => by simp [pureU] at h
theorem RepL.pure {G K : Store} : ∀ {w : List W} {u : List U}, RepL G w u → pureUs u = true → RepL K w u
  | _, _, .nil, _ => .nil
  | _, _, .cons r s, h => by
    simp only [pureUs, Bool.and_eq_true] at h
    exact .cons (Rep.pure r h.1) (RepL.pure s h.2)
end
theorem RepF.pure {G K : Store} : ∀ {gs : List (Nat × W)} {fs : List (Nat × U)}, RepF G gs fs → (fs.all fun p => pureU p.2) = true → RepF K gs fs
  | _, _, .nil, _ => .nil
  | _, _, .cons r s, h => by
    simp only [List.all_cons, Bool.and_eq_true] at h
    exact .cons (Rep.pure r h.1) (RepF.pure s h.2)
/-! ### data -/
mutual
theorem dat_rep {G S : Store} (hs : Sub G S) : ∀ (k : Nat) {w : W} {u : U} {d : PySem.PyData}, Rep G w u → datU k u = some d → dat S k w = some d
  | _, _, _, _, .non, h => by simpa [datU, dat] using h
  | _, _, _, _, .bl b, h => by simpa [datU, dat] using h
  | _, _, _, _, .int i, h => by simpa [datU, dat] using h
  | _, _, _, _, .str x, h => by simpa [datU, dat] using h
  | 0, _, _, _, .tup r, h => by simp [datU] at h
  | k + 1, _, _, _, .tup r, h => by
    simp only [datU, Option.map_eq_some_iff] at h
    obtain ⟨ds, h1, h2⟩ := h
    simp only [dat, dats_rep hs k r h1, Option.map_some, h2]
  | 0, _, _, _, .lst e r, h => by simp [datU] at h
  | k + 1, _, _, _, .lst e r, h => by
    simp only [datU, Option.map_eq_some_iff] at h
    obtain ⟨ds, h1, h2⟩ := h
    have e2 := hs.2 _ _ e (by simp)
    simp only [dat, listAt, e2, dats_rep hs k r h1, Option.map_some, h2]
  | 0, _, _, _, .fro _ _, h => by simp [datU] at h
  | _ + 1, _, _, _, .fro _ _, h => by simp [datU] at h
  | 0, _, _, _, .dct _ _, h => by simp [datU] at h
  | _ + 1, _, _, _, .dct _ _, h => by simp [datU] at h
  | 0, _, _, _, .ins _ _, h => by simp [datU] at h
  | _ + 1, _, _, _, .ins _ _, h => by simp [datU] at h
  | 0, _, _, _, .exn _ _, h => by simp [datU] at h
  | _ + 1, _, _, _, .exn _ _, h => by simp [datU] at h
theorem dats_rep {G S : Store} (hs : Sub G S) : ∀ (k : Nat) {w : List W} {u : List U} {d : List PySem.PyData}, RepL G w u → datUs k u = some d → datAll S k w = some d
  | _, _, _, _, .nil, h => by simpa [datUs, datAll] using h
  | k, _, _, _, .cons (u := u) (us := us) r s, h => by
    unfold datUs at h
    split at h
    · rename_i d ds h1 h2
      simp only [datAll, dat_rep hs k r h1, dats_rep hs k s h2]
      exact h
    · cases h
end
theorem dat_br {G S : Store} (hs : Sub G S) {k : Nat} {w : W} {u : U} {d : PySem.PyData} (r : BR G S w u) (h : datU k u = some d) : dat S k w = some d := by
  cases u with
  | non => cases r; simpa [datU, dat] using h
  | bl => cases r; simpa [datU, dat] using h
  | int => cases r; simpa [datU, dat] using h
  | str => cases r; simpa [datU, dat] using h
  | tup us =>
    obtain ⟨ws, e, q⟩ := r
    subst e
    exact dat_rep hs k (.tup q) h
  | lst us =>
    obtain ⟨n, ws, e, d, q⟩ := r
    subst e
    cases k with
    | zero => simp [datU] at h
    | succ k =>
      simp only [datU, Option.map_eq_some_iff] at h
      obtain ⟨ds, h1, h2⟩ := h
      simp only [dat, listAt, d, dats_rep hs k q h1, Option.map_some, h2]
  | fro us => cases k <;> simp [datU] at h
  | dct us => cases k <;> simp [datU] at h
  | ins c us => cases k <;> simp [datU] at h
  | exn c us => cases k <;> simp [datU] at h
theorem BR.rep {G S : Store} (hs : Sub G S) {w : W} {u : U} (b : BR G S w u) : Rep S w u := by
  cases u with
  | non => cases b; exact .non
  | bl => cases b; exact .bl _
  | int => cases b; exact .int _
  | str => cases b; exact .str _
  | tup us => obtain ⟨ws, e, q⟩ := b; subst e; exact .tup (q.mono hs.2)
  | lst us => obtain ⟨n, ws, e, d, q⟩ := b; subst e; exact .lst d (q.mono hs.2)
  | fro us => obtain ⟨n, ws, e, d, q⟩ := b; subst e; exact .fro d (q.mono hs.2)
  | dct us => obtain ⟨n, ws, e, d, q⟩ := b; subst e; exact .dct d (q.mono hs.2)
  | ins c us => obtain ⟨n, ws, e, d, q⟩ := b; subst e; exact .ins d (q.mono hs.2)
  | exn c us => obtain ⟨n, ws, e, d, q⟩ := b; subst e; exact .exn d (q.mono hs.2)
theorem BRL.rep {G S : Store} (hs : Sub G S) : ∀ {ws : List W} {us : List U}, BRL G S ws us → RepL S ws us
  | _, _, .nil => .nil
  | _, _, .cons b r => .cons (b.rep hs) (r.rep hs)
end Ip

/-! IpUo: operators. Written by an AI agent. -/
namespace Ip
open PySem (Str)
variable {G S : Store}
theorem new_at (S : Store) (c : Cell) : (S ++ [c])[S.length]? = some c := by simp
theorem Rep.newL (h : Sub G S) {ws : List W} {us : List U} (r : RepL G ws us) : Rep (G ++ [.lst ws]) (.loc S.length) (.lst us) := by
  refine .lst ?_ (r.mono (Le.app _ _))
  rw [← h.1]
  simp
theorem op_ok {op : Op2} {a b : W} {x y u : U} (h : Sub G S) (ra : BR G S a x) (rb : BR G S b y) (e : opU op x y = some u) : ∃ w T, op2 op S a b = some (w, S ++ T) ∧ Rep (G ++ T) w u := by
  unfold opU at e
  split at e
  · cases ra; cases rb; cases e; exact ⟨_, [], by simp [op2], .int _⟩
  · cases ra; cases rb
    split at e
    · cases e; exact ⟨_, [], by simp [op2, *], .str _⟩
    · cases e
  · obtain ⟨ws, e1, q1⟩ := ra
    obtain ⟨vs, e2, q2⟩ := rb
    subst e1 e2
    split at e
    · rename_i c
      cases e
      have l1 := q1.length
      have l2 := q2.length
      refine ⟨_, [], ?_, .tup ((q1.app q2).mono (Le.app _ _))⟩
      show (if ws.length + vs.length ≤ 16777216 then _ else _) = _
      rw [if_pos (by rw [l1, l2]; exact c)]
      simp
    · cases e
  · obtain ⟨n, ws, e1, d1, q1⟩ := ra
    obtain ⟨k, vs, e2, d2, q2⟩ := rb
    subst e1 e2
    split at e
    · rename_i c
      cases e
      refine ⟨_, [.lst (ws ++ vs)], ?_, Rep.newL h (q1.app q2)⟩
      simp only [op2, d1, d2, q1.length, q2.length, c, if_true]
    · cases e
  · cases ra; cases rb; cases e; exact ⟨_, [], by simp [op2], .int _⟩
  · cases ra; cases rb
    split at e
    · cases e; exact ⟨_, [], by simp [op2, *], .int _⟩
    · cases e
  · obtain ⟨n, ws, e1, d1, q1⟩ := ra
    cases rb
    subst e1
    split at e
    · rename_i c
      cases e
      refine ⟨_, [.lst (List.replicate _ ws).flatten], ?_, Rep.newL h (q1.repl _)⟩
      simp only [op2, d1, q1.length]
      rw [if_pos c]
    · cases e
  · cases ra; cases rb
    split at e
    · rename_i c
      cases e; exact ⟨_, [], by simp only [op2, List.append_nil]; rw [if_pos c], .int _⟩
    · cases e
  · cases ra; cases rb
    split at e
    · rename_i c
      cases e; exact ⟨_, [], by simp only [op2, List.append_nil]; rw [if_pos c], .int _⟩
    · cases e
  · cases ra; cases rb
    split at e
    · rename_i c
      cases e; exact ⟨_, [], by simp only [op2, List.append_nil]; rw [if_pos c], .int _⟩
    · cases e
  · cases e
theorem eq_ok {a b : W} {x y : U} {q : Bool} (h : Sub G S) (ra : BR G S a x) (rb : BR G S b y) (e : eqU x y = some q) : eqW S a b = some q := by
  have deep : eqDeepU x y = some q → (eqW S a b = eqDeep S a b) → eqW S a b = some q := fun d z => by
    rw [z]
    unfold eqDeepU at d
    split at d
    · rename_i d1 d2 h1 h2
      unfold eqDeep
      rw [dat_br h ra h1, dat_br h rb h2]
      exact d
    · cases d
  unfold eqU at e
  split at e
  · cases ra; cases rb; exact e
  · cases ra; cases rb; exact e
  · cases ra; cases rb; exact e
  · rename_i n1 n2 n3
    refine deep e ?_
    unfold eqW
    split
    · exfalso
      cases x <;> simp [BR] at ra <;> cases y <;> simp [BR] at rb
      exact n1 _ _ rfl rfl
    · exfalso
      cases x <;> simp [BR] at ra <;> cases y <;> simp [BR] at rb
      exact n2 _ _ rfl rfl
    · exfalso
      cases x <;> simp [BR] at ra <;> cases y <;> simp [BR] at rb
      exact n3 _ _ rfl rfl
    · rfl
theorem key_ok {a : W} {x : U} (ra : BR G S a x) : ∀ k, keyU x = some k → keyW a = some k := fun k e => by
  cases x <;> simp [keyU] at e <;> simp [BR] at ra <;> subst ra e <;> rfl
theorem isinU_ok {a b : W} {x y : U} {q : Bool} (h : Sub G S) (ra : BR G S a x) (rb : BR G S b y) (e : isinU x y = some q) : isin S a b = some q := by
  unfold isinU at e
  split at e
  · cases ra; cases rb; exact e
  · obtain ⟨ws, e1, q1⟩ := rb
    subst e1
    obtain ⟨f1, f2⟩ := ra.flat
    obtain ⟨f3, f4⟩ := q1.flat
    split at e
    · rename_i c
      have c' := c
      rw [Bool.and_eq_true] at c'
      cases e
      unfold isin
      split
      · rename_i z; cases z
      · rename_i z
        cases z
        rw [f1, f3, if_pos c, f2 c'.1, f4 c'.2]
      · rename_i z; cases z
      · rename_i z1 z2 z3; first | exact absurd rfl (z2 _) | exact absurd rfl (z1 _) | exact absurd rfl (z3 _)
    · cases e
  · obtain ⟨n, ws, e1, d1, q1⟩ := rb
    subst e1
    obtain ⟨f1, f2⟩ := ra.flat
    obtain ⟨f3, f4⟩ := q1.flat
    split at e
    · rename_i c
      have c' := c
      rw [Bool.and_eq_true] at c'
      cases e
      unfold isin
      split
      · rename_i z; cases z
      · rename_i z; cases z
      · rename_i z
        cases z
        simp only [d1]
        rw [f1, f3, if_pos c, f2 c'.1, f4 c'.2]
      · rename_i z1 z2 z3; first | exact absurd rfl (z3 _) | exact absurd rfl (z2 _) | exact absurd rfl (z1 _)
    · cases e
  · obtain ⟨n, ws, e1, d1, q1⟩ := rb
    subst e1
    split at e
    · rename_i k hk
      cases e
      unfold isin
      split
      · rename_i z; cases z
      · rename_i z; cases z
      · rename_i z
        cases z
        simp only [d1, key_ok ra _ hk]
        rw [(q1.get k).2]
      · rename_i z1 z2 z3; first | exact absurd rfl (z3 _) | exact absurd rfl (z2 _) | exact absurd rfl (z1 _)
    · cases e
  · cases e
theorem isN_ok {a : W} {x : U} (ra : BR G S a x) : isN a = isNU x := by
  cases x with
  | non => cases ra; rfl
  | bl => cases ra; rfl
  | int => cases ra; rfl
  | str => cases ra; rfl
  | tup us => obtain ⟨ws, e, q⟩ := ra; subst e; rfl
  | lst us => obtain ⟨n, ws, e, d, q⟩ := ra; subst e; rfl
  | fro us => obtain ⟨n, ws, e, d, q⟩ := ra; subst e; rfl
  | dct us => obtain ⟨n, ws, e, d, q⟩ := ra; subst e; rfl
  | ins c us => obtain ⟨n, ws, e, d, q⟩ := ra; subst e; rfl
  | exn c us => obtain ⟨n, ws, e, d, q⟩ := ra; subst e; rfl
theorem cm_ok {op : Cm} {a b : W} {x y : U} {q : Bool} (h : Sub G S) (ra : BR G S a x) (rb : BR G S b y) (e : cmU op x y = some q) : cm2 op S a b = some q := by
  cases op with
  | eq => exact eq_ok h ra rb e
  | ne =>
    simp only [cmU, Option.map_eq_some_iff] at e
    obtain ⟨k, e1, e2⟩ := e
    simp only [cm2, eq_ok h ra rb e1, Option.map_some, e2]
  | isin => exact isinU_ok h ra rb e
  | notin =>
    simp only [cmU, Option.map_eq_some_iff] at e
    obtain ⟨k, e1, e2⟩ := e
    simp only [cm2, isinU_ok h ra rb e1, Option.map_some, e2]
  | isN => simpa only [cm2, cmU, isN_ok ra, isN_ok rb] using e
  | notN => simpa only [cm2, cmU, isN_ok ra, isN_ok rb] using e
  | lt => cases x <;> cases y <;> simp [cmU] at e; cases ra; cases rb; simp [cm2, e]
  | le => cases x <;> cases y <;> simp [cmU] at e; cases ra; cases rb; simp [cm2, e]
  | gt => cases x <;> cases y <;> simp [cmU] at e; cases ra; cases rb; simp [cm2, e]
  | ge => cases x <;> cases y <;> simp [cmU] at e; cases ra; cases rb; simp [cm2, e]
theorem atI_map {ws : List W} {us : List U} {i : Int} {u : U} (r : RepL G ws us) (e : L2.atI us i = some u) : ∃ w, L2.atI ws i = some w ∧ Rep G w u := by
  unfold L2.atI at e ⊢
  rw [r.length]
  cases hx : L2.ixN us.length i with
  | none => rw [hx] at e; cases e
  | some k =>
    rw [hx] at e
    exact r.get e
theorem idx_ok {a b : W} {x y u : U} (h : Sub G S) (ra : BR G S a x) (rb : BR G S b y) (e : idxU x y = some u) : ∃ w, idx2 S a b = some w ∧ Rep G w u := by
  unfold idxU at e
  split at e
  · obtain ⟨ws, e1, q1⟩ := ra
    cases rb
    subst e1
    exact atI_map q1 e
  · obtain ⟨n, ws, e1, d1, q1⟩ := ra
    cases rb
    subst e1
    obtain ⟨w, h1, h2⟩ := atI_map q1 e
    exact ⟨w, by simp only [idx2, d1, h1], h2⟩
  · obtain ⟨n, ws, e1, d1, q1⟩ := ra
    cases rb
    subst e1
    obtain ⟨w, h1, h2⟩ := atI_map q1 e
    exact ⟨w, by simp only [idx2, d1, h1], h2⟩
  · cases ra; cases rb
    split at e
    · rename_i c
      simp only [Option.map_eq_some_iff] at e
      obtain ⟨c', e1, e2⟩ := e
      subst e2
      exact ⟨_, by simp only [idx2]; rw [if_pos c, e1]; rfl, .str _⟩
    · cases e
  · obtain ⟨n, ws, e1, d1, q1⟩ := ra
    subst e1
    split at e
    · rename_i k hk
      obtain ⟨w, h1, h2⟩ := (q1.get k).1 _ e
      refine ⟨w, ?_, h2⟩
      have hk2 := key_ok rb _ hk
      unfold idx2
      cases b <;> simp [d1, keyW] at hk2 ⊢ <;> subst hk2 <;> exact h1
    · cases e
  · cases e
theorem cut_ok {ws : List W} {us : List U} (r : RepL G ws us) (lo hi : Option Int) : RepL G (cutW ws lo hi) (cutL us lo hi) := by
  unfold cutW cutL
  rw [r.length]
  exact (r.drop _).take _
theorem slc_ok {a : W} {x u : U} {lo hi : Option Int} (h : Sub G S) (ra : BR G S a x) (e : slcU x lo hi = some u) : ∃ w T, slc2 S a lo hi = some (w, S ++ T) ∧ Rep (G ++ T) w u := by
  unfold slcU at e
  split at e
  · cases ra
    split at e
    · cases e; exact ⟨_, [], by simp [slc2, *], .str _⟩
    · cases e
  · obtain ⟨ws, e1, q1⟩ := ra
    subst e1
    cases e
    exact ⟨_, [], by simp [slc2], .tup ((cut_ok q1 _ _).mono (Le.app _ _))⟩
  · obtain ⟨n, ws, e1, d1, q1⟩ := ra
    subst e1
    cases e
    exact ⟨_, [.lst (cutW ws lo hi)], by simp [slc2, listAt, d1], Rep.newL h (cut_ok q1 _ _)⟩
  · obtain ⟨n, ws, e1, d1, q1⟩ := ra
    subst e1
    cases e
    exact ⟨_, [.lst (cutW ws lo hi)], by simp [slc2, listAt, d1], Rep.newL h (cut_ok q1 _ _)⟩
  · cases e
theorem bf_ok {b : Bf} {ws : List W} {us : List U} {u : U} (h : Sub G S) (ra : BRL G S ws us) (e : bfnU b us = some u) : ∃ w T, bfn b S ws = some (w, S ++ T) ∧ Rep (G ++ T) w u := by
  unfold bfnU at e
  split at e
  · cases ra with | cons ra rr =>
      cases rr; cases ra
      split at e
      · cases e; exact ⟨_, [], by simp [bfn, *], .int _⟩
      · cases e
  · cases ra with | cons ra rr =>
      cases rr
      obtain ⟨ws, e1, q1⟩ := ra
      subst e1; cases e
      exact ⟨_, [], by simp [bfn, q1.length], .int _⟩
  · cases ra with | cons ra rr =>
      cases rr
      obtain ⟨n, ws, e1, d1, q1⟩ := ra
      subst e1; cases e
      exact ⟨_, [], by simp [bfn, d1, q1.length], .int _⟩
  · cases ra with | cons ra rr =>
      cases rr
      obtain ⟨n, ws, e1, d1, q1⟩ := ra
      subst e1; cases e
      exact ⟨_, [], by simp [bfn, d1, q1.length], .int _⟩
  · cases ra with | cons ra rr => cases rr; cases ra; cases e; exact ⟨_, [], by simp [bfn], .int _⟩
  · cases ra with | cons ra rr => cases rr; cases ra; cases e; exact ⟨_, [], by simp [bfn], .int _⟩
  · cases ra with | cons ra rr => cases rr; cases ra; cases e; exact ⟨_, [], by simp [bfn], .int _⟩
  · cases ra with | cons ra rr =>
      cases rr; cases ra
      split at e
      · rename_i c
        simp only [Option.map_eq_some_iff] at e
        obtain ⟨n, e1, e2⟩ := e
        subst e2
        exact ⟨_, [], by simp [bfn, c, e1], .int _⟩
      · cases e
  · cases ra with | cons ra rr =>
      cases rr; cases ra
      split at e
      · rename_i c
        cases e
        exact ⟨_, [], by simp [bfn, c], .str _⟩
      · cases e
  · cases ra with | cons ra rr =>
      cases rr
      obtain ⟨ws, e1, q1⟩ := ra
      subst e1; cases e
      exact ⟨_, [.lst ws], by simp [bfn, seqAt], Rep.newL h q1⟩
  · cases ra with | cons ra rr =>
      cases rr
      obtain ⟨n, ws, e1, d1, q1⟩ := ra
      subst e1; cases e
      exact ⟨_, [.lst ws], by simp [bfn, seqAt, listAt, d1], Rep.newL h q1⟩
  · cases ra with | cons ra rr =>
      cases rr
      obtain ⟨n, ws, e1, d1, q1⟩ := ra
      subst e1; cases e
      exact ⟨_, [.lst ws], by simp [bfn, seqAt, listAt, d1], Rep.newL h q1⟩
  · cases ra with | cons ra rr =>
      cases rr
      obtain ⟨n, ws, e1, d1, q1⟩ := ra
      subst e1; cases e
      exact ⟨_, [], by simp [bfn, listAt, d1], .tup (q1.mono (Le.app _ _))⟩
  · cases ra with | cons ra rr => cases rr with | cons rb rr => cases rr; cases ra; cases rb; cases e; exact ⟨_, [], by simp [bfn], .int _⟩
  · cases ra with | cons ra rr => cases rr with | cons rb rr => cases rr; cases ra; cases rb; cases e; exact ⟨_, [], by simp [bfn], .int _⟩
  all_goals first
    | (cases ra with | cons ra rr =>
        cases rr
        obtain ⟨n, ws, e1, d1, q1⟩ := ra
        subst e1
        split at e
        · rename_i ns hn
          first
            | (split at e
               · rename_i c
                 cases e
                 exact ⟨_, [], by simp [bfn, listAt, d1, q1.ints hn, c], .int _⟩
               · cases e)
            | (cases e; exact ⟨_, [], by simp [bfn, listAt, d1, q1.ints hn], .int _⟩)
            | (cases e; exact ⟨_, [], by simp [bfn, listAt, d1, q1.bls hn], .bl _⟩)
        · cases e)
    | cases e
theorem bm_ok {m : Bm} {o : W} {ws : List W} {x : U} {us : List U} {u : U} (h : Sub G S) (ro : BR G S o x) (ra : BRL G S ws us) (e : bmtU m x us = some u) : bmTy m S o = true ∧ ∃ w T, bmt m S o ws = some (w, S ++ T) ∧ Rep (G ++ T) w u := by
  unfold bmtU at e
  split at e
  · cases ra with | cons ra rr =>
      cases rr
      obtain ⟨n, xs, e1, d1, q1⟩ := ro
      subst e1
      obtain ⟨f1, f2⟩ := ra.flat
      obtain ⟨f3, f4⟩ := q1.flat
      split at e
      · rename_i c
        have c' := c
        rw [Bool.and_eq_true] at c'
        simp only [Option.map_eq_some_iff] at e
        obtain ⟨j, e1, e2⟩ := e
        subst e2
        refine ⟨by simp [bmTy, bmStr, listAt, d1], _, [], ?_, .int _⟩
        simp only [bmt, listAt, d1]
        rw [f1, f3, if_pos c, f2 c'.1, f4 c'.2, e1]
        simp
      · cases e
  · cases ra with | cons ra rr =>
      cases rr
      cases ro
      obtain ⟨n, xs, e1, d1, q1⟩ := ra
      subst e1
      split at e
      · rename_i ys hy
        split at e
        · rename_i c
          cases e
          exact ⟨rfl, _, [], by simp only [bmt, listAt, d1, Option.bind_some, q1.strsO hy]; rw [if_pos c]; simp, .str _⟩
        · cases e
      · cases e
  · cases ra with | cons ra rr =>
      cases rr
      cases ro; cases ra
      split at e
      · rename_i c
        cases e
        exact ⟨rfl, _, [_], by simp only [bmt]; rw [if_pos c], Rep.newL h (RepL.strs _)⟩
      · cases e
  · cases ra with | cons ra rr =>
      cases rr
      cases ro; cases ra
      split at e
      · rename_i c
        cases e
        exact ⟨rfl, _, [], by simp only [bmt]; rw [if_pos c]; simp, .tup (.cons (.str _) (.cons (.str _) (.cons (.str _) .nil)))⟩
      · cases e
  · cases e
end Ip

/-! IpUe: expressions. Written by an AI agent. -/
namespace Ip
open PySem (Str)
@[simp] theorem toFl_ok (w : W) (S : Store) (ρ : Env) (k : W → Store → Option (Fl × Env × Store)) : toFl (some (.ok w, S)) ρ k = k w S := rfl
def OG {α β : Type} (P : Store → Store → α → β → Prop) (r : RU β) (x : R α) (S G : Store) : Prop := match r with
  | none => True
  | some (.ok u) => ∃ w T, x = some (.ok w, S ++ T) ∧ P (G ++ T) (S ++ T) w u
  | some (.ex e) => ∃ (y : Exn) (T : Store), x = some (.ex y, S ++ T) ∧ y.cls = e.cls ∧ RepF (G ++ T) y.fs e.fs
def PR (G _S : Store) (w : W) (u : U) : Prop := Rep G w u
def PB (G S : Store) (w : W) (u : U) : Prop := BR G S w u
def PL (G _S : Store) (w : List W) (u : List U) : Prop := RepL G w u
def PBL (G S : Store) (w : List W) (u : List U) : Prop := BRL G S w u
def PE {α : Type} (_G _S : Store) (w u : α) : Prop := w = u
theorem og_app {α β : Type} {P : Store → Store → α → β → Prop} {r : RU β} {x : R α} {S G T : Store} (h : OG P r x (S ++ T) (G ++ T)) : OG P r x S G := by
  unfold OG at h ⊢
  split
  · trivial
  · obtain ⟨w, T', e, p⟩ := h
    exact ⟨w, T ++ T', by rw [e, List.append_assoc], by rw [← List.append_assoc, ← List.append_assoc]; exact p⟩
  · obtain ⟨w, T', e, p⟩ := h
    exact ⟨w, T ++ T', by rw [e, List.append_assoc], by rw [← List.append_assoc]; exact p⟩
theorem og_bnd {α β α' β' : Type} {P : Store → Store → α → β → Prop} {Q : Store → Store → α' → β' → Prop} {r : RU β} {x : R α} {f : β → RU β'} {g : α → Store → R α'} {S G : Store} (h : OG P r x S G)
    (k : ∀ w u T, P (G ++ T) (S ++ T) w u → OG Q (f u) (g w (S ++ T)) (S ++ T) (G ++ T)) : OG Q (bndU r f) (bnd x g) S G := by
  cases r with
  | none => trivial
  | some r => cases r with
    | ok u =>
      obtain ⟨w, T, e, p⟩ := h
      subst e
      exact og_app (k w u T p)
    | ex e =>
      obtain ⟨y, T, e, p⟩ := h
      subst e
      exact ⟨y, T, rfl, p⟩
theorem og_ok {α β : Type} {P : Store → Store → α → β → Prop} {w : α} {u : β} {S G : Store} (h : P G S w u) : OG P (okU u) (rok w S) S G := ⟨w, [], by simp [rok], by simpa using h⟩
theorem og_none {α β : Type} {P : Store → Store → α → β → Prop} {x : R α} {S G : Store} : OG P (none : RU β) x S G := trivial
theorem og_lift {P : Store → Store → W → U → Prop} {r : Option U} {x : Option (W × Store)} {S G : Store} (h : ∀ u, r = some u → ∃ w T, x = some (w, S ++ T) ∧ P (G ++ T) (S ++ T) w u) : OG P (liftU r) (lift x) S G := by
  cases r with
  | none => trivial
  | some u =>
    obtain ⟨w, T, e, p⟩ := h u rfl
    subst e
    exact ⟨w, T, rfl, p⟩
theorem og_imp {α β : Type} {P Q : Store → Store → α → β → Prop} {r : RU β} {x : R α} {S G : Store} (h : OG P r x S G) (k : ∀ T w u, P (G ++ T) (S ++ T) w u → Q (G ++ T) (S ++ T) w u) : OG Q r x S G := by
  unfold OG at h ⊢
  split
  · trivial
  · obtain ⟨w, T, e, p⟩ := h
    exact ⟨w, T, e, k _ _ _ p⟩
  · exact h
structure EI (S G : Store) (ρ : Env) (ρu : EU) : Prop where
  sub : Sub G S
  len : ρ.length = ρu.length
  val : ∀ (i : Nat) (u : U), ρu[i]? = some (.val u) → ∃ w, ρ[i]? = some (some w) ∧ Rep G w u
  own : ∀ (i : Nat) (u : U), ρu[i]? = some (.own u) → ∃ n, ρ[i]? = some (some (.loc n)) ∧ BR G S (.loc n) u
theorem EI.app {S G : Store} {ρ : Env} {ρu : EU} (h : EI S G ρ ρu) (T : Store) : EI (S ++ T) (G ++ T) ρ ρu :=
  ⟨h.sub.app T, h.len, fun i u e => by obtain ⟨w, a, b⟩ := h.val i u e; exact ⟨w, a, b.mono (Le.app _ _)⟩, fun i u e => by obtain ⟨n, a, b⟩ := h.own i u e; exact ⟨n, a, b.app T⟩⟩
theorem EI.set {S G : Store} {ρ : Env} {ρu : EU} (h : EI S G ρ ρu) {i : Nat} {w : W} {u : U} (r : Rep G w u) : EI S G (ρ.set i (some w)) (ρu.set i (.val u)) := by
  refine ⟨h.sub, by simp [h.len], fun j v e => ?_, fun j v e => ?_⟩
  · rw [List.getElem?_set] at e
    split at e
    · rename_i q
      split at e
      · rename_i l
        cases e
        subst q
        exact ⟨w, by rw [List.getElem?_set_self (by rw [h.len]; exact l)], r⟩
      · cases e
    · rename_i q
      rw [List.getElem?_set_ne q]
      exact h.val j v e
  · rw [List.getElem?_set] at e
    split at e
    · split at e <;> cases e
    · rename_i q
      rw [List.getElem?_set_ne q]
      exact h.own j v e
def NO (ρu : EU) (is : List Nat) : Prop := ∀ i ∈ is, ∀ u, ρu[i]? ≠ some (.own u)
theorem NO.l {ρu : EU} {a b : List Nat} (h : NO ρu (a ++ b)) : NO ρu a := fun i hi => h i (List.mem_append_left _ hi)
theorem NO.r {ρu : EU} {a b : List Nat} (h : NO ρu (a ++ b)) : NO ρu b := fun i hi => h i (List.mem_append_right _ hi)
theorem NO.set {ρu : EU} {a : List Nat} (h : NO ρu a) {i : Nat} {u : U} : NO (ρu.set i (.val u)) a := fun j hj v e => by
  rw [List.getElem?_set] at e
  split at e
  · split at e <;> cases e
  · exact h j hj v e
/-- a property of environments that a new value keeps -/
theorem setU_ok {G : Store} {I : Env → EU → Prop} (hI : ∀ ρ ρu i w u, I ρ ρu → Rep G w u → I (ρ.set i (some w)) (ρu.set i (.val u))) {tg : List Nat} {w : W} {u : U} {ρ : Env} {ρu ρu1 : EU} (r : Rep G w u) (i0 : I ρ ρu) (e : setU tg u ρu = some ρu1) :
    ∃ ρ1, setT tg w ρ = some ρ1 ∧ I ρ1 ρu1 := by
  unfold setU at e
  split at e
  · cases e
    exact ⟨_, rfl, hI _ _ _ _ _ i0 r⟩
  · cases e
    cases r with | tup r => cases r with | cons r1 r => cases r with | cons r2 r => cases r; exact ⟨_, rfl, hI _ _ _ _ _ (hI _ _ _ _ _ i0 r1) r2⟩
  · cases e
    cases r with | tup r => cases r with | cons r1 r => cases r with | cons r2 r => cases r with | cons r3 r => cases r; exact ⟨_, rfl, hI _ _ _ _ _ (hI _ _ _ _ _ (hI _ _ _ _ _ i0 r1) r2) r3⟩
  · cases e
    cases r with | tup r => cases r with | cons r1 r => cases r with | cons r2 r => cases r with | cons r3 r => cases r with | cons r4 r => cases r; exact ⟨_, rfl, hI _ _ _ _ _ (hI _ _ _ _ _ (hI _ _ _ _ _ (hI _ _ _ _ _ i0 r1) r2) r3) r4⟩
  · cases e
/-- a list that is new -/
def FrR (G S : Store) (n : Nat) (u : U) : Prop := ∃ us ws, u = .lst us ∧ S[n]? = some (.lst ws) ∧ RepL (G.set n .dead) ws us
structure GOK (Γ : Gam) (Γu : GamU) : Prop where
  call : ∀ f us G S ws, Sub G S → RepL G ws us → OG PR (Γu.call f us) (Γ.call f ws S) S G
  flc : ∀ f us u, Γu.fl f = true → Γu.call f us = some (.ok u) → pureU u = true
  flx : ∀ f us e, Γu.fl f = true → Γu.call f us = some (.ex e) → (e.fs.all fun p => pureU p.2) = true
  frc : ∀ f us G S ws u, Γu.fr f = true → Sub G S → RepL G ws us → Γu.call f us = some (.ok u) → ∃ n T, Γ.call f ws S = some (.ok (.loc n), S ++ T) ∧ S.length ≤ n ∧ FrR (G ++ T) (S ++ T) n u
  make : ∀ c us G S ws, Sub G S → RepL G ws us → OG PR (Γu.make c us) (Γ.make c ws S) S G
  ini : ∀ f d fs us G S ws n gs hs, Sub G S → RepL G ws us → S[n]? = some (.ins d gs) → RepF G gs fs → G[n]? = some .dead → Γu.ini f d fs us = some hs →
    ∃ w T gs' G', Γ.call f (.loc n :: ws) S = some (.ok w, (S ++ T).set n (.ins d gs')) ∧ G'.length = (G ++ T).length ∧ Sub G' ((S ++ T).set n (.ins d gs')) ∧ Le G G' ∧ G'[n]? = some .dead ∧ (∀ m, m < S.length → G'[m]? = G[m]?) ∧ RepF G' gs' hs
  mt : Γu.mt = Γ.mt
  glob : Γu.glob = Γ.glob
  up : Γu.up = Γ.up
  fok : Γu.fok = Γ.fok
  fox : Γu.fox = Γ.fox
end Ip

/-! IpUx: expressions are sound. Written by an AI agent. -/
namespace Ip
open PySem (Str)
section
variable {Γ : Gam} {Γu : GamU}
theorem brw {e : Ex} {ρ : Env} {ρu : EU} {S G : Store} (ih : NO ρu (esc Γu.fl e) → OG PR (evU Γu e ρu) (ev Γ e ρ S) S G) (hI : EI S G ρ ρu) (hn : NO ρu (if isVar e then [] else esc Γu.fl e)) : OG PB (evU Γu e ρu) (ev Γ e ρ S) S G := by
  cases hv : isVar e with
  | false =>
    rw [hv] at hn
    exact og_imp (ih (by simpa using hn)) fun T w u p => Rep.br (hI.sub.app T) p
  | true =>
    cases e <;> simp [isVar] at hv
    rename_i i
    unfold evU ev
    cases hs : ρu[i]? with
    | none => trivial
    | some s => cases s with
      | emp => trivial
      | val u =>
        obtain ⟨w, a, b⟩ := hI.val i u hs
        simp only [a]
        exact og_ok (b.br hI.sub)
      | own u =>
        obtain ⟨n, a, b⟩ := hI.own i u hs
        simp only [a]
        exact og_ok b
theorem og_cm {r x : Option Bool} {S G : Store} (h : ∀ q, r = some q → x = some q) : OG PR (liftU (r.map U.bl)) (match (generalizing := false) x with
    | some k => rok (.bl k) S
    | none => none) S G := by
  cases r with
  | none => trivial
  | some q =>
    rw [h q rfl]
    exact og_ok (.bl q)
theorem og_truth {x : R W} {r : RU U} {S G : Store} (h : OG PR r x S G) : OG PE (truthU r) (truth x) S G := by
  refine og_bnd h fun w u T p => ?_
  cases u <;> first | trivial | (cases p; exact og_ok rfl)
/-- a comprehension's loop -/
theorem lc_ok {g : W → Store → R (Option W)} {gu : U → RU (Option U)} {src : Src} {ws : List W} {us : List U} {S0 G0 : Store} (hs : ∀ T, ∀ i, srcAt (S0 ++ T) i src = some (ws[i]?)) (hr : RepL G0 ws us)
    (hg : ∀ T w u, Rep (G0 ++ T) w u → OG (fun G _ (o : Option W) o' => match o, o' with
      | none, none => True
      | some a, some b => Rep G a b
      | _, _ => False) (gu u) (g w (S0 ++ T)) (S0 ++ T) (G0 ++ T)) :
    ∀ (k i : Nat) (T : Store) (ys : List U), us.length - i < k → i ≤ us.length → lcU gu (us.drop i) = some ys → ∃ zs T', lcL g src k i (S0 ++ T) = some (zs, (S0 ++ T) ++ T') ∧ RepL ((G0 ++ T) ++ T') zs ys
  | 0, i, T, ys, hk, _, _ => by omega
  | k + 1, i, T, ys, hk, hi, e => by
    unfold lcL
    rw [hs T i]
    by_cases hl : i < us.length
    · rw [List.drop_eq_getElem_cons hl] at e
      unfold lcU at e
      obtain ⟨w, hw2, rw_⟩ := hr.get (List.getElem?_eq_getElem hl)
      rw [hw2]
      dsimp only
      have h1 := hg T w us[i] (rw_.mono (Le.app _ _))
      cases h2 : gu us[i] with
      | none => rw [h2] at e; cases e
      | some r => cases r with
        | ex x => rw [h2] at e; cases e
        | ok o =>
          rw [h2] at e h1
          dsimp only at e
          obtain ⟨o', T1, e1, p1⟩ := h1
          cases h3 : lcU gu (us.drop (i + 1)) with
          | none => rw [h3] at e; cases e
          | some ys2 =>
            rw [h3] at e
            dsimp only at e
            cases e
            obtain ⟨zs, T2, e2, p2⟩ := lc_ok hs hr hg k (i + 1) (T ++ T1) ys2 (by omega) hl h3
            rw [← List.append_assoc] at e2
            rw [e1]
            dsimp only
            rw [e2]
            dsimp only
            refine ⟨o'.toList ++ zs, T1 ++ T2, by simp [List.append_assoc], ?_⟩
            have e3 : (G0 ++ T) ++ (T1 ++ T2) = (G0 ++ (T ++ T1)) ++ T2 := by simp [List.append_assoc]
            rw [e3]
            refine RepL.app ?_ p2
            cases o' with
            | none => cases o with
              | none => exact .nil
              | some b => exact p1.elim
            | some a => cases o with
              | none => exact p1.elim
              | some b =>
                have p1 : Rep (G0 ++ T ++ T1) a b := p1
                refine .cons (p1.mono ?_) .nil
                rw [← e3, ← List.append_assoc]
                exact Le.app _ _
    · have e0 : us.drop i = [] := List.drop_eq_nil_of_le (by omega)
      rw [e0] at e
      cases e
      have hw : ws[i]? = none := List.getElem?_eq_none (by rw [hr.length]; omega)
      rw [hw]
      exact ⟨[], [], by simp, .nil⟩
theorem RepL.of_get {G : Store} : ∀ {ws : List W} {us : List U}, ws.length = us.length → (∀ (i : Nat) (w : W) (u : U), ws[i]? = some w → us[i]? = some u → Rep G w u) → RepL G ws us
  | [], [], _, _ => .nil
  | [], _ :: _, h, _ => by simp at h
  | _ :: _, [], h, _ => by simp at h
  | w :: ws, u :: us, h, g => .cons (g 0 w u rfl rfl) (RepL.of_get (by simpa using h) fun i w u a b => g (i + 1) w u (by simpa using a) (by simpa using b))
theorem RepL.chars {G : Store} : ∀ (cs : List Nat), RepL G (cs.map fun c => W.str ⟨#[c]⟩) (cs.map fun c => U.str ⟨#[c]⟩)
  | [] => .nil
  | _ :: r => .cons (.str _) (RepL.chars r)
end
end Ip

/-! IpUy: expressions are sound. Written by an AI agent. -/
namespace Ip
open PySem (Str)
theorem at_app2 {S T : Store} {n : Nat} {c : Cell} (e : S[n]? = some c) : (S ++ T)[n]? = some c := by
  rw [List.getElem?_append_left (List.getElem?_eq_some_iff.mp e).1]
  exact e
/-- what is walked -/
theorem itU_ok {k : Ik} {S G : Store} {vs : List W} {us its : List U} (r : BRL G S vs us) (e : itU k us = some its) :
    ∃ src ws, srcOf k S vs = some src ∧ RepL G ws its ∧ (∀ S', (∀ n c, vs = [.loc n] → S[n]? = some c → S'[n]? = some c) → ∀ i, srcAt S' i src = some (ws[i]?)) := by
  unfold itU at e
  split at e
  · cases e
    cases r with | cons ra rr =>
      cases rr
      obtain ⟨ws, e1, q1⟩ := ra
      subst e1
      exact ⟨_, ws, rfl, q1, fun S' _ i => rfl⟩
  · cases e
    cases r with | cons ra rr =>
      cases rr
      obtain ⟨n, ws, e1, d1, q1⟩ := ra
      subst e1
      exact ⟨.live n, ws, by simp [srcOf, listAt, d1], q1, fun S' h i => by simp [srcAt, listAt, h n _ rfl d1]⟩
  · cases e
    cases r with | cons ra rr =>
      cases rr
      obtain ⟨n, ws, e1, d1, q1⟩ := ra
      subst e1
      exact ⟨.live n, ws, by simp [srcOf, listAt, d1], q1, fun S' h i => by simp [srcAt, listAt, h n _ rfl d1]⟩
  · cases e
    cases r with | cons ra rr =>
      cases rr
      cases ra
      exact ⟨_, _, rfl, RepL.chars _, fun S' _ i => rfl⟩
  · rename_i j1
    cases r with | cons ra rr =>
      cases rr
      cases ra
      split at e
      · rename_i c
        cases e
        exact ⟨_, (List.range j1.toNat).map fun (i : Nat) => W.int (0 + (i : Int)), by simp only [srcOf]; rw [if_pos c], RepL.of_get (by simp) (fun i w u h1 h2 => by
          simp only [List.getElem?_map, Option.map_eq_some_iff] at h1 h2
          obtain ⟨a, a1, a2⟩ := h1
          obtain ⟨b, b1, b2⟩ := h2
          rw [a1] at b1
          cases b1
          subst a2 b2
          exact .int _), fun S' _ i => rfl⟩
      · cases e
  · rename_i i1 j1
    cases r with | cons ra rr =>
      cases rr with | cons rb rr =>
      cases rr
      cases ra
      cases rb
      split at e
      · rename_i c
        cases e
        exact ⟨_, (List.range (j1 - i1).toNat).map fun (k : Nat) => W.int (i1 + (k : Int)), by simp only [srcOf]; rw [if_pos c], RepL.of_get (by simp) (fun i w u h1 h2 => by
          simp only [List.getElem?_map, Option.map_eq_some_iff] at h1 h2
          obtain ⟨a, a1, a2⟩ := h1
          obtain ⟨b, b1, b2⟩ := h2
          rw [a1] at b1
          cases b1
          subst a2 b2
          exact .int _), fun S' _ i => rfl⟩
      · cases e
  · cases e
    cases r with | cons ra rr =>
      cases rr
      obtain ⟨n, ws, e1, d1, q1⟩ := ra
      subst e1
      refine ⟨.enum n, ws.mapIdx fun i w => .tup [.int i, w], by simp [srcOf, listAt, d1], RepL.of_get (by simp [q1.length]) (fun i w u h1 h2 => ?_), fun S' h i => by simp [srcAt, listAt, h n _ rfl d1]⟩
      simp only [List.getElem?_mapIdx, Option.map_eq_some_iff] at h1 h2
      obtain ⟨a, a1, a2⟩ := h1
      obtain ⟨b, b1, b2⟩ := h2
      obtain ⟨w', c1, c2⟩ := q1.get b1
      rw [a1] at c1
      cases c1
      subst a2 b2
      exact .tup (.cons (.int _) (.cons c2 .nil))
  · cases e
section
variable {Γ : Gam} {Γu : GamU}
theorem isa_ok (hΓ : GOK Γ Γu) {S G : Store} {w : W} {u : U} {t : Isa} {q : Bool} (r : BR G S w u) (e : isaU_ Γu u t = some q) : isaW Γ S w t = some q := by
  cases u with
  | non => cases r; exact e
  | bl => cases r; exact e
  | int => cases r; exact e
  | str => cases r; exact e
  | tup us => obtain ⟨ws, e1, q1⟩ := r; subst e1; exact e
  | lst us => obtain ⟨n, ws, e1, d, q1⟩ := r; subst e1; simp only [isaW, d]; exact e
  | fro us => obtain ⟨n, ws, e1, d, q1⟩ := r; subst e1; simp only [isaW, d]; exact e
  | dct us => obtain ⟨n, ws, e1, d, q1⟩ := r; subst e1; simp only [isaW, d]; exact e
  | ins c us => simp [isaU_, tyU] at e
  | exn c us =>
    obtain ⟨n, ws, e1, d, q1⟩ := r
    subst e1
    simp only [isaW, d]
    simp only [isaU_] at e
    split at e
    · rename_i h
      subst h
      cases q1
      rw [if_pos rfl]
      cases t <;> first | exact e | (simp only [isaX, isaXU, hΓ.up] at e ⊢; exact e)
    · cases e
theorem fld_ok (hΓ : GOK Γ Γu) {S G : Store} {w : W} {u v : U} {x : Nat} (r : BR G S w u) (e : fldU Γu u x = some v) : ∃ z, fldW Γ S w x = some z ∧ Rep G z v := by
  unfold fldU at e
  split at e
  · obtain ⟨n, ws, e1, d, q1⟩ := r
    subst e1
    rw [hΓ.fok] at e
    split at e
    · rename_i c
      obtain ⟨z, h1, h2⟩ := (q1.look x).1 _ e
      exact ⟨z, by simp only [fldW, d]; rw [if_pos c, h1], h2⟩
    · cases e
  · obtain ⟨n, ws, e1, d, q1⟩ := r
    subst e1
    rw [hΓ.fox] at e
    split at e
    · rename_i c
      obtain ⟨z, h1, h2⟩ := (q1.look x).1 _ e
      exact ⟨z, by simp only [fldW, d]; rw [if_pos c, h1], h2⟩
    · cases e
  · cases e
theorem toP_ok {S G : Store} {ws : List W} {us : List U} (r : RepL G ws us) : OG PE (toPU us) (toP ws S) S G := by
  unfold toPU toP
  cases h : intsOf (us.map wOf) with
  | none => trivial
  | some l => rw [r.ints h]; exact og_ok rfl
theorem lc_fin {x : Option (List W × Store)} {S G T2 : Store} {zs : List W} {ys : List U} (h : Sub G S) (hc : ys.length ≤ 16777216) (e : x = some (zs, S ++ T2)) (p : RepL (G ++ T2) zs ys) : OG PR (okU (.lst ys)) (match (generalizing := false) x with
    | some (ys, S2) => if ys.length ≤ 16777216 then rok (.loc S2.length) (S2 ++ [.lst ys]) else none
    | none => none) S G := by
  subst e
  dsimp only
  rw [if_pos (by rw [p.length]; exact hc)]
  refine ⟨.loc (S ++ T2).length, T2 ++ [.lst zs], by simp [rok, List.append_assoc], ?_⟩
  have := Rep.newL (h.app T2) p
  rw [← List.append_assoc]
  exact this
mutual
theorem ev_ok (hΓ : GOK Γ Γu) : ∀ (e : Ex) {ρ : Env} {ρu : EU} {S G : Store}, EI S G ρ ρu → NO ρu (esc Γu.fl e) → OG PR (evU Γu e ρu) (ev Γ e ρ S) S G
  | .var i, ρ, ρu, S, G, hI, hn => by
    unfold evU ev
    cases hs : ρu[i]? with
    | none => trivial
    | some s => cases s with
      | emp => trivial
      | val u =>
        obtain ⟨w, a, b⟩ := hI.val i u hs
        simp only [a]
        exact og_ok b
      | own u => exact absurd hs (hn i (by unfold esc; simp) u)
  | .int i, ρ, ρu, S, G, hI, hn => by unfold evU ev; exact og_ok (.int i)
  | .str i, ρ, ρu, S, G, hI, hn => by unfold evU ev; exact og_ok (.str i)
  | .bl i, ρ, ρu, S, G, hI, hn => by unfold evU ev; exact og_ok (.bl i)
  | .non, ρ, ρu, S, G, hI, hn => by unfold evU ev; exact og_ok .non
  | .glob x, ρ, ρu, S, G, hI, hn => by
    unfold evU ev
    rw [hΓ.glob]
    cases Γ.glob x with
    | none => trivial
    | some w =>
      dsimp only
      cases h : uOf w with
      | none => trivial
      | some u => exact og_ok (uOf_rep h)
  | .bin op a b, ρ, ρu, S, G, hI, hn => by
    unfold esc at hn
    unfold evU ev
    exact og_bnd (brw (ev_ok hΓ a hI) hI hn.l) fun x u T p => og_bnd (brw (ev_ok hΓ b (hI.app T)) (hI.app T) hn.r) fun y v T2 q => og_lift fun z hz => op_ok ((hI.app T).app T2).sub (BR.app T2 p) q hz
  | .neg a, ρ, ρu, S, G, hI, hn => by
    unfold esc at hn
    unfold evU ev
    refine og_bnd (ev_ok hΓ a hI hn) fun x u T p => ?_
    cases u <;> first | trivial | (cases p; exact og_ok (.int _))
  | .cmp op a b, ρ, ρu, S, G, hI, hn => by
    unfold esc at hn
    unfold evU ev
    exact og_bnd (brw (ev_ok hΓ a hI) hI hn.l) fun x u T p => og_bnd (brw (ev_ok hΓ b (hI.app T)) (hI.app T) hn.r) fun y v T2 q => og_cm fun z hz => cm_ok ((hI.app T).app T2).sub (BR.app T2 p) q hz
  | .chn o1 o2 a b c, ρ, ρu, S, G, hI, hn => by
    unfold esc at hn
    unfold evU ev
    refine og_bnd (ev_ok hΓ a hI hn.l.l) fun x u T p => og_bnd (ev_ok hΓ b (hI.app T) hn.l.r) fun y v T2 q => ?_
    have sb := ((hI.app T).app T2).sub
    have p1 : BR (G ++ T ++ T2) (S ++ T ++ T2) x u := BR.app T2 (Rep.br (hI.app T).sub p)
    have q1 : BR (G ++ T ++ T2) (S ++ T ++ T2) y v := Rep.br sb q
    cases h : cmU o1 u v with
    | none => trivial
    | some k =>
      rw [cm_ok sb p1 q1 h]
      cases k with
      | false => exact og_ok (.bl false)
      | true => exact og_bnd (ev_ok hΓ c ((hI.app T).app T2) hn.r) fun z w T3 r => og_cm fun k hk => cm_ok (sb.app T3) (q1.app T3) (Rep.br (sb.app T3) r) hk
  | .chn3 o1 o2 o3 a b c d, ρ, ρu, S, G, hI, hn => by
    unfold esc at hn
    unfold evU ev
    refine og_bnd (ev_ok hΓ a hI hn.l.l.l) fun x u T p => og_bnd (ev_ok hΓ b (hI.app T) hn.l.l.r) fun y v T2 q => ?_
    have sb := ((hI.app T).app T2).sub
    have p1 : BR (G ++ T ++ T2) (S ++ T ++ T2) x u := BR.app T2 (Rep.br (hI.app T).sub p)
    have q1 : BR (G ++ T ++ T2) (S ++ T ++ T2) y v := Rep.br sb q
    cases h : cmU o1 u v with
    | none => trivial
    | some k =>
      rw [cm_ok sb p1 q1 h]
      cases k with
      | false => exact og_ok (.bl false)
      | true =>
        refine og_bnd (ev_ok hΓ c ((hI.app T).app T2) hn.l.r) fun z w T3 r => ?_
        have r1 := Rep.br (sb.app T3) r
        cases h : cmU o2 v w with
        | none => trivial
        | some k =>
          rw [cm_ok (sb.app T3) (q1.app T3) r1 h]
          cases k with
          | false => exact og_ok (.bl false)
          | true => exact og_bnd (ev_ok hΓ d (((hI.app T).app T2).app T3) hn.r) fun z w T4 s => og_cm fun k hk => cm_ok ((sb.app T3).app T4) (r1.app T4) (Rep.br ((sb.app T3).app T4) s) hk
  | .and es, ρ, ρu, S, G, hI, hn => by
    unfold esc at hn
    unfold evU ev
    exact evAnd_ok hΓ es hI hn
  | .or es, ρ, ρu, S, G, hI, hn => by
    unfold esc at hn
    unfold evU ev
    exact evOr_ok hΓ es hI hn
  | .not a, ρ, ρu, S, G, hI, hn => by
    unfold esc at hn
    unfold evU ev
    exact og_bnd (og_truth (ev_ok hΓ a hI hn)) fun b c T p => by
      have p : b = c := p
      subst p
      exact og_ok (.bl _)
  | .ite c a b, ρ, ρu, S, G, hI, hn => by
    unfold esc at hn
    unfold evU ev
    exact og_bnd (og_truth (ev_ok hΓ c hI hn.l.l)) fun k k' T p => by
      have p : k = k' := p
      subst p
      cases k with
      | true => exact ev_ok hΓ a (hI.app T) hn.l.r
      | false => exact ev_ok hΓ b (hI.app T) hn.r
  | .tup es, ρ, ρu, S, G, hI, hn => by
    unfold esc at hn
    unfold evU ev
    exact og_bnd (evs_ok hΓ es hI hn) fun ws us T p => og_ok (.tup p)
  | .lst es, ρ, ρu, S, G, hI, hn => by
    unfold esc at hn
    unfold evU ev
    exact og_bnd (evs_ok hΓ es hI hn) fun ws us T p => ⟨_, [.lst ws], rfl, Rep.newL (hI.app T).sub p⟩
  | .idx a i, ρ, ρu, S, G, hI, hn => by
    unfold esc at hn
    unfold evU ev
    refine og_bnd (brw (ev_ok hΓ a hI) hI hn.l) fun x u T p => og_bnd (ev_ok hΓ i (hI.app T) hn.r) fun y v T2 q => ?_
    have sb := ((hI.app T).app T2).sub
    cases h : idxU u v with
    | none => trivial
    | some z =>
      obtain ⟨w, h1, h2⟩ := idx_ok sb (BR.app T2 p) (Rep.br sb q) h
      rw [h1]
      exact og_ok h2
  | .slc a lo hi, ρ, ρu, S, G, hI, hn => by
    unfold esc at hn
    unfold evU ev
    refine og_bnd (brw (ev_ok hΓ a hI) hI hn.l.l) fun x u T p => og_bnd (og_bnd (evs_ok hΓ lo (hI.app T) hn.l.r) fun _ _ _ q => toP_ok q) fun l l' T2 q => og_bnd (og_bnd (evs_ok hΓ hi ((hI.app T).app T2) hn.r) fun _ _ _ q => toP_ok q) fun m m' T3 r => og_lift fun z hz => ?_
    have q : l = l' := q
    have r : m = m' := r
    subst q r
    exact slc_ok (((hI.app T).app T2).app T3).sub (BR.app T3 (BR.app T2 p)) hz
  | .call f es, ρ, ρu, S, G, hI, hn => by
    unfold esc at hn
    unfold evU ev
    cases hf : Γu.fl f with
    | false =>
      rw [hf] at hn
      exact og_bnd (evs_ok hΓ es hI (by simpa using hn)) fun ws us T p => hΓ.call f us _ _ ws (hI.app T).sub p
    | true =>
      rw [hf] at hn
      refine og_bnd (evBs_ok hΓ es hI (by simpa using hn)) fun ws us T p => ?_
      have h := hΓ.call f us (S ++ T) (S ++ T) ws (Sub.refl _) (BRL.rep (hI.app T).sub p)
      cases hr : Γu.call f us with
      | none => trivial
      | some r =>
        rw [hr] at h
        cases r with
        | ok u =>
          obtain ⟨w, T2, e1, p1⟩ := h
          exact ⟨w, T2, e1, Rep.pure p1 (hΓ.flc f us u hf hr)⟩
        | ex e =>
          obtain ⟨y, T2, e1, e2, p1⟩ := h
          exact ⟨y, T2, e1, e2, RepF.pure p1 (hΓ.flx f us e hf hr)⟩
  | .mk c es, ρ, ρu, S, G, hI, hn => by
    unfold esc at hn
    unfold evU ev
    exact og_bnd (evs_ok hΓ es hI hn) fun ws us T p => hΓ.make c us _ _ ws (hI.app T).sub p
  | .callc c m es, ρ, ρu, S, G, hI, hn => by unfold evU; trivial
  | .bif b es, ρ, ρu, S, G, hI, hn => by
    unfold esc at hn
    unfold evU ev
    exact og_bnd (evBs_ok hΓ es hI hn) fun ws us T p => og_lift fun z hz => bf_ok (hI.app T).sub p hz
  | .isi a t, ρ, ρu, S, G, hI, hn => by
    unfold esc at hn
    unfold evU ev
    exact og_bnd (brw (ev_ok hΓ a hI) hI hn) fun x u T p => og_cm fun k hk => isa_ok hΓ p hk
  | .bm o m es, ρ, ρu, S, G, hI, hn => by
    unfold esc at hn
    unfold evU ev
    refine og_bnd (brw (ev_ok hΓ o hI) hI hn.l) fun x u T p => ?_
    cases ht : bmTyU m u with
    | false => trivial
    | true =>
      have ty : bmTy m (S ++ T) x = true := by
        cases u <;> simp [bmTyU] at ht
        · cases p; simp [bmTy, ht]
        · obtain ⟨n, ws, e1, d, q1⟩ := p; subst e1; simp [bmTy, ht, listAt, d]
      rw [ty]
      refine og_bnd (evBs_ok hΓ es (hI.app T) hn.r) fun ws us T2 q => og_lift fun z hz => ?_
      obtain ⟨h1, w, T3, h2, h3⟩ := bm_ok ((hI.app T).app T2).sub (BR.app T2 p) q hz
      exact ⟨w, T3, h2, h3⟩
  | .meth o m es, ρ, ρu, S, G, hI, hn => by
    unfold esc at hn
    unfold evU ev
    refine og_bnd (ev_ok hΓ o hI hn.l) fun x u T p => ?_
    cases u <;> try trivial
    rename_i c fs
    cases p
    rename_i n gs hg hf
    have hs := (hI.app T).sub.2 _ _ hg (by simp)
    simp only [hs, hΓ.mt]
    cases h1 : fs.lookup m with
    | some z => trivial
    | none =>
      rw [(hf.look m).2 h1]
      cases h2 : Γ.mt c m with
      | none => trivial
      | some f =>
        exact og_bnd (evs_ok hΓ es (hI.app T) hn.r) fun ws us T2 q => hΓ.call f _ _ _ _ ((hI.app T).app T2).sub (.cons ((Rep.ins hg hf).mono (Le.app _ _)) q)
  | .fld o x, ρ, ρu, S, G, hI, hn => by
    unfold esc at hn
    unfold evU ev
    refine og_bnd (brw (ev_ok hΓ o hI) hI hn) fun y u T p => ?_
    cases h : fldU Γu u x with
    | none => trivial
    | some z =>
      obtain ⟨w, h1, h2⟩ := fld_ok hΓ p h
      rw [h1]
      exact og_ok h2
  | .lc elt tg k es ifs, ρ, ρu, S, G, hI, hn => by
    unfold esc at hn
    unfold evU ev
    refine og_bnd (evBs_ok hΓ es hI hn.l.r) fun ws us T p => ?_
    cases h : itU k us with
    | none => trivial
    | some its =>
      obtain ⟨src, vs, h1, h2, h3⟩ := itU_ok p h
      rw [h1]
      dsimp only
      generalize hg : (fun u => match setU tg u ρu with
        | none => none
        | some ρ1 => bndU (evAllU Γu ifs ρ1) fun b => match b with
          | true => bndU (evU Γu elt ρ1) fun y => okU (some y)
          | false => okU none) = gu
      cases hl : lcU gu its with
      | none => trivial
      | some ys =>
        dsimp only
        split
        case isFalse => trivial
        rename_i hc
        have key := lc_ok (g := fun w S2 => match setT tg w ρ with
          | none => none
          | some ρ1 => bnd (evAll Γ ifs ρ1 S2) fun b S3 => match b with
            | true => bnd (ev Γ elt ρ1 S3) fun y S4 => rok (some y) S4
            | false => rok none S3) (gu := gu) (src := src) (ws := vs) (us := its) (S0 := S ++ T) (G0 := G ++ T) (fun T2 i => h3 _ (fun n c _ e => at_app2 e) i) h2 (fun T2 w u r => by
            rw [← hg]
            dsimp only
            cases hs : setU tg u ρu with
            | none => trivial
            | some ρ1 =>
              have hI2 := (hI.app T).app T2
              have hnn : NO ρu (esc Γu.fl elt ++ escs Γu.fl ifs) := fun i hi => by
                rcases List.mem_append.mp hi with hi | hi
                · exact hn.l.l i hi
                · exact hn.r i hi
              obtain ⟨ρ2, s1, s2, s3⟩ := setU_ok (I := fun ρ ρu => EI (S ++ T ++ T2) (G ++ T ++ T2) ρ ρu ∧ NO ρu (esc Γu.fl elt ++ escs Γu.fl ifs)) (fun ρ ρu i w u h r => ⟨h.1.set r, h.2.set⟩) r ⟨hI2, hnn⟩ hs
              rw [s1]
              dsimp only
              refine og_bnd (evAll_ok hΓ ifs s2 s3.r) fun b b' T3 q => ?_
              have q : b = b' := q
              subst q
              cases b with
              | false => exact og_ok trivial
              | true => exact og_bnd (ev_ok hΓ elt (s2.app T3) s3.l) fun y v T4 q => og_ok q) big 0 [] ys (by rw [big_eq]; omega) (Nat.zero_le _) (by simpa using hl)
        obtain ⟨zs, T2, e1, p1⟩ := key
        rw [List.append_nil] at e1 p1
        exact lc_fin (hI.app T).sub hc.2 e1 p1
theorem evs_ok (hΓ : GOK Γ Γu) : ∀ (es : List Ex) {ρ : Env} {ρu : EU} {S G : Store}, EI S G ρ ρu → NO ρu (escs Γu.fl es) → OG PL (evsU Γu es ρu) (evs Γ es ρ S) S G
  | [], ρ, ρu, S, G, hI, hn => by unfold evsU evs; exact og_ok .nil
  | e :: es, ρ, ρu, S, G, hI, hn => by
    unfold escs at hn
    unfold evsU evs
    exact og_bnd (ev_ok hΓ e hI hn.l) fun w u T p => og_bnd (evs_ok hΓ es (hI.app T) hn.r) fun ws us T2 q => og_ok (.cons (Rep.mono (Le.app _ _) p) q)
theorem evBs_ok (hΓ : GOK Γ Γu) : ∀ (es : List Ex) {ρ : Env} {ρu : EU} {S G : Store}, EI S G ρ ρu → NO ρu (escBs Γu.fl es) → OG PBL (evsU Γu es ρu) (evs Γ es ρ S) S G
  | [], ρ, ρu, S, G, hI, hn => by unfold evsU evs; exact og_ok .nil
  | e :: es, ρ, ρu, S, G, hI, hn => by
    unfold escBs at hn
    unfold evsU evs
    exact og_bnd (brw (ev_ok hΓ e hI) hI hn.l) fun w u T p => og_bnd (evBs_ok hΓ es (hI.app T) hn.r) fun ws us T2 q => og_ok (.cons (BR.app T2 p) q)
theorem evAnd_ok (hΓ : GOK Γ Γu) : ∀ (es : List Ex) {ρ : Env} {ρu : EU} {S G : Store}, EI S G ρ ρu → NO ρu (escs Γu.fl es) → OG PR (evAndU Γu es ρu) (evAnd Γ es ρ S) S G
  | [], ρ, ρu, S, G, hI, hn => by unfold evAndU; trivial
  | [e], ρ, ρu, S, G, hI, hn => by
    unfold escs at hn
    unfold evAndU evAnd
    exact ev_ok hΓ e hI hn.l
  | e :: e2 :: es, ρ, ρu, S, G, hI, hn => by
    unfold escs at hn
    unfold evAndU evAnd
    exact og_bnd (og_truth (ev_ok hΓ e hI hn.l)) fun b b' T q => by
      have q : b = b' := q
      subst q
      cases b with
      | true => exact evAnd_ok hΓ (e2 :: es) (hI.app T) hn.r
      | false => exact og_ok (.bl false)
theorem evOr_ok (hΓ : GOK Γ Γu) : ∀ (es : List Ex) {ρ : Env} {ρu : EU} {S G : Store}, EI S G ρ ρu → NO ρu (escs Γu.fl es) → OG PR (evOrU Γu es ρu) (evOr Γ es ρ S) S G
  | [], ρ, ρu, S, G, hI, hn => by unfold evOrU; trivial
  | [e], ρ, ρu, S, G, hI, hn => by
    unfold escs at hn
    unfold evOrU evOr
    exact ev_ok hΓ e hI hn.l
  | e :: e2 :: es, ρ, ρu, S, G, hI, hn => by
    unfold escs at hn
    unfold evOrU evOr
    exact og_bnd (og_truth (ev_ok hΓ e hI hn.l)) fun b b' T q => by
      have q : b = b' := q
      subst q
      cases b with
      | false => exact evOr_ok hΓ (e2 :: es) (hI.app T) hn.r
      | true => exact og_ok (.bl true)
theorem evAll_ok (hΓ : GOK Γ Γu) : ∀ (es : List Ex) {ρ : Env} {ρu : EU} {S G : Store}, EI S G ρ ρu → NO ρu (escs Γu.fl es) → OG PE (evAllU Γu es ρu) (evAll Γ es ρ S) S G
  | [], ρ, ρu, S, G, hI, hn => by unfold evAllU evAll; exact og_ok rfl
  | e :: es, ρ, ρu, S, G, hI, hn => by
    unfold escs at hn
    unfold evAllU evAll
    exact og_bnd (og_truth (ev_ok hΓ e hI hn.l)) fun b b' T q => by
      have q : b = b' := q
      subst q
      cases b with
      | true => exact evAll_ok hΓ es (hI.app T) hn.r
      | false => exact og_ok rfl
end
end
end Ip

/-! IpUz: statements are sound. Written by an AI agent. -/
namespace Ip
open PySem (Str)
structure Inv (L0 : Nat → Prop) (S0 G0 S G : Store) (mu : List Nat) (ρ : Env) (ρu : EU) : Prop where
  ei : EI S G ρ ρu
  ll : (∀ n, L0 n → n < S.length) ∧ S0.length ≤ S.length
  bs : ∀ n, L0 n → S[n]? = S0[n]? ∧ G[n]? = G0[n]?
  own : ∀ (i : Nat) (u : U), ρu[i]? = some (.own u) → mu.contains i = true ∧ ∀ n, ρ[i]? = some (some (.loc n)) → ¬ L0 n ∧ G[n]? = some .dead
  dis : ∀ (i j : Nat) (u v : U) (n : Nat), ρu[i]? = some (.own u) → ρu[j]? = some (.own v) → ρ[i]? = some (some (.loc n)) → ρ[j]? = some (some (.loc n)) → i = j
section
variable {L0 : Nat → Prop} {S0 G0 S G : Store} {mu : List Nat} {ρ : Env} {ρu : EU}
theorem Inv.app (h : Inv L0 S0 G0 S G mu ρ ρu) (T : Store) : Inv L0 S0 G0 (S ++ T) (G ++ T) mu ρ ρu :=
  ⟨h.ei.app T, ⟨fun n hn => by have := h.ll.1 n hn; simp; omega, by have := h.ll.2; simp; omega⟩, fun n hn => by
    have := h.ll.1 n hn
    have l := h.ei.sub.1
    rw [List.getElem?_append_left (by omega), List.getElem?_append_left (by omega)]
    exact h.bs n hn, fun i u e => by
    obtain ⟨a, b⟩ := h.own i u e
    exact ⟨a, fun n hn => ⟨(b n hn).1, at_app2 (b n hn).2⟩⟩, h.dis⟩
theorem Inv.set (h : Inv L0 S0 G0 S G mu ρ ρu) {i : Nat} {w : W} {u : U} (r : Rep G w u) : Inv L0 S0 G0 S G mu (ρ.set i (some w)) (ρu.set i (.val u)) := by
  have ne : ∀ (j : Nat) (v : U), (ρu.set i (.val u))[j]? = some (.own v) → i ≠ j ∧ ρu[j]? = some (.own v) := fun j v e => by
    rw [List.getElem?_set] at e
    split at e
    · split at e <;> cases e
    · rename_i q
      exact ⟨q, e⟩
  refine ⟨h.ei.set r, h.ll, h.bs, fun j v e => ?_, fun j k v w n e1 e2 e3 e4 => ?_⟩
  · obtain ⟨q, e⟩ := ne j v e
    rw [List.getElem?_set_ne q]
    exact h.own j v e
  · obtain ⟨q1, e1⟩ := ne j _ e1
    obtain ⟨q2, e2⟩ := ne k _ e2
    rw [List.getElem?_set_ne q1] at e3
    rw [List.getElem?_set_ne q2] at e4
    exact h.dis j k v w n e1 e2 e3 e4
/-- a name's cell is let go -/
theorem Inv.un1 (h : Inv L0 S0 G0 S G mu ρ ρu) (i : Nat) : ∃ G', Inv L0 S0 G0 S G' mu ρ (uno1 ρu i) ∧ Le G G' := by
  unfold uno1
  split
  · rename_i u e
    obtain ⟨n, a, b⟩ := h.ei.own i u e
    obtain ⟨c, d⟩ := h.own i u e
    obtain ⟨d1, d2⟩ := d n a
    have hn : n < S.length := by
      rw [← h.ei.sub.1]
      exact (List.getElem?_eq_some_iff.mp d2).1
    have hle : Le G (G.set n S[n]) := fun m x e1 e2 => by
      by_cases q : n = m
      · subst q; rw [d2] at e1; cases e1; exact absurd rfl e2
      · rw [List.getElem?_set_ne q]; exact e1
    have hat : (G.set n S[n])[n]? = some S[n] := by rw [List.getElem?_set_self (by rw [h.ei.sub.1]; exact hn)]
    have hsub : Sub (G.set n S[n]) S := ⟨by simp [h.ei.sub.1], fun m x e1 e2 => by
      by_cases q : n = m
      · subst q; rw [hat] at e1; cases e1; exact List.getElem?_eq_getElem hn
      · rw [List.getElem?_set_ne q] at e1; exact h.ei.sub.2 m x e1 e2⟩
    have ne : ∀ (j : Nat) (v : U), (ρu.set i (.val u))[j]? = some (.own v) → i ≠ j ∧ ρu[j]? = some (.own v) := fun j v e => by
      rw [List.getElem?_set] at e
      split at e
      · split at e <;> cases e
      · rename_i q
        exact ⟨q, e⟩
    have brm : ∀ {w : W} {v : U}, BR G S w v → BR (G.set n S[n]) S w v := fun {w v} r => by
      cases v with
      | tup us => obtain ⟨ws, e, q⟩ := r; exact ⟨ws, e, q.mono hle⟩
      | lst us => obtain ⟨n, ws, e, d, q⟩ := r; exact ⟨n, ws, e, d, q.mono hle⟩
      | fro us => obtain ⟨n, ws, e, d, q⟩ := r; exact ⟨n, ws, e, d, q.mono hle⟩
      | dct us => obtain ⟨n, ws, e, d, q⟩ := r; exact ⟨n, ws, e, d, q.mono hle⟩
      | ins c us => obtain ⟨n, ws, e, d, q⟩ := r; exact ⟨n, ws, e, d, q.mono hle⟩
      | exn c us => obtain ⟨n, ws, e, d, q⟩ := r; exact ⟨n, ws, e, d, q.mono hle⟩
      | _ => exact r
    have rp : Rep (G.set n S[n]) (.loc n) u := by
      have gt : ∀ {c : Cell}, S[n]? = some c → (G.set n S[n])[n]? = some c := fun hc => by
        rw [hat, ← hc]
        exact (List.getElem?_eq_getElem hn).symm
      cases u with
      | non => cases b
      | bl => cases b
      | int => cases b
      | str => cases b
      | tup us => obtain ⟨ws, e, q⟩ := b; cases e
      | lst us => obtain ⟨n, ws, e, d, q⟩ := b; cases e; exact .lst (gt d) (q.mono hle)
      | fro us => obtain ⟨n, ws, e, d, q⟩ := b; cases e; exact .fro (gt d) (q.mono hle)
      | dct us => obtain ⟨n, ws, e, d, q⟩ := b; cases e; exact .dct (gt d) (q.mono hle)
      | ins c us => obtain ⟨n, ws, e, d, q⟩ := b; cases e; exact .ins (gt d) (q.mono hle)
      | exn c us => obtain ⟨n, ws, e, d, q⟩ := b; cases e; exact .exn (gt d) (q.mono hle)
    refine ⟨G.set n S[n], ⟨⟨hsub, by simp [h.ei.len], fun j v e1 => ?_, fun j v e1 => ?_⟩, h.ll, fun m hm => ?_, fun j v e1 => ?_, fun j k v w m e1 e2 e3 e4 => ?_⟩, hle⟩
    · rw [List.getElem?_set] at e1
      split at e1
      · rename_i q
        split at e1
        · cases e1
          subst q
          exact ⟨_, a, rp⟩
        · cases e1
      · obtain ⟨w, w1, w2⟩ := h.ei.val j v e1
        exact ⟨w, w1, w2.mono hle⟩
    · obtain ⟨q, e1⟩ := ne j v e1
      obtain ⟨w, w1, w2⟩ := h.ei.own j v e1
      exact ⟨w, w1, brm w2⟩
    · rw [List.getElem?_set_ne (show n ≠ m from fun z => d1 (by rw [z]; exact hm))]
      exact h.bs m hm
    · obtain ⟨q, e1⟩ := ne j v e1
      obtain ⟨x, y⟩ := h.own j v e1
      refine ⟨x, fun m hm => ⟨(y m hm).1, ?_⟩⟩
      have : n ≠ m := fun z => q (h.dis i j u v n e e1 a (by rw [z]; exact hm))
      rw [List.getElem?_set_ne this]
      exact (y m hm).2
    · obtain ⟨q1, e1⟩ := ne j _ e1
      obtain ⟨q2, e2⟩ := ne k _ e2
      exact h.dis j k v w m e1 e2 e3 e4
  · exact ⟨G, h, Le.refl _⟩
theorem uno1_not {ρu : EU} {i : Nat} (u : U) : (uno1 ρu i)[i]? ≠ some (.own u) := by
  unfold uno1
  split
  · rename_i v e
    rw [List.getElem?_set_self (List.getElem?_eq_some_iff.mp e).1]
    simp
  · rename_i h
    exact fun e => h u e
theorem uno1_keep {ρu : EU} {i j : Nat} {u : U} (h : (uno1 ρu i)[j]? = some (.own u)) : ρu[j]? = some (.own u) := by
  unfold uno1 at h
  split at h
  · rw [List.getElem?_set] at h
    split at h
    · split at h <;> cases h
    · exact h
  · exact h
theorem Inv.unL : ∀ (is : List Nat) {G : Store} {ρu : EU}, Inv L0 S0 G0 S G mu ρ ρu → ∃ G', Inv L0 S0 G0 S G' mu ρ (is.foldl uno1 ρu) ∧ Le G G' ∧ (∀ (j : Nat) (u : U), (is.foldl uno1 ρu)[j]? = some (Sl.own u) → ρu[j]? = some (Sl.own u) ∧ j ∉ is)
  | [], G, ρu, h => ⟨G, h, Le.refl _, fun j u e => ⟨e, by simp⟩⟩
  | i :: is, G, ρu, h => by
    obtain ⟨G1, h1, l1⟩ := h.un1 i
    obtain ⟨G2, h2, l2, k2⟩ := Inv.unL is h1
    refine ⟨G2, h2, l1.trans l2, fun j u e => ?_⟩
    obtain ⟨a, b⟩ := k2 j u e
    refine ⟨uno1_keep a, ?_⟩
    simp only [List.mem_cons, not_or]
    refine ⟨fun z => ?_, b⟩
    subst z
    exact uno1_not u a
theorem Inv.un (is : List Nat) (h : Inv L0 S0 G0 S G mu ρ ρu) : ∃ G', Inv L0 S0 G0 S G' mu ρ (uno mu is ρu) ∧ Le G G' ∧ NO (uno mu is ρu) is ∧ (∀ (j : Nat) (u : U), (uno mu is ρu)[j]? = some (Sl.own u) → ρu[j]? = some (Sl.own u)) := by
  obtain ⟨G', a, b, c⟩ := h.unL (is.filter mu.contains)
  refine ⟨G', a, b, fun i hi u e => ?_, fun j u e => (c j u e).1⟩
  obtain ⟨d, e2⟩ := c i u e
  exact e2 (List.mem_filter.mpr ⟨hi, (h.own i u d).1⟩)
/-- a name's own cell is changed -/
theorem Inv.mut (h : Inv L0 S0 G0 S G mu ρ ρu) {j n : Nat} {u u' : U} {c : Cell} (e : ρu[j]? = some (.own u)) (a : ρ[j]? = some (some (.loc n))) (hb : BR G (S.set n c) (.loc n) u') : Inv L0 S0 G0 (S.set n c) G mu ρ (ρu.set j (.own u')) := by
  obtain ⟨c1, d⟩ := h.own j u e
  obtain ⟨d1, d2⟩ := d n a
  have hj : j < ρu.length := (List.getElem?_eq_some_iff.mp e).1
  have ne : ∀ (k : Nat) (v : U), (ρu.set j (.own u'))[k]? = some (.own v) → (k = j ∧ v = u') ∨ (j ≠ k ∧ ρu[k]? = some (.own v)) := fun k v e => by
    rw [List.getElem?_set] at e
    split at e
    · rename_i q
      first | rw [if_pos hj] at e | skip
      cases e
      exact .inl ⟨q.symm, rfl⟩
    · rename_i q
      exact .inr ⟨q, e⟩
  have own' : ∀ (k : Nat) (v : U), (ρu.set j (.own u'))[k]? = some (.own v) → ∃ v', ρu[k]? = some (.own v') := fun k v e1 => by
    rcases ne k v e1 with ⟨x, y⟩ | ⟨x, y⟩
    · subst x; exact ⟨_, e⟩
    · exact ⟨_, y⟩
  refine ⟨⟨⟨by simp [h.ei.sub.1], fun m x e1 e2 => ?_⟩, by simp [h.ei.len], fun k v e1 => ?_, fun k v e1 => ?_⟩, ⟨fun m hm => by simpa using h.ll.1 m hm, by simpa using h.ll.2⟩, fun m hm => ?_, fun k v e1 => ?_, fun k l v w m e1 e2 e3 e4 => ?_⟩
  · by_cases q : n = m
    · subst q; rw [d2] at e1; cases e1; exact absurd rfl e2
    · rw [List.getElem?_set_ne q]; exact h.ei.sub.2 m x e1 e2
  · rw [List.getElem?_set] at e1
    split at e1
    · first | (split at e1 <;> cases e1) | cases e1
    · exact h.ei.val k v e1
  · rcases ne k v e1 with ⟨x, y⟩ | ⟨x, y⟩
    · subst x y; exact ⟨n, a, hb⟩
    · obtain ⟨m, m1, m2⟩ := h.ei.own k v y
      refine ⟨m, m1, ?_⟩
      have q : n ≠ m := fun z => x (h.dis j k u v n e y a (by rw [z]; exact m1))
      cases v with
      | tup us => exact m2
      | lst us => obtain ⟨k, ws, e, d, q1⟩ := m2; cases e; exact ⟨m, ws, rfl, by rw [List.getElem?_set_ne q]; exact d, q1⟩
      | fro us => obtain ⟨k, ws, e, d, q1⟩ := m2; cases e; exact ⟨m, ws, rfl, by rw [List.getElem?_set_ne q]; exact d, q1⟩
      | dct us => obtain ⟨k, ws, e, d, q1⟩ := m2; cases e; exact ⟨m, ws, rfl, by rw [List.getElem?_set_ne q]; exact d, q1⟩
      | ins c us => obtain ⟨k, ws, e, d, q1⟩ := m2; cases e; exact ⟨m, ws, rfl, by rw [List.getElem?_set_ne q]; exact d, q1⟩
      | exn c us => obtain ⟨k, ws, e, d, q1⟩ := m2; cases e; exact ⟨m, ws, rfl, by rw [List.getElem?_set_ne q]; exact d, q1⟩
      | _ => exact m2
  · rw [List.getElem?_set_ne (show n ≠ m from fun z => d1 (by rw [z]; exact hm))]
    exact h.bs m hm
  · obtain ⟨v', y⟩ := own' k v e1
    exact h.own k v' y
  · obtain ⟨v', y⟩ := own' k v e1
    obtain ⟨w', z⟩ := own' l w e2
    exact h.dis k l v' w' m y z e3 e4
/-- a name gets a cell of its own -/
theorem Inv.new (h : Inv L0 S0 G0 S G mu ρ ρu) {T : Store} {i n : Nat} {u : U} (hm : mu.contains i = true) (hn : S.length ≤ n) (hb : BR ((G ++ T).set n .dead) (S ++ T) (.loc n) u) (hl : n < (S ++ T).length) : Inv L0 S0 G0 (S ++ T) ((G ++ T).set n .dead) mu (ρ.set i (some (.loc n))) (ρu.set i (.own u)) ∧ Le G ((G ++ T).set n .dead) := by
  have gl := h.ei.sub.1
  have hle : Le G ((G ++ T).set n .dead) := fun m x e1 e2 => by
    have : m < G.length := (List.getElem?_eq_some_iff.mp e1).1
    rw [List.getElem?_set_ne (by omega)]
    exact at_app2 e1
  have old : ∀ {k m : Nat} {v : U}, ρu[k]? = some (.own v) → ρ[k]? = some (some (.loc m)) → m < G.length := fun {k m v} e1 e2 => (List.getElem?_eq_some_iff.mp (((h.own k v e1).2 m e2).2)).1
  have ne : ∀ (k : Nat) (v : U), (ρu.set i (.own u))[k]? = some (.own v) → (k = i ∧ v = u ∧ i < ρu.length) ∨ (i ≠ k ∧ ρu[k]? = some (.own v)) := fun k v e => by
    rw [List.getElem?_set] at e
    split at e
    · rename_i q
      split at e
      · rename_i l
        cases e
        exact .inl ⟨q.symm, rfl, l⟩
      · cases e
    · rename_i q
      exact .inr ⟨q, e⟩
  refine ⟨⟨⟨⟨by simp [gl], fun m x e1 e2 => ?_⟩, by simp [h.ei.len], fun k v e1 => ?_, fun k v e1 => ?_⟩, ⟨fun m hm => by have := h.ll.1 m hm; simp; omega, by have := h.ll.2; simp; omega⟩, fun m hm => ?_, fun k v e1 => ?_, fun k l v w m e1 e2 e3 e4 => ?_⟩, hle⟩
  · by_cases q : n = m
    · subst q; rw [List.getElem?_set_self (by simp [gl] at hl ⊢; omega)] at e1; cases e1; exact absurd rfl e2
    · rw [List.getElem?_set_ne q] at e1; exact (h.ei.sub.app T).2 m x e1 e2
  · rw [List.getElem?_set] at e1
    split at e1
    · split at e1 <;> cases e1
    · rename_i q
      obtain ⟨w, w1, w2⟩ := h.ei.val k v e1
      exact ⟨w, by rw [List.getElem?_set_ne q]; exact w1, w2.mono hle⟩
  · rcases ne k v e1 with ⟨x, y, z⟩ | ⟨x, y⟩
    · subst x y
      exact ⟨n, by rw [List.getElem?_set_self (by rw [h.ei.len]; exact z)], hb⟩
    · obtain ⟨m, m1, m2⟩ := h.ei.own k v y
      refine ⟨m, by rw [List.getElem?_set_ne x]; exact m1, ?_⟩
      cases v with
      | tup us => obtain ⟨ws, e, q1⟩ := m2; exact ⟨ws, e, q1.mono hle⟩
      | lst us => obtain ⟨k, ws, e, d, q1⟩ := m2; exact ⟨k, ws, e, at_app2 d, q1.mono hle⟩
      | fro us => obtain ⟨k, ws, e, d, q1⟩ := m2; exact ⟨k, ws, e, at_app2 d, q1.mono hle⟩
      | dct us => obtain ⟨k, ws, e, d, q1⟩ := m2; exact ⟨k, ws, e, at_app2 d, q1.mono hle⟩
      | ins c us => obtain ⟨k, ws, e, d, q1⟩ := m2; exact ⟨k, ws, e, at_app2 d, q1.mono hle⟩
      | exn c us => obtain ⟨k, ws, e, d, q1⟩ := m2; exact ⟨k, ws, e, at_app2 d, q1.mono hle⟩
      | _ => exact m2
  · have := h.ll.1 m hm
    rw [List.getElem?_set_ne (by omega), List.getElem?_append_left (by omega), List.getElem?_append_left (by omega)]
    exact h.bs m hm
  · rcases ne k v e1 with ⟨x, y, z⟩ | ⟨x, y⟩
    · subst x
      refine ⟨hm, fun m hm2 => ?_⟩
      rw [List.getElem?_set_self (by rw [h.ei.len]; exact z)] at hm2
      cases hm2
      exact ⟨fun hb => by have := h.ll.1 n hb; omega, by rw [List.getElem?_set_self (by simp [gl] at hl ⊢; omega)]⟩
    · obtain ⟨a, b⟩ := h.own k v y
      refine ⟨a, fun m hm2 => ?_⟩
      rw [List.getElem?_set_ne x] at hm2
      have := old y hm2
      rw [List.getElem?_set_ne (by omega)]
      exact ⟨(b m hm2).1, at_app2 (b m hm2).2⟩
  · rcases ne k v e1 with ⟨x, y, z⟩ | ⟨x, y⟩
    · rcases ne l w e2 with ⟨x2, y2, z2⟩ | ⟨x2, y2⟩
      · rw [x, x2]
      · subst x
        rw [List.getElem?_set_self (by rw [h.ei.len]; exact z)] at e3
        rw [List.getElem?_set_ne x2] at e4
        cases e3
        have := old y2 e4
        omega
    · rcases ne l w e2 with ⟨x2, y2, z2⟩ | ⟨x2, y2⟩
      · subst x2
        rw [List.getElem?_set_self (by rw [h.ei.len]; exact z2)] at e4
        rw [List.getElem?_set_ne x] at e3
        cases e4
        have := old y e3
        omega
      · rw [List.getElem?_set_ne x] at e3
        rw [List.getElem?_set_ne x2] at e4
        exact h.dis k l v w m y y2 e3 e4
/-- a name without a value -/
theorem Inv.emp (h : Inv L0 S0 G0 S G mu ρ ρu) {i : Nat} (x : Option W) : Inv L0 S0 G0 S G mu (ρ.set i x) (ρu.set i .emp) := by
  have ne : ∀ (j : Nat) (v : U), (ρu.set i .emp)[j]? = some (.own v) → i ≠ j ∧ ρu[j]? = some (.own v) := fun j v e => by
    rw [List.getElem?_set] at e
    split at e
    · split at e <;> cases e
    · rename_i q
      exact ⟨q, e⟩
  refine ⟨⟨h.ei.sub, by simp [h.ei.len], fun j v e => ?_, fun j v e => ?_⟩, h.ll, h.bs, fun j v e => ?_, fun j k v w n e1 e2 e3 e4 => ?_⟩
  · rw [List.getElem?_set] at e
    split at e
    · split at e <;> cases e
    · rename_i q
      rw [List.getElem?_set_ne q]
      exact h.ei.val j v e
  · obtain ⟨q, e⟩ := ne j v e
    rw [List.getElem?_set_ne q]
    exact h.ei.own j v e
  · obtain ⟨q, e⟩ := ne j v e
    rw [List.getElem?_set_ne q]
    exact h.own j v e
  · obtain ⟨q1, e1⟩ := ne j _ e1
    obtain ⟨q2, e2⟩ := ne k _ e2
    rw [List.getElem?_set_ne q1] at e3
    rw [List.getElem?_set_ne q2] at e4
    exact h.dis j k v w n e1 e2 e3 e4
/-- a cell that nothing names -/
theorem Inv.kill (h : Inv L0 S0 G0 S G mu ρ ρu) {n : Nat} (hd : G[n]? = some .dead) (hl : ¬ L0 n) (hn : ∀ (j : Nat) (v : U), ρu[j]? = some (Sl.own v) → ρ[j]? ≠ some (some (W.loc n))) (c : Cell) : Inv L0 S0 G0 (S.set n c) G mu ρ ρu := by
  refine ⟨⟨⟨by simp [h.ei.sub.1], fun m x e1 e2 => ?_⟩, h.ei.len, h.ei.val, fun j v e => ?_⟩, ⟨fun m hm => by simpa using h.ll.1 m hm, by simpa using h.ll.2⟩, fun m hm => ?_, h.own, h.dis⟩
  · by_cases q : n = m
    · subst q; rw [hd] at e1; cases e1; exact absurd rfl e2
    · rw [List.getElem?_set_ne q]; exact h.ei.sub.2 m x e1 e2
  · obtain ⟨m, m1, m2⟩ := h.ei.own j v e
    refine ⟨m, m1, ?_⟩
    have q : n ≠ m := fun z => hn j v e (by rw [z]; exact m1)
    cases v with
    | lst us => obtain ⟨k, ws, e, d, q1⟩ := m2; cases e; exact ⟨m, ws, rfl, by rw [List.getElem?_set_ne q]; exact d, q1⟩
    | fro us => obtain ⟨k, ws, e, d, q1⟩ := m2; cases e; exact ⟨m, ws, rfl, by rw [List.getElem?_set_ne q]; exact d, q1⟩
    | dct us => obtain ⟨k, ws, e, d, q1⟩ := m2; cases e; exact ⟨m, ws, rfl, by rw [List.getElem?_set_ne q]; exact d, q1⟩
    | ins c us => obtain ⟨k, ws, e, d, q1⟩ := m2; cases e; exact ⟨m, ws, rfl, by rw [List.getElem?_set_ne q]; exact d, q1⟩
    | exn c us => obtain ⟨k, ws, e, d, q1⟩ := m2; cases e; exact ⟨m, ws, rfl, by rw [List.getElem?_set_ne q]; exact d, q1⟩
    | _ => exact m2
  · rw [List.getElem?_set_ne (show n ≠ m from fun z => hl (by rw [z]; exact hm))]
    exact h.bs m hm
/-- an __init__ run on a name's own instance -/
theorem Inv.ini (h : Inv L0 S0 G0 S G mu ρ ρu) {j n : Nat} {dc : Nat} {fs hs : List (Nat × U)} {gs' : List (Nat × W)} {T G' : Store} (e : ρu[j]? = some (.own (.ins dc fs))) (a : ρ[j]? = some (some (.loc n))) (hn : n < S.length)
    (hs' : Sub G' ((S ++ T).set n (.ins dc gs'))) (hl : Le G G') (hd : G'[n]? = some .dead) (hk : ∀ m, m < S.length → G'[m]? = G[m]?) (hr : RepF G' gs' hs) : Inv L0 S0 G0 ((S ++ T).set n (.ins dc gs')) G' mu ρ (ρu.set j (.own (.ins dc hs))) := by
  obtain ⟨c1, d⟩ := h.own j _ e
  obtain ⟨d1, d2⟩ := d n a
  have hj : j < ρu.length := (List.getElem?_eq_some_iff.mp e).1
  have ne : ∀ (k : Nat) (v : U), (ρu.set j (.own (.ins dc hs)))[k]? = some (.own v) → (k = j ∧ v = .ins dc hs) ∨ (j ≠ k ∧ ρu[k]? = some (.own v)) := fun k v e => by
    rw [List.getElem?_set] at e
    split at e
    · rename_i q
      first | rw [if_pos hj] at e | skip
      cases e
      exact .inl ⟨q.symm, rfl⟩
    · rename_i q
      exact .inr ⟨q, e⟩
  have own' : ∀ (k : Nat) (v : U), (ρu.set j (.own (.ins dc hs)))[k]? = some (.own v) → ∃ v', ρu[k]? = some (.own v') := fun k v e1 => by
    rcases ne k v e1 with ⟨x, y⟩ | ⟨x, y⟩
    · subst x; exact ⟨_, e⟩
    · exact ⟨_, y⟩
  have old : ∀ {k m : Nat} {v : U}, ρu[k]? = some (.own v) → ρ[k]? = some (some (.loc m)) → m < S.length := fun {k m v} e1 e2 => by
    have := (List.getElem?_eq_some_iff.mp (((h.own k v e1).2 m e2).2)).1
    rw [h.ei.sub.1] at this
    exact this
  refine ⟨⟨hs', by simp [h.ei.len], fun k v e1 => ?_, fun k v e1 => ?_⟩, ⟨fun m hm => by have := h.ll.1 m hm; simp; omega, by have := h.ll.2; simp; omega⟩, fun m hm => ?_, fun k v e1 => ?_, fun k l v w m e1 e2 e3 e4 => ?_⟩
  · rw [List.getElem?_set] at e1
    split at e1
    · first | (split at e1 <;> cases e1) | cases e1
    · obtain ⟨w, w1, w2⟩ := h.ei.val k v e1
      exact ⟨w, w1, w2.mono hl⟩
  · rcases ne k v e1 with ⟨x, y⟩ | ⟨x, y⟩
    · subst x y
      exact ⟨n, a, n, gs', rfl, by rw [List.getElem?_set_self (by simp; omega)], hr⟩
    · obtain ⟨m, m1, m2⟩ := h.ei.own k v y
      have hm := old y m1
      refine ⟨m, m1, ?_⟩
      have q : n ≠ m := fun z => x (h.dis j k _ v n e y a (by rw [z]; exact m1))
      have at' : ∀ {c : Cell}, S[m]? = some c → ((S ++ T).set n (.ins dc gs'))[m]? = some c := fun hc => by
        rw [List.getElem?_set_ne q]
        exact at_app2 hc
      cases v with
      | tup us => obtain ⟨ws, e, _⟩ := m2; cases e
      | lst us => obtain ⟨k, ws, e, d, q1⟩ := m2; cases e; exact ⟨m, ws, rfl, at' d, q1.mono hl⟩
      | fro us => obtain ⟨k, ws, e, d, q1⟩ := m2; cases e; exact ⟨m, ws, rfl, at' d, q1.mono hl⟩
      | dct us => obtain ⟨k, ws, e, d, q1⟩ := m2; cases e; exact ⟨m, ws, rfl, at' d, q1.mono hl⟩
      | ins c us => obtain ⟨k, ws, e, d, q1⟩ := m2; cases e; exact ⟨m, ws, rfl, at' d, q1.mono hl⟩
      | exn c us => obtain ⟨k, ws, e, d, q1⟩ := m2; cases e; exact ⟨m, ws, rfl, at' d, q1.mono hl⟩
      | _ => exact m2
  · have hm2 := h.ll.1 m hm
    have b := h.bs m hm
    rw [List.getElem?_set_ne (show n ≠ m from fun z => d1 (by rw [z]; exact hm)), List.getElem?_append_left hm2, hk m hm2]
    exact b
  · rcases ne k v e1 with ⟨x, y⟩ | ⟨x, y⟩
    · subst x y
      refine ⟨c1, fun m hm => ?_⟩
      rw [a] at hm
      cases hm
      exact ⟨d1, hd⟩
    · obtain ⟨z1, z2⟩ := h.own k v y
      exact ⟨z1, fun m hm => ⟨(z2 m hm).1, by rw [hk m (old y hm)]; exact (z2 m hm).2⟩⟩
  · obtain ⟨v', y⟩ := own' k v e1
    obtain ⟨w', z⟩ := own' l w e2
    exact h.dis k l v' w' m y z e3 e4
end
end Ip

/-! IpUw: statements are sound. Written by an AI agent. -/
namespace Ip
open PySem (Str)
def RFl (L0 : Nat → Prop) (S G : Store) : Fl → FlU → Prop
  | .nxt, .nxt => True
  | .brk, .brk => True
  | .cnt, .cnt => True
  | .ret w, .ret fr u => Rep G w u ∧ (fr = true → ∃ n us ws, w = .loc n ∧ u = .lst us ∧ ¬ L0 n ∧ S[n]? = some (.lst ws))
  | .ex x, .ex e => x.cls = e.cls ∧ RepF G x.fs e.fs
  | _, _ => False
/-- names that own no list keep their cells -/
def KX (ρ : Env) (ρu : EU) (ρ' : Env) (ρu' : EU) : Prop := ∀ (i : Nat) (u : U), ρu'[i]? = some (.own u) → isLst u = false → (∃ u', ρu[i]? = some (.own u') ∧ isLst u' = false) ∧ ρ'[i]? = ρ[i]?
theorem KX.refl (ρ : Env) (ρu : EU) : KX ρ ρu ρ ρu := fun i u e h => ⟨⟨u, e, h⟩, rfl⟩
theorem KX.trans {ρ ρ1 ρ2 : Env} {ρu ρu1 ρu2 : EU} (h : KX ρ ρu ρ1 ρu1) (g : KX ρ1 ρu1 ρ2 ρu2) : KX ρ ρu ρ2 ρu2 := fun i u e q => by
  obtain ⟨⟨u', e', q'⟩, r⟩ := g i u e q
  obtain ⟨a, b⟩ := h i u' e' q'
  exact ⟨a, r.trans b⟩
theorem KX.un {ρ : Env} {ρu ρu' : EU} (h : ∀ (j : Nat) (u : U), ρu'[j]? = some (Sl.own u) → ρu[j]? = some (Sl.own u)) : KX ρ ρu ρ ρu' := fun i u e q => ⟨⟨u, h i u e, q⟩, rfl⟩
theorem KX.set {ρ : Env} {ρu : EU} {i : Nat} {x : Option W} {u : U} : KX ρ ρu (ρ.set i x) (ρu.set i (.val u)) := fun j v e q => by
  rw [List.getElem?_set] at e
  split at e
  · split at e <;> cases e
  · rename_i z
    rw [List.getElem?_set_ne z]
    exact ⟨⟨v, e, q⟩, rfl⟩
theorem KX.emp {ρ : Env} {ρu : EU} {i : Nat} {x : Option W} : KX ρ ρu (ρ.set i x) (ρu.set i .emp) := fun j v e q => by
  rw [List.getElem?_set] at e
  split at e
  · split at e <;> cases e
  · rename_i z
    rw [List.getElem?_set_ne z]
    exact ⟨⟨v, e, q⟩, rfl⟩
theorem KX.setL {ρ : Env} {ρu : EU} {i : Nat} {x : Option W} {us : List U} : KX ρ ρu (ρ.set i x) (ρu.set i (.own (.lst us))) := fun j v e q => by
  rw [List.getElem?_set] at e
  split at e
  · split at e
    · cases e; cases q
    · cases e
  · rename_i z
    rw [List.getElem?_set_ne z]
    exact ⟨⟨v, e, q⟩, rfl⟩
theorem KX.same {ρ : Env} {ρu : EU} {i : Nat} {u u' : U} (h : ρu[i]? = some (.own u)) (hl : isLst u = false ∨ isLst u' = true) : KX ρ ρu ρ (ρu.set i (.own u')) := fun j v e q => by
  rw [List.getElem?_set] at e
  split at e
  · rename_i z
    subst z
    split at e
    · cases e
      rcases hl with hl | hl
      · exact ⟨⟨u, h, hl⟩, rfl⟩
      · rw [q] at hl; cases hl
    · cases e
  · exact ⟨⟨v, e, q⟩, rfl⟩
def SG (L0 : Nat → Prop) (S0 G0 : Store) (mu : List Nat) (G : Store) (ρ : Env) (ρu : EU) (r : Option (FlU × EU)) (x : Option (Fl × Env × Store)) : Prop := match r with
  | none => True
  | some (f, ρu') => ∃ g ρ' S' G', x = some (g, ρ', S') ∧ Inv L0 S0 G0 S' G' mu ρ' ρu' ∧ Le G G' ∧ KX ρ ρu ρ' ρu' ∧ RFl L0 S' G' g f
section
variable {L0 : Nat → Prop} {S0 G0 S G : Store} {mu : List Nat} {ρ : Env} {ρu : EU} {Γ : Gam} {Γu : GamU}
theorem sg_from {G1 : Store} {ρ1 : Env} {ρu1 : EU} {r : Option (FlU × EU)} {x : Option (Fl × Env × Store)} (hl : Le G G1) (hk : KX ρ ρu ρ1 ρu1) (h : SG L0 S0 G0 mu G1 ρ1 ρu1 r x) : SG L0 S0 G0 mu G ρ ρu r x := by
  unfold SG at h ⊢
  split
  · trivial
  · obtain ⟨g, ρ', S', G', e, i, l, k, f⟩ := h
    exact ⟨g, ρ', S', G', e, i, hl.trans l, hk.trans k, f⟩
theorem sg_fl {α β : Type} {P : Store → Store → α → β → Prop} {r : RU β} {x : R α} {k : β → Option (FlU × EU)} {kw : α → Store → Option (Fl × Env × Store)} {t : R α → Env → (α → Store → Option (Fl × Env × Store)) → Option (Fl × Env × Store)} (ht1 : ∀ w S, t (some (.ok w, S)) ρ kw = kw w S) (ht2 : ∀ e S, t (some (.ex e, S)) ρ kw = some (.ex e, ρ, S)) (hI : Inv L0 S0 G0 S G mu ρ ρu) (h : OG P r x S G) (hk : ∀ w u T, P (G ++ T) (S ++ T) w u → r = some (.ok u) → x = some (.ok w, S ++ T) → Inv L0 S0 G0 (S ++ T) (G ++ T) mu ρ ρu → SG L0 S0 G0 mu G ρ ρu (k u) (kw w (S ++ T))) :
    SG L0 S0 G0 mu G ρ ρu (toFlU r ρu k) (t x ρ kw) := by
  cases r with
  | none => trivial
  | some r => cases r with
    | ok u =>
      obtain ⟨w, T, e, p⟩ := h
      rw [e, ht1]
      exact hk w u T p rfl e (hI.app T)
    | ex e =>
      obtain ⟨y, T, e1, e2, p⟩ := h
      rw [e1, ht2]
      exact ⟨_, _, _, _, rfl, hI.app T, Le.app _ _, KX.refl _ _, e2, p⟩
theorem sg_done {f : FlU} {g : Fl} {G' : Store} {ρ' : Env} {ρu' : EU} (hI : Inv L0 S0 G0 S G' mu ρ' ρu') (hl : Le G G') (hk : KX ρ ρu ρ' ρu') (hf : RFl L0 S G' g f) : SG L0 S0 G0 mu G ρ ρu (some (f, ρu')) (some (g, ρ', S)) := ⟨g, ρ', S, G', rfl, hI, hl, hk, hf⟩
/-! ### new lists -/
theorem op_new {op : Op2} {a b w : W} {S S' : Store} {n : Nat} (h : op2 op S a b = some (.loc n, S')) (hop : op = .add ∨ op = .mul) : n = S.length := by
  unfold op2 at h
  split at h <;> (try split at h) <;> (try split at h) <;> first | (cases h; done) | (cases h; rfl) | (simp at h; done) | (rcases hop with z | z <;> cases z)
theorem slc_new {a : W} {S S' : Store} {lo hi : Option Int} {n : Nat} (h : slc2 S a lo hi = some (.loc n, S')) : n = S.length := by
  unfold slc2 at h
  split at h <;> (try split at h) <;> first | (cases h; done) | (cases h; rfl) | (simp at h; done)
def PN (L : Nat) (G _S : Store) (w : W) (u : U) : Prop := Rep G w u ∧ (isLst u = true → ∃ n, w = .loc n ∧ L ≤ n)
theorem Rep.isL {w : W} {us : List U} (r : Rep G w (.lst us)) : ∃ n, w = .loc n := by cases r; exact ⟨_, rfl⟩
theorem og_pn {L : Nat} {r : RU U} {x : R W} (h : OG PR r x S G) (k : ∀ us w T, r = some (.ok (.lst us)) → x = some (.ok w, S ++ T) → ∃ n, w = .loc n ∧ L ≤ n) : OG (PN L) r x S G := by
  unfold OG at h ⊢
  split
  · trivial
  · obtain ⟨w, T, e, p⟩ := h
    refine ⟨w, T, e, p, fun hl => ?_⟩
    rename_i u
    cases u <;> simp [isLst] at hl
    exact k _ w T rfl e
  · exact h
theorem brP {e : Ex} (hΓ : GOK Γ Γu) (hI : EI S G ρ ρu) (hn : NO ρu (if isVar e then [] else esc Γu.fl e)) : OG PB (evU Γu e ρu) (ev Γ e ρ S) S G := brw (ev_ok hΓ e hI) hI hn
theorem lc_finN {L : Nat} {x : Option (List W × Store)} {S G T2 : Store} {zs : List W} {ys : List U} (h : Sub G S) (hc : ys.length ≤ 16777216) (hL : L ≤ S.length) (e : x = some (zs, S ++ T2)) (p : RepL (G ++ T2) zs ys) : OG (PN L) (okU (.lst ys)) (match (generalizing := false) x with
    | some (ys, S2) => if ys.length ≤ 16777216 then rok (.loc S2.length) (S2 ++ [.lst ys]) else none
    | none => none) S G := by
  subst e
  dsimp only
  rw [if_pos (by rw [p.length]; exact hc)]
  refine ⟨.loc (S ++ T2).length, T2 ++ [.lst zs], by simp [rok, List.append_assoc], ?_, fun _ => ⟨_, rfl, by simp; omega⟩⟩
  have := Rep.newL (h.app T2) p
  rw [← List.append_assoc]
  exact this
theorem fr_ok (hΓ : GOK Γ Γu) {e : Ex} (hI : EI S G ρ ρu) (hn : NO ρu (esc Γu.fl e)) (hf : frE Γu.fr e = true) : OG (PN S.length) (evU Γu e ρu) (ev Γ e ρ S) S G := by
  cases e <;> simp [frE] at hf
  case bin op a b =>
    unfold esc at hn
    unfold evU ev
    refine og_bnd (brP hΓ hI hn.l) fun x u T p => og_bnd (brP hΓ (hI.app T) hn.r) fun y v T2 q => og_lift fun z hz => ?_
    obtain ⟨w, T3, h1, h2⟩ := op_ok ((hI.app T).app T2).sub (BR.app T2 p) q hz
    refine ⟨w, T3, h1, h2, fun hl => ?_⟩
    cases z <;> simp [isLst] at hl
    obtain ⟨n, hn⟩ := Rep.isL h2
    subst hn
    have := op_new (w := .non) h1 (by cases op <;> simp [frE] at hf <;> simp)
    exact ⟨n, rfl, by rw [this]; simp <;> omega⟩
  case lst es =>
    unfold esc at hn
    unfold evU ev
    exact og_bnd (evs_ok hΓ es hI hn) fun ws us T p => ⟨_, [.lst ws], rfl, Rep.newL (hI.app T).sub p, fun _ => ⟨_, rfl, by simp⟩⟩
  case slc a lo hi =>
    unfold esc at hn
    unfold evU ev
    refine og_bnd (brP hΓ hI hn.l.l) fun x u T p => og_bnd (og_bnd (evs_ok hΓ lo (hI.app T) hn.l.r) fun _ _ _ q => toP_ok q) fun l l' T2 q => og_bnd (og_bnd (evs_ok hΓ hi ((hI.app T).app T2) hn.r) fun _ _ _ q => toP_ok q) fun m m' T3 r => og_lift fun z hz => ?_
    have q : l = l' := q
    have r : m = m' := r
    subst q r
    obtain ⟨w, T3, h1, h2⟩ := slc_ok (((hI.app T).app T2).app T3).sub (BR.app T3 (BR.app T2 p)) hz
    refine ⟨w, T3, h1, h2, fun hl => ?_⟩
    cases z <;> simp [isLst] at hl
    obtain ⟨n, hn⟩ := Rep.isL h2
    subst hn
    have := slc_new h1
    exact ⟨n, rfl, by rw [this]; simp <;> omega⟩
  case call f es =>
    have hs : escs Γu.fl es = escs Γu.fl es := rfl
    have h := ev_ok hΓ (.call f es) hI hn
    unfold esc at hn
    cases hfl : Γu.fl f with
    | true =>
      refine og_pn h fun us w T h1 h2 => ?_
      unfold evU at h1
      cases h3 : evsU Γu es ρu with
      | none => rw [h3] at h1; cases h1
      | some r => cases r with
        | ex e => rw [h3] at h1; cases h1
        | ok vs =>
          rw [h3, bndU_ok] at h1
          have := hΓ.flc f vs _ hfl h1
          simp [pureU] at this
    | false =>
      rw [hfl] at hn
      have hn : NO ρu (escs Γu.fl es) := by simpa using hn
      unfold evU ev
      refine og_bnd (evs_ok hΓ es hI hn) fun ws us T p => ?_
      refine og_pn (hΓ.call f us _ _ ws (hI.app T).sub p) fun vs w T2 h1 h2 => ?_
      obtain ⟨n, T3, e1, e2, e3⟩ := hΓ.frc f us (G ++ T) (S ++ T) ws _ hf (hI.app T).sub p h1
      rw [e1] at h2
      have h3 := congrArg Prod.fst (Option.some.inj h2)
      cases h3
      exact ⟨n, rfl, by simp at e2; omega⟩
  case «bif» b es =>
    cases b <;> simp [frE] at hf
    unfold esc at hn
    unfold evU ev
    refine og_bnd (evBs_ok hΓ es hI hn) fun ws us T p => og_lift fun z hz => ?_
    obtain ⟨w, T3, h1, h2⟩ := bf_ok (hI.app T).sub p hz
    refine ⟨w, T3, h1, h2, fun hl => ?_⟩
    cases z <;> simp [isLst] at hl
    obtain ⟨n, hn⟩ := Rep.isL h2
    subst hn
    refine ⟨n, rfl, ?_⟩
    have : n = (S ++ T).length := by
      unfold bfn at h1
      split at h1 <;> first | (rename_i z; cases z; done) | skip
      all_goals first | (rename_i z _; cases z; done) | (rename_i z _ _; cases z; done) | skip
      all_goals (try (split at h1)) <;> first | (have h9 := congrArg Prod.fst (Option.some.inj h1); simp at h9; simp; omega) | (cases h1; done) | skip
    rw [this]; simp
  case lc elt tg k es ifs =>
      unfold esc at hn
      unfold evU ev
      refine og_bnd (evBs_ok hΓ es hI hn.l.r) fun ws us T p => ?_
      cases h : itU k us with
      | none => trivial
      | some its =>
        obtain ⟨src, vs, h1, h2, h3⟩ := itU_ok p h
        rw [h1]
        dsimp only
        generalize hg : (fun u => match setU tg u ρu with
          | none => none
          | some ρ1 => bndU (evAllU Γu ifs ρ1) fun b => match b with
            | true => bndU (evU Γu elt ρ1) fun y => okU (some y)
            | false => okU none) = gu
        cases hl : lcU gu its with
        | none => trivial
        | some ys =>
          dsimp only
          split
          case isFalse => trivial
          rename_i hc
          have key := lc_ok (g := fun w S2 => match setT tg w ρ with
            | none => none
            | some ρ1 => bnd (evAll Γ ifs ρ1 S2) fun b S3 => match b with
              | true => bnd (ev Γ elt ρ1 S3) fun y S4 => rok (some y) S4
              | false => rok none S3) (gu := gu) (src := src) (ws := vs) (us := its) (S0 := S ++ T) (G0 := G ++ T) (fun T2 i => h3 _ (fun n c _ e => at_app2 e) i) h2 (fun T2 w u r => by
              rw [← hg]
              dsimp only
              cases hs : setU tg u ρu with
              | none => trivial
              | some ρ1 =>
                have hI2 := (hI.app T).app T2
                have hnn : NO ρu (esc Γu.fl elt ++ escs Γu.fl ifs) := fun i hi => by
                  rcases List.mem_append.mp hi with hi | hi
                  · exact hn.l.l i hi
                  · exact hn.r i hi
                obtain ⟨ρ2, s1, s2, s3⟩ := setU_ok (I := fun ρ ρu => EI (S ++ T ++ T2) (G ++ T ++ T2) ρ ρu ∧ NO ρu (esc Γu.fl elt ++ escs Γu.fl ifs)) (fun ρ ρu i w u h r => ⟨h.1.set r, h.2.set⟩) r ⟨hI2, hnn⟩ hs
                rw [s1]
                dsimp only
                refine og_bnd (evAll_ok hΓ ifs s2 s3.r) fun b b' T3 q => ?_
                have q : b = b' := q
                subst q
                cases b with
                | false => exact og_ok trivial
                | true => exact og_bnd (ev_ok hΓ elt (s2.app T3) s3.l) fun y v T4 q => og_ok q) big 0 [] ys (by rw [big_eq]; omega) (Nat.zero_le _) (by simpa using hl)
          obtain ⟨zs, T2, e1, p1⟩ := key
          rw [List.append_nil] at e1 p1
          exact lc_finN (hI.app T).sub hc.2 (by simp) e1 p1
end
end Ip

/-! IpUv: statements are sound. Written by an AI agent. -/
namespace Ip
open PySem (Str)
/-! ### a value names a cell once: it is killed -/
mutual
theorem Rep.fun {G : Store} : ∀ {w : W} {u v : U}, Rep G w u → Rep G w v → u = v
  | _, _, _, .non, .non => rfl
  | _, _, _, .bl _, .bl _ => rfl
  | _, _, _, .int _, .int _ => rfl
  | _, _, _, .str _, .str _ => rfl
  | _, _, _, .tup r, .tup q => by rw [RepL.fun r q]
  | _, _, _, .lst e r, h => by
    cases h with
    | lst e2 q => rw [e] at e2; cases e2; rw [RepL.fun r q]
    | fro e2 q => rw [e] at e2; cases e2
    | dct e2 q => rw [e] at e2; cases e2
    | ins e2 q => rw [e] at e2; cases e2
    | exn e2 q => rw [e] at e2; cases e2
  | _, _, _, .fro e r, h => by
    cases h with
    | lst e2 q => rw [e] at e2; cases e2
    | fro e2 q => rw [e] at e2; cases e2; rw [RepL.fun r q]
    | dct e2 q => rw [e] at e2; cases e2
    | ins e2 q => rw [e] at e2; cases e2
    | exn e2 q => rw [e] at e2; cases e2
  | _, _, _, .dct e r, h => by
    cases h with
    | lst e2 q => rw [e] at e2; cases e2
    | fro e2 q => rw [e] at e2; cases e2
    | dct e2 q => rw [e] at e2; cases e2; rw [RepK.fun r q]
    | ins e2 q => rw [e] at e2; cases e2
    | exn e2 q => rw [e] at e2; cases e2
  | _, _, _, .ins e r, h => by
    cases h with
    | lst e2 q => rw [e] at e2; cases e2
    | fro e2 q => rw [e] at e2; cases e2
    | dct e2 q => rw [e] at e2; cases e2
    | ins e2 q => rw [e] at e2; cases e2; rw [RepF.fun r q]
    | exn e2 q => rw [e] at e2; cases e2
  | _, _, _, .exn e r, h => by
    cases h with
    | lst e2 q => rw [e] at e2; cases e2
    | fro e2 q => rw [e] at e2; cases e2
    | dct e2 q => rw [e] at e2; cases e2
    | ins e2 q => rw [e] at e2; cases e2
    | exn e2 q => rw [e] at e2; cases e2; rw [RepF.fun r q]
theorem RepL.fun {G : Store} : ∀ {w : List W} {u v : List U}, RepL G w u → RepL G w v → u = v
  | _, _, _, .nil, .nil => rfl
  | _, _, _, .cons r s, .cons r' s' => by rw [Rep.fun r r', RepL.fun s s']
theorem RepK.fun {G : Store} : ∀ {w : List (Key × W)} {u v : List (Key × U)}, RepK G w u → RepK G w v → u = v
  | _, _, _, .nil, .nil => rfl
  | _, _, _, .cons r s, .cons r' s' => by rw [Rep.fun r r', RepK.fun s s']
theorem RepF.fun {G : Store} : ∀ {w : List (Nat × W)} {u v : List (Nat × U)}, RepF G w u → RepF G w v → u = v
  | _, _, _, .nil, .nil => rfl
  | _, _, _, .cons r s, .cons r' s' => by rw [Rep.fun r r', RepF.fun s s']
end
section
variable {G : Store} {n : Nat} {us0 : List U} (h0 : Rep G (.loc n) (.lst us0))
include h0
mutual
theorem Rep.away : ∀ {w : W} {u : U}, Rep G w u → sizeOf u < sizeOf us0 → Rep (G.set n .dead) w u
  | _, _, .non, _ => .non
  | _, _, .bl b, _ => .bl b
  | _, _, .int b, _ => .int b
  | _, _, .str b, _ => .str b
  | _, _, .tup r, h => .tup (RepL.away r (by simp at h; omega))
  | _, _, .lst (n := m) e r, h => by
    by_cases q : n = m
    · subst q
      have := Rep.fun h0 (.lst e r)
      rw [← U.lst.inj this] at h
      simp at h
      omega
    · exact .lst (by rw [List.getElem?_set_ne q]; exact e) (RepL.away r (by simp at h; omega))
  | _, _, .fro (n := m) e r, h => by
    by_cases q : n = m
    · subst q
      have := Rep.fun h0 (.fro e r)
      cases this
    · exact .fro (by rw [List.getElem?_set_ne q]; exact e) (RepL.away r (by simp at h; omega))
  | _, _, .dct (n := m) e r, h => by
    by_cases q : n = m
    · subst q
      have := Rep.fun h0 (.dct e r)
      cases this
    · exact .dct (by rw [List.getElem?_set_ne q]; exact e) (RepK.away r (by simp at h; omega))
  | _, _, .ins (n := m) e r, h => by
    by_cases q : n = m
    · subst q
      have := Rep.fun h0 (.ins e r)
      cases this
    · exact .ins (by rw [List.getElem?_set_ne q]; exact e) (RepF.away r (by simp at h; omega))
  | _, _, .exn (n := m) e r, h => by
    by_cases q : n = m
    · subst q
      have := Rep.fun h0 (.exn e r)
      cases this
    · exact .exn (by rw [List.getElem?_set_ne q]; exact e) (RepF.away r (by simp at h; omega))
theorem RepL.away : ∀ {w : List W} {u : List U}, RepL G w u → sizeOf u ≤ sizeOf us0 → RepL (G.set n .dead) w u
  | _, _, .nil, _ => .nil
  | _, _, .cons r s, h => .cons (Rep.away r (by simp at h; omega)) (RepL.away s (by simp at h; omega))
theorem RepK.away : ∀ {w : List (Key × W)} {u : List (Key × U)}, RepK G w u → sizeOf u ≤ sizeOf us0 → RepK (G.set n .dead) w u
  | _, _, .nil, _ => .nil
  | _, _, .cons r s, h => .cons (Rep.away r (by simp at h; omega)) (RepK.away s (by simp at h; omega))
theorem RepF.away : ∀ {w : List (Nat × W)} {u : List (Nat × U)}, RepF G w u → sizeOf u ≤ sizeOf us0 → RepF (G.set n .dead) w u
  | _, _, .nil, _ => .nil
  | _, _, .cons r s, h => .cons (Rep.away r (by simp at h; omega)) (RepF.away s (by simp at h; omega))
end
end
theorem Rep.frr {G S : Store} {n : Nat} {us : List U} (hs : Sub G S) (r : Rep G (.loc n) (.lst us)) : FrR G S n (.lst us) := by
  cases r with
  | lst e q => exact ⟨_, _, rfl, hs.2 _ _ e (by simp), RepL.away (.lst e q) q (Nat.le_refl _)⟩
theorem FrR.br {G S : Store} {n : Nat} {u : U} (h : FrR G S n u) : BR (G.set n .dead) S (.loc n) u := by
  obtain ⟨us, ws, e, a, b⟩ := h
  subst e
  exact ⟨n, ws, rfl, a, b⟩
theorem mutOf_ok {e : Ex} {j : Nat} {m : Bm} {es : List Ex} (h : mutOf e = some (j, m, es)) : e = .bm (.var j) m es ∧ bmStr m = false := by
  unfold mutOf at h
  split at h <;> cases h <;> exact ⟨rfl, rfl⟩
theorem mut_ok {m : Bm} {G S : Store} {n : Nat} {xs ws : List W} {us vs : List U} {p : U × List U} (hb : S[n]? = some (.lst xs)) (hr : RepL G xs us) (ha : RepL G ws vs) (e : mutU m us vs = some p) :
    ∃ w xs', bmt m S (.loc n) ws = some (w, S.set n (.lst xs')) ∧ Rep G w p.1 ∧ RepL G xs' p.2 := by
  unfold mutU at e
  split at e
  · cases ha with | cons a r =>
      cases r
      split at e
      · rename_i c
        cases e
        exact ⟨_, _, by simp only [bmt, hb]; rw [if_pos (by rw [hr.length]; exact c)], .non, hr.app (.cons a .nil)⟩
      · cases e
  · cases ha with | cons a r =>
      cases r
      cases a
      split at e
      · rename_i c
        cases hx : L2.ixN us.length _ with
        | none => rw [hx] at e; cases e
        | some k =>
          rw [hx] at e
          simp only [Option.bind_some, Option.map_eq_some_iff] at e
          obtain ⟨v, e1, e2⟩ := e
          subst e2
          obtain ⟨w, w1, w2⟩ := hr.get e1
          exact ⟨w, _, by simp only [bmt, hb]; rw [if_pos c, hr.length, hx]; simp only [Option.bind_some, w1, Option.map_some], w2, hr.erase k⟩
      · cases e
  · cases ha with | cons a r => cases r with | cons b r =>
      cases r
      cases a
      split at e
      · rename_i c
        cases e
        exact ⟨_, _, by simp only [bmt, hb]; rw [if_pos (by rw [hr.length]; exact c)], .non, (hr.take _).app (.cons b (hr.drop _))⟩
      · cases e
  · cases ha
    cases e
    exact ⟨_, _, by simp only [bmt, hb], .non, .nil⟩
  · cases e
section
variable {L0 : Nat → Prop} {S0 G0 S G : Store} {mu : List Nat} {ρ : Env} {ρu : EU} {Γ : Gam} {Γu : GamU}
/-- an expression ahead of a statement: the names that escape are let go -/
theorem sg_un (is : List Nat) (hI : Inv L0 S0 G0 S G mu ρ ρu) {f : EU → Option (FlU × EU)} {x : Option (Fl × Env × Store)} (k : ∀ G' , Inv L0 S0 G0 S G' mu ρ (uno mu is ρu) → NO (uno mu is ρu) is → SG L0 S0 G0 mu G' ρ (uno mu is ρu) (f (uno mu is ρu)) x) : SG L0 S0 G0 mu G ρ ρu (f (uno mu is ρu)) x := by
  obtain ⟨G', a, b, c, d⟩ := hI.un is
  exact sg_from b (KX.un d) (k G' a c)
theorem sg_e {e : Ex} (hΓ : GOK Γ Γu) (hI : Inv L0 S0 G0 S G mu ρ ρu) (hn : NO ρu (esc Γu.fl e)) {k : U → Option (FlU × EU)} {kw : W → Store → Option (Fl × Env × Store)}
    (hk : ∀ w u T, Rep (G ++ T) w u → evU Γu e ρu = some (.ok u) → ev Γ e ρ S = some (.ok w, S ++ T) → Inv L0 S0 G0 (S ++ T) (G ++ T) mu ρ ρu → SG L0 S0 G0 mu G ρ ρu (k u) (kw w (S ++ T))) : SG L0 S0 G0 mu G ρ ρu (toFlU (evU Γu e ρu) ρu k) (toFl (ev Γ e ρ S) ρ kw) :=
  sg_fl (t := fun x ρ k => toFl x ρ k) (fun _ _ => rfl) (fun _ _ => rfl) hI (ev_ok hΓ e hI.ei hn) hk
theorem sg_es {es : List Ex} (hΓ : GOK Γ Γu) (hI : Inv L0 S0 G0 S G mu ρ ρu) (hn : NO ρu (escs Γu.fl es)) {k : List U → Option (FlU × EU)} {kw : List W → Store → Option (Fl × Env × Store)}
    (hk : ∀ w u T, RepL (G ++ T) w u → evsU Γu es ρu = some (.ok u) → evs Γ es ρ S = some (.ok w, S ++ T) → Inv L0 S0 G0 (S ++ T) (G ++ T) mu ρ ρu → SG L0 S0 G0 mu G ρ ρu (k u) (kw w (S ++ T))) : SG L0 S0 G0 mu G ρ ρu (toFlU (evsU Γu es ρu) ρu k) (toFls (evs Γ es ρ S) ρ kw) :=
  sg_fl (t := fun x ρ k => toFls x ρ k) (fun _ _ => rfl) (fun _ _ => rfl) hI (evs_ok hΓ es hI.ei hn) hk
theorem for_ok {step : W → Env → Store → Option (Fl × Env × Store)} {stepU : U → EU → Option (FlU × EU)} {src : Src} {ws : List W} {us : List U} (hr : RepL G ws us)
    (hsrc : ∀ S' G', Le G G' → Sub G' S' → ∀ i, srcAt S' i src = some (ws[i]?))
    (hst : ∀ w u ρ ρu S' G', Le G G' → Rep G' w u → Inv L0 S0 G0 S' G' mu ρ ρu → SG L0 S0 G0 mu G' ρ ρu (stepU u ρu) (step w ρ S')) :
    ∀ (k i : Nat) (ρ : Env) (ρu : EU) (S' G' : Store), us.length - i < k → i ≤ us.length → Le G G' → Inv L0 S0 G0 S' G' mu ρ ρu → SG L0 S0 G0 mu G' ρ ρu (forU stepU (us.drop i) ρu) (forL step src k i ρ S')
  | 0, i, ρ, ρu, S', G', hk, _, _, _ => by omega
  | k + 1, i, ρ, ρu, S', G', hk, hi, hl, hI => by
    unfold forL
    rw [hsrc S' G' hl hI.ei.sub i]
    by_cases hlt : i < us.length
    · obtain ⟨w, hw2, rw_⟩ := hr.get (List.getElem?_eq_getElem hlt)
      rw [List.drop_eq_getElem_cons hlt, hw2]
      unfold forU
      dsimp only
      have h1 := hst w us[i] ρ ρu S' G' hl (rw_.mono hl) hI
      cases h2 : stepU us[i] ρu with
      | none => trivial
      | some p =>
        obtain ⟨f, ρu1⟩ := p
        rw [h2] at h1
        obtain ⟨g, ρ1, S1, G1, e1, i1, l1, k1, r1⟩ := h1
        rw [e1]
        cases f <;> cases g <;> first | exact r1.elim | skip
        · exact sg_from l1 k1 (for_ok hr hsrc hst k (i + 1) ρ1 ρu1 S1 G1 (by omega) hlt (hl.trans l1) i1)
        · exact sg_done i1 l1 k1 trivial
        · exact sg_from l1 k1 (for_ok hr hsrc hst k (i + 1) ρ1 ρu1 S1 G1 (by omega) hlt (hl.trans l1) i1)
        · exact sg_done i1 l1 k1 r1
        · exact sg_done i1 l1 k1 r1
    · have e0 : us.drop i = [] := List.drop_eq_nil_of_le (by omega)
      have hw : ws[i]? = none := List.getElem?_eq_none (by rw [hr.length]; omega)
      rw [e0, hw]
      unfold forU
      exact sg_done hI (Le.refl _) (KX.refl _ _) trivial
theorem whl_ok {is : List Nat} {c : Env → Store → R Bool} {cu : EU → RU Bool} {b : Env → Store → Option (Fl × Env × Store)} {bu : EU → Option (FlU × EU)}
    (hc : ∀ ρ ρu S G, Inv L0 S0 G0 S G mu ρ ρu → NO ρu is → OG PE (cu ρu) (c ρ S) S G) (hb : ∀ ρ ρu S G, Inv L0 S0 G0 S G mu ρ ρu → SG L0 S0 G0 mu G ρ ρu (bu ρu) (b ρ S)) :
    ∀ (k : Nat) (ρ : Env) (ρu : EU) (S G : Store), Inv L0 S0 G0 S G mu ρ ρu → SG L0 S0 G0 mu G ρ ρu (whlU (uno mu is) cu bu k ρu) (whlL c b k ρ S)
  | 0, ρ, ρu, S, G, hI => by unfold whlU; trivial
  | k + 1, ρ, ρu, S, G, hI => by
    unfold whlU whlL
    obtain ⟨G', a, l, n, d⟩ := hI.un is
    refine sg_from l (KX.un d) ?_
    generalize uno mu is ρu = ρv at a n
    have h1 := hc ρ ρv S G' a n
    cases h2 : cu ρv with
    | none => trivial
    | some r =>
      rw [h2] at h1
      cases r with
      | ex e =>
        obtain ⟨y, T, e1, e2, p⟩ := h1
        rw [e1]
        exact sg_done (a.app T) (Le.app _ _) (KX.refl _ _) ⟨e2, p⟩
      | ok q =>
        obtain ⟨q', T, e1, p⟩ := h1
        have p : q' = q := p
        subst p
        rw [e1]
        cases q' with
        | false => exact sg_done (a.app T) (Le.app _ _) (KX.refl _ _) trivial
        | true =>
          dsimp only
          have h3 := hb ρ ρv (S ++ T) (G' ++ T) (a.app T)
          refine sg_from (Le.app _ T) (KX.refl _ _) ?_
          cases h4 : bu ρv with
          | none => trivial
          | some p =>
            obtain ⟨f, ρu1⟩ := p
            rw [h4] at h3
            obtain ⟨g, ρ1, S1, G1, e1, i1, l1, k1, r1⟩ := h3
            rw [e1]
            cases f <;> cases g <;> first | exact r1.elim | skip
            · exact sg_from l1 k1 (whl_ok hc hb k ρ1 ρu1 S1 G1 i1)
            · exact sg_done i1 l1 k1 trivial
            · exact sg_from l1 k1 (whl_ok hc hb k ρ1 ρu1 S1 G1 i1)
            · exact sg_done i1 l1 k1 r1
            · exact sg_done i1 l1 k1 r1
end
end Ip

/-! IpUt: statements are sound; calls. Written by an AI agent. -/
namespace Ip
open PySem (Str)
section
variable {L0 : Nat → Prop} {S0 G0 : Store} {mu : List Nat} {Γ : Gam} {Γu : GamU}
/-- the invariant with the start's cells -/
def IK (L0 : Nat → Prop) (S0 G0 S G : Store) (mu : List Nat) (ρ0 : Env) (ρu0 : EU) (ρ : Env) (ρu : EU) : Prop := Inv L0 S0 G0 S G mu ρ ρu ∧ KX ρ0 ρu0 ρ ρu
theorem setT_inv {S G : Store} {tg : List Nat} {w : W} {u : U} {ρ : Env} {ρu ρu1 : EU} (r : Rep G w u) (h : Inv L0 S0 G0 S G mu ρ ρu) (e : setU tg u ρu = some ρu1) : ∃ ρ1, setT tg w ρ = some ρ1 ∧ Inv L0 S0 G0 S G mu ρ1 ρu1 ∧ KX ρ ρu ρ1 ρu1 := by
  obtain ⟨ρ1, a, b⟩ := setU_ok (I := IK L0 S0 G0 S G mu ρ ρu) (fun ρ ρu i w u h r => ⟨h.1.set r, h.2.trans KX.set⟩) r ⟨h, KX.refl _ _⟩ e
  exact ⟨ρ1, a, b⟩
theorem own_at {S G : Store} {ρ : Env} {ρu : EU} {j : Nat} {u : U} (h : Inv L0 S0 G0 S G mu ρ ρu) (e : ρu[j]? = some (.own u)) : ∃ n, ρ[j]? = some (some (.loc n)) ∧ BR G S (.loc n) u ∧ ¬ L0 n ∧ G[n]? = some .dead := by
  obtain ⟨n, a, b⟩ := h.ei.own j u e
  exact ⟨n, a, b, ((h.own j u e).2 n a).1, ((h.own j u e).2 n a).2⟩
theorem ev_var {ρ : Env} {S : Store} {j : Nat} {w : W} (a : ρ[j]? = some (some w)) : ev Γ (.var j) ρ S = some (.ok w, S) := by
  unfold ev
  simp only [a]
  rfl
theorem iniOf_ok {e : Ex} {c m j : Nat} {es : List Ex} (h : iniOf e = some (c, m, j, es)) : e = .callc c m (.var j :: es) := by
  unfold iniOf at h
  split at h <;> cases h
  rfl
/-- a change of a name's own list, as an expression -/
theorem mut_ev (hΓ : GOK Γ Γu) {S G : Store} {ρ : Env} {ρu : EU} {j : Nat} {m : Bm} {es : List Ex} (hI : Inv L0 S0 G0 S G mu ρ ρu) (hn : NO ρu (escs Γu.fl es)) (hm : bmStr m = false) {xs : List U} (hx : ρu[j]? = some (.own (.lst xs)))
    {k : U × List U → Option (FlU × EU)} {kw : W → Store → Option (Fl × Env × Store)}
    (hk : ∀ w p n T xs', Rep (G ++ T) w p.1 → RepL (G ++ T) xs' p.2 → ρ[j]? = some (some (.loc n)) → Inv L0 S0 G0 ((S ++ T).set n (.lst xs')) (G ++ T) mu ρ (ρu.set j (.own (.lst p.2))) → SG L0 S0 G0 mu G ρ ρu (k p) (kw w ((S ++ T).set n (.lst xs')))) :
    SG L0 S0 G0 mu G ρ ρu (toFlU (evsU Γu es ρu) ρu fun us => (mutU m xs us).bind k) (toFl (ev Γ (.bm (.var j) m es) ρ S) ρ kw) := by
  obtain ⟨n, a, b, c, d⟩ := own_at hI hx
  obtain ⟨n', ws, e0, e1, e2⟩ := b
  cases e0
  have ty : bmTy m S (.loc n) = true := by simp [bmTy, hm, listAt, e1]
  unfold ev
  rw [ev_var a, bnd_ok, ty]
  dsimp only
  have h := evs_ok hΓ es hI.ei hn
  cases h1 : evsU Γu es ρu with
  | none => trivial
  | some r =>
    rw [h1] at h
    cases r with
    | ex e =>
      obtain ⟨y, T, f1, f2, p⟩ := h
      rw [f1]
      exact sg_done (hI.app T) (Le.app _ _) (KX.refl _ _) ⟨f2, p⟩
    | ok vs =>
      obtain ⟨vs', T, f1, p⟩ := h
      rw [f1, bnd_ok]
      show SG L0 S0 G0 mu G ρ ρu ((mutU m xs vs).bind k) _
      cases h2 : mutU m xs vs with
      | none => trivial
      | some p2 =>
        obtain ⟨w, xs', g1, g2, g3⟩ := mut_ok (S := S ++ T) (at_app2 e1) (e2.mono (Le.app _ _)) p h2
        rw [g1]
        refine hk w p2 n T xs' g2 g3 a ?_
        have hI2 := hI.app T
        have hl : n < (S ++ T).length := (List.getElem?_eq_some_iff.mp (at_app2 (T := T) e1)).1
        exact hI2.mut hx a ⟨n, xs', rfl, by rw [List.getElem?_set_self hl], g3⟩
theorem map_bind {α β : Type} (x : Option α) (f : α → β) : x.map f = x.bind fun a => some (f a) := by cases x <;> rfl
theorem isOwnAt_ok {ρu : EU} {e : Ex} (h : isOwnAt ρu e = true) : ∃ i us, e = .var i ∧ ρu[i]? = some (.own (.lst us)) := by
  unfold isOwnAt at h
  split at h
  · split at h
    · rename_i u hu
      cases u <;> simp [isLst] at h
      exact ⟨_, _, rfl, hu⟩
    · cases h
  · cases h
mutual
theorem x1_ok (hΓ : GOK Γ Γu) : ∀ (s : Sx) {ρ : Env} {ρu : EU} {S G : Store}, Inv L0 S0 G0 S G mu ρ ρu → SG L0 S0 G0 mu G ρ ρu (x1U Γu mu s ρu) (x1 Γ s ρ S)
  | .asg i e, ρ, ρu, S, G, hI => by
    unfold x1U x1
    cases hm : mutOf e with
    | some t =>
      obtain ⟨j, m, es⟩ := t
      obtain ⟨e0, hs⟩ := mutOf_ok hm
      subst e0
      dsimp only
      obtain ⟨G', hI', hl, hn, hd⟩ := hI.un (escs Γu.fl es)
      refine sg_from hl (KX.un hd) ?_
      generalize uno mu (escs Γu.fl es) ρu = ρv at hI' hn
      split
      · rename_i xs hx
        simp only [map_bind]
        exact mut_ev hΓ hI' hn hs hx fun w p n T xs' r1 r2 a h => sg_done (h.set r1) (Le.app _ _) ((KX.same hx (.inr rfl)).trans KX.set) trivial
      · trivial
    | none =>
      dsimp only
      obtain ⟨G', hI', hl, hn, hd⟩ := hI.un (esc Γu.fl e)
      refine sg_from hl (KX.un hd) ?_
      generalize uno mu (esc Γu.fl e) ρu = ρv at hI' hn
      cases hc : (mu.contains i && frE Γu.fr e) with
      | false =>
        refine sg_e hΓ hI' hn fun w u T r e1 e2 h => ?_
        have : slot mu i (frE Γu.fr e) u = .val u := by unfold slot; rw [hc]; rfl
        rw [this]
        exact sg_done (h.set r) (Le.app _ _) KX.set trivial
      | true =>
        rw [Bool.and_eq_true] at hc
        refine sg_fl (t := fun x ρ k => toFl x ρ k) (fun _ _ => rfl) (fun _ _ => rfl) hI' (fr_ok hΓ hI'.ei hn hc.2) fun w u T r e1 e2 h => ?_
        cases hu : isLst u with
        | false =>
          have : slot mu i (frE Γu.fr e) u = .val u := by simp [slot, hu]
          rw [this]
          exact sg_done (h.set r.1) (Le.app _ _) KX.set trivial
        | true =>
          have : slot mu i (frE Γu.fr e) u = .own u := by unfold slot; rw [hc.1, hc.2, hu]; rfl
          rw [this]
          obtain ⟨n, en, hn2⟩ := r.2 hu
          subst en
          cases u <;> simp [isLst] at hu
          rename_i us
          have hf := Rep.frr h.ei.sub r.1
          have hlen : n < (S ++ T).length := by
            obtain ⟨_, ws, _, a, _⟩ := hf
            exact (List.getElem?_eq_some_iff.mp a).1
          obtain ⟨i2, l2⟩ := hI'.new hc.1 hn2 hf.br hlen
          exact sg_done i2 l2 KX.setL trivial
  | .unp is e, ρ, ρu, S, G, hI => by
    unfold x1U x1
    dsimp only
    obtain ⟨G', hI', hl, hn, hd⟩ := hI.un (esc Γu.fl e)
    refine sg_from hl (KX.un hd) ?_
    generalize uno mu (esc Γu.fl e) ρu = ρv at hI' hn
    refine sg_e hΓ hI' hn fun w u T r e1 e2 h => ?_
    cases u <;> try trivial
    rename_i us
    cases hs : setU is (.tup us) ρv with
    | none => simp only [hs]; trivial
    | some ρ1 =>
      obtain ⟨ρ2, a, b, c⟩ := setT_inv r h hs
      simp only [hs]
      cases r with | tup q =>
        dsimp only
        rw [a]
        exact sg_done b (Le.app _ _) c trivial
  | .par i j a b, ρ, ρu, S, G, hI => by
    unfold x1U x1
    dsimp only
    obtain ⟨G', hI', hl, hn, hd⟩ := hI.un (esc Γu.fl a ++ esc Γu.fl b)
    refine sg_from hl (KX.un hd) ?_
    generalize uno mu (esc Γu.fl a ++ esc Γu.fl b) ρu = ρv at hI' hn
    refine sg_e hΓ hI' hn.l fun w u T r e1 e2 h => ?_
    refine sg_from (Le.app _ T) (KX.refl _ _) (sg_e hΓ h hn.r fun w2 u2 T2 r2 f1 f2 h2 => ?_)
    exact sg_done ((h2.set (Rep.mono (Le.app _ _) r)).set r2) (Le.app _ _) (KX.set.trans KX.set) trivial
  | .sub o i e, ρ, ρu, S, G, hI => by
    unfold x1U x1
    cases o <;> simp only [varOf] <;> try trivial
    rename_i j
    obtain ⟨G', hI', hl, hn, hd⟩ := hI.un (esc Γu.fl e ++ esc Γu.fl i)
    refine sg_from hl (KX.un hd) ?_
    generalize uno mu (esc Γu.fl e ++ esc Γu.fl i) ρu = ρv at hI' hn
    split
    · rename_i xs hx
      obtain ⟨n, a, b, c, d⟩ := own_at hI' hx
      obtain ⟨n', ws, e0, g1, g2⟩ := b
      cases e0
      refine sg_e hΓ hI' hn.l fun w u T r e1 e2 h => ?_
      rw [ev_var a, toFl_ok]
      refine sg_from (Le.app _ T) (KX.refl _ _) (sg_e hΓ h hn.r fun w2 u2 T2 r2 f1 f2 h2 => ?_)
      cases u2 <;> try trivial
      rename_i k
      cases r2
      dsimp only
      have g3 : (S ++ T ++ T2)[n]? = some (.lst ws) := at_app2 (at_app2 g1)
      cases hk : L2.ixN xs.length k with
      | none => simp only [Option.map_none]; trivial
      | some m =>
        simp only [setIx, g3, g2.length, hk, Option.map_some]
        have hlen : n < (S ++ T ++ T2).length := (List.getElem?_eq_some_iff.mp g3).1
        exact sg_done (h2.mut hx a ⟨n, _, rfl, by rw [List.getElem?_set_self hlen], ((g2.mono (Le.app _ _)).mono (Le.app _ _)).set m (Rep.mono (Le.app _ _) r)⟩) (Le.app _ _) (KX.same hx (.inr rfl)) trivial
    · trivial
  | .fset o x e, ρ, ρu, S, G, hI => by
    unfold x1U x1
    cases o <;> simp only [varOf] <;> try trivial
    rename_i j
    obtain ⟨G', hI', hl, hn, hd⟩ := hI.un (esc Γu.fl e)
    refine sg_from hl (KX.un hd) ?_
    generalize uno mu (esc Γu.fl e) ρu = ρv at hI' hn
    refine sg_e hΓ hI' hn fun w u T r e1 e2 h => ?_
    split
    · rename_i c fs hx
      split
      · rename_i hc
        obtain ⟨n, a, b, c1, d⟩ := own_at h hx
        obtain ⟨n', gs, e0, g1, g2⟩ := b
        cases e0
        rw [ev_var a]
        rw [hΓ.fok] at hc
        simp only [toFl_ok, setFl, g1]
        rw [if_pos ⟨hc.1, by rw [g2.length]; exact hc.2⟩]
        have hlen : n < (S ++ T).length := (List.getElem?_eq_some_iff.mp g1).1
        exact sg_done (h.mut hx a ⟨n, _, rfl, by rw [List.getElem?_set_self hlen], g2.put x r⟩) (Le.app _ _) (KX.same hx (.inl rfl)) trivial
      · trivial
    · trivial
  | .aug i op e, ρ, ρu, S, G, hI => by
    unfold x1U x1
    dsimp only
    obtain ⟨G', hI', hl, hn, hd⟩ := hI.un (esc Γu.fl e)
    refine sg_from hl (KX.un hd) ?_
    generalize uno mu (esc Γu.fl e) ρu = ρv at hI' hn
    split
    · rename_i a ha
      obtain ⟨w0, a1, a2⟩ := hI'.ei.val i a ha
      simp only [a1]
      refine sg_e hΓ hI' hn fun w u T r e1 e2 h => ?_
      cases hx : augU op a u with
      | none => trivial
      | some v =>
        have : augW op w0 w = some (wOf v) ∧ Rep (G' ++ T) (wOf v) v := by
          unfold augU at hx
          split at hx
          · cases a2; cases r; cases hx; exact ⟨rfl, .int _⟩
          · cases a2; cases r; cases hx; exact ⟨rfl, .int _⟩
          · cases hx
        rw [this.1]
        exact sg_done (h.set this.2) (Le.app _ _) KX.set trivial
    · trivial
  | .augs _ _ _ _, ρ, ρu, S, G, hI => by unfold x1U; trivial
  | .exp e, ρ, ρu, S, G, hI => by
    unfold x1U x1
    cases hm : mutOf e with
    | some t =>
      obtain ⟨j, m, es⟩ := t
      obtain ⟨e0, hs⟩ := mutOf_ok hm
      subst e0
      dsimp only
      obtain ⟨G', hI', hl, hn, hd⟩ := hI.un (escs Γu.fl es)
      refine sg_from hl (KX.un hd) ?_
      generalize uno mu (escs Γu.fl es) ρu = ρv at hI' hn
      split
      · rename_i xs hx
        simp only [map_bind]
        exact mut_ev hΓ hI' hn hs hx fun w p n T xs' r1 r2 a h => sg_done h (Le.app _ _) (KX.same hx (.inr rfl)) trivial
      · trivial
    | none =>
      cases hi : iniOf e with
      | some t =>
        obtain ⟨c, m, j, es⟩ := t
        have e0 := iniOf_ok hi
        subst e0
        dsimp only
        obtain ⟨G', hI', hl, hn, hd⟩ := hI.un (escs Γu.fl es)
        refine sg_from hl (KX.un hd) ?_
        generalize uno mu (escs Γu.fl es) ρu = ρv at hI' hn
        split
        · rename_i d fs f hx hf
          obtain ⟨n, a, b, c1, d1⟩ := own_at hI' hx
          obtain ⟨n', gs, e0, g1, g2⟩ := b
          cases e0
          rw [hΓ.mt] at hf
          unfold ev
          rw [hf]
          dsimp only
          unfold evs
          rw [ev_var a, bnd_ok]
          have h := evs_ok hΓ es hI'.ei hn
          cases h1 : evsU Γu es ρv with
          | none => trivial
          | some r =>
            rw [h1] at h
            cases r with
            | ex e =>
              obtain ⟨y, T, f1, f2, p⟩ := h
              rw [f1]
              exact sg_done (hI'.app T) (Le.app _ _) (KX.refl _ _) ⟨f2, p⟩
            | ok vs =>
              obtain ⟨vs', T, f1, p⟩ := h
              rw [f1]
              simp only [bnd_ok, toFlU]
              cases h2 : Γu.ini f d fs vs with
              | none => trivial
              | some hs =>
                have hI2 := hI'.app T
                obtain ⟨w, T2, gs', G2, k1, k2, k3, k4, k5, k6, k7⟩ := hΓ.ini f d fs vs (G' ++ T) (S ++ T) vs' n gs hs hI2.ei.sub p (at_app2 g1) (g2.mono (Le.app _ _)) (at_app2 d1) h2
                show SG L0 S0 G0 mu G' ρ ρv (some (.nxt, ρv.set j (.own (.ins d hs)))) (toFl (Γ.call f (.loc n :: vs') (S ++ T)) ρ fun _ S1 => some (.nxt, ρ, S1))
                rw [k1]
                have hlen : n < (S ++ T).length := (List.getElem?_eq_some_iff.mp (at_app2 (T := T) g1)).1
                exact sg_done (hI2.ini hx a hlen k3 k4 k5 k6 k7) ((Le.app _ _).trans k4) (KX.same hx (.inl rfl)) trivial
        · trivial
      | none =>
        dsimp only
        obtain ⟨G', hI', hl, hn, hd⟩ := hI.un (esc Γu.fl e)
        refine sg_from hl (KX.un hd) ?_
        generalize uno mu (esc Γu.fl e) ρu = ρv at hI' hn
        exact sg_e hΓ hI' hn fun w u T r e1 e2 h => sg_done h (Le.app _ _) (KX.refl _ _) trivial
  | .iff c a b, ρ, ρu, S, G, hI => by
    unfold x1U x1
    dsimp only
    obtain ⟨G', hI', hl, hn, hd⟩ := hI.un (esc Γu.fl c)
    refine sg_from hl (KX.un hd) ?_
    generalize uno mu (esc Γu.fl c) ρu = ρv at hI' hn
    have h := og_truth (ev_ok hΓ c hI'.ei hn)
    cases h1 : truthU (evU Γu c ρv) with
    | none => trivial
    | some r =>
      rw [h1] at h
      cases r with
      | ex e =>
        obtain ⟨y, T, f1, f2, p⟩ := h
        rw [f1]
        exact sg_done (hI'.app T) (Le.app _ _) (KX.refl _ _) ⟨f2, p⟩
      | ok q =>
        obtain ⟨q', T, f1, p⟩ := h
        have p : q' = q := p
        subst p
        rw [f1]
        cases q' with
        | true => exact sg_from (Le.app _ T) (KX.refl _ _) (xs_ok hΓ a (hI'.app T))
        | false => exact sg_from (Le.app _ T) (KX.refl _ _) (xs_ok hΓ b (hI'.app T))
  | .for tg k es body, ρ, ρu, S, G, hI => by
    unfold x1U x1
    dsimp only
    obtain ⟨G', hI', hl, hn, hd⟩ := hI.un (escs Γu.fl es)
    refine sg_from hl (KX.un hd) ?_
    generalize uno mu (escs Γu.fl es) ρu = ρv at hI' hn
    refine sg_es hΓ hI' hn fun ws us T r e1 e2 h => ?_
    refine sg_from (Le.app _ T) (KX.refl _ _) ?_
    cases h1 : itU k us with
    | none => trivial
    | some its =>
      obtain ⟨src, vs, h2, h3, h4⟩ := itU_ok (r.br h.ei.sub) h1
      rw [h2]
      dsimp only
      split
      case isFalse => trivial
      rename_i hlen
      have key := for_ok (L0 := L0) (S0 := S0) (G0 := G0) (mu := mu) (G := G' ++ T) (src := src) (stepU := fun u ρ1 => match setU tg u ρ1 with
        | none => none
        | some ρ2 => xsU Γu mu body ρ2) (step := fun w ρ1 S2 => match setT tg w ρ1 with
        | none => none
        | some ρ2 => xs Γ body ρ2 S2) h3 (fun S' G2 l s i => h4 S' (fun n c hv hc => by
          subst hv
          cases r with | cons r0 _ =>
            obtain ⟨c', hc'⟩ : ∃ c', (G' ++ T)[n]? = some c' ∧ c' ≠ .dead := by
              cases r0 <;> exact ⟨_, by assumption, by simp⟩
            have := h.ei.sub.2 n c' hc'.1 hc'.2
            rw [this] at hc
            cases hc
            exact s.2 n _ (l n _ hc'.1 hc'.2) hc'.2) i) (fun w u ρ ρu S' G2 l r hi => by
          try dsimp only
          cases hs : setU tg u ρu with
          | none => trivial
          | some ρ1 =>
            obtain ⟨ρ2, a, b, c⟩ := setT_inv r hi hs
            rw [a]
            exact sg_from (Le.refl _) c (xs_ok hΓ body b)) big 0 ρ ρv (S ++ T) (G' ++ T) (by rw [big_eq]; omega) (Nat.zero_le _) (Le.refl _) h
      rw [List.drop_zero] at key
      exact key
  | .while c body, ρ, ρu, S, G, hI => by
    unfold x1U x1
    exact whl_ok (fun ρ ρu S G hI hn => og_truth (ev_ok hΓ c hI.ei hn)) (fun ρ ρu S G hI => xs_ok hΓ body hI) big ρ ρu S G hI
  | .ret e, ρ, ρu, S, G, hI => by
    unfold x1U x1
    dsimp only
    obtain ⟨G', hI', hl, hn, hd⟩ := hI.un (esc Γu.fl e)
    refine sg_from hl (KX.un hd) ?_
    generalize hv : uno mu (esc Γu.fl e) ρu = ρv at hI' hn
    cases ho : isOwnAt ρu e with
    | true =>
      obtain ⟨i, us0, he, hx⟩ := isOwnAt_ok ho
      subst he
      obtain ⟨n, a, b, c, d⟩ := own_at hI hx
      refine sg_e hΓ hI' hn fun w u T r e1 e2 h => sg_done h (Le.app _ _) (KX.refl _ _) ⟨r, fun hf => ?_⟩
      rw [ev_var a] at e2
      have h3 := congrArg Prod.fst (Option.some.inj e2)
      cases h3
      rw [Bool.and_eq_true] at hf
      cases u <;> simp [isLst] at hf
      obtain ⟨n', ws, e0, g1, g2⟩ := b
      cases e0
      exact ⟨n, _, ws, rfl, rfl, c, at_app2 g1⟩
    | false =>
      cases hf : frE Γu.fr e with
      | false => exact sg_e hΓ hI' hn fun w u T r e1 e2 h => sg_done h (Le.app _ _) (KX.refl _ _) ⟨r, fun hf => by simp at hf⟩
      | true =>
        refine sg_fl (t := fun x ρ k => toFl x ρ k) (fun _ _ => rfl) (fun _ _ => rfl) hI' (fr_ok hΓ hI'.ei hn hf) fun w u T r e1 e2 h => sg_done h (Le.app _ _) (KX.refl _ _) ⟨r.1, fun hf => ?_⟩
        rw [Bool.and_eq_true] at hf
        obtain ⟨n, en, hn2⟩ := r.2 hf.2
        subst en
        have hf2 := hf.2
        cases u <;> simp [isLst] at hf2
        obtain ⟨us, ws, q1, q2, q3⟩ := Rep.frr h.ei.sub r.1
        exact ⟨n, _, ws, rfl, rfl, fun hb => by have := hI'.ll.1 n hb; omega, q2⟩
  | .retN, ρ, ρu, S, G, hI => by
    unfold x1U x1
    exact sg_done hI (Le.refl _) (KX.refl _ _) ⟨.non, fun h => by cases h⟩
  | .raise c fs es, ρ, ρu, S, G, hI => by
    unfold x1U x1
    dsimp only
    obtain ⟨G', hI', hl, hn, hd⟩ := hI.un (escs Γu.fl es)
    refine sg_from hl (KX.un hd) ?_
    generalize uno mu (escs Γu.fl es) ρu = ρv at hI' hn
    refine sg_es hΓ hI' hn fun ws us T r e1 e2 h => ?_
    have zp : ∀ (fs : List Nat) {ws : List W} {us : List U}, RepL (G' ++ T) ws us → RepF (G' ++ T) (fs.zip ws) (fs.zip us) := fun fs => by
      induction fs with
      | nil => intro ws us r; exact .nil
      | cons f fs ih =>
        intro ws us r
        cases r with
        | nil => exact .nil
        | cons a b => exact .cons a (ih b)
    split
    · rename_i hq
      rw [if_pos (by rw [r.length]; exact hq)]
      exact sg_done h (Le.app _ _) (KX.refl _ _) ⟨rfl, (zp fs r).rev⟩
    · trivial
  | .tryAs body c i suite, ρ, ρu, S, G, hI => by
    unfold x1U x1
    have h1 := xs_ok hΓ body hI
    cases h2 : xsU Γu mu body ρu with
    | none => trivial
    | some p =>
      obtain ⟨f, ρ1⟩ := p
      rw [h2] at h1
      obtain ⟨g, ρ2, S1, G1, e1, i1, l1, k1, r1⟩ := h1
      rw [e1]
      cases f with
      | ex e =>
        cases g <;> first | exact r1.elim | skip
        rename_i y
        try dsimp only
        have r1 : y.cls = e.cls ∧ RepF G1 y.fs e.fs := r1
        rw [hΓ.up, r1.1]
        split
        · split
          · rename_i hm
            have i2 := (i1.new (T := [.exn e.cls y.fs]) (i := i) (n := S1.length) (u := .exn e.cls e.fs) hm (Nat.le_refl _) ⟨S1.length, y.fs, rfl, by simp, by
              refine r1.2.mono ?_
              intro n c a b
              have : n < G1.length := (List.getElem?_eq_some_iff.mp a).1
              rw [List.getElem?_set_ne (by rw [← i1.ei.sub.1]; omega)]
              exact at_app2 a⟩ (by simp))
            have h3 := xs_ok hΓ suite i2.1
            cases h4 : xsU Γu mu suite (ρ1.set i (.own (.exn e.cls e.fs))) with
            | none => trivial
            | some p2 =>
              obtain ⟨f2, ρ3⟩ := p2
              rw [h4] at h3
              obtain ⟨g2, ρ4, S3, G3, e3, i3, l3, k3, r3⟩ := h3
              rw [e3]
              cases f2 <;> cases g2 <;> first | exact r3.elim | trivial | skip
              all_goals
                try dsimp only
                split
                · rename_i c' fs' hs
                  obtain ⟨⟨_, _, _⟩, kk⟩ := k3 i _ hs rfl
                  have hlen : i < ρ2.length := by
                    have := (List.getElem?_eq_some_iff.mp hs).1
                    have h7 : ρ4[i]? ≠ none := by
                      obtain ⟨n, a, _⟩ := i3.ei.own i _ hs
                      rw [a]; simp
                    rw [kk] at h7
                    by_cases hq : i < ρ2.length
                    · exact hq
                    · exact absurd (List.getElem?_eq_none (by simp; omega)) h7
                  rw [List.getElem?_set_self hlen] at kk
                  have dead := ((i3.own i _ hs).2 _ kk)
                  have i4 := (i3.emp (i := i) none).kill (n := S1.length) dead.2 dead.1 (fun j v hj hz => by
                    have hij : i ≠ j := fun z => by
                      subst z
                      rw [List.getElem?_set] at hj
                      split at hj
                      · split at hj <;> cases hj
                      · rename_i q; exact q rfl
                    rw [List.getElem?_set_ne hij] at hj hz
                    exact hij (i3.dis i j _ v _ hs hj kk hz)) .dead
                  have kx : KX ρ ρu (ρ4.set i none) (ρ3.set i .emp) := fun j v hj hq => by
                    have hij : i ≠ j := fun z => by
                      subst z
                      rw [List.getElem?_set] at hj
                      split at hj
                      · split at hj <;> cases hj
                      · rename_i q; exact q rfl
                    rw [List.getElem?_set_ne hij] at hj ⊢
                    obtain ⟨⟨u', a1, a2⟩, a3⟩ := k3 j v hj hq
                    rw [List.getElem?_set_ne hij] at a1 a3
                    obtain ⟨b1, b2⟩ := k1 j u' a1 a2
                    exact ⟨b1, a3.trans b2⟩
                  refine sg_done i4 (l1.trans (i2.2.trans l3)) kx ?_
                  first
                    | trivial
                    | (refine ⟨r3.1, fun hf => ?_⟩
                       obtain ⟨n, us, ws, q1, q2, q3, q4⟩ := r3.2 hf
                       subst q1 q2
                       have hne : S1.length ≠ n := fun z => by
                         have h8 := r3.1
                         rw [← z] at h8
                         cases h8 with | lst e _ => rw [dead.2] at e; cases e
                       exact ⟨n, us, ws, rfl, rfl, q3, by rw [List.getElem?_set_ne hne]; exact q4⟩)
                · trivial
          · trivial
        · exact sg_done i1 l1 k1 ⟨r1.1.trans rfl, r1.2⟩
      | _ => cases g <;> first | exact r1.elim | exact sg_done i1 l1 k1 r1
  | .tryOnly body c suite, ρ, ρu, S, G, hI => by
    unfold x1U x1
    have h1 := xs_ok hΓ body hI
    cases h2 : xsU Γu mu body ρu with
    | none => trivial
    | some p =>
      obtain ⟨f, ρ1⟩ := p
      rw [h2] at h1
      obtain ⟨g, ρ2, S1, G1, e1, i1, l1, k1, r1⟩ := h1
      rw [e1]
      cases f with
      | ex e =>
        cases g <;> first | exact r1.elim | skip
        rename_i y
        try dsimp only
        have r1 : y.cls = e.cls ∧ RepF G1 y.fs e.fs := r1
        rw [hΓ.up, r1.1]
        split
        · have h3 := xs_ok hΓ suite i1
          cases h4 : xsU Γu mu suite ρ1 with
          | none => trivial
          | some p2 =>
            obtain ⟨f2, ρ3⟩ := p2
            rw [h4] at h3
            obtain ⟨g2, ρ4, S3, G3, e3, i3, l3, k3, r3⟩ := h3
            rw [e3]
            cases f2 <;> cases g2 <;> first | exact r3.elim | trivial | exact sg_done i3 (l1.trans l3) (k1.trans k3) r3
        · exact sg_done i1 l1 k1 ⟨r1.1.trans rfl, r1.2⟩
      | _ => cases g <;> first | exact r1.elim | exact sg_done i1 l1 k1 r1
  | .pass, ρ, ρu, S, G, hI => by unfold x1U x1; exact sg_done hI (Le.refl _) (KX.refl _ _) trivial
  | .brk, ρ, ρu, S, G, hI => by unfold x1U x1; exact sg_done hI (Le.refl _) (KX.refl _ _) trivial
  | .cnt, ρ, ρu, S, G, hI => by unfold x1U x1; exact sg_done hI (Le.refl _) (KX.refl _ _) trivial
theorem xs_ok (hΓ : GOK Γ Γu) : ∀ (ss : List Sx) {ρ : Env} {ρu : EU} {S G : Store}, Inv L0 S0 G0 S G mu ρ ρu → SG L0 S0 G0 mu G ρ ρu (xsU Γu mu ss ρu) (xs Γ ss ρ S)
  | [], ρ, ρu, S, G, hI => by unfold xsU xs; exact sg_done hI (Le.refl _) (KX.refl _ _) trivial
  | s :: r, ρ, ρu, S, G, hI => by
    unfold xsU xs
    have h1 := x1_ok hΓ s hI
    cases h2 : x1U Γu mu s ρu with
    | none => trivial
    | some p =>
      obtain ⟨f, ρ1⟩ := p
      rw [h2] at h1
      obtain ⟨g, ρ2, S1, G1, e1, i1, l1, k1, r1⟩ := h1
      rw [e1]
      cases f <;> cases g <;> first | exact r1.elim | skip
      · exact sg_from l1 k1 (xs_ok hΓ r i1)
      · exact sg_done i1 l1 k1 r1
      · exact sg_done i1 l1 k1 r1
      · exact sg_done i1 l1 k1 r1
      · exact sg_done i1 l1 k1 r1
end
end
end Ip

/-! IpUc: the table of defs over values. Written by an AI agent. -/
namespace Ip
open PySem (Str)
theorem inv_start {S G : Store} (h : Sub G S) {ws : List W} {us : List U} (r : RepL G ws us) (mu : List Nat) (m : Nat) : Inv (fun m => m < S.length) S G S G mu (ws.map some ++ List.replicate m none) (us.map Sl.val ++ List.replicate m .emp) := by
  have no : ∀ (i : Nat) (u : U), (us.map Sl.val ++ List.replicate m .emp)[i]? ≠ some (Sl.own u) := fun i u e => by
    rw [List.getElem?_append] at e
    split at e
    · rw [List.getElem?_map] at e
      obtain ⟨a, _, b⟩ := Option.map_eq_some_iff.mp e
      cases b
    · rw [List.getElem?_replicate] at e
      split at e <;> cases e
  refine ⟨⟨h, by simp [r.length], fun i u e => ?_, fun i u e => absurd e (no i u)⟩, ⟨fun n hn => hn, Nat.le_refl _⟩, fun n hn => ⟨rfl, rfl⟩, fun i u e => absurd e (no i u), fun i j u v n e _ _ _ => absurd e (no i u)⟩
  rw [List.getElem?_append] at e
  split at e
  · rename_i hi
    rw [List.getElem?_map] at e
    obtain ⟨a, b, c⟩ := Option.map_eq_some_iff.mp e
    cases c
    obtain ⟨w, w1, w2⟩ := r.get b
    refine ⟨w, ?_, w2⟩
    rw [List.getElem?_append_left (by simpa [r.length] using hi), List.getElem?_map, w1]
    rfl
  · rw [List.getElem?_replicate] at e
    split at e <;> cases e
/-- behind a call: the store is longer -/
theorem end_le {S0 G0 S G : Store} {mu : List Nat} {ρ : Env} {ρu : EU} (hs : Sub G0 S0) (h : Inv (fun m => m < S0.length) S0 G0 S G mu ρ ρu) : S = S0 ++ S.drop S0.length ∧ Le G (G0 ++ S.drop S0.length) := by
  have e : S.take S0.length = S0 := by
    apply List.ext_getElem?
    intro i
    by_cases hi : i < S0.length
    · rw [List.getElem?_take_of_lt hi]
      exact (h.bs i hi).1
    · rw [List.getElem?_eq_none (by simp; omega), List.getElem?_eq_none (by omega)]
  refine ⟨by conv => lhs; rw [← List.take_append_drop S0.length S, e], fun n c a d => ?_⟩
  by_cases hn : n < S0.length
  · rw [List.getElem?_append_left (by rw [hs.1]; exact hn), ← (h.bs n hn).2]
    exact a
  · rw [List.getElem?_append_right (by rw [hs.1]; omega), List.getElem?_drop, hs.1]
    have : S0.length + (n - S0.length) = n := by omega
    rw [this]
    exact h.ei.sub.2 n c a d
theorem call_og {S0 G0 : Store} {mu : List Nat} {ρ : Env} {ρu : EU} {F : FI} {r : Option (FlU × EU)} {x : Option (Fl × Env × Store)} (hs : Sub G0 S0) (h : SG (fun m => m < S0.length) S0 G0 mu G0 ρ ρu r x) : OG PR (finU F r) (fin x) S0 G0 := by
  unfold SG at h
  split at h
  · trivial
  · obtain ⟨g, ρ', S', G', e, i, l, k, f⟩ := h
    subst e
    obtain ⟨e1, e2⟩ := end_le hs i
    rename_i f0 ρ0
    cases f0 <;> cases g <;> first | exact f.elim | trivial | skip
    · unfold finU
      dsimp only
      split
      · trivial
      · exact ⟨.non, S'.drop S0.length, by rw [← e1]; rfl, .non⟩
    · unfold finU
      dsimp only
      split
      · exact ⟨_, S'.drop S0.length, by rw [← e1]; rfl, f.1.mono e2⟩
      · trivial
    · unfold finU
      dsimp only
      split
      · trivial
      · exact ⟨_, S'.drop S0.length, by rw [← e1]; rfl, f.1, f.2.mono e2⟩
theorem call_fr {S0 G0 : Store} {mu : List Nat} {ρ : Env} {ρu : EU} {F : FI} {r : Option (FlU × EU)} {x : Option (Fl × Env × Store)} {u : U} (hs : Sub G0 S0) (h : SG (fun m => m < S0.length) S0 G0 mu G0 ρ ρu r x) (hf : F.fr = true) (e : finU F r = some (.ok u)) : ∃ n T, fin x = some (.ok (.loc n), S0 ++ T) ∧ S0.length ≤ n ∧ FrR (G0 ++ T) (S0 ++ T) n u := by
  unfold SG at h
  split at h
  · cases e
  · obtain ⟨g, ρ', S', G', e0, i, l, k, f⟩ := h
    subst e0
    obtain ⟨e1, e2⟩ := end_le hs i
    rename_i f0 ρ0
    cases f0 <;> cases g <;> first | exact f.elim | skip
    · unfold finU at e
      dsimp only at e
      rw [hf] at e
      cases e
    · cases e
    · cases e
    · unfold finU at e
      dsimp only at e
      split at e
      · rename_i hc
        cases e
        obtain ⟨n, us, ws, q1, q2, q3, q4⟩ := f.2 (hc.1 hf)
        subst q1 q2
        refine ⟨n, S'.drop S0.length, by rw [← e1]; rfl, Nat.le_of_not_lt q3, Rep.frr (hs.app _) (f.1.mono e2)⟩
      · cases e
    · unfold finU at e
      dsimp only at e
      split at e <;> cases e
theorem finU_fl {F : FI} {r : Option (FlU × EU)} (hf : F.fl = true) : (∀ u, finU F r = some (.ok u) → pureU u = true) ∧ ∀ e, finU F r = some (.ex e) → (e.fs.all fun p => pureU p.2) = true := by
  unfold finU
  refine ⟨fun u h => ?_, fun e h => ?_⟩
  · split at h
    · split at h
      · rename_i hc; cases h; exact hc.2 hf
      · cases h
    · split at h <;> cases h; rfl
    · split at h <;> cases h
    · cases h
  · split at h
    · split at h <;> cases h
    · split at h <;> cases h
    · split at h
      · cases h
      · rename_i hc
        cases h
        rw [hf] at hc
        simpa using hc
    · cases h
/-- what an __init__ run on an instance at n does -/
def RunOK (r : Option (Ru (List (Nat × U)))) (x : R W) (n c : Nat) (S G : Store) : Prop := match r with
  | none => True
  | some (.ok hs) => ∃ T' gs' G', x = some (.ok .non, (S ++ T').set n (.ins c gs')) ∧ Sub G' ((S ++ T').set n (.ins c gs')) ∧ Le G G' ∧ G'[n]? = some .dead ∧ (∀ m, m < S.length → G'[m]? = G[m]?) ∧ RepF G' gs' hs
  | some (.ex e) => ∃ (y : Exn) (S' G' : Store), x = some (.ex y, S') ∧ S.length ≤ S'.length ∧ (∀ m, m < S.length → m ≠ n → S'[m]? = S[m]? ∧ G'[m]? = G[m]?) ∧ Sub G' S' ∧ y.cls = e.cls ∧ RepF G' y.fs e.fs
/-- a call with the arguments' number seen -/
structure TOK (T : Tab) (I : List FI) (k : Nat) : Prop where
  call : ∀ f us G S ws, Sub G S → RepL G ws us → OG PR (callU T I k f us) (T.callF k f ws S) S G
  fl : ∀ f us, (inf I f).fl = true → (∀ u, callU T I k f us = some (.ok u) → pureU u = true) ∧ ∀ e, callU T I k f us = some (.ex e) → (e.fs.all fun p => pureU p.2) = true
  fr : ∀ f us G S ws u, (inf I f).fr = true → Sub G S → RepL G ws us → callU T I k f us = some (.ok u) → ∃ n T', T.callF k f ws S = some (.ok (.loc n), S ++ T') ∧ S.length ≤ n ∧ FrR (G ++ T') (S ++ T') n u
  run : ∀ f c fs us G S ws n gs, Sub G S → RepL G ws us → S[n]? = some (.ins c gs) → RepF G gs fs → G[n]? = some .dead → RunOK (runU T I k f c fs us) (T.callF k f (.loc n :: ws) S) n c S G
theorem make_og {T : Tab} {I : List FI} {k c : Nat} {us : List U} {G S : Store} {ws : List W} {call : Nat → List W → Store → R W} (h : TOK T I k) (hs : Sub G S) (r : RepL G ws us) : OG PR (mkOf T (runU T I k) c us) ((T.gam call (T.callF k)).make c ws S) S G := by
  unfold mkOf
  show OG PR _ (match T.cls[c]? with
    | some d => match d.init with
      | some f => bnd (T.callF k f (.loc S.length :: ws) (S ++ [.ins c []])) fun r S1 => match r with
        | .non => rok (.loc S.length) S1
        | _ => none
      | none => none
    | none => none) S G
  cases hd : T.cls[c]? with
  | none => trivial
  | some cl =>
    dsimp only
    cases hf : cl.init with
    | none => trivial
    | some f =>
      dsimp only
      have hsub : Sub (G ++ [.dead]) (S ++ [.ins c []]) := ⟨by simp [hs.1], fun n x e1 e2 => by
        by_cases q : n < G.length
        · rw [List.getElem?_append_left q] at e1
          exact at_app2 (hs.2 n x e1 e2)
        · rw [List.getElem?_append_right (by omega)] at e1
          have : n - G.length = 0 := by
            by_cases z : n - G.length = 0
            · exact z
            · rw [List.getElem?_eq_none (by simp; omega)] at e1; cases e1
          rw [this] at e1
          cases e1
          exact absurd rfl e2⟩
      have key := h.run f c [] us (G ++ [.dead]) (S ++ [.ins c []]) ws S.length [] hsub (r.mono (Le.app _ _)) (by simp) .nil (by rw [← hs.1]; simp)
      cases hr : runU T I k f c [] us with
      | none => trivial
      | some q =>
        rw [hr] at key
        cases q with
        | ok hs2 =>
          obtain ⟨T', gs', G', e1, e2, e3, e4, e5, e6⟩ := key
          rw [e1]
          simp only [bndU_ok, bnd_ok]
          have es : (S ++ [Cell.ins c []] ++ T').set S.length (Cell.ins c gs') = S ++ (Cell.ins c gs' :: T') := by
            rw [List.append_assoc, List.set_append_right _ _ (Nat.le_refl _)]
            simp
          rw [es] at e2 ⊢
          refine ⟨.loc S.length, .ins c gs' :: T', rfl, .ins (by rw [← hs.1]; simp) (e6.mono ?_)⟩
          intro m x a d
          by_cases q : m < S.length
          · have := e5 m (by simp; omega)
            rw [this, List.getElem?_append_left (by rw [hs.1]; exact q)] at a
            rw [List.getElem?_append_left (by rw [hs.1]; exact q)]
            exact a
          · have := e2.2 m x a d
            rw [List.getElem?_append_right (by omega)] at this
            rw [List.getElem?_append_right (by rw [hs.1]; omega), hs.1]
            exact this
        | ex e =>
          obtain ⟨y, S', G', e1, e2, e3, e4, e5, e6⟩ := key
          rw [e1]
          simp only [bndU_ex, bnd_ex]
          have es : S' = S ++ S'.drop S.length := by
            have : S'.take S.length = S := by
              apply List.ext_getElem?
              intro i
              by_cases hi : i < S.length
              · rw [List.getElem?_take_of_lt hi, (e3 i (by simp; omega) (by omega)).1, List.getElem?_append_left hi]
              · rw [List.getElem?_eq_none (by simp; omega), List.getElem?_eq_none (by omega)]
            conv => lhs; rw [← List.take_append_drop S.length S', this]
          refine ⟨y, S'.drop S.length, by rw [← es], e5, e6.mono ?_⟩
          intro m x a d
          by_cases q : m < S.length
          · rw [(e3 m (by simp; omega) (by omega)).2, List.getElem?_append_left (by rw [hs.1]; exact q)] at a
            rw [List.getElem?_append_left (by rw [hs.1]; exact q)]
            exact a
          · have := e4.2 m x a d
            rw [List.getElem?_append_right (by rw [hs.1]; omega), List.getElem?_drop, hs.1]
            have z : S.length + (m - S.length) = m := by omega
            rw [z]
            exact this
theorem gok_of {T : Tab} {I : List FI} {k : Nat} (h1 : TOK T I (k + 1)) (h0 : TOK T I k) : GOK (T.gam (T.callF (k + 1)) (T.callF k)) (gamU T I (callU T I (k + 1)) (mkOf T (runU T I k)) (inOf (runU T I (k + 1)))) :=
  ⟨h1.call, fun f us u h e => (h1.fl f us h).1 u e, fun f us e h q => (h1.fl f us h).2 e q, fun f us G S ws u h a b c => h1.fr f us G S ws u h a b c, fun c us G S ws a b => make_og h0 a b,
    fun f d fs us G S ws n gs hs a b c2 d2 e2 hh => by
      have key := h1.run f d fs us G S ws n gs a b c2 d2 e2
      have hh : inOf (runU T I (k + 1)) f d fs us = some hs := hh
      unfold inOf at hh
      split at hh
      · rename_i gs2 hr
        cases hh
        rw [hr] at key
        obtain ⟨T', gs', G', e1, e3, e4, e5, e6, e7⟩ := key
        exact ⟨.non, T', gs', G', e1, by have := e3.1; simp at this; simp [this, a.1], e3, e4, e5, e6, e7⟩
      · exact absurd hh (by simp), rfl, rfl, rfl, rfl, rfl⟩
theorem tok_zero {T : Tab} {I : List FI} {k : Nat} (hc : ∀ f us, callU T I k f us = none) (hm : ∀ f c fs us, runU T I k f c fs us = none) : TOK T I k :=
  ⟨fun f us G S ws _ _ => by rw [hc]; trivial, fun f us _ => ⟨fun u e => (by rw [hc] at e; cases e), fun e q => (by rw [hc] at q; cases q)⟩, fun f us G S ws u _ _ _ e => (by rw [hc] at e; cases e), fun f c fs us G S ws n gs _ _ _ _ _ => by rw [hm]; trivial⟩
theorem inv_own0 {S G : Store} (h : Sub G S) {ws : List W} {us : List U} (r : RepL G ws us) (mu : List Nat) (m : Nat) {n c : Nat} {gs : List (Nat × W)} {fs : List (Nat × U)} (hm : mu.contains 0 = true) (hn : S[n]? = some (.ins c gs)) (hr : RepF G gs fs) (hd : G[n]? = some .dead) :
    Inv (fun m => m < S.length ∧ m ≠ n) S G S G mu (((.loc n :: ws).map some) ++ List.replicate m none) ((Sl.own (.ins c fs) :: us.map Sl.val) ++ List.replicate m .emp) := by
  have h0 := inv_start h (RepL.cons .non r) mu m
  have no : ∀ (i : Nat) (u : U), ((Sl.own (.ins c fs) :: us.map Sl.val) ++ List.replicate m .emp)[i]? = some (Sl.own u) → i = 0 ∧ u = .ins c fs := fun i u e => by
    cases i with
    | zero => cases e; exact ⟨rfl, rfl⟩
    | succ i =>
      have e1 : ((U.non :: us).map Sl.val ++ List.replicate m .emp)[i + 1]? = some (Sl.own u) := e
      exact absurd e1 (fun e1 => by
        obtain ⟨_, z⟩ := h0.own (i + 1) u e1
        obtain ⟨n2, z1, z2⟩ := h0.ei.own (i + 1) u e1
        have := (z n2 z1)
        rw [List.getElem?_append] at e1
        split at e1
        · rw [List.getElem?_map] at e1
          obtain ⟨_, _, q⟩ := Option.map_eq_some_iff.mp e1
          cases q
        · rw [List.getElem?_replicate] at e1
          split at e1 <;> cases e1)
  refine ⟨⟨h, by simp [r.length], fun i u e => ?_, fun i u e => ?_⟩, ⟨fun k hk => hk.1, Nat.le_refl _⟩, fun k hk => ⟨rfl, rfl⟩, fun i u e => ?_, fun i j u v k e1 e2 _ _ => ?_⟩
  · cases i with
    | zero => cases e
    | succ i => exact h0.ei.val (i + 1) u e
  · obtain ⟨a, b⟩ := no i u e
    subst a b
    exact ⟨n, rfl, n, gs, rfl, hn, hr⟩
  · obtain ⟨a, b⟩ := no i u e
    subst a b
    refine ⟨hm, fun k hk => ?_⟩
    cases hk
    exact ⟨fun z => z.2 rfl, hd⟩
  · rw [(no i u e1).1, (no j v e2).1]
theorem run_ok {S G : Store} {n c : Nat} {mu : List Nat} {ρ : Env} {ρu : EU} {r : Option (FlU × EU)} {x : Option (Fl × Env × Store)} (hs : Sub G S) (hρ : ρ[0]? = some (some (.loc n))) (hd : G[n]? = some .dead) (hn : n < S.length)
    (h : SG (fun m => m < S.length ∧ m ≠ n) S G mu G ρ ρu r x) : RunOK (initU c r) (fin x) n c S G := by
  unfold SG at h
  split at h
  · trivial
  · obtain ⟨g, ρ', S', G', q0, i, l, kx, fl⟩ := h
    subst q0
    rename_i f0 ρ0
    cases f0 <;> cases g <;> first | exact fl.elim | trivial | skip
    · unfold initU
      dsimp only
      split
      · rename_i d fs hρ0
        split
        · rename_i hdc
          subst hdc
          obtain ⟨_, a3⟩ := kx 0 _ hρ0 rfl
          rw [hρ] at a3
          obtain ⟨n2, n1, n3⟩ := i.ei.own 0 _ hρ0
          rw [n1] at a3
          cases a3
          obtain ⟨n', gs, z0, z1, z2⟩ := n3
          cases z0
          obtain ⟨_, z3⟩ := i.own 0 _ hρ0
          have z4 := (z3 n n1).2
          have hl : S.length ≤ S'.length := i.ll.2
          have es : S' = (S ++ S'.drop S.length).set n (.ins d gs) := by
            apply List.ext_getElem?
            intro m
            by_cases hm : n = m
            · subst hm
              rw [List.getElem?_set_self (by simp; omega)]
              exact z1
            · rw [List.getElem?_set_ne hm]
              by_cases hm2 : m < S.length
              · rw [List.getElem?_append_left hm2]
                exact (i.bs m ⟨hm2, fun z => hm z.symm⟩).1
              · rw [List.getElem?_append_right (by omega), List.getElem?_drop]
                have : S.length + (m - S.length) = m := by omega
                rw [this]
          refine ⟨S'.drop S.length, gs, G', by show some (Rs.ok W.non, S') = _; rw [← es], by rw [← es]; exact i.ei.sub, l, z4, fun m hm => ?_, z2⟩
          by_cases q : m = n
          · subst q; rw [z4, hd]
          · exact (i.bs m ⟨hm, q⟩).2
        · trivial
      · trivial
    · unfold initU
      exact ⟨_, S', G', rfl, i.ll.2, fun m h1 h2 => i.bs m ⟨h1, h2⟩, i.ei.sub, fl.1, fl.2⟩
theorem tok (T : Tab) (I : List FI) : ∀ k, TOK T I k
  | 0 => tok_zero (fun _ _ => by unfold callU; rfl) (fun _ _ _ _ => by unfold runU; rfl)
  | 1 => tok_zero (fun _ _ => by unfold callU; rfl) (fun _ _ _ _ => by unfold runU; rfl)
  | 2 => tok_zero (fun _ _ => by unfold callU; rfl) (fun _ _ _ _ => by unfold runU; rfl)
  | k + 3 => by
    have hΓ := gok_of (tok T I (k + 2)) (tok T I (k + 1))
    have body : ∀ (f : Nat) (d : FnI) (us : List U) (G S : Store) (ws : List W), Sub G S → RepL G ws us → us.length = d.ps → SG (fun m => m < S.length) S G (inf I f).mu G (ws.map some ++ List.replicate (d.n - d.ps) none) (us.map Sl.val ++ List.replicate (d.n - d.ps) .emp) (xsU (gamU T I (callU T I (k + 2)) (mkOf T (runU T I (k + 1))) (inOf (runU T I (k + 2)))) (inf I f).mu d.body (us.map Sl.val ++ List.replicate (d.n - d.ps) .emp)) (xs (T.gam (T.callF (k + 2)) (T.callF (k + 1))) d.body (ws.map some ++ List.replicate (d.n - d.ps) none) S) := fun f d us G S ws hs r hl => xs_ok hΓ d.body (inv_start hs r _ _)
    refine ⟨fun f us G S ws hs r => ?_, fun f us hf => ?_, fun f us G S ws u hf hs r e => ?_, fun f c fs us G S ws n gs hs r h1 h2 h3 => ?_⟩
    · unfold callU Tab.callF
      cases hd : T.fns[f]? with
      | none => trivial
      | some d =>
        dsimp only
        split
        · rename_i hl
          rw [if_pos (by rw [r.length]; exact hl)]
          exact call_og hs (body f d us G S ws hs r hl)
        · trivial
    · unfold callU
      cases hd : T.fns[f]? with
      | none => exact ⟨fun u e => (by cases e), fun u e => (by cases e)⟩
      | some d =>
        dsimp only
        split
        · exact finU_fl hf
        · exact ⟨fun u e => (by cases e), fun u e => (by cases e)⟩
    · unfold callU at e
      unfold Tab.callF
      cases hd : T.fns[f]? with
      | none => rw [hd] at e; cases e
      | some d =>
        rw [hd] at e
        dsimp only at e ⊢
        split at e
        · rename_i hl
          rw [if_pos (by rw [r.length]; exact hl)]
          exact call_fr hs (body f d us G S ws hs r hl) hf e
        · cases e
    · unfold runU Tab.callF
      cases hd : T.fns[f]? with
      | none => trivial
      | some e =>
        dsimp only
        split
        · rename_i hl
          rw [if_pos (by rw [List.length_cons, r.length]; exact hl.1)]
          exact run_ok hs rfl h3 (List.getElem?_eq_some_iff.mp h1).1 (xs_ok hΓ e.body (inv_own0 hs r _ _ hl.2 h1 h2 h3))
        · trivial
/-- the law's call over values -/
theorem law_of {T : Tab} {I : List FI} {k f : Nat} {ns : List Int} (h : callU T I k f [.fro (ns.map U.int)] = some (.ok (.bl true))) : ∃ S', T.callF k f [.loc 0] [.fro (ns.map W.int)] = some (.ok (.bl true), S') := by
  have r : RepL [.fro (ns.map W.int)] (ns.map W.int) (ns.map U.int) := by
    induction ns with
    | nil => exact .nil
    | cons n ns ih => skip; exact .cons (.int _) (RepL.of_get (by simp) fun i w u a b => by
        rw [List.getElem?_map] at a b
        obtain ⟨x, x1, x2⟩ := Option.map_eq_some_iff.mp a
        obtain ⟨y, y1, y2⟩ := Option.map_eq_some_iff.mp b
        rw [x1] at y1
        cases y1
        subst x2 y2
        exact .int _)
  have h2 := (tok T I k).call f [.fro (ns.map U.int)] [.fro (ns.map W.int)] [.fro (ns.map W.int)] [.loc 0] (Sub.refl _) (.cons (.fro rfl r) .nil)
  rw [h] at h2
  obtain ⟨w, T', e, p⟩ := h2
  cases p
  exact ⟨_, e⟩
end Ip

/-! IpW: how the interpreter over values is run. Written by an AI agent. -/
namespace Ip
open PySem (Str)
section
variable {T : Tab} {I : List FI} {k f : Nat} {d : FnI} {us : List U}
/-- what a body at depth k sees -/
def GV (T : Tab) (I : List FI) (k : Nat) : GamU := gamU T I (callU T I (k - 1)) (mkOf T (runU T I (k - 2))) (inOf (runU T I (k - 1)))
theorem callU_run (h : T.fns[f]? = some d) (hk : 3 ≤ k) (hl : us.length = d.ps) :
    callU T I k f us = finU (inf I f) (xsU (GV T I k) (inf I f).mu d.body (us.map Sl.val ++ List.replicate (d.n - d.ps) .emp)) := by
  obtain ⟨j, rfl⟩ : ∃ j, k = j + 3 := ⟨k - 3, by omega⟩
  unfold callU
  rw [h]
  dsimp only
  rw [if_pos hl]
  rfl
theorem runU_run {c : Nat} {fs : List (Nat × U)} (h : T.fns[f]? = some d) (hk : 3 ≤ k) (hl : us.length + 1 = d.ps) (hm : (inf I f).mu.contains 0 = true) :
    runU T I k f c fs us = initU c (xsU (GV T I k) (inf I f).mu d.body ((Sl.own (.ins c fs) :: us.map Sl.val) ++ List.replicate (d.n - d.ps) .emp)) := by
  obtain ⟨j, rfl⟩ : ∃ j, k = j + 3 := ⟨k - 3, by omega⟩
  unfold runU
  rw [h]
  dsimp only
  rw [if_pos ⟨hl, hm⟩]
  rfl
@[simp] theorem GV_call : (GV T I k).call = callU T I (k - 1) := nr rfl
@[simp] theorem GV_make : (GV T I k).make = mkOf T (runU T I (k - 2)) := nr rfl
@[simp] theorem GV_ini : (GV T I k).ini = inOf (runU T I (k - 1)) := nr rfl
end
@[simp] theorem uno_nil (is : List Nat) (ρ : EU) : uno [] is ρ = ρ := by
  unfold uno
  have : is.filter (fun x => ([] : List Nat).contains x) = [] := by simp
  rw [this]
  rfl
@[simp] theorem uno_e (mu : List Nat) (ρ : EU) : uno mu [] ρ = ρ := nr rfl
@[simp] theorem uno_c (mu : List Nat) (i : Nat) (is : List Nat) (ρ : EU) : uno mu (i :: is) ρ = if mu.contains i = true then uno mu is (uno1 ρ i) else uno mu is ρ := by
  unfold uno
  rw [List.filter_cons]
  split <;> rfl
@[simp] theorem GV_fl {T : Tab} {I : List FI} {k f : Nat} : (GV T I k).fl f = (inf I f).fl := nr rfl
@[simp] theorem GV_fr {T : Tab} {I : List FI} {k f : Nat} : (GV T I k).fr f = (inf I f).fr := nr rfl
/-! ### results -/
/-- then the rest -/
def seqU (Γ : GamU) (mu : List Nat) (x : Option (FlU × EU)) (r : List Sx) : Option (FlU × EU) := match x with
  | some (.nxt, ρ) => xsU Γ mu r ρ
  | o => o
section
variable {Γ : GamU} {mu : List Nat} {r : List Sx}
@[simp] theorem seqU_nxt (ρ : EU) : seqU Γ mu (some (.nxt, ρ)) r = xsU Γ mu r ρ := nr rfl
@[simp] theorem seqU_ret (q : Bool) (u : U) (ρ : EU) : seqU Γ mu (some (.ret q u, ρ)) r = some (.ret q u, ρ) := nr rfl
@[simp] theorem seqU_ex (e : ExU) (ρ : EU) : seqU Γ mu (some (.ex e, ρ)) r = some (.ex e, ρ) := nr rfl
@[simp] theorem seqU_brk (ρ : EU) : seqU Γ mu (some (.brk, ρ)) r = some (.brk, ρ) := nr rfl
@[simp] theorem seqU_cnt (ρ : EU) : seqU Γ mu (some (.cnt, ρ)) r = some (.cnt, ρ) := nr rfl
@[simp] theorem seqU_none : seqU Γ mu none r = none := nr rfl
@[simp] theorem seqU_ite (c : Prop) [Decidable c] (a b : Option (FlU × EU)) : seqU Γ mu (if c then a else b) r = if c then seqU Γ mu a r else seqU Γ mu b r := by split <;> rfl
end
@[simp] theorem bndU_ite {α β : Type} (c : Prop) [Decidable c] (a b : RU α) (k : α → RU β) : bndU (if c then a else b) k = if c then bndU a k else bndU b k := by split <;> rfl
@[simp] theorem toFlU_ok {α : Type} (a : α) (ρ : EU) (k : α → Option (FlU × EU)) : toFlU (some (.ok a)) ρ k = k a := nr rfl
@[simp] theorem toFlU_ex {α : Type} (e : ExU) (ρ : EU) (k : α → Option (FlU × EU)) : toFlU (some (.ex e)) ρ k = some (.ex e, ρ) := nr rfl
@[simp] theorem toFlU_ite {α : Type} (c : Prop) [Decidable c] (a b : RU α) (ρ : EU) (k : α → Option (FlU × EU)) : toFlU (if c then a else b) ρ k = if c then toFlU a ρ k else toFlU b ρ k := by split <;> rfl
@[simp] theorem liftU_some (u : U) : liftU (some u) = some (.ok u) := nr rfl
@[simp] theorem liftU_none : liftU none = none := nr rfl
@[simp] theorem liftU_ite (c : Prop) [Decidable c] (a b : Option U) : liftU (if c then a else b) = if c then liftU a else liftU b := by split <;> rfl
@[simp] theorem truthU_bl (b : Bool) : truthU (some (.ok (.bl b))) = some (.ok b) := nr rfl
@[simp] theorem truthU_ex (e : ExU) : truthU (some (.ex e)) = some (.ex e) := nr rfl
@[simp] theorem truthU_ite (c : Prop) [Decidable c] (a b : RU U) : truthU (if c then a else b) = if c then truthU a else truthU b := by split <;> rfl
/-- a test's two ways -/
def brU {α : Type} (x : RU Bool) (A B : Option α) (E : ExU → Option α) : Option α := match x with
  | some (.ok true) => A
  | some (.ok false) => B
  | some (.ex e) => E e
  | none => none
@[simp] theorem brU_ok {α : Type} (b : Bool) (A B : Option α) (E : ExU → Option α) : brU (some (.ok b)) A B E = if b = true then A else B := by cases b <;> rfl
@[simp] theorem brU_ex {α : Type} (e : ExU) (A B : Option α) (E : ExU → Option α) : brU (some (.ex e)) A B E = E e := nr rfl
@[simp] theorem brU_ite {α : Type} (c : Prop) [Decidable c] (a b : RU Bool) (A B : Option α) (E : ExU → Option α) : brU (if c then a else b) A B E = if c then brU a A B E else brU b A B E := by split <;> rfl
section
variable {F : FI}
@[simp] theorem finU_n (ρ : EU) : finU F (some (.nxt, ρ)) = if F.fr = true then none else some (.ok .non) := nr rfl
theorem finU_ret {r : Bool} {u : U} {ρ : EU} (h1 : F.fr = true → r = true) (h2 : F.fl = true → pureU u = true) : finU F (some (.ret r u, ρ)) = some (.ok u) := by
  unfold finU
  dsimp only
  rw [if_pos ⟨h1, h2⟩]
  rfl
theorem finU_ex {e : ExU} {ρ : EU} (h : F.fl = true → (e.fs.all fun p => pureU p.2) = true) : finU F (some (.ex e, ρ)) = some (.ex e) := by
  unfold finU
  cases hf : F.fl with
  | false => rfl
  | true => simp [h hf]
@[simp] theorem finU_ite (c : Prop) [Decidable c] (a b : Option (FlU × EU)) : finU F (if c then a else b) = if c then finU F a else finU F b := by split <;> rfl
@[simp] theorem finU_r {r : Bool} {u : U} {ρ : EU} : finU F (some (.ret r u, ρ)) = if (F.fr = true → r = true) ∧ (F.fl = true → pureU u = true) then some (.ok u) else none := nr rfl
@[simp] theorem finU_e {e : ExU} {ρ : EU} : finU F (some (.ex e, ρ)) = if (F.fl && !(e.fs.all fun p => pureU p.2)) = true then none else some (.ex e) := nr rfl
@[simp] theorem isLst_non : isLst .non = false := nr rfl
@[simp] theorem isLst_bl {b : Bool} : isLst (.bl b) = false := nr rfl
@[simp] theorem isLst_int {b : Int} : isLst (.int b) = false := nr rfl
@[simp] theorem isLst_str {b : Str} : isLst (.str b) = false := nr rfl
@[simp] theorem isLst_tup {b : List U} : isLst (.tup b) = false := nr rfl
@[simp] theorem isLst_lst {b : List U} : isLst (.lst b) = true := nr rfl
@[simp] theorem isLst_ins {c : Nat} {b : List (Nat × U)} : isLst (.ins c b) = false := nr rfl
@[simp] theorem pureU_non : pureU .non = true := by simp [pureU]
@[simp] theorem pureU_bl {b : Bool} : pureU (.bl b) = true := by simp [pureU]
@[simp] theorem pureU_int {b : Int} : pureU (.int b) = true := by simp [pureU]
@[simp] theorem pureU_str {b : Str} : pureU (.str b) = true := by simp [pureU]
end
/-! ### statements -/
section
variable {Γ : GamU} {mu : List Nat} {ρ : EU} {r : List Sx}
theorem xsU_step {Γ : GamU} {mu : List Nat} {s : Sx} {r : List Sx} {ρ ρ1 : EU} (h : x1U Γ mu s ρ = some (.nxt, ρ1)) : xsU Γ mu (s :: r) ρ = xsU Γ mu r ρ1 := by rw [xsU, h]
@[simp] theorem xsU_nil : xsU Γ mu [] ρ = some (.nxt, ρ) := by unfold xsU; rfl
@[simp] theorem xsU_cons {s : Sx} : xsU Γ mu (s :: r) ρ = seqU Γ mu (x1U Γ mu s ρ) r := by
  rw [xsU]
  unfold seqU
  rfl
@[simp] theorem x1U_iff {c : Ex} {a b : List Sx} : x1U Γ mu (.iff c a b) ρ = brU (truthU (evU Γ c (uno mu (esc Γ.fl c) ρ))) (xsU Γ mu a (uno mu (esc Γ.fl c) ρ)) (xsU Γ mu b (uno mu (esc Γ.fl c) ρ)) (fun e => some (.ex e, uno mu (esc Γ.fl c) ρ)) := by
  rw [x1U]
  unfold brU
  rfl
end
@[simp] theorem if_dec {α : Sort u} (P : Prop) [Decidable P] (a b : α) : (if decide P = true then a else b) = if P then a else b := by
  by_cases h : P <;> simp [h]
def sE : Option Sl → RU U
  | some (.val u) => some (.ok u)
  | some (.own u) => some (.ok u)
  | _ => none
@[simp] theorem sE_val (u : U) : sE (some (.val u)) = some (.ok u) := nr rfl
@[simp] theorem sE_own (u : U) : sE (some (.own u)) = some (.ok u) := nr rfl
section
variable {Γ : GamU} {mu : List Nat} {ρ : EU}
@[simp] theorem evU_var {i : Nat} : evU Γ (.var i) ρ = sE ρ[i]? := by
  unfold evU
  split
  · rename_i s h; rw [h]; cases s <;> rfl
  · rename_i h; rw [h]; rfl
@[simp] theorem evU_int {i : Int} : evU Γ (.int i) ρ = some (.ok (.int i)) := by unfold evU; rfl
@[simp] theorem evU_str {i : Str} : evU Γ (.str i) ρ = some (.ok (.str i)) := by unfold evU; rfl
@[simp] theorem evU_bl {i : Bool} : evU Γ (.bl i) ρ = some (.ok (.bl i)) := by unfold evU; rfl
@[simp] theorem evU_non : evU Γ .non ρ = some (.ok .non) := by unfold evU; rfl
@[simp] theorem evU_bin {op : Op2} {a b : Ex} : evU Γ (.bin op a b) ρ = bndU (evU Γ a ρ) fun x => bndU (evU Γ b ρ) fun y => liftU (opU op x y) := by rw [evU]
@[simp] theorem evU_cmp {op : Cm} {a b : Ex} : evU Γ (.cmp op a b) ρ = bndU (evU Γ a ρ) fun x => bndU (evU Γ b ρ) fun y => liftU ((cmU op x y).map U.bl) := by rw [evU]
@[simp] theorem evU_tup {es : List Ex} : evU Γ (.tup es) ρ = bndU (evsU Γ es ρ) fun us => some (.ok (.tup us)) := by rw [evU]; rfl
@[simp] theorem evU_lst {es : List Ex} : evU Γ (.lst es) ρ = bndU (evsU Γ es ρ) fun us => some (.ok (.lst us)) := by rw [evU]; rfl
@[simp] theorem evU_idx {a i : Ex} : evU Γ (.idx a i) ρ = bndU (evU Γ a ρ) fun x => bndU (evU Γ i ρ) fun y => liftU (idxU x y) := by rw [evU]
@[simp] theorem evU_call {f : Nat} {es : List Ex} : evU Γ (.call f es) ρ = bndU (evsU Γ es ρ) fun us => Γ.call f us := by rw [evU]
@[simp] theorem evU_mk {f : Nat} {es : List Ex} : evU Γ (.mk f es) ρ = bndU (evsU Γ es ρ) fun us => Γ.make f us := by rw [evU]
@[simp] theorem evU_bif {f : Bf} {es : List Ex} : evU Γ (.bif f es) ρ = bndU (evsU Γ es ρ) fun us => liftU (bfnU f us) := by rw [evU]
@[simp] theorem evU_isi {a : Ex} {t : Isa} : evU Γ (.isi a t) ρ = bndU (evU Γ a ρ) fun x => liftU ((isaU_ Γ x t).map U.bl) := by rw [evU]
@[simp] theorem evU_fld {a : Ex} {x : Nat} : evU Γ (.fld a x) ρ = bndU (evU Γ a ρ) fun u => liftU (fldU Γ u x) := by rw [evU]
@[simp] theorem evU_not {a : Ex} : evU Γ (.not a) ρ = bndU (truthU (evU Γ a ρ)) fun b => some (.ok (.bl (!b))) := by rw [evU]; rfl
@[simp] theorem evU_and {es : List Ex} : evU Γ (.and es) ρ = evAndU Γ es ρ := by rw [evU]
@[simp] theorem evU_or {es : List Ex} : evU Γ (.or es) ρ = evOrU Γ es ρ := by rw [evU]
@[simp] theorem evU_ite {c a b : Ex} : evU Γ (.ite c a b) ρ = brU (truthU (evU Γ c ρ)) (evU Γ a ρ) (evU Γ b ρ) (fun e => some (.ex e)) := by
  rw [evU]
  unfold brU
  cases truthU (evU Γ c ρ) with
  | none => rfl
  | some r => cases r with
    | ok b => cases b <;> rfl
    | ex e => rfl
@[simp] theorem evU_neg {a : Ex} : evU Γ (.neg a) ρ = bndU (evU Γ a ρ) fun x => (match x with
    | .int i => some (.ok (.int (-i)))
    | _ => none) := by rw [evU]; rfl
@[simp] theorem evU_slc {a : Ex} {lo hi : List Ex} : evU Γ (.slc a lo hi) ρ = bndU (evU Γ a ρ) fun x => bndU (bndU (evsU Γ lo ρ) toPU) fun l => bndU (bndU (evsU Γ hi ρ) toPU) fun h => liftU (slcU x l h) := by rw [evU]
@[simp] theorem toPU_nil : toPU [] = some (.ok none) := nr rfl
@[simp] theorem toPU_int {i : Int} : toPU [.int i] = some (.ok (some i)) := nr rfl
@[simp] theorem evsU_nil : evsU Γ [] ρ = some (.ok []) := by rw [evsU]; rfl
@[simp] theorem evsU_cons {e : Ex} {es : List Ex} : evsU Γ (e :: es) ρ = bndU (evU Γ e ρ) fun u => bndU (evsU Γ es ρ) fun us => some (.ok (u :: us)) := by rw [evsU]; rfl
@[simp] theorem evAndU_one {e : Ex} : evAndU Γ [e] ρ = evU Γ e ρ := by rw [evAndU]
@[simp] theorem evAndU_cons {e e2 : Ex} {es : List Ex} : evAndU Γ (e :: e2 :: es) ρ = brU (truthU (evU Γ e ρ)) (evAndU Γ (e2 :: es) ρ) (some (.ok (.bl false))) (fun e => some (.ex e)) := by
  rw [evAndU]
  · unfold brU
    cases truthU (evU Γ e ρ) with
    | none => rfl
    | some r => cases r with
      | ok b => cases b <;> rfl
      | ex e => rfl
  · simp
@[simp] theorem evOrU_one {e : Ex} : evOrU Γ [e] ρ = evU Γ e ρ := by rw [evOrU]
@[simp] theorem evOrU_cons {e e2 : Ex} {es : List Ex} : evOrU Γ (e :: e2 :: es) ρ = brU (truthU (evU Γ e ρ)) (some (.ok (.bl true))) (evOrU Γ (e2 :: es) ρ) (fun e => some (.ex e)) := by
  rw [evOrU]
  · unfold brU
    cases truthU (evU Γ e ρ) with
    | none => rfl
    | some r => cases r with
      | ok b => cases b <;> rfl
      | ex e => rfl
  · simp
@[simp] theorem evU_chn {o1 o2 : Cm} {a b c : Ex} : evU Γ (.chn o1 o2 a b c) ρ = bndU (evU Γ a ρ) fun x => bndU (evU Γ b ρ) fun y => brU ((cmU o1 x y).map Ru.ok) (bndU (evU Γ c ρ) fun z => liftU ((cmU o2 y z).map U.bl)) (some (.ok (.bl false))) (fun e => some (.ex e)) := by
  rw [evU]
  congr 1
  funext x
  congr 1
  funext y
  unfold brU
  cases cmU o1 x y with
  | none => rfl
  | some b => cases b <;> rfl
@[simp] theorem evU_chn3 {o1 o2 o3 : Cm} {a b c d : Ex} : evU Γ (.chn3 o1 o2 o3 a b c d) ρ = bndU (evU Γ a ρ) fun x => bndU (evU Γ b ρ) fun y => brU ((cmU o1 x y).map Ru.ok) (bndU (evU Γ c ρ) fun z => brU ((cmU o2 y z).map Ru.ok) (bndU (evU Γ d ρ) fun u => liftU ((cmU o3 z u).map U.bl)) (some (.ok (.bl false))) (fun e => some (.ex e))) (some (.ok (.bl false))) (fun e => some (.ex e)) := by
  rw [evU]
  congr 1
  funext x
  congr 1
  funext y
  unfold brU
  cases cmU o1 x y with
  | none => rfl
  | some b =>
    cases b with
    | false => rfl
    | true =>
      dsimp only [Option.map_some]
      congr 1
      funext z
      cases cmU o2 y z with
      | none => rfl
      | some b => cases b <;> rfl
/-- an object's method -/
def meU (Γ : GamU) (x : U) (m : Nat) (es : RU (List U)) : RU U := match x with
  | .ins c fs => (match fs.lookup m, Γ.mt c m with
    | none, some f => bndU es fun us => Γ.call f (.ins c fs :: us)
    | _, _ => none)
  | _ => none
@[simp] theorem evU_meth {o : Ex} {m : Nat} {es : List Ex} : evU Γ (.meth o m es) ρ = bndU (evU Γ o ρ) fun x => meU Γ x m (evsU Γ es ρ) := by
  rw [evU]
  congr 1
/-- a built-in method -/
@[simp] theorem evU_bm {o : Ex} {m : Bm} {es : List Ex} : evU Γ (.bm o m es) ρ = bndU (evU Γ o ρ) fun x => if bmTyU m x = true then bndU (evsU Γ es ρ) fun us => liftU (bmtU m x us) else none := by
  rw [evU]
  congr 1
  funext x
  cases bmTyU m x <;> rfl
/-- a comprehension's item -/
def lcG (Γ : GamU) (elt : Ex) (tg : List Nat) (ifs : List Ex) (ρ : EU) (u : U) : RU (Option U) := match setU tg u ρ with
  | none => none
  | some ρ1 => brU (evAllU Γ ifs ρ1) (bndU (evU Γ elt ρ1) fun y => some (.ok (some y))) (some (.ok none)) (fun e => some (.ex e))
def lcF (g : U → RU (Option U)) (its : Option (List U)) : RU U := match its with
  | none => none
  | some its => (match lcU g its with
    | some ys => if its.length < 1000000000 ∧ ys.length ≤ 16777216 then some (.ok (.lst ys)) else none
    | none => none)
theorem lcF_ok {g : U → RU (Option U)} {its ys : List U} (h : lcU g its = some ys) (h1 : its.length < 1000000000) (h2 : ys.length ≤ 16777216) : lcF g (some its) = some (.ok (.lst ys)) := by
  unfold lcF
  simp only [h]
  rw [if_pos ⟨h1, h2⟩]
@[simp] theorem evU_lc {elt : Ex} {tg : List Nat} {k : Ik} {es ifs : List Ex} : evU Γ (.lc elt tg k es ifs) ρ = bndU (evsU Γ es ρ) fun us => lcF (lcG Γ elt tg ifs ρ) (itU k us) := by
  rw [evU]
  congr 1
  funext us
  unfold lcF
  cases itU k us with
  | none => rfl
  | some its =>
    dsimp only
    have : (fun u => (match setU tg u ρ with
        | none => none
        | some ρ1 => bndU (evAllU Γ ifs ρ1) fun b => match b with
          | true => bndU (evU Γ elt ρ1) fun y => okU (some y)
          | false => okU none)) = lcG Γ elt tg ifs ρ := by
      funext u
      unfold lcG
      cases setU tg u ρ with
      | none => rfl
      | some ρ1 =>
        dsimp only
        unfold brU
        cases evAllU Γ ifs ρ1 with
        | none => rfl
        | some r => cases r with
          | ok b => cases b <;> rfl
          | ex e => rfl
    rw [← this]
    rfl
@[simp] theorem evAllU_nil : evAllU Γ [] ρ = some (.ok true) := by rw [evAllU]; rfl
@[simp] theorem evAllU_cons {e : Ex} {es : List Ex} : evAllU Γ (e :: es) ρ = brU (truthU (evU Γ e ρ)) (evAllU Γ es ρ) (some (.ok false)) (fun e => some (.ex e)) := by
  rw [evAllU]
  unfold brU
  cases truthU (evU Γ e ρ) with
  | none => rfl
  | some r => cases r with
    | ok b => cases b <;> rfl
    | ex e => rfl
/-! statements, one by one -/
@[simp] theorem x1U_ret {e : Ex} : x1U Γ mu (.ret e) ρ = toFlU (evU Γ e (uno mu (esc Γ.fl e) ρ)) (uno mu (esc Γ.fl e) ρ) fun u => some (.ret ((isOwnAt ρ e || frE Γ.fr e) && isLst u) u, uno mu (esc Γ.fl e) ρ) := by rw [x1U]
@[simp] theorem mutOf_0 {i : Nat} : mutOf (.var i) = none := nr rfl
@[simp] theorem iniOf_0 {i : Nat} : iniOf (.var i) = none := nr rfl
@[simp] theorem mutOf_1 {i : Int} : mutOf (.int i) = none := nr rfl
@[simp] theorem iniOf_1 {i : Int} : iniOf (.int i) = none := nr rfl
@[simp] theorem mutOf_2 {i : Str} : mutOf (.str i) = none := nr rfl
@[simp] theorem iniOf_2 {i : Str} : iniOf (.str i) = none := nr rfl
@[simp] theorem mutOf_3 {i : Bool} : mutOf (.bl i) = none := nr rfl
@[simp] theorem iniOf_3 {i : Bool} : iniOf (.bl i) = none := nr rfl
@[simp] theorem mutOf_4  : mutOf (.non) = none := nr rfl
@[simp] theorem iniOf_4  : iniOf (.non) = none := nr rfl
@[simp] theorem mutOf_5 {i : Nat} : mutOf (.glob i) = none := nr rfl
@[simp] theorem iniOf_5 {i : Nat} : iniOf (.glob i) = none := nr rfl
@[simp] theorem mutOf_6 {o : Op2} {a b : Ex} : mutOf (.bin o a b) = none := nr rfl
@[simp] theorem iniOf_6 {o : Op2} {a b : Ex} : iniOf (.bin o a b) = none := nr rfl
@[simp] theorem mutOf_7 {a : Ex} : mutOf (.neg a) = none := nr rfl
@[simp] theorem iniOf_7 {a : Ex} : iniOf (.neg a) = none := nr rfl
@[simp] theorem mutOf_8 {o : Cm} {a b : Ex} : mutOf (.cmp o a b) = none := nr rfl
@[simp] theorem iniOf_8 {o : Cm} {a b : Ex} : iniOf (.cmp o a b) = none := nr rfl
@[simp] theorem mutOf_9 {o p : Cm} {a b c : Ex} : mutOf (.chn o p a b c) = none := nr rfl
@[simp] theorem iniOf_9 {o p : Cm} {a b c : Ex} : iniOf (.chn o p a b c) = none := nr rfl
@[simp] theorem mutOf_10 {o p q : Cm} {a b c d : Ex} : mutOf (.chn3 o p q a b c d) = none := nr rfl
@[simp] theorem iniOf_10 {o p q : Cm} {a b c d : Ex} : iniOf (.chn3 o p q a b c d) = none := nr rfl
@[simp] theorem mutOf_11 {es : List Ex} : mutOf (.and es) = none := nr rfl
@[simp] theorem iniOf_11 {es : List Ex} : iniOf (.and es) = none := nr rfl
@[simp] theorem mutOf_12 {es : List Ex} : mutOf (.or es) = none := nr rfl
@[simp] theorem iniOf_12 {es : List Ex} : iniOf (.or es) = none := nr rfl
@[simp] theorem mutOf_13 {a : Ex} : mutOf (.not a) = none := nr rfl
@[simp] theorem iniOf_13 {a : Ex} : iniOf (.not a) = none := nr rfl
@[simp] theorem mutOf_14 {a b c : Ex} : mutOf (.ite a b c) = none := nr rfl
@[simp] theorem iniOf_14 {a b c : Ex} : iniOf (.ite a b c) = none := nr rfl
@[simp] theorem mutOf_15 {es : List Ex} : mutOf (.tup es) = none := nr rfl
@[simp] theorem iniOf_15 {es : List Ex} : iniOf (.tup es) = none := nr rfl
@[simp] theorem mutOf_16 {es : List Ex} : mutOf (.lst es) = none := nr rfl
@[simp] theorem iniOf_16 {es : List Ex} : iniOf (.lst es) = none := nr rfl
@[simp] theorem mutOf_17 {a b : Ex} : mutOf (.idx a b) = none := nr rfl
@[simp] theorem iniOf_17 {a b : Ex} : iniOf (.idx a b) = none := nr rfl
@[simp] theorem mutOf_18 {a : Ex} {lo hi : List Ex} : mutOf (.slc a lo hi) = none := nr rfl
@[simp] theorem iniOf_18 {a : Ex} {lo hi : List Ex} : iniOf (.slc a lo hi) = none := nr rfl
@[simp] theorem mutOf_19 {f : Nat} {es : List Ex} : mutOf (.call f es) = none := nr rfl
@[simp] theorem iniOf_19 {f : Nat} {es : List Ex} : iniOf (.call f es) = none := nr rfl
@[simp] theorem mutOf_20 {f : Nat} {es : List Ex} : mutOf (.mk f es) = none := nr rfl
@[simp] theorem iniOf_20 {f : Nat} {es : List Ex} : iniOf (.mk f es) = none := nr rfl
@[simp] theorem mutOf_21 {f : Bf} {es : List Ex} : mutOf (.bif f es) = none := nr rfl
@[simp] theorem iniOf_21 {f : Bf} {es : List Ex} : iniOf (.bif f es) = none := nr rfl
@[simp] theorem mutOf_22 {a : Ex} {t : Isa} : mutOf (.isi a t) = none := nr rfl
@[simp] theorem iniOf_22 {a : Ex} {t : Isa} : iniOf (.isi a t) = none := nr rfl
@[simp] theorem mutOf_23 {a : Ex} {m : Nat} {es : List Ex} : mutOf (.meth a m es) = none := nr rfl
@[simp] theorem iniOf_23 {a : Ex} {m : Nat} {es : List Ex} : iniOf (.meth a m es) = none := nr rfl
@[simp] theorem mutOf_24 {a : Ex} {m : Nat} : mutOf (.fld a m) = none := nr rfl
@[simp] theorem iniOf_24 {a : Ex} {m : Nat} : iniOf (.fld a m) = none := nr rfl
@[simp] theorem mutOf_25 {e : Ex} {tg : List Nat} {k : Ik} {es fs : List Ex} : mutOf (.lc e tg k es fs) = none := nr rfl
@[simp] theorem iniOf_25 {e : Ex} {tg : List Nat} {k : Ik} {es fs : List Ex} : iniOf (.lc e tg k es fs) = none := nr rfl
@[simp] theorem mutOf_26 {a : Ex} {es : List Ex} : mutOf (.bm a .index es) = none := by cases a <;> rfl
@[simp] theorem mutOf_27 {a : Ex} {es : List Ex} : mutOf (.bm a .join es) = none := by cases a <;> rfl
@[simp] theorem mutOf_28 {a : Ex} {es : List Ex} : mutOf (.bm a .split es) = none := by cases a <;> rfl
@[simp] theorem mutOf_29 {a : Ex} {es : List Ex} : mutOf (.bm a .partition es) = none := by cases a <;> rfl
@[simp] theorem mutOf_30 {a : Ex} {es : List Ex} : mutOf (.bm a .get es) = none := by cases a <;> rfl
@[simp] theorem x1U_retN : x1U Γ mu .retN ρ = some (.ret false .non, ρ) := by rw [x1U]
@[simp] theorem x1U_pass : x1U Γ mu .pass ρ = some (.nxt, ρ) := by rw [x1U]
@[simp] theorem x1U_brk : x1U Γ mu .brk ρ = some (.brk, ρ) := by rw [x1U]
@[simp] theorem x1U_cnt : x1U Γ mu .cnt ρ = some (.cnt, ρ) := by rw [x1U]
@[simp] theorem x1U_par {i j : Nat} {a b : Ex} : x1U Γ mu (.par i j a b) ρ = toFlU (evU Γ a (uno mu (esc Γ.fl a ++ esc Γ.fl b) ρ)) (uno mu (esc Γ.fl a ++ esc Γ.fl b) ρ) fun v => toFlU (evU Γ b (uno mu (esc Γ.fl a ++ esc Γ.fl b) ρ)) (uno mu (esc Γ.fl a ++ esc Γ.fl b) ρ) fun w => some (.nxt, ((uno mu (esc Γ.fl a ++ esc Γ.fl b) ρ).set i (.val v)).set j (.val w)) := by rw [x1U]
@[simp] theorem x1U_raise {c : Nat} {fs : List Nat} {es : List Ex} : x1U Γ mu (.raise c fs es) ρ = toFlU (evsU Γ es (uno mu (escs Γ.fl es) ρ)) (uno mu (escs Γ.fl es) ρ) fun us => if fs.length = us.length then some (.ex ⟨c, (fs.zip us).reverse⟩, uno mu (escs Γ.fl es) ρ) else none := by rw [x1U]
/-- a loop's turn -/
def stU (Γ : GamU) (mu : List Nat) (tg : List Nat) (body : List Sx) (u : U) (ρ : EU) : Option (FlU × EU) := match setU tg u ρ with
  | none => none
  | some ρ2 => xsU Γ mu body ρ2
def foF (step : U → EU → Option (FlU × EU)) (its : Option (List U)) (ρ : EU) : Option (FlU × EU) := match its with
  | none => none
  | some its => if its.length < 1000000000 then forU step its ρ else none
theorem foF_ok {step : U → EU → Option (FlU × EU)} {its : List U} {ρ : EU} (h : its.length < 1000000000) : foF step (some its) ρ = forU step its ρ := by
  unfold foF
  simp only [h, if_true]
@[simp] theorem x1U_for {tg : List Nat} {k : Ik} {es : List Ex} {body : List Sx} : x1U Γ mu (.for tg k es body) ρ = toFlU (evsU Γ es (uno mu (escs Γ.fl es) ρ)) (uno mu (escs Γ.fl es) ρ) fun us => foF (stU Γ mu tg body) (itU k us) (uno mu (escs Γ.fl es) ρ) := by
  rw [x1U]
  rfl
def tsU (Γ : GamU) (c : Ex) (ρ : EU) : RU Bool := truthU (evU Γ c ρ)
@[simp] theorem x1U_while {c : Ex} {body : List Sx} : x1U Γ mu (.while c body) ρ = whlU (uno mu (esc Γ.fl c)) (tsU Γ c) (xsU Γ mu body) big ρ := by rw [x1U]; rfl
/-! what changes a name's own -/
def muU (x : Option Sl) (m : Bm) (es : RU (List U)) (ρ : EU) (k : U → List U → Option (FlU × EU)) : Option (FlU × EU) := match x with
  | some (.own (.lst xs)) => toFlU es ρ fun us => (mutU m xs us).bind fun p => k p.1 p.2
  | _ => none
@[simp] theorem muU_own {xs us : List U} {m : Bm} {k : U → List U → Option (FlU × EU)} : muU (some (.own (.lst xs))) m (some (.ok us)) ρ k = (mutU m xs us).bind fun p => k p.1 p.2 := nr rfl
/-- x = e -/
def asU (Γ : GamU) (mu : List Nat) (i : Nat) (e : Ex) (ρ : EU) (t : Option (Nat × Bm × List Ex)) : Option (FlU × EU) := match t with
  | some (j, m, es) => muU (uno mu (escs Γ.fl es) ρ)[j]? m (evsU Γ es (uno mu (escs Γ.fl es) ρ)) (uno mu (escs Γ.fl es) ρ) (fun u ys => some (.nxt, ((uno mu (escs Γ.fl es) ρ).set j (.own (.lst ys))).set i (.val u)))
  | none => toFlU (evU Γ e (uno mu (esc Γ.fl e) ρ)) (uno mu (esc Γ.fl e) ρ) fun u => some (.nxt, (uno mu (esc Γ.fl e) ρ).set i (slot mu i (frE Γ.fr e) u))
@[simp] theorem asU_none {i : Nat} {e : Ex} : asU Γ mu i e ρ none = toFlU (evU Γ e (uno mu (esc Γ.fl e) ρ)) (uno mu (esc Γ.fl e) ρ) fun u => some (.nxt, (uno mu (esc Γ.fl e) ρ).set i (slot mu i (frE Γ.fr e) u)) := nr rfl
@[simp] theorem asU_some {i : Nat} {e : Ex} {j : Nat} {m : Bm} {es : List Ex} : asU Γ mu i e ρ (some (j, m, es)) = muU (uno mu (escs Γ.fl es) ρ)[j]? m (evsU Γ es (uno mu (escs Γ.fl es) ρ)) (uno mu (escs Γ.fl es) ρ) (fun u ys => some (.nxt, ((uno mu (escs Γ.fl es) ρ).set j (.own (.lst ys))).set i (.val u))) := nr rfl
@[simp] theorem x1U_asg {i : Nat} {e : Ex} : x1U Γ mu (.asg i e) ρ = asU Γ mu i e ρ (mutOf e) := by
  rw [x1U]
  cases mutOf e with
  | none => rfl
  | some t =>
    obtain ⟨j, m, es⟩ := t
    simp only [map_bind]
    rfl
@[simp] theorem mutU_app {xs : List U} {u : U} (h : xs.length < 16777216) : mutU .append xs [u] = some (.non, xs ++ [u]) := by
  show (if xs.length < 16777216 then some (U.non, xs ++ [u]) else none) = _
  rw [if_pos h]
@[simp] theorem iniOf_bm {a : Ex} {m : Bm} {es : List Ex} : iniOf (.bm a m es) = none := nr rfl
@[simp] theorem mutOf_app {j : Nat} {es : List Ex} : mutOf (.bm (.var j) .append es) = some (j, .append, es) := nr rfl
@[simp] theorem mutOf_pop {j : Nat} {es : List Ex} : mutOf (.bm (.var j) .pop es) = some (j, .pop, es) := nr rfl
@[simp] theorem mutOf_ins {j : Nat} {es : List Ex} : mutOf (.bm (.var j) .insert es) = some (j, .insert, es) := nr rfl
@[simp] theorem mutOf_clr {j : Nat} {es : List Ex} : mutOf (.bm (.var j) .clear es) = some (j, .clear, es) := nr rfl
@[simp] theorem bmStr_app : bmStr .append = false := nr rfl
@[simp] theorem bmStr_pop : bmStr .pop = false := nr rfl
@[simp] theorem bmStr_ins : bmStr .insert = false := nr rfl
@[simp] theorem bmStr_clr : bmStr .clear = false := nr rfl
def inU (Γ : GamU) (x : Option Sl) (f : Option Nat) (es : RU (List U)) (ρ : EU) (k : Nat → List (Nat × U) → Option (FlU × EU)) : Option (FlU × EU) := match x, f with
  | some (.own (.ins d fs)), some f => toFlU es ρ fun us => (Γ.ini f d fs us).bind fun gs => k d gs
  | _, _ => none
@[simp] theorem inU_own {d f : Nat} {fs : List (Nat × U)} {us : List U} {k : Nat → List (Nat × U) → Option (FlU × EU)} : inU Γ (some (.own (.ins d fs))) (some f) (some (.ok us)) ρ k = (Γ.ini f d fs us).bind fun gs => k d gs := nr rfl
/-- e alone -/
def exU (Γ : GamU) (mu : List Nat) (e : Ex) (ρ : EU) (t : Option (Nat × Bm × List Ex)) (q : Option (Nat × Nat × Nat × List Ex)) : Option (FlU × EU) := match t, q with
  | some (j, m, es), _ => muU (uno mu (escs Γ.fl es) ρ)[j]? m (evsU Γ es (uno mu (escs Γ.fl es) ρ)) (uno mu (escs Γ.fl es) ρ) (fun _ ys => some (.nxt, (uno mu (escs Γ.fl es) ρ).set j (.own (.lst ys))))
  | none, some (c, m, j, es) => inU Γ (uno mu (escs Γ.fl es) ρ)[j]? (Γ.mt c m) (evsU Γ es (uno mu (escs Γ.fl es) ρ)) (uno mu (escs Γ.fl es) ρ) (fun d gs => some (.nxt, (uno mu (escs Γ.fl es) ρ).set j (.own (.ins d gs))))
  | none, none => toFlU (evU Γ e (uno mu (esc Γ.fl e) ρ)) (uno mu (esc Γ.fl e) ρ) fun _ => some (.nxt, uno mu (esc Γ.fl e) ρ)
@[simp] theorem exU_mut {e : Ex} {q : Option (Nat × Nat × Nat × List Ex)} {j : Nat} {m : Bm} {es : List Ex} : exU Γ mu e ρ (some (j, m, es)) q = muU (uno mu (escs Γ.fl es) ρ)[j]? m (evsU Γ es (uno mu (escs Γ.fl es) ρ)) (uno mu (escs Γ.fl es) ρ) (fun _ ys => some (.nxt, (uno mu (escs Γ.fl es) ρ).set j (.own (.lst ys)))) := nr rfl
@[simp] theorem exU_ini {e : Ex} {c m j : Nat} {es : List Ex} : exU Γ mu e ρ none (some (c, m, j, es)) = inU Γ (uno mu (escs Γ.fl es) ρ)[j]? (Γ.mt c m) (evsU Γ es (uno mu (escs Γ.fl es) ρ)) (uno mu (escs Γ.fl es) ρ) (fun d gs => some (.nxt, (uno mu (escs Γ.fl es) ρ).set j (.own (.ins d gs)))) := nr rfl
@[simp] theorem exU_no {e : Ex} : exU Γ mu e ρ none none = toFlU (evU Γ e (uno mu (esc Γ.fl e) ρ)) (uno mu (esc Γ.fl e) ρ) fun _ => some (.nxt, uno mu (esc Γ.fl e) ρ) := nr rfl
@[simp] theorem x1U_exp {e : Ex} : x1U Γ mu (.exp e) ρ = exU Γ mu e ρ (mutOf e) (iniOf e) := by
  rw [x1U]
  cases mutOf e with
  | some t =>
    obtain ⟨j, m, es⟩ := t
    simp only [map_bind]
    rfl
  | none =>
    cases iniOf e with
    | none => rfl
    | some t =>
      obtain ⟨c, m, j, es⟩ := t
      dsimp only
      show (match (uno mu (escs Γ.fl es) ρ)[j]?, Γ.mt c m with
        | some (.own (.ins d fs)), some f => toFlU (evsU Γ es (uno mu (escs Γ.fl es) ρ)) (uno mu (escs Γ.fl es) ρ) fun us => (Γ.ini f d fs us).map fun gs => (FlU.nxt, (uno mu (escs Γ.fl es) ρ).set j (.own (.ins d gs)))
        | _, _ => none) = _
      simp only [map_bind]
      rfl
@[simp] theorem mutOf_callc {c m : Nat} {es : List Ex} : mutOf (.callc c m es) = none := nr rfl
@[simp] theorem iniOf_callc {c m j : Nat} {es : List Ex} : iniOf (.callc c m (.var j :: es)) = some (c, m, j, es) := nr rfl
/-- x[i] = v on a name's own list -/
def suU (x : Option Sl) (i : Int) (v : U) (k : List U → Option (FlU × EU)) : Option (FlU × EU) := match x with
  | some (.own (.lst xs)) => (L2.ixN xs.length i).bind fun n => k (xs.set n v)
  | _ => none
@[simp] theorem suU_own {xs : List U} {i : Int} {v : U} {k : List U → Option (FlU × EU)} : suU (some (.own (.lst xs))) i v k = (L2.ixN xs.length i).bind fun n => k (xs.set n v) := nr rfl
theorem x1U_sub {j : Nat} {i e : Ex} {v : U} {y : Int} (h1 : evU Γ e (uno mu (esc Γ.fl e ++ esc Γ.fl i) ρ) = some (.ok v)) (h2 : evU Γ i (uno mu (esc Γ.fl e ++ esc Γ.fl i) ρ) = some (.ok (.int y))) : x1U Γ mu (.sub (.var j) i e) ρ = suU (uno mu (esc Γ.fl e ++ esc Γ.fl i) ρ)[j]? y v fun xs => some (.nxt, (uno mu (esc Γ.fl e ++ esc Γ.fl i) ρ).set j (.own (.lst xs))) := by
  rw [x1U]
  simp only [varOf, h1, h2, toFlU_ok, map_bind]
  rfl
/-- o.f = e on a name's own instance -/
def fsU (Γ : GamU) (x : Option Sl) (f : Nat) (v : U) (k : Nat → List (Nat × U) → Option (FlU × EU)) : Option (FlU × EU) := match x with
  | some (.own (.ins c fs)) => if Γ.fok c f = true ∧ fs.length < 1000 then k c (putU f v fs) else none
  | _ => none
@[simp] theorem fsU_own {c f : Nat} {fs : List (Nat × U)} {v : U} {k : Nat → List (Nat × U) → Option (FlU × EU)} : fsU Γ (some (.own (.ins c fs))) f v k = if Γ.fok c f = true ∧ fs.length < 1000 then k c (putU f v fs) else none := nr rfl
@[simp] theorem x1U_fset {j x : Nat} {e : Ex} : x1U Γ mu (.fset (.var j) x e) ρ = toFlU (evU Γ e (uno mu (esc Γ.fl e) ρ)) (uno mu (esc Γ.fl e) ρ) fun v => fsU Γ (uno mu (esc Γ.fl e) ρ)[j]? x v fun c fs => some (.nxt, (uno mu (esc Γ.fl e) ρ).set j (.own (.ins c fs))) := by
  rw [x1U]
  rfl
/-- a, b = e -/
def unU (u : U) (is : List Nat) (ρ : EU) : Option (FlU × EU) := match u with
  | .tup us => (setU is (.tup us) ρ).map fun ρ1 => (.nxt, ρ1)
  | _ => none
@[simp] theorem unU_two {i j : Nat} {a b : U} : unU (.tup [a, b]) [i, j] ρ = some (.nxt, (ρ.set i (.val a)).set j (.val b)) := nr rfl
@[simp] theorem unU_three {i j k : Nat} {a b c : U} : unU (.tup [a, b, c]) [i, j, k] ρ = some (.nxt, ((ρ.set i (.val a)).set j (.val b)).set k (.val c)) := nr rfl
@[simp] theorem x1U_unp {is : List Nat} {e : Ex} : x1U Γ mu (.unp is e) ρ = toFlU (evU Γ e (uno mu (esc Γ.fl e) ρ)) (uno mu (esc Γ.fl e) ρ) fun u => unU u is (uno mu (esc Γ.fl e) ρ) := by
  rw [x1U]
  rfl
/-- x += e -/
def auU (x : Option Sl) (op : Op2) (y : RU U) (ρ : EU) (k : U → Option (FlU × EU)) : Option (FlU × EU) := match x with
  | some (.val a) => toFlU y ρ fun b => (augU op a b).bind k
  | _ => none
@[simp] theorem auU_val {a b : U} {op : Op2} {k : U → Option (FlU × EU)} : auU (some (.val a)) op (some (.ok b)) ρ k = (augU op a b).bind k := nr rfl
@[simp] theorem augU_add {i j : Int} : augU .add (.int i) (.int j) = some (.int (i + j)) := nr rfl
@[simp] theorem augU_sub {i j : Int} : augU .sub (.int i) (.int j) = some (.int (i - j)) := nr rfl
@[simp] theorem x1U_aug {i : Nat} {op : Op2} {e : Ex} : x1U Γ mu (.aug i op e) ρ = auU (uno mu (esc Γ.fl e) ρ)[i]? op (evU Γ e (uno mu (esc Γ.fl e) ρ)) (uno mu (esc Γ.fl e) ρ) fun w => some (.nxt, (uno mu (esc Γ.fl e) ρ).set i (.val w)) := by
  rw [x1U]
  simp only [map_bind]
  rfl
@[simp] theorem slot_nil {i : Nat} {fr : Bool} {u : U} : slot [] i fr u = .val u := by unfold slot; simp
end
@[simp] theorem setU_one {i : Nat} {u : U} {ρ : EU} : setU [i] u ρ = some (ρ.set i (.val u)) := nr rfl
@[simp] theorem setU_two {i j : Nat} {a b : U} {ρ : EU} : setU [i, j] (.tup [a, b]) ρ = some ((ρ.set i (.val a)).set j (.val b)) := nr rfl
@[simp] theorem bfnU_lenT {us : List U} : bfnU .len [.tup us] = some (.int us.length) := nr rfl
@[simp] theorem bfnU_lenL {us : List U} : bfnU .len [.lst us] = some (.int us.length) := nr rfl
@[simp] theorem bfnU_lenF {us : List U} : bfnU .len [.fro us] = some (.int us.length) := nr rfl
@[simp] theorem bfnU_listL {us : List U} : bfnU .list [.lst us] = some (.lst us) := nr rfl
@[simp] theorem bfnU_listT {us : List U} : bfnU .list [.tup us] = some (.lst us) := nr rfl
@[simp] theorem bfnU_listF {us : List U} : bfnU .list [.fro us] = some (.lst us) := nr rfl
@[simp] theorem bfnU_tupL {us : List U} : bfnU .tuple [.lst us] = some (.tup us) := nr rfl
@[simp] theorem bfnU_abs {i : Int} : bfnU .abs [.int i] = some (.int i.natAbs) := by
  show some (U.int (if i < 0 then -i else i)) = _
  have : (if i < 0 then -i else i) = (i.natAbs : Int) := by split <;> omega
  rw [this]
@[simp] theorem bfnU_max2 {i j : Int} : bfnU .max2 [.int i, .int j] = some (.int (max i j)) := by
  show some (U.int (if j > i then j else i)) = _
  have : (if j > i then j else i) = max i j := by split <;> omega
  rw [this]
@[simp] theorem bfnU_min2 {i j : Int} : bfnU .min2 [.int i, .int j] = some (.int (min i j)) := by
  show some (U.int (if j < i then j else i)) = _
  have : (if j < i then j else i) = min i j := by split <;> omega
  rw [this]
@[simp] theorem bfnU_intB {b : Bool} : bfnU .int [.bl b] = some (.int (if b then 1 else 0)) := nr rfl
@[simp] theorem bfnU_intI {i : Int} : bfnU .int [.int i] = some (.int i) := nr rfl
@[simp] theorem itU_valL {us : List U} : itU .val [.lst us] = some us := nr rfl
@[simp] theorem itU_valT {us : List U} : itU .val [.tup us] = some us := nr rfl
@[simp] theorem itU_valF {us : List U} : itU .val [.fro us] = some us := nr rfl
@[simp] theorem itU_enum {us : List U} : itU .enum [.lst us] = some (us.mapIdx fun i u => .tup [.int i, u]) := nr rfl
theorem itU_range {j : Int} (h : j < 2 ^ 60) (h0 : -(2 ^ 60) < j) : itU .range1 [.int j] = some ((List.range j.toNat).map fun (i : Nat) => .int i) := by
  show (if -(2 ^ 62) ≤ j ∧ j < 2 ^ 62 then some ((List.range j.toNat).map fun (i : Nat) => U.int (0 + (i : Int))) else none) = _
  rw [if_pos ⟨by omega, by omega⟩]
  simp
theorem itU_len {n : Nat} (h : n < 1000000000) : itU .range1 [.int (n : Nat)] = some ((List.range n).map fun (i : Nat) => .int i) := by
  have := itU_range (j := (n : Nat)) (by omega) (by omega)
  rw [Int.toNat_natCast] at this
  exact this
theorem itU_range2 {i j : Int} (h : j < 2 ^ 60) (h0 : -(2 ^ 60) < i) (h1 : i < 2 ^ 60) (h2 : -(2 ^ 60) < j) : itU .range2 [.int i, .int j] = some ((List.range (j - i).toNat).map fun (k : Nat) => .int (i + (k : Int))) := by
  show (if -(2 ^ 62) ≤ i ∧ i < 2 ^ 62 ∧ -(2 ^ 62) ≤ j ∧ j < 2 ^ 62 then some ((List.range (j - i).toNat).map fun (k : Nat) => U.int (i + (k : Int))) else none) = _
  rw [if_pos ⟨by omega, by omega, by omega, by omega⟩]
/-! ### loops -/
theorem forU_inv {step : U → EU → Option (FlU × EU)} {us : List U} (P : Nat → EU → Prop)
    (h : ∀ i u ρ, us[i]? = some u → P i ρ → ∃ ρ', (step u ρ = some (.nxt, ρ') ∨ step u ρ = some (.cnt, ρ')) ∧ P (i + 1) ρ') :
    ∀ (n i : Nat) (ρ : EU), n = us.length - i → i ≤ us.length → P i ρ → ∃ ρ', forU step (us.drop i) ρ = some (.nxt, ρ') ∧ P us.length ρ'
  | 0, i, ρ, hn, hi, p => by
    have : i = us.length := by omega
    subst this
    rw [List.drop_eq_nil_of_le (Nat.le_refl _)]
    exact ⟨ρ, by unfold forU; rfl, p⟩
  | n + 1, i, ρ, hn, hi, p => by
    have hl : i < us.length := by omega
    rw [List.drop_eq_getElem_cons hl]
    obtain ⟨ρ1, h1, p1⟩ := h i us[i] ρ (List.getElem?_eq_getElem hl) p
    obtain ⟨ρ2, h2, p2⟩ := forU_inv P h n (i + 1) ρ1 (by omega) hl p1
    refine ⟨ρ2, ?_, p2⟩
    unfold forU
    rcases h1 with h1 | h1 <;> rw [h1] <;> exact h2
/-- a loop whose turns go on -/
theorem forU_all {step : U → EU → Option (FlU × EU)} {us : List U} {ρ : EU} (P : Nat → EU → Prop) (h0 : P 0 ρ)
    (h : ∀ i u ρ, us[i]? = some u → P i ρ → ∃ ρ', (step u ρ = some (.nxt, ρ') ∨ step u ρ = some (.cnt, ρ')) ∧ P (i + 1) ρ') : ∃ ρ', forU step us ρ = some (.nxt, ρ') ∧ P us.length ρ' := by
  have := forU_inv P h us.length 0 ρ rfl (Nat.zero_le _) h0
  simpa using this
/-- a loop that may be left -/
theorem forU_find {step : U → EU → Option (FlU × EU)} {us : List U} (P : Nat → EU → Prop) (Q : FlU → EU → Prop)
    (h : ∀ i u ρ, us[i]? = some u → P i ρ → ∃ f ρ', step u ρ = some (f, ρ') ∧ (match f with
      | .nxt => P (i + 1) ρ'
      | .cnt => P (i + 1) ρ'
      | .brk => Q .nxt ρ'
      | f => Q f ρ')) (hq : ∀ ρ, P us.length ρ → Q .nxt ρ) :
    ∀ (n i : Nat) (ρ : EU), n = us.length - i → i ≤ us.length → P i ρ → ∃ f ρ', forU step (us.drop i) ρ = some (f, ρ') ∧ Q f ρ'
  | 0, i, ρ, hn, hi, p => by
    have : i = us.length := by omega
    subst this
    rw [List.drop_eq_nil_of_le (Nat.le_refl _)]
    exact ⟨.nxt, ρ, by unfold forU; rfl, hq ρ p⟩
  | n + 1, i, ρ, hn, hi, p => by
    have hl : i < us.length := by omega
    rw [List.drop_eq_getElem_cons hl]
    obtain ⟨f, ρ1, h1, p1⟩ := h i us[i] ρ (List.getElem?_eq_getElem hl) p
    unfold forU
    rw [h1]
    cases f with
    | nxt => exact forU_find P Q h hq n (i + 1) ρ1 (by omega) hl p1
    | cnt => exact forU_find P Q h hq n (i + 1) ρ1 (by omega) hl p1
    | brk => exact ⟨_, _, rfl, p1⟩
    | ret r u => exact ⟨_, _, rfl, p1⟩
    | ex e => exact ⟨_, _, rfl, p1⟩
theorem forU_any {step : U → EU → Option (FlU × EU)} {us : List U} {ρ : EU} (P : Nat → EU → Prop) (Q : FlU → EU → Prop) (h0 : P 0 ρ)
    (h : ∀ i u ρ, us[i]? = some u → P i ρ → ∃ f ρ', step u ρ = some (f, ρ') ∧ (match f with
      | .nxt => P (i + 1) ρ'
      | .cnt => P (i + 1) ρ'
      | .brk => Q .nxt ρ'
      | f => Q f ρ')) (hq : ∀ ρ, P us.length ρ → Q .nxt ρ) : ∃ f ρ', forU step us ρ = some (f, ρ') ∧ Q f ρ' := by
  have := forU_find P Q h hq us.length 0 ρ rfl (Nat.zero_le _) h0
  simpa using this
theorem whlU_inv {pre : EU → EU} {c : EU → RU Bool} {b : EU → Option (FlU × EU)} (P : Nat → EU → Prop) (Q : FlU → EU → Prop)
    (h : ∀ n ρ, P n ρ → (c (pre ρ) = some (.ok false) ∧ Q .nxt (pre ρ)) ∨ (c (pre ρ) = some (.ok true) ∧ ∃ f ρ', b (pre ρ) = some (f, ρ') ∧ (match f with
      | .nxt => ∃ n', n' < n ∧ P n' ρ'
      | .cnt => ∃ n', n' < n ∧ P n' ρ'
      | .brk => Q .nxt ρ'
      | f => Q f ρ'))) :
    ∀ (k n : Nat) (ρ : EU), n < k → P n ρ → ∃ f ρ', whlU pre c b k ρ = some (f, ρ') ∧ Q f ρ'
  | 0, n, ρ, hk, _ => by omega
  | k + 1, n, ρ, hk, p => by
    unfold whlU
    rcases h n ρ p with ⟨h1, q⟩ | ⟨h1, f, ρ', h2, h3⟩
    · rw [h1]; exact ⟨_, _, rfl, q⟩
    · rw [h1]
      dsimp only
      rw [h2]
      cases f with
      | nxt => obtain ⟨n', h4, h5⟩ := h3; exact whlU_inv P Q h k n' ρ' (by omega) h5
      | cnt => obtain ⟨n', h4, h5⟩ := h3; exact whlU_inv P Q h k n' ρ' (by omega) h5
      | brk => exact ⟨_, _, rfl, h3⟩
      | ret r u => exact ⟨_, _, rfl, h3⟩
      | ex e => exact ⟨_, _, rfl, h3⟩
theorem whlU_big {pre : EU → EU} {c : EU → RU Bool} {b : EU → Option (FlU × EU)} (P : Nat → EU → Prop) (Q : FlU → EU → Prop) {n : Nat} {ρ : EU} (hn : n < 1000000000) (h0 : P n ρ)
    (h : ∀ n ρ, P n ρ → (c (pre ρ) = some (.ok false) ∧ Q .nxt (pre ρ)) ∨ (c (pre ρ) = some (.ok true) ∧ ∃ f ρ', b (pre ρ) = some (f, ρ') ∧ (match f with
      | .nxt => ∃ n', n' < n ∧ P n' ρ'
      | .cnt => ∃ n', n' < n ∧ P n' ρ'
      | .brk => Q .nxt ρ'
      | f => Q f ρ'))) : ∃ f ρ', whlU pre c b big ρ = some (f, ρ') ∧ Q f ρ' := whlU_inv P Q h big n ρ (by rw [big_eq]; exact hn) h0
theorem lcU_map {α : Type} {g : U → RU (Option U)} {e : α → U} {v : α → U} : ∀ {xs : List α}, (∀ x ∈ xs, g (e x) = some (.ok (some (v x)))) → lcU g (xs.map e) = some (xs.map v)
  | [], _ => rfl
  | x :: xs, h => by
    rw [List.map_cons, lcU, h x (List.mem_cons_self ..)]
    dsimp only
    rw [lcU_map fun y hy => h y (List.mem_cons_of_mem _ hy)]
    rfl
theorem lcU_filter {α : Type} {g : U → RU (Option U)} {e : α → U} {v : α → U} {p : α → Bool} : ∀ {xs : List α}, (∀ x ∈ xs, g (e x) = some (.ok (if p x then some (v x) else none))) → lcU g (xs.map e) = some ((xs.filter p).map v)
  | [], _ => rfl
  | x :: xs, h => by
    rw [List.map_cons, lcU, h x (List.mem_cons_self ..)]
    dsimp only
    rw [lcU_filter fun y hy => h y (List.mem_cons_of_mem _ hy)]
    cases hp : p x <;> simp [hp, List.filter_cons]
/-- a comprehension over range: its items as they may be -/
theorem lcU_range {β : Type} {g : U → RU (Option U)} {e : β → U} {P : Nat → β → Prop} : ∀ (n : Nat), (∀ i, i < n → ∃ y, g (.int i) = some (.ok (some (e y))) ∧ P i y) → ∃ ys : List β, lcU g ((List.range n).map fun (i : Nat) => U.int i) = some (ys.map e) ∧ ys.length = n ∧ ∀ i y, ys[i]? = some y → P i y := fun n h => by
  have key : ∀ (m j : Nat), j + m = n → ∃ ys : List β, lcU g (((List.range n).drop j).map fun (i : Nat) => U.int i) = some (ys.map e) ∧ ys.length = m ∧ ∀ i y, ys[i]? = some y → P (j + i) y := fun m => by
    induction m with
    | zero =>
      intro j hj
      refine ⟨[], ?_, rfl, fun i y hy => by simp at hy⟩
      rw [List.drop_eq_nil_of_le (by simp; omega)]
      rfl
    | succ m ih =>
      intro j hj
      obtain ⟨ys, h1, h2, h3⟩ := ih (j + 1) (by omega)
      obtain ⟨y, hy, py⟩ := h j (by omega)
      refine ⟨y :: ys, ?_, by simp [h2], fun i z hz => ?_⟩
      · have hl : j < (List.range n).length := by simp; omega
        rw [List.drop_eq_getElem_cons hl, List.getElem_range, List.map_cons, lcU, hy]
        dsimp only
        rw [h1]
        rfl
      · cases i with
        | zero => simp at hz; subst hz; exact py
        | succ i =>
          have := h3 i z (by simpa using hz)
          have e1 : j + 1 + i = j + (i + 1) := by omega
          rw [e1] at this
          exact this
  obtain ⟨ys, h1, h2, h3⟩ := key n 0 (by omega)
  refine ⟨ys, by simpa using h1, h2, fun i y hy => ?_⟩
  have := h3 i y hy
  rwa [Nat.zero_add] at this
theorem intsOf_map (ns : List Int) : intsOf ((ns.map U.int).map wOf) = some ns := by
  induction ns with
  | nil => rfl
  | cons n ns ih =>
    simp only [List.map_cons, wOf, intsOf] at ih ⊢
    rw [ih]
    rfl
theorem bfnU_sum (ns : List Int) : bfnU .sum [.lst (ns.map U.int)] = some (.int ns.sum) := by
  show (match intsOf ((ns.map U.int).map wOf) with
    | some ns => some (U.int ns.sum)
    | none => none) = _
  rw [intsOf_map]
/-- a loop over range -/
theorem forU_range {step : U → EU → Option (FlU × EU)} {n : Nat} {ρ : EU} (P : Nat → EU → Prop) (h0 : P 0 ρ)
    (h : ∀ i ρ, i < n → P i ρ → ∃ ρ', (step (.int i) ρ = some (.nxt, ρ') ∨ step (.int i) ρ = some (.cnt, ρ')) ∧ P (i + 1) ρ') (hn : n < 1000000000) : ∃ ρ', foF step (itU .range1 [.int (n : Nat)]) ρ = some (.nxt, ρ') ∧ P n ρ' := by
  obtain ⟨ρ', h1, h2⟩ := forU_all (step := step) (us := (List.range n).map fun (i : Nat) => U.int i) P h0 (fun i u ρ hu p => by
    rw [List.getElem?_map] at hu
    obtain ⟨j, q1, q2⟩ := Option.map_eq_some_iff.mp hu
    subst q2
    obtain ⟨hj, q3⟩ := List.getElem?_eq_some_iff.mp q1
    rw [List.length_range] at hj
    rw [List.getElem_range] at q3
    subst q3
    exact h i ρ hj p)
  refine ⟨ρ', ?_, by simpa using h2⟩
  rw [itU_len hn, foF_ok (by simp; omega)]
  exact h1
/-! ### sizes -/
/-- below 2 ^ n -/
def Sz (n : Nat) (i : Int) : Prop := i.natAbs < 2 ^ n
theorem Sz.mono {n m : Nat} {i : Int} (h : Sz n i) (hm : n ≤ m) : Sz m i := Nat.lt_of_lt_of_le h (Nat.pow_le_pow_right (by decide) hm)
theorem Sz.mul {n m : Nat} {i j : Int} (h : Sz n i) (g : Sz m j) : Sz (n + m) (i * j) := by
  unfold Sz at *
  rw [Int.natAbs_mul, Nat.pow_add]
  exact Nat.mul_lt_mul'' h g
theorem Sz.add {n m : Nat} {i j : Int} (h : Sz n i) (g : Sz m j) : Sz (max n m + 1) (i + j) := by
  have h := h.mono (Nat.le_max_left n m)
  have g := g.mono (Nat.le_max_right n m)
  unfold Sz at *
  rw [Nat.pow_succ]
  have := Int.natAbs_add_le i j
  omega
theorem Sz.neg {n : Nat} {i : Int} (h : Sz n i) : Sz n (-i) := by unfold Sz at *; rwa [Int.natAbs_neg]
theorem Sz.sub {n m : Nat} {i j : Int} (h : Sz n i) (g : Sz m j) : Sz (max n m + 1) (i - j) := by
  rw [Int.sub_eq_add_neg]
  exact h.add g.neg
theorem Sz.le {n : Nat} {i j : Int} (h : Sz n j) (hi : i.natAbs ≤ j.natAbs) : Sz n i := Nat.lt_of_le_of_lt hi h
theorem Sz.log {n : Nat} {i : Int} (h : Sz n i) (hn : 0 < n) : i.natAbs.log2 < n := log2_lt h hn
theorem opU_mul {n m : Nat} {i j : Int} (h : Sz n i) (g : Sz m j) (hn : n ≤ 400000) (hm : m ≤ 400000) : opU .mul (.int i) (.int j) = some (.int (i * j)) := by
  have h1 := (h.mono hn).log (by decide)
  have h2 := (g.mono hm).log (by decide)
  show (if i.natAbs.log2 + j.natAbs.log2 < 1000000 then some (U.int (i * j)) else none) = _
  rw [if_pos (by omega)]
theorem opU_fdiv {n : Nat} {i j : Int} (h : Sz n j) (hn : n ≤ 9000) (h0 : 0 < j) : opU .fdiv (.int i) (.int j) = some (.int (i / j)) := by
  have h1 := (h.mono hn).log (by decide)
  show (if j ≠ 0 ∧ j.natAbs.log2 < 9000 then some (U.int (i.fdiv j)) else none) = _
  rw [if_pos ⟨by omega, h1⟩, Int.fdiv_eq_ediv_of_nonneg _ (by omega)]
theorem opU_mod {i j : Int} (h0 : 0 < j) : opU .mod (.int i) (.int j) = some (.int (i % j)) := by
  show (if j ≠ 0 then some (U.int (i.fmod j)) else none) = _
  rw [if_pos (by omega), Int.fmod_eq_emod_of_nonneg _ (by omega)]
theorem opU_modz {i j : Int} (h0 : j ≠ 0) : opU .mod (.int i) (.int j) = some (.int (i.fmod j)) := by
  show (if j ≠ 0 then some (U.int (i.fmod j)) else none) = _
  rw [if_pos h0]
theorem opU_pow {i : Int} {n : Nat} (h1 : n ≤ 1000000) (h2 : i.natAbs < 2 ^ 64) : opU .pow (.int i) (.int n) = some (.int (i ^ n)) := by
  show (if 0 ≤ (n : Int) ∧ (n : Int) ≤ 1000000 ∧ i.natAbs < 2 ^ 64 then some (U.int (i ^ (n : Int).toNat)) else none) = _
  rw [if_pos ⟨by omega, by omega, h2⟩]
  simp
@[simp] theorem p10_6 : opU .pow (.int 10) (.int 6) = some (.int (10 ^ 6)) := opU_pow (n := 6) (by decide) (by decide)
@[simp] theorem p10_8 : opU .pow (.int 10) (.int 8) = some (.int (10 ^ 8)) := opU_pow (n := 8) (by decide) (by decide)
@[simp] theorem p10_9 : opU .pow (.int 10) (.int 9) = some (.int (10 ^ 9)) := opU_pow (n := 9) (by decide) (by decide)
@[simp] theorem p10_10 : opU .pow (.int 10) (.int 10) = some (.int (10 ^ 10)) := opU_pow (n := 10) (by decide) (by decide)
@[simp] theorem p10_12 : opU .pow (.int 10) (.int 12) = some (.int (10 ^ 12)) := opU_pow (n := 12) (by decide) (by decide)
@[simp] theorem p10_18 : opU .pow (.int 10) (.int 18) = some (.int (10 ^ 18)) := opU_pow (n := 18) (by decide) (by decide)
@[simp] theorem p10_20 : opU .pow (.int 10) (.int 20) = some (.int (10 ^ 20)) := opU_pow (n := 20) (by decide) (by decide)
@[simp] theorem p10_22 : opU .pow (.int 10) (.int 22) = some (.int (10 ^ 22)) := opU_pow (n := 22) (by decide) (by decide)
@[simp] theorem p10_30 : opU .pow (.int 10) (.int 30) = some (.int (10 ^ 30)) := opU_pow (n := 30) (by decide) (by decide)
@[simp] theorem p10_40 : opU .pow (.int 10) (.int 40) = some (.int (10 ^ 40)) := opU_pow (n := 40) (by decide) (by decide)
@[simp] theorem p10_60 : opU .pow (.int 10) (.int 60) = some (.int (10 ^ 60)) := opU_pow (n := 60) (by decide) (by decide)
@[simp] theorem p10_64 : opU .pow (.int 10) (.int 64) = some (.int (10 ^ 64)) := opU_pow (n := 64) (by decide) (by decide)
@[simp] theorem p10_190 : opU .pow (.int 10) (.int 190) = some (.int (10 ^ 190)) := opU_pow (n := 190) (by decide) (by decide)
theorem opU_fdivL {i j : Int} (h0 : 0 < j) (h : j < 2 ^ 200) : opU .fdiv (.int i) (.int j) = some (.int (i / j)) := opU_fdiv (n := 200) (by unfold Sz; omega) (by decide) h0
theorem opU_mulL {i j : Int} (h1 : -(2 ^ 255) < i) (h2 : i < 2 ^ 255) (h3 : -(2 ^ 255) < j) (h4 : j < 2 ^ 255) : opU .mul (.int i) (.int j) = some (.int (i * j)) := opU_mul (n := 255) (m := 255) (by unfold Sz; omega) (by unfold Sz; omega) (by decide) (by decide)
@[simp] theorem opU_add {i j : Int} : opU .add (.int i) (.int j) = some (.int (i + j)) := nr rfl
@[simp] theorem opU_sub {i j : Int} : opU .sub (.int i) (.int j) = some (.int (i - j)) := nr rfl
@[simp] theorem cmU_eq {i j : Int} : cmU .eq (.int i) (.int j) = some (decide (i = j)) := nr rfl
@[simp] theorem cmU_ne {i j : Int} : cmU .ne (.int i) (.int j) = some (!decide (i = j)) := nr rfl
@[simp] theorem cmU_lt {i j : Int} : cmU .lt (.int i) (.int j) = some (decide (i < j)) := nr rfl
@[simp] theorem cmU_le {i j : Int} : cmU .le (.int i) (.int j) = some (decide (i ≤ j)) := nr rfl
@[simp] theorem cmU_gt {i j : Int} : cmU .gt (.int i) (.int j) = some (decide (j < i)) := nr rfl
@[simp] theorem cmU_ge {i j : Int} : cmU .ge (.int i) (.int j) = some (decide (j ≤ i)) := nr rfl
@[simp] theorem cmU_eqS {i j : Str} : cmU .eq (.str i) (.str j) = some (decide (i = j)) := nr rfl
@[simp] theorem cmU_neS {i j : Str} : cmU .ne (.str i) (.str j) = some (!decide (i = j)) := nr rfl
theorem idxU_T {us : List U} {i : Nat} {u : U} (h : us[i]? = some u) : idxU (.tup us) (.int i) = some u := by
  have hl := (List.getElem?_eq_some_iff.mp h).1
  show L2.atI us i = _
  rw [atI_nat (by omega) (by omega)]
  simpa using h
theorem idxU_L {us : List U} {i : Nat} {u : U} (h : us[i]? = some u) : idxU (.lst us) (.int i) = some u := idxU_T h
@[simp] theorem idxU_t0 {a : U} {us : List U} : idxU (.tup (a :: us)) (.int 0) = some a := idxU_T (i := 0) rfl
@[simp] theorem idxU_t1 {a b : U} {us : List U} : idxU (.tup (a :: b :: us)) (.int 1) = some b := idxU_T (i := 1) rfl
@[simp] theorem idxU_t2 {a b c : U} {us : List U} : idxU (.tup (a :: b :: c :: us)) (.int 2) = some c := idxU_T (i := 2) rfl
theorem idxU_ints {ns : List Int} {i : Nat} {n : Int} (h : ns[i]? = some n) : idxU (.lst (ns.map U.int)) (.int (i : Nat)) = some (.int n) := idxU_L (by rw [List.getElem?_map, h]; rfl)
theorem opU_catT {xs ys : List U} (h1 : xs ≠ []) (h2 : ys ≠ []) (h : xs.length + ys.length ≤ 1000) : opU .add (.tup xs) (.tup ys) = some (.tup (xs ++ ys)) := by
  show (if xs.length + ys.length ≤ 16777216 then some (U.tup (xs ++ ys)) else none) = _
  rw [if_pos (by omega)]
theorem opU_catT0 {xs ys : List U} (h : xs.length + ys.length ≤ 1000) : opU .add (.tup xs) (.tup ys) = some (.tup (xs ++ ys)) := by
  show (if xs.length + ys.length ≤ 16777216 then some (U.tup (xs ++ ys)) else none) = _
  rw [if_pos (by omega)]
theorem idxU_map {α : Type} {e : α → U} {xs : List α} {i : Int} (h0 : 0 ≤ i) (h : i < xs.length) : idxU (.lst (xs.map e)) (.int i) = some (e (xs[i.toNat]'(by omega))) := by
  have : idxU (.lst (xs.map e)) (.int (i.toNat : Int)) = some (e (xs[i.toNat]'(by omega))) := idxU_L (by rw [List.getElem?_map, List.getElem?_eq_getElem (by omega)]; rfl)
  rwa [Int.toNat_of_nonneg h0] at this
/-- the script's cell -/
def cellI (ns : List Int) (i : Int) : Int := if i < ns.length then ns.getD i.toNat 0 else 0
theorem idxU_fro {ns : List Int} {i : Int} (h0 : 0 ≤ i) (h : i < ns.length) : idxU (.fro (ns.map U.int)) (.int i) = some (.int (cellI ns i)) := by
  show L2.atI (ns.map U.int) i = _
  rw [atI_nat (by omega) (by simpa using h), List.getElem?_map]
  have : i.toNat < ns.length := by omega
  unfold cellI
  rw [if_pos h]
  simp [this]
theorem atI_nat' {α : Type} {ws : List α} {i : Int} (h0 : 0 ≤ i) (h1 : i < ws.length) : L2.atI ws i = ws[i.toNat]? := atI_nat h0 h1
end Ip

/-! IpF: fractions over values. Written by an AI agent. -/
namespace Ip
open PySem (Str)
open scoped Rat
/-- a fraction's tuple -/
def encQ (q : Rat) : U := .tup [.int q.num, .int q.den]
def Qs (n : Nat) (q : Rat) : Prop := Sz n q.num ∧ Sz n (q.den : Int)
theorem Qs.mono {n m : Nat} {q : Rat} (h : Qs n q) (hm : n ≤ m) : Qs m q := ⟨h.1.mono hm, h.2.mono hm⟩
theorem den_pos' (q : Rat) : (0 : Int) < (q.den : Int) := by have := q.den_nz; omega
@[simp] theorem encQ_0 {q : Rat} : idxU (encQ q) (.int 0) = some (.int q.num) := idxU_t0
@[simp] theorem encQ_1 {q : Rat} : idxU (encQ q) (.int 1) = some (.int (q.den : Int)) := idxU_t1
theorem gcd_step' (a b : Int) : Int.gcd b (a % b) = Int.gcd a b := by
  rw [Int.emod_def, Int.gcd_sub_mul_left_right, Int.gcd_comm]
theorem euclid_step' {a b : Int} {n : Nat} (hb : 0 < b) (hab : b ≤ a) (h : a * b < 2 ^ (n + 1)) : b * (a % b) < 2 ^ n := by
  have h1 := Int.emod_lt_of_pos a hb
  have h0 := Int.emod_nonneg a (by omega : b ≠ 0)
  have h2 : b + a % b ≤ a := by
    have := Int.emod_add_mul_ediv a b
    have q : 1 ≤ a / b := by
      have := Int.le_ediv_of_mul_le hb (show 1 * b ≤ a by omega)
      omega
    have : b * 1 ≤ b * (a / b) := Int.mul_le_mul_of_nonneg_left q (by omega)
    omega
  have h3 : b * (b + a % b) ≤ b * a := Int.mul_le_mul_of_nonneg_left h2 (by omega)
  have h4 : b * (a % b + a % b) ≤ b * (b + a % b) := Int.mul_le_mul_of_nonneg_left (by omega) (by omega)
  have h5 : b * a = a * b := Int.mul_comm b a
  have h6 : b * (a % b + a % b) = b * (a % b) + b * (a % b) := Int.mul_add _ _ _
  have h7 : (2 : Int) ^ (n + 1) = 2 ^ n * 2 := Int.pow_succ 2 n
  generalize (2 : Int) ^ (n + 1) = P at *
  generalize (2 : Int) ^ n = R at *
  omega
/-- Euclid: E a b the environment -/
theorem euclidU {pre : EU → EU} {c : EU → RU Bool} {bd : EU → Option (FlU × EU)} {E : Int → Int → EU} {L : Nat} {a b : Int} (hl : L ≤ 400000000) (hb0 : 0 ≤ b) (hb : Sz L b) (hpre : ∀ a b, pre (E a b) = E a b)
    (hc : ∀ a b, 0 ≤ b → c (E a b) = some (.ok (!decide (b = 0)))) (hbd : ∀ a b, 0 < b → bd (E a b) = some (.nxt, E b (a % b))) :
    ∃ g : Int, whlU pre c bd big (E a b) = some (.nxt, E g 0) ∧ g.natAbs = Int.gcd a b ∧ (0 ≤ a ∨ 0 < b → 0 ≤ g) := by
  have hb' : b < 2 ^ L := by
    unfold Sz at hb
    have h1 : ((2 ^ L : Nat) : Int) = 2 ^ L := by simp
    rw [← h1]
    omega
  have key := whlU_big (pre := pre) (c := c) (b := bd) (ρ := E a b) (n := 2 * L + 1)
    (fun n ρ => ∃ x y, ρ = E x y ∧ 0 ≤ y ∧ Int.gcd x y = Int.gcd a b ∧ (0 ≤ a ∨ 0 < b → 0 ≤ x ∨ 0 < y) ∧ ((y ≤ x ∧ x * y < 2 ^ n) ∨ (n = 2 * L + 1 ∧ y < 2 ^ L)))
    (fun f ρ => f = .nxt ∧ ∃ g : Int, ρ = E g 0 ∧ g.natAbs = Int.gcd a b ∧ (0 ≤ a ∨ 0 < b → 0 ≤ g)) (by omega) ⟨a, b, rfl, hb0, rfl, id, .inr ⟨rfl, hb'⟩⟩ (fun n ρ ⟨x, y, eρ, hy, hg, hs, hm⟩ => by
      subst eρ
      rw [hpre]
      by_cases h0 : y = 0
      · subst h0
        refine .inl ⟨by rw [hc x 0 hy]; rfl, rfl, x, rfl, ?_, fun h => ?_⟩
        · rw [← hg, Int.gcd_zero]
        · have := hs h; omega
      · have hy' : 0 < y := by omega
        have hr := Int.emod_lt_of_pos x hy'
        have hr0 := Int.emod_nonneg x h0
        refine .inr ⟨by rw [hc x y hy]; simp [h0], .nxt, _, hbd x y hy', ?_⟩
        have fin : ∀ n', n' < n → y * (x % y) < 2 ^ n' → ∃ n', n' < n ∧ ∃ x' y', E y (x % y) = E x' y' ∧ 0 ≤ y' ∧ Int.gcd x' y' = Int.gcd a b ∧ (0 ≤ a ∨ 0 < b → 0 ≤ x' ∨ 0 < y') ∧ ((y' ≤ x' ∧ x' * y' < 2 ^ n') ∨ (n' = 2 * L + 1 ∧ y' < 2 ^ L)) := fun n' hn' hlt =>
          ⟨n', hn', y, x % y, rfl, hr0, by rw [gcd_step', hg], fun _ => .inl hy, .inl ⟨by omega, hlt⟩⟩
        rcases hm with ⟨h1, h2⟩ | ⟨h1, h2⟩
        · cases n with
          | zero =>
            have : x * y < 1 := h2
            have : 1 * 1 ≤ x * y := Int.mul_le_mul (by omega) (by omega) (by omega) (by omega)
            omega
          | succ n => exact fin n (Nat.lt_succ_self n) (euclid_step' hy' h1 h2)
        · subst h1
          refine fin (2 * L) (by omega) ?_
          have e : (2 : Int) ^ (2 * L) = 2 ^ L * 2 ^ L := by rw [← Int.pow_add]; congr 1; omega
          rw [e]
          have hp : (0 : Int) < 2 ^ L := by omega
          have a1 : y * (x % y) ≤ y * 2 ^ L := Int.mul_le_mul_of_nonneg_left (by omega) (by omega)
          have a2 : y * 2 ^ L < 2 ^ L * 2 ^ L := Int.mul_lt_mul_of_pos_right h2 hp
          omega)
  obtain ⟨f, ρ', h1, h2, g, h3, h4, h5⟩ := key
  subst h2 h3
  exact ⟨g, h1, h4, h5⟩
def irDivisor : List Sx := [.while (.cmp .ne (.var 1) (.int 0)) [.par 0 1 (.var 1) (.bin .mod (.var 0) (.var 1))], .ret (.bif .abs [.var 0])]
section
variable {T : Tab} {I : List FI} {k f d : Nat}
theorem divisor_okF (hf : T.fns[f]? = some ⟨2, 2, irDivisor⟩) (hi : inf I f = { fl := true }) (hk : 3 ≤ k) {L : Nat} {a b : Int} (hl : L ≤ 400000) (hb0 : 0 ≤ b) (hb : Sz L b) : callU T I k f [.int a, .int b] = some (.ok (.int (Int.gcd a b))) := by
  rw [callU_run hf hk rfl, hi]
  obtain ⟨g, h1, h2, _⟩ := euclidU (pre := uno [] (esc (GV T I k).fl (.cmp .ne (.var 1) (.int 0)))) (c := tsU (GV T I k) (.cmp .ne (.var 1) (.int 0))) (bd := xsU (GV T I k) [] [.par 0 1 (.var 1) (.bin .mod (.var 0) (.var 1))]) (E := fun a b => [.val (.int a), .val (.int b)]) (L := L) (a := a) (b := b) (by omega) hb0 hb (fun _ _ => by simp)
    (fun a b hb => by simp [tsU]) (fun a b hb => by simp [opU_mod hb])
  show finU { fl := true } (xsU (GV T I k) [] irDivisor [.val (.int a), .val (.int b)]) = _
  rw [irDivisor, xsU_cons, x1U_while]
  rw [h1]
  simp [h2]
def irFraction (d : Nat) (c : Nat) : List Sx := [.iff (.cmp .eq (.var 1) (.int 0)) [.raise c [] []] [], .iff (.cmp .lt (.var 1) (.int 0)) [.asg 0 (.bin .sub (.int 0) (.var 0)), .asg 1 (.bin .sub (.int 0) (.var 1))] [], .asg 2 (.call d [.var 0, .var 1]), .ret (.tup [.bin .fdiv (.var 0) (.var 2), .bin .fdiv (.var 1) (.var 2)])]
theorem divInt_pos (a : Int) {b : Int} (hb : 0 < b) : (a /. b).num = a / (Int.gcd a b : Int) ∧ ((a /. b).den : Int) = b / (Int.gcd a b : Int) := by
  have hg : (Int.gcd a b : Int) ∣ b := Int.gcd_dvd_right ..
  have e : ((b.natAbs : Nat) : Int) = b := Int.natAbs_of_nonneg (by omega)
  rw [Rat.num_divInt, Rat.den_divInt, if_neg (by omega), Int.sign_eq_one_of_pos hb, Int.one_mul, Int.gcd_comm b a]
  refine ⟨rfl, ?_⟩
  rw [Int.natCast_ediv, e]
theorem fraction_pos (hf : T.fns[f]? = some ⟨2, 3, irFraction d c⟩) (hi : inf I f = {}) (hd : T.fns[d]? = some ⟨2, 2, irDivisor⟩) (hdi : inf I d = { fl := true }) (hk : 4 ≤ k) {a b : Int} (hb0 : 0 < b) (hb : Sz 9000 b) :
    callU T I k f [.int a, .int b] = some (.ok (encQ (a /. b))) := by
  rw [callU_run hf (by omega) rfl, hi]
  have hdv : callU T I (k - 1) d [.int a, .int b] = some (.ok (.int (Int.gcd a b))) := divisor_okF hd hdi (by omega) (L := 9000) (by decide) (by omega) hb
  have hg : (Int.gcd a b : Int) ∣ b := Int.gcd_dvd_right ..
  have hg0 : (0 : Int) < Int.gcd a b := by
    have : Int.gcd a b ≠ 0 := fun z => by
      have := (Int.gcd_eq_zero_iff.mp z).2
      omega
    omega
  have hgs : Sz 9000 (Int.gcd a b : Int) := hb.le (by
    have := Int.le_of_dvd hb0 hg
    omega)
  obtain ⟨e1, e2⟩ := divInt_pos a hb0
  simp [irFraction, hdv, opU_fdiv hgs (Nat.le_refl _) hg0, show ¬ b = 0 by omega, show ¬ b < 0 by omega, encQ, e1, e2]
theorem fraction_okU (hf : T.fns[f]? = some ⟨2, 3, irFraction d c⟩) (hi : inf I f = {}) (hd : T.fns[d]? = some ⟨2, 2, irDivisor⟩) (hdi : inf I d = { fl := true }) (hk : 4 ≤ k) {a b : Int} (hb0 : b ≠ 0) (hb : Sz 9000 b) :
    callU T I k f [.int a, .int b] = some (.ok (encQ (a /. b))) := by
  by_cases h : 0 < b
  · exact fraction_pos hf hi hd hdi hk h hb
  · rw [callU_run hf (by omega) rfl, hi]
    have hb1 : 0 < -b := by omega
    have hdv : callU T I (k - 1) d [.int (-a), .int (-b)] = some (.ok (.int (Int.gcd (-a) (-b)))) := divisor_okF hd hdi (by omega) (L := 9000) (by decide) (by omega) hb.neg
    have hg : (Int.gcd (-a) (-b) : Int) ∣ -b := Int.gcd_dvd_right ..
    have hg0 : (0 : Int) < Int.gcd (-a) (-b) := by
      have : Int.gcd (-a) (-b) ≠ 0 := fun z => by
        have := (Int.gcd_eq_zero_iff.mp z).2
        omega
      omega
    have hgs : Sz 9000 (Int.gcd (-a) (-b) : Int) := hb.neg.le (by
      have := Int.le_of_dvd hb1 hg
      omega)
    obtain ⟨e1, e2⟩ := divInt_pos (-a) hb1
    have e3 : -a /. -b = a /. b := Rat.neg_divInt_neg a b
    rw [e3] at e1 e2
    simp only [Int.gcd_neg, Int.neg_gcd] at hdv hg0 hgs e1 e2
    simp [irFraction, hdv, opU_fdiv hgs (Nat.le_refl _) hg0, hb0, show b < 0 by omega, encQ, e1, e2]
theorem fraction_zero (hf : T.fns[f]? = some ⟨2, 3, irFraction d c⟩) (hi : inf I f = {}) (hk : 4 ≤ k) {a : Int} :
    callU T I k f [.int a, .int 0] = some (.ex ⟨c, []⟩) := by
  rw [callU_run hf (by omega) rfl, hi]
  simp [irFraction]
/-! ### sums, products -/
def irPlus (g : Nat) : List Sx := [.ret (.call g [.bin .add (.bin .mul (.idx (.var 0) (.int 0)) (.idx (.var 1) (.int 1))) (.bin .mul (.idx (.var 1) (.int 0)) (.idx (.var 0) (.int 1))), .bin .mul (.idx (.var 0) (.int 1)) (.idx (.var 1) (.int 1))])]
def irMinus (g : Nat) : List Sx := [.ret (.call g [.bin .sub (.bin .mul (.idx (.var 0) (.int 0)) (.idx (.var 1) (.int 1))) (.bin .mul (.idx (.var 1) (.int 0)) (.idx (.var 0) (.int 1))), .bin .mul (.idx (.var 0) (.int 1)) (.idx (.var 1) (.int 1))])]
def irTimes (g : Nat) : List Sx := [.ret (.call g [.bin .mul (.idx (.var 0) (.int 0)) (.idx (.var 1) (.int 0)), .bin .mul (.idx (.var 0) (.int 1)) (.idx (.var 1) (.int 1))])]
def irOver (g : Nat) : List Sx := [.ret (.call g [.bin .mul (.idx (.var 0) (.int 0)) (.idx (.var 1) (.int 1)), .bin .mul (.idx (.var 0) (.int 1)) (.idx (.var 1) (.int 0))])]
def irUnder : List Sx := [.ret (.cmp .lt (.bin .mul (.idx (.var 0) (.int 0)) (.idx (.var 1) (.int 1))) (.bin .mul (.idx (.var 1) (.int 0)) (.idx (.var 0) (.int 1))))]
/-- the fraction's def, known -/
structure Frac (T : Tab) (I : List FI) (g : Nat) : Prop where
  f : ∀ {k : Nat} {a b : Int}, 4 ≤ k → b ≠ 0 → Sz 9000 b → callU T I k g [.int a, .int b] = some (.ok (encQ (a /. b)))
theorem frac_of {g d c : Nat} (hf : T.fns[g]? = some ⟨2, 3, irFraction d c⟩) (hi : inf I g = {}) (hd : T.fns[d]? = some ⟨2, 2, irDivisor⟩) (hdi : inf I d = { fl := true }) : Frac T I g := ⟨fun hk h0 hb => fraction_okU hf hi hd hdi hk h0 hb⟩
theorem den_mul {a b : Rat} : (a.den : Int) * (b.den : Int) ≠ 0 := by
  have h1 := den_pos' a
  have h2 := den_pos' b
  have := Int.mul_pos h1 h2
  omega
theorem plus_eq (a b : Rat) : (a.num * b.den + b.num * a.den) /. ((a.den : Int) * b.den) = a + b := by
  rw [Rat.add_def', ← Rat.divInt_ofNat]
  simp
theorem minus_eq (a b : Rat) : (a.num * b.den - b.num * a.den) /. ((a.den : Int) * b.den) = a - b := by
  rw [Rat.sub_def', ← Rat.divInt_ofNat]
  simp
theorem times_eq (a b : Rat) : (a.num * b.num) /. ((a.den : Int) * b.den) = a * b := by
  rw [Rat.mul_def', ← Rat.divInt_ofNat]
  simp
theorem divInt_le {a b : Int} (hb : 0 < b) : (a /. b).num.natAbs ≤ a.natAbs ∧ ((a /. b).den : Int) ≤ b := by
  obtain ⟨e1, e2⟩ := divInt_pos a hb
  rw [e1, e2]
  refine ⟨Int.natAbs_ediv_le_natAbs _ _, Int.ediv_le_self _ (by omega)⟩
theorem Qs.of {n : Nat} {a b : Int} (hb : 0 < b) (ha : Sz n a) (hs : Sz n b) : Qs n (a /. b) := by
  obtain ⟨h1, h2⟩ := divInt_le (a := a) hb
  exact ⟨ha.le h1, hs.le (by have := den_pos' (a /. b); omega)⟩
theorem Qs.add {n m : Nat} {a b : Rat} (ha : Qs n a) (hb : Qs m b) : Qs (n + m + 1) (a + b) := by
  rw [← plus_eq]
  refine Qs.of (Int.mul_pos (den_pos' a) (den_pos' b)) ?_ ((ha.2.mul hb.2).mono (by omega))
  exact ((ha.1.mul hb.2).add (hb.1.mul ha.2)).mono (by omega)
theorem Qs.sub {n m : Nat} {a b : Rat} (ha : Qs n a) (hb : Qs m b) : Qs (n + m + 1) (a - b) := by
  rw [← minus_eq]
  refine Qs.of (Int.mul_pos (den_pos' a) (den_pos' b)) ?_ ((ha.2.mul hb.2).mono (by omega))
  exact ((ha.1.mul hb.2).sub (hb.1.mul ha.2)).mono (by omega)
theorem Qs.mul {n m : Nat} {a b : Rat} (ha : Qs n a) (hb : Qs m b) : Qs (n + m) (a * b) := by
  rw [← times_eq]
  exact Qs.of (Int.mul_pos (den_pos' a) (den_pos' b)) (ha.1.mul hb.1) (ha.2.mul hb.2)
theorem plus_okU {g : Nat} (F : Frac T I g) (hf : T.fns[f]? = some ⟨2, 2, irPlus g⟩) (hi : inf I f = {}) (hk : 5 ≤ k) {n m : Nat} {a b : Rat} (ha : Qs n a) (hb : Qs m b) (hn : n + m ≤ 9000) : callU T I k f [encQ a, encQ b] = some (.ok (encQ (a + b))) := by
  rw [callU_run hf (by omega) rfl, hi]
  have hc := F.f (k := k - 1) (a := a.num * b.den + b.num * a.den) (by omega) (den_mul (a := a) (b := b)) ((ha.2.mul hb.2).mono hn)
  rw [plus_eq] at hc
  simp [irPlus, opU_mul ha.1 hb.2 (by omega) (by omega), opU_mul hb.1 ha.2 (by omega) (by omega), opU_mul ha.2 hb.2 (by omega) (by omega), hc]
theorem minus_okU {g : Nat} (F : Frac T I g) (hf : T.fns[f]? = some ⟨2, 2, irMinus g⟩) (hi : inf I f = {}) (hk : 5 ≤ k) {n m : Nat} {a b : Rat} (ha : Qs n a) (hb : Qs m b) (hn : n + m ≤ 9000) : callU T I k f [encQ a, encQ b] = some (.ok (encQ (a - b))) := by
  rw [callU_run hf (by omega) rfl, hi]
  have hc := F.f (k := k - 1) (a := a.num * b.den - b.num * a.den) (by omega) (den_mul (a := a) (b := b)) ((ha.2.mul hb.2).mono hn)
  rw [minus_eq] at hc
  simp [irMinus, opU_mul ha.1 hb.2 (by omega) (by omega), opU_mul hb.1 ha.2 (by omega) (by omega), opU_mul ha.2 hb.2 (by omega) (by omega), hc]
theorem times_okU {g : Nat} (F : Frac T I g) (hf : T.fns[f]? = some ⟨2, 2, irTimes g⟩) (hi : inf I f = {}) (hk : 5 ≤ k) {n m : Nat} {a b : Rat} (ha : Qs n a) (hb : Qs m b) (hn : n + m ≤ 9000) : callU T I k f [encQ a, encQ b] = some (.ok (encQ (a * b))) := by
  rw [callU_run hf (by omega) rfl, hi]
  have hc := F.f (k := k - 1) (a := a.num * b.num) (by omega) (den_mul (a := a) (b := b)) ((ha.2.mul hb.2).mono hn)
  rw [times_eq] at hc
  simp [irTimes, opU_mul ha.1 hb.1 (by omega) (by omega), opU_mul ha.2 hb.2 (by omega) (by omega), hc]
theorem under_okU (hf : T.fns[f]? = some ⟨2, 2, irUnder⟩) (hi : inf I f = { fl := true }) (hk : 3 ≤ k) {n m : Nat} {a b : Rat} (ha : Qs n a) (hb : Qs m b) (hn : n + m ≤ 9000) : callU T I k f [encQ a, encQ b] = some (.ok (.bl (decide (a < b)))) := by
  rw [callU_run hf (by omega) rfl, hi]
  simp [irUnder, opU_mul ha.1 hb.2 (by omega) (by omega), opU_mul hb.1 ha.2 (by omega) (by omega), Rat.lt_iff]
/-! ### the common bottom -/
def lcmD (qs : List Rat) : Nat := qs.foldl (fun a q => Nat.lcm a q.den) 1
def irCommon (d : Nat) : List Sx := [.asg 1 (.int 1), .for [2] .val [.var 0] [.asg 1 (.bin .mul (.bin .fdiv (.var 1) (.call d [.var 1, .idx (.var 2) (.int 1)])) (.idx (.var 2) (.int 1)))], .ret (.var 1)]
theorem lcm_eq (a b : Nat) : a / Nat.gcd a b * b = Nat.lcm a b := by
  unfold Nat.lcm
  rw [Nat.div_mul_right_comm (Nat.gcd_dvd_left a b)]
theorem common_okU (hf : T.fns[f]? = some ⟨1, 3, irCommon d⟩) (hi : inf I f = {}) (hd : T.fns[d]? = some ⟨2, 2, irDivisor⟩) (hdi : inf I d = { fl := true }) (hk : 4 ≤ k) {qs : List Rat} (h : ∀ q ∈ qs, Qs 30 q) (hl : qs.length ≤ 100) :
    callU T I k f [.lst (qs.map encQ)] = some (.ok (.int (lcmD qs : Nat))) := by
  rw [callU_run hf (by omega) rfl, hi]
  obtain ⟨ρ', h1, h2⟩ := forU_all (step := stU (GV T I k) [] [2] [.asg 1 (.bin .mul (.bin .fdiv (.var 1) (.call d [.var 1, .idx (.var 2) (.int 1)])) (.idx (.var 2) (.int 1)))]) (us := qs.map encQ) (ρ := [.val (.lst (qs.map encQ)), .val (.int 1), .emp])
    (fun i ρ => ∃ x, ρ = [.val (.lst (qs.map encQ)), .val (.int (lcmD (qs.take i) : Nat)), x] ∧ 0 < lcmD (qs.take i) ∧ Sz (30 * i + 1) (lcmD (qs.take i) : Nat)) ⟨.emp, rfl, by simp [lcmD], by simp [lcmD, Sz]⟩ (fun i u ρ hu ⟨x, e, hp, hs⟩ => by
      subst e
      rw [List.getElem?_map] at hu
      obtain ⟨q, q1, q2⟩ := Option.map_eq_some_iff.mp hu
      subst q2
      have hi' : i < qs.length := (List.getElem?_eq_some_iff.mp q1).1
      have hq := h q (List.mem_of_getElem? q1)
      have hdp := den_pos' q
      have et : lcmD (qs.take (i + 1)) = Nat.lcm (lcmD (qs.take i)) q.den := by
        unfold lcmD
        rw [List.take_add_one, q1, List.foldl_append]
        rfl
      generalize lcmD (qs.take i) = a at hp hs et
      have hdv : callU T I (k - 1) d [.int (a : Nat), .int (q.den : Nat)] = some (.ok (.int (Nat.gcd a q.den : Nat))) := divisor_okF hd hdi (by omega) (L := 30) (by decide) (by omega) hq.2
      have hg0 : 0 < Nat.gcd a q.den := Nat.gcd_pos_of_pos_left _ hp
      have hgs : Sz 30 ((Nat.gcd a q.den : Nat) : Int) := hq.2.le (by
        have := Nat.le_of_dvd q.den_pos (Nat.gcd_dvd_right a q.den)
        omega)
      have e1 : ((a : Int) / ((Nat.gcd a q.den : Nat) : Int)) = ((a / Nat.gcd a q.den : Nat) : Int) := (Int.natCast_ediv _ _).symm
      have hs2 : Sz (30 * i + 1) ((a : Int) / ((Nat.gcd a q.den : Nat) : Int)) := hs.le (by
        rw [e1, Int.natAbs_natCast, Int.natAbs_natCast]
        exact Nat.div_le_self _ _)
      have e3 : ((a : Int) / ((Nat.gcd a q.den : Nat) : Int)) * (q.den : Int) = ((Nat.lcm a q.den : Nat) : Int) := by
        rw [e1, ← lcm_eq, Int.natCast_mul]
      refine ⟨[.val (.lst (qs.map encQ)), .val (.int (lcmD (qs.take (i + 1)) : Nat)), .val (encQ q)], .inl ?_, _, rfl, ?_, ?_⟩
      · simp only [stU, setU_one]
        simp [hdv, opU_fdiv hgs (by decide) (show (0 : Int) < ((Nat.gcd a q.den : Nat) : Int) by omega), opU_mul hs2 hq.2 (by omega) (by omega)]
        rw [et, e3]
      · rw [et]
        exact Nat.lcm_pos hp q.den_pos
      · rw [et, ← lcm_eq]
        have := hs2.mul hq.2
        have e2 : ((a / Nat.gcd a q.den * q.den : Nat) : Int) = ((a / Nat.gcd a q.den : Nat) : Int) * (q.den : Int) := by simp
        rw [e2]
        exact this.mono (by omega))
  obtain ⟨x, e, _, _⟩ := h2
  rw [List.length_map, List.take_length] at e
  subst e
  simp [irCommon, foF_ok (show (qs.map encQ).length < 1000000000 by simp; omega), h1]
end
/-! ### floors -/
def ShareOk (s : Rat) : Prop := 0 ≤ s.num ∧ s.num < s.den ∧ (s.den : Int) ≤ 1000
def PayOk (p : Rat) : Prop := -10 ^ 30 ≤ p.num ∧ p.num ≤ 10 ^ 30 ∧ (p.den : Int) ≤ 10 ^ 6
instance (s : Rat) : Decidable (ShareOk s) := inferInstanceAs (Decidable (_ ∧ _ ∧ _))
instance (s : Rat) : Decidable (PayOk s) := inferInstanceAs (Decidable (_ ∧ _ ∧ _))
/-- the chances of a place -/
def ChOk (qs : List Rat) : Prop := (∀ q ∈ qs, 0 < q) ∧ qs.foldl (· + ·) 0 = 1 ∧ lcmD qs ≤ 10 ^ 6
instance (qs : List Rat) : Decidable (ChOk qs) := inferInstanceAs (Decidable (_ ∧ _ ∧ _))
theorem sum_qs {qs : List Rat} (h : ∀ q ∈ qs, Qs 30 q) : ∀ i, i ≤ qs.length → Qs (31 * i + 1) ((qs.take i).foldl (· + ·) 0)
  | 0, _ => by
    simp
    exact ⟨by simp [Sz], by simp [Sz]⟩
  | i + 1, hi => by
    have hl : i < qs.length := hi
    rw [List.take_add_one, List.getElem?_eq_getElem hl, List.foldl_append]
    have := (sum_qs h i (by omega)).add (h qs[i] (List.getElem_mem hl))
    exact this.mono (by omega)
theorem lcmD_dvd : ∀ (qs : List Rat) (a : Nat), a ∣ qs.foldl (fun a q => Nat.lcm a q.den) a ∧ ∀ q ∈ qs, q.den ∣ qs.foldl (fun a q => Nat.lcm a q.den) a
  | [], a => ⟨Nat.dvd_refl _, fun q h => by simp at h⟩
  | p :: qs, a => by
    obtain ⟨h1, h2⟩ := lcmD_dvd qs (Nat.lcm a p.den)
    refine ⟨Nat.dvd_trans (Nat.dvd_lcm_left _ _) h1, fun q hq => ?_⟩
    rcases List.mem_cons.mp hq with e | hq
    · subst e
      exact Nat.dvd_trans (Nat.dvd_lcm_right _ _) h1
    · exact h2 q hq
theorem lcmD_pos (qs : List Rat) : 0 < lcmD qs := by
  have : ∀ (qs : List Rat) (a : Nat), 0 < a → 0 < qs.foldl (fun a q => Nat.lcm a q.den) a := fun qs => by
    induction qs with
    | nil => exact fun a h => h
    | cons q qs ih => exact fun a h => ih _ (Nat.lcm_pos h q.den_pos)
  exact this qs 1 (by decide)
theorem sum_le : ∀ (qs : List Rat) (a : Rat), 0 ≤ a → (∀ q ∈ qs, 0 < q) → a ≤ qs.foldl (· + ·) a ∧ ∀ q ∈ qs, q ≤ qs.foldl (· + ·) a
  | [], a, _, _ => ⟨Rat.le_refl, fun q h => by simp at h⟩
  | p :: qs, a, ha, h => by
    have hp := h p (List.mem_cons_self ..)
    obtain ⟨h1, h2⟩ := sum_le qs (a + p) (by grind) (fun q hq => h q (List.mem_cons_of_mem _ hq))
    rw [List.foldl_cons]
    refine ⟨by grind, fun q hq => ?_⟩
    rcases List.mem_cons.mp hq with e | hq
    · subst e; grind
    · exact h2 q hq
/-- chances have small parts -/
theorem ch_qs {qs : List Rat} (h : ∀ q ∈ qs, 0 < q) (hs : qs.foldl (· + ·) 0 = 1) (hl : lcmD qs ≤ 10 ^ 6) : ∀ q ∈ qs, Qs 30 q := fun q hq => by
  have h1 := Nat.le_of_dvd (lcmD_pos qs) ((lcmD_dvd qs 1).2 q hq)
  have h2 : q ≤ 1 := by rw [← hs]; exact (sum_le qs 0 Rat.le_refl h).2 q hq
  have h3 := h q hq
  have h4 : q.num ≤ q.den := by
    have := (Rat.le_iff q 1).mp h2
    simpa using this
  have h5 : 0 < q.num := by
    have := (Rat.lt_iff 0 q).mp h3
    simpa using this
  have h6 : q.den ≤ 10 ^ 6 := Nat.le_trans h1 hl
  constructor <;> unfold Sz <;> omega
theorem eqU_Q {a b : Rat} : eqU (encQ a) (encQ b) = some (decide (a = b)) := by
  show eqDeepU (encQ a) (encQ b) = _
  unfold encQ
  simp [eqDeepU, datU, datUs, PySem.PyData.canLay0, PySem.PyData.canLayAll0, PySem.PyData.eqv, PySem.PyData.eqvAll]
  by_cases h : a = b
  · subst h; simp
  · have : ¬ (a.num = b.num ∧ a.den = b.den) := fun z => h (Rat.ext z.1 z.2)
    rw [decide_eq_false h]
    by_cases h1 : a.num = b.num
    · have h2 : ¬ a.den = b.den := fun z => this ⟨h1, z⟩
      simp [h1, h2]
      omega
    · simp [h1]
@[simp] theorem cmU_eqQ {a b : Rat} : cmU .eq (encQ a) (encQ b) = some (decide (a = b)) := eqU_Q
@[simp] theorem cmU_neQ {a b : Rat} : cmU .ne (encQ a) (encQ b) = some (!decide (a = b)) := by
  show (eqU (encQ a) (encQ b)).map (!·) = _
  rw [eqU_Q]
  rfl
theorem encQ_01 : U.tup [.int 0, .int 1] = encQ 0 := rfl
theorem encQ_11 : U.tup [.int 1, .int 1] = encQ 1 := rfl
/-- the laws' own lowest terms -/
def irLowest : List Sx := [.asg 2 (.bif .abs [.var 0]), .asg 3 (.var 1), .while (.cmp .ne (.var 3) (.int 0)) [.par 2 3 (.var 3) (.bin .mod (.var 2) (.var 3))], .ret (.tup [.bin .fdiv (.var 0) (.var 2), .bin .fdiv (.var 1) (.var 2)])]
theorem lowest_okU {T : Tab} {I : List FI} {k f : Nat} (hf : T.fns[f]? = some ⟨2, 4, irLowest⟩) (hi : inf I f = {}) (hk : 3 ≤ k) {a b : Int} (hb0 : 0 < b) (hb : Sz 9000 b) : callU T I k f [.int a, .int b] = some (.ok (encQ (a /. b))) := by
  rw [callU_run hf (by omega) rfl, hi]
  obtain ⟨g, h1, h2, h3⟩ := euclidU (pre := uno [] (esc (GV T I k).fl (.cmp .ne (.var 3) (.int 0)))) (c := tsU (GV T I k) (.cmp .ne (.var 3) (.int 0))) (bd := xsU (GV T I k) [] [.par 2 3 (.var 3) (.bin .mod (.var 2) (.var 3))]) (E := fun x y => [.val (.int a), .val (.int b), .val (.int x), .val (.int y)]) (L := 9000) (a := (a.natAbs : Int)) (b := b) (by omega) (by omega) hb (fun _ _ => by simp)
    (fun a b hb => by simp [tsU]) (fun a b hb => by simp [opU_mod hb])
  have hg : g = (Int.gcd a b : Int) := by
    have := h3 (.inr hb0)
    have e : Int.gcd (a.natAbs : Int) b = Int.gcd a b := by simp [Int.gcd]
    rw [e] at h2
    omega
  have hgd : (Int.gcd a b : Int) ∣ b := Int.gcd_dvd_right ..
  have hg0 : (0 : Int) < Int.gcd a b := by
    have : Int.gcd a b ≠ 0 := fun z => by
      have := (Int.gcd_eq_zero_iff.mp z).2
      omega
    omega
  have hgs : Sz 9000 (Int.gcd a b : Int) := hb.le (by
    have := Int.le_of_dvd hb0 hgd
    omega)
  obtain ⟨e1, e2⟩ := divInt_pos a hb0
  subst hg
  simp [irLowest, h1, opU_fdiv hgs (Nat.le_refl _) hg0, encQ, e1, e2]
theorem PayOk.of {a b : Int} (hb : 0 < b) (h1 : -10 ^ 30 ≤ a) (h2 : a ≤ 10 ^ 30) (h3 : b ≤ 10 ^ 6) : PayOk (a /. b) := by
  obtain ⟨e1, e2⟩ := divInt_le (a := a) hb
  exact ⟨by omega, by omega, by omega⟩
theorem ShareOk.of {a b : Int} (h1 : 0 ≤ a) (h2 : a < b) (h3 : b ≤ 1000) : ShareOk (a /. b) := by
  have hb : 0 < b := by omega
  obtain ⟨e1, e2⟩ := divInt_le (a := a) hb
  obtain ⟨e3, e4⟩ := divInt_pos a hb
  have hg0 : (0 : Int) < Int.gcd a b := by
    have : Int.gcd a b ≠ 0 := fun z => by
      have := (Int.gcd_eq_zero_iff.mp z).2
      omega
    omega
  have hgd : (Int.gcd a b : Int) ∣ b := Int.gcd_dvd_right ..
  have hga : (Int.gcd a b : Int) ∣ a := Int.gcd_dvd_left ..
  refine ⟨by rw [e3]; exact Int.ediv_nonneg h1 (by omega), ?_, by omega⟩
  rw [e3, e4]
  obtain ⟨c, hc⟩ := hga
  obtain ⟨d, hd⟩ := hgd
  generalize (Int.gcd a b : Int) = g at *
  rw [hc, hd, Int.mul_ediv_cancel_left _ (by omega), Int.mul_ediv_cancel_left _ (by omega)]
  rw [hc, hd] at h2
  exact Int.lt_of_mul_lt_mul_left h2 (by omega)
/-! chances by weights -/
theorem sum_divInt {W : Int} (hW : 0 < W) : ∀ (ws : List Int) (a : Int), (ws.map fun w => w /. W).foldl (· + ·) (a /. W) = (a + ws.sum) /. W
  | [], a => by simp
  | w :: ws, a => by
    have e : a /. W + w /. W = (a + w) /. W := by
      rw [Rat.divInt_add_divInt _ _ (by omega) (by omega)]
      have : (a * W + w * W) /. (W * W) = ((a + w) * W) /. (W * W) := by rw [Int.add_mul]
      rw [this, Rat.divInt_mul_right (by omega)]
    rw [List.map_cons, List.foldl_cons, e, sum_divInt hW ws (a + w), List.sum_cons, Int.add_assoc]
theorem lcm_dvd_all {W : Nat} : ∀ (qs : List Rat) (a : Nat), a ∣ W → (∀ q ∈ qs, q.den ∣ W) → qs.foldl (fun a q => Nat.lcm a q.den) a ∣ W
  | [], a, h, _ => h
  | q :: qs, a, h, g => lcm_dvd_all qs _ (Nat.lcm_dvd h (g q (List.mem_cons_self ..))) (fun p hp => g p (List.mem_cons_of_mem _ hp))
theorem sum_bd {mo : Int} : ∀ {ws : List Int}, (∀ w ∈ ws, 0 < w ∧ w ≤ mo) → 0 ≤ ws.sum ∧ ws.sum ≤ mo * ws.length
  | [], _ => by simp
  | w :: ws, h => by
    have h1 := h w (List.mem_cons_self ..)
    obtain ⟨h2, h3⟩ := sum_bd (ws := ws) fun v hv => h v (List.mem_cons_of_mem _ hv)
    rw [List.sum_cons, List.length_cons, Int.natCast_add, Int.mul_add]
    constructor
    · omega
    · simp
      omega
theorem ch_of {ws : List Int} (hp : ∀ w ∈ ws, 0 < w) (hW : 0 < ws.sum) (hs : ws.sum ≤ 10 ^ 6) : ChOk (ws.map fun w => w /. ws.sum) := by
  refine ⟨fun q hq => ?_, ?_, ?_⟩
  · obtain ⟨w, h1, h2⟩ := List.mem_map.mp hq
    subst h2
    have h3 := hp w h1
    rw [Rat.lt_iff]
    obtain ⟨e1, e2⟩ := divInt_pos w hW
    have hg0 : (0 : Int) < Int.gcd w ws.sum := by
      have : Int.gcd w ws.sum ≠ 0 := fun z => by
        have := (Int.gcd_eq_zero_iff.mp z).2
        omega
      omega
    have : 0 < (w /. ws.sum).num := by
      rw [e1]
      obtain ⟨c, hc⟩ : (Int.gcd w ws.sum : Int) ∣ w := Int.gcd_dvd_left ..
      generalize (Int.gcd w ws.sum : Int) = g at *
      rw [hc, Int.mul_ediv_cancel_left _ (by omega)]
      rw [hc] at h3
      exact Int.pos_of_mul_pos_right h3 (by omega)
    simpa using this
  · have := sum_divInt hW ws 0
    rw [Rat.zero_divInt, Int.zero_add, Rat.divInt_self' (by omega)] at this
    exact this
  · have hd : lcmD (ws.map fun w => w /. ws.sum) ∣ ws.sum.toNat := by
      refine lcm_dvd_all _ 1 (Nat.one_dvd _) fun q hq => ?_
      obtain ⟨w, h1, h2⟩ := List.mem_map.mp hq
      subst h2
      obtain ⟨e1, e2⟩ := divInt_pos w hW
      have : ((w /. ws.sum).den : Int) ∣ ws.sum := by
        rw [e2]
        obtain ⟨c, hc⟩ : (Int.gcd w ws.sum : Int) ∣ ws.sum := Int.gcd_dvd_right ..
        have hg0 : (Int.gcd w ws.sum : Int) ≠ 0 := fun z => by rw [z] at hc; omega
        generalize (Int.gcd w ws.sum : Int) = g at *
        rw [hc, Int.mul_ediv_cancel_left _ hg0]
        exact ⟨g, Int.mul_comm _ _⟩
      have h4 : (((ws.sum.toNat : Nat)) : Int) = ws.sum := Int.toNat_of_nonneg (by omega)
      rw [← h4] at this
      exact Int.natCast_dvd_natCast.mp (by rw [h4] at this ⊢; exact this)
    have := Nat.le_of_dvd (by omega) hd
    omega
/-! the four words -/
@[simp] theorem w_one_other : (("one" : Str) = "other") = False := by simp only [eq_iff_iff, iff_false]; decide +kernel
@[simp] theorem w_one_chance : (("one" : Str) = "chance") = False := by simp only [eq_iff_iff, iff_false]; decide +kernel
@[simp] theorem w_one_end : (("one" : Str) = "end") = False := by simp only [eq_iff_iff, iff_false]; decide +kernel
@[simp] theorem w_other_one : (("other" : Str) = "one") = False := by simp only [eq_iff_iff, iff_false]; decide +kernel
@[simp] theorem w_other_chance : (("other" : Str) = "chance") = False := by simp only [eq_iff_iff, iff_false]; decide +kernel
@[simp] theorem w_other_end : (("other" : Str) = "end") = False := by simp only [eq_iff_iff, iff_false]; decide +kernel
@[simp] theorem w_chance_one : (("chance" : Str) = "one") = False := by simp only [eq_iff_iff, iff_false]; decide +kernel
@[simp] theorem w_chance_other : (("chance" : Str) = "other") = False := by simp only [eq_iff_iff, iff_false]; decide +kernel
@[simp] theorem w_chance_end : (("chance" : Str) = "end") = False := by simp only [eq_iff_iff, iff_false]; decide +kernel
@[simp] theorem w_end_one : (("end" : Str) = "one") = False := by simp only [eq_iff_iff, iff_false]; decide +kernel
@[simp] theorem w_end_other : (("end" : Str) = "other") = False := by simp only [eq_iff_iff, iff_false]; decide +kernel
@[simp] theorem w_end_chance : (("end" : Str) = "chance") = False := by simp only [eq_iff_iff, iff_false]; decide +kernel
/-- a place: the one's, the other's, chance's, an end -/
inductive Pl where
  | one (ds : List (Nat × Rat)) | other (ds : List (Nat × Rat)) | chance (ds : List (Nat × Rat × Rat)) | fin (p : Rat)
def encD (d : Nat × Rat) : U := .tup [.int d.1, encQ d.2]
def encC (d : Nat × Rat × Rat) : U := .tup [.int d.1, encQ d.2.1, encQ d.2.2]
def encRow : Pl → U
  | .one ds => .tup [.str "one", .lst (ds.map encD)]
  | .other ds => .tup [.str "other", .lst (ds.map encD)]
  | .chance ds => .tup [.str "chance", .lst (ds.map encC)]
  | .fin p => .tup [.str "end", encQ p]
def sumC (ds : List (Nat × Rat × Rat)) : Rat := ds.foldl (fun a d => a + d.2.2) 0
def PlOk (n : Nat) : Pl → Prop
  | .one ds => 1 ≤ ds.length ∧ ds.length ≤ 6 ∧ ∀ d ∈ ds, d.1 < n ∧ PayOk d.2
  | .other ds => 1 ≤ ds.length ∧ ds.length ≤ 6 ∧ ∀ d ∈ ds, d.1 < n ∧ PayOk d.2
  | .chance ds => 1 ≤ ds.length ∧ ds.length ≤ 6 ∧ (∀ d ∈ ds, d.1 < n ∧ PayOk d.2.1 ∧ 0 < d.2.2) ∧ sumC ds = 1 ∧ lcmD (ds.map (·.2.2)) ≤ 10 ^ 6
  | .fin p => PayOk p
theorem PayOk.qs {p : Rat} (h : PayOk p) : Qs 100 p := by
  obtain ⟨h1, h2, h3⟩ := h
  have h4 := den_pos' p
  constructor <;> unfold Sz <;> omega
theorem ShareOk.qs {p : Rat} (h : ShareOk p) : Qs 10 p := by
  obtain ⟨h1, h2, h3⟩ := h
  have h4 := den_pos' p
  constructor <;> unfold Sz <;> omega
end Ip

/-! IpH: what is wanted of a body, statement by statement. Written by an AI agent. -/
namespace Ip
open PySem (Str)
/-- the body ends, and so -/
@[irreducible] def Wx (Γ : GamU) (mu : List Nat) (ss : List Sx) (ρ : EU) (Q : FlU → EU → Prop) : Prop := ∃ f ρ', xsU Γ mu ss ρ = some (f, ρ') ∧ Q f ρ'
/-- behind a statement -/
@[irreducible] def Wo (Γ : GamU) (mu : List Nat) (x : Option (FlU × EU)) (r : List Sx) (Q : FlU → EU → Prop) : Prop := match x with
  | none => False
  | some (.nxt, ρ) => Wx Γ mu r ρ Q
  | some (f, ρ) => Q f ρ
/-- a test's ways -/
@[irreducible] def Wb (x : RU Bool) (A B : Prop) (E : ExU → Prop) : Prop := match x with
  | some (.ok true) => A
  | some (.ok false) => B
  | some (.ex e) => E e
  | none => False
/-- what loops walk -/
@[irreducible] def Wi {α : Type} (x : RU α) (K : α → Prop) (E : ExU → Prop) : Prop := match x with
  | some (.ok a) => K a
  | some (.ex e) => E e
  | none => False
@[irreducible] def Wl (Γ : GamU) (mu : List Nat) (tg : List Nat) (body : List Sx) (its : Option (List U)) (ρ : EU) (r : List Sx) (Q : FlU → EU → Prop) : Prop := Wo Γ mu (foF (stU Γ mu tg body) its ρ) r Q
@[irreducible] def Ww (Γ : GamU) (mu : List Nat) (c : Ex) (body : List Sx) (ρ : EU) (r : List Sx) (Q : FlU → EU → Prop) : Prop := Wo Γ mu (whlU (uno mu (esc Γ.fl c)) (tsU Γ c) (xsU Γ mu body) big ρ) r Q
section
variable {Γ : GamU} {mu : List Nat} {r : List Sx} {ρ : EU} {Q : FlU → EU → Prop}
@[simp] theorem Wo_nxt : Wo Γ mu (some (.nxt, ρ)) r Q = Wx Γ mu r ρ Q := by unfold Wo; rfl
@[simp] theorem Wo_ret {q : Bool} {u : U} : Wo Γ mu (some (.ret q u, ρ)) r Q = Q (.ret q u) ρ := by unfold Wo; rfl
@[simp] theorem Wo_ex {e : ExU} : Wo Γ mu (some (.ex e, ρ)) r Q = Q (.ex e) ρ := by unfold Wo; rfl
@[simp] theorem Wo_brk : Wo Γ mu (some (.brk, ρ)) r Q = Q .brk ρ := by unfold Wo; rfl
@[simp] theorem Wo_cnt : Wo Γ mu (some (.cnt, ρ)) r Q = Q .cnt ρ := by unfold Wo; rfl
@[simp] theorem Wo_none : Wo Γ mu none r Q = False := by unfold Wo; rfl
@[simp] theorem Wo_ite {c : Prop} [Decidable c] {a b : Option (FlU × EU)} : Wo Γ mu (if c then a else b) r Q = if c then Wo Γ mu a r Q else Wo Γ mu b r Q := by split <;> rfl
@[simp] theorem Wb_ok {b : Bool} {A B : Prop} {E : ExU → Prop} : Wb (some (.ok b)) A B E = if b = true then A else B := by cases b <;> simp [Wb]
@[simp] theorem Wb_ex {e : ExU} {A B : Prop} {E : ExU → Prop} : Wb (some (.ex e)) A B E = E e := by unfold Wb; rfl
@[simp] theorem Wb_ite {c : Prop} [Decidable c] {a b : RU Bool} {A B : Prop} {E : ExU → Prop} : Wb (if c then a else b) A B E = if c then Wb a A B E else Wb b A B E := by split <;> rfl
@[simp] theorem Wi_ok {α : Type} {a : α} {K : α → Prop} {E : ExU → Prop} : Wi (some (.ok a)) K E = K a := by unfold Wi; rfl
@[simp] theorem Wi_ex {α : Type} {e : ExU} {K : α → Prop} {E : ExU → Prop} : Wi (some (.ex e)) K E = E e := by unfold Wi; rfl
theorem ex_some {g : FlU} : (∃ f ρ', some (g, ρ) = some (f, ρ') ∧ Q f ρ') = Q g ρ := propext ⟨fun ⟨f, ρ', h1, h2⟩ => by cases h1; exact h2, fun h => ⟨_, _, rfl, h⟩⟩
@[simp] theorem Wx_nil : Wx Γ mu [] ρ Q = Q .nxt ρ := by
  unfold Wx
  rw [xsU_nil, ex_some]
theorem Wx_cons {s : Sx} : Wx Γ mu (s :: r) ρ Q = Wo Γ mu (x1U Γ mu s ρ) r Q := by
  unfold Wx Wo
  rw [xsU_cons]
  unfold seqU
  cases x1U Γ mu s ρ with
  | none => simp
  | some p =>
    obtain ⟨f, ρ1⟩ := p
    cases f <;> with_unfolding_all first | rfl | exact ex_some
theorem Wx_app {a : List Sx} : Wx Γ mu (a ++ r) ρ Q = Wo Γ mu (xsU Γ mu a ρ) r Q := by
  induction a generalizing ρ with
  | nil => simp
  | cons s a ih =>
    rw [List.cons_append, Wx_cons, xsU_cons]
    unfold seqU
    cases x1U Γ mu s ρ with
    | none => with_unfolding_all rfl
    | some p =>
      obtain ⟨f, ρ1⟩ := p
      cases f <;> with_unfolding_all first | exact ih | rfl
@[simp] theorem Wx_iff {c : Ex} {a b : List Sx} : Wx Γ mu (.iff c a b :: r) ρ Q = Wb (truthU (evU Γ c (uno mu (esc Γ.fl c) ρ))) (Wx Γ mu (a ++ r) (uno mu (esc Γ.fl c) ρ) Q) (Wx Γ mu (b ++ r) (uno mu (esc Γ.fl c) ρ) Q) (fun e => Q (.ex e) (uno mu (esc Γ.fl c) ρ)) := by
  rw [Wx_cons, Wx_app, Wx_app, x1U_iff]
  unfold brU Wb
  cases truthU (evU Γ c (uno mu (esc Γ.fl c) ρ)) with
  | none => with_unfolding_all rfl
  | some p => cases p with
    | ok b => cases b <;> with_unfolding_all rfl
    | ex e => with_unfolding_all rfl
@[simp] theorem Wx_for {tg : List Nat} {k : Ik} {es : List Ex} {body : List Sx} : Wx Γ mu (.for tg k es body :: r) ρ Q = Wi (evsU Γ es (uno mu (escs Γ.fl es) ρ)) (fun us => Wl Γ mu tg body (itU k us) (uno mu (escs Γ.fl es) ρ) r Q) (fun e => Q (.ex e) (uno mu (escs Γ.fl es) ρ)) := by
  rw [Wx_cons, x1U_for]
  unfold Wi Wl toFlU
  cases evsU Γ es (uno mu (escs Γ.fl es) ρ) with
  | none => with_unfolding_all rfl
  | some p => cases p <;> with_unfolding_all rfl
@[simp] theorem Wx_while {c : Ex} {body : List Sx} : Wx Γ mu (.while c body :: r) ρ Q = Ww Γ mu c body ρ r Q := by
  rw [Wx_cons, x1U_while]
  with_unfolding_all rfl
@[simp] theorem Wx_asg {i : Nat} {e : Ex} : Wx Γ mu (.asg i e :: r) ρ Q = Wo Γ mu (x1U Γ mu (.asg i e) ρ) r Q := Wx_cons
@[simp] theorem Wx_unp {is : List Nat} {e : Ex} : Wx Γ mu (.unp is e :: r) ρ Q = Wo Γ mu (x1U Γ mu (.unp is e) ρ) r Q := Wx_cons
@[simp] theorem Wx_par {i j : Nat} {a b : Ex} : Wx Γ mu (.par i j a b :: r) ρ Q = Wo Γ mu (x1U Γ mu (.par i j a b) ρ) r Q := Wx_cons
@[simp] theorem Wx_sub {o i e : Ex} : Wx Γ mu (.sub o i e :: r) ρ Q = Wo Γ mu (x1U Γ mu (.sub o i e) ρ) r Q := Wx_cons
@[simp] theorem Wx_fset {o e : Ex} {x : Nat} : Wx Γ mu (.fset o x e :: r) ρ Q = Wo Γ mu (x1U Γ mu (.fset o x e) ρ) r Q := Wx_cons
@[simp] theorem Wx_aug {i : Nat} {op : Op2} {e : Ex} : Wx Γ mu (.aug i op e :: r) ρ Q = Wo Γ mu (x1U Γ mu (.aug i op e) ρ) r Q := Wx_cons
@[simp] theorem Wx_exp {e : Ex} : Wx Γ mu (.exp e :: r) ρ Q = Wo Γ mu (x1U Γ mu (.exp e) ρ) r Q := Wx_cons
@[simp] theorem Wx_ret {e : Ex} : Wx Γ mu (.ret e :: r) ρ Q = Wo Γ mu (x1U Γ mu (.ret e) ρ) r Q := Wx_cons
@[simp] theorem Wx_retN : Wx Γ mu (.retN :: r) ρ Q = Q (.ret false .non) ρ := by rw [Wx_cons, x1U_retN, Wo_ret]
@[simp] theorem Wx_raise {c : Nat} {fs : List Nat} {es : List Ex} : Wx Γ mu (.raise c fs es :: r) ρ Q = Wo Γ mu (x1U Γ mu (.raise c fs es) ρ) r Q := Wx_cons
@[simp] theorem Wx_pass : Wx Γ mu (.pass :: r) ρ Q = Wx Γ mu r ρ Q := by rw [Wx_cons, x1U_pass, Wo_nxt]
@[simp] theorem Wx_brk : Wx Γ mu (.brk :: r) ρ Q = Q .brk ρ := by rw [Wx_cons, x1U_brk, Wo_brk]
@[simp] theorem Wx_cnt : Wx Γ mu (.cnt :: r) ρ Q = Q .cnt ρ := by rw [Wx_cons, x1U_cnt, Wo_cnt]
theorem Wx_mono {ss : List Sx} {Q' : FlU → EU → Prop} (h : Wx Γ mu ss ρ Q) (k : ∀ f ρ', Q f ρ' → Q' f ρ') : Wx Γ mu ss ρ Q' := by
  unfold Wx at h ⊢
  obtain ⟨f, ρ', h1, h2⟩ := h
  exact ⟨f, ρ', h1, k _ _ h2⟩
theorem Wx_cut {a : List Sx} (P : EU → Prop) (h : Wx Γ mu a ρ (fun f ρ' => match f with
    | .nxt => P ρ'
    | f => Q f ρ')) (k : ∀ ρ', P ρ' → Wx Γ mu r ρ' Q) : Wx Γ mu (a ++ r) ρ Q := by
  rw [Wx_app]
  unfold Wx at h
  obtain ⟨f, ρ', h1, h2⟩ := h
  rw [h1]
  cases f <;> with_unfolding_all first | exact k _ h2 | exact h2
/-- behind a turn -/
def Kt (N B : EU → Prop) (Q : FlU → EU → Prop) : FlU → EU → Prop
  | .nxt, ρ => N ρ
  | .cnt, ρ => N ρ
  | .brk, ρ => B ρ
  | f, ρ => Q f ρ
@[simp] theorem Kt_nxt {N B : EU → Prop} : Kt N B Q .nxt ρ = N ρ := nr rfl
@[simp] theorem Kt_cnt {N B : EU → Prop} : Kt N B Q .cnt ρ = N ρ := nr rfl
@[simp] theorem Kt_brk {N B : EU → Prop} : Kt N B Q .brk ρ = B ρ := nr rfl
@[simp] theorem Kt_ret {N B : EU → Prop} {q : Bool} {u : U} : Kt N B Q (.ret q u) ρ = Q (.ret q u) ρ := nr rfl
@[simp] theorem Kt_ex {N B : EU → Prop} {e : ExU} : Kt N B Q (.ex e) ρ = Q (.ex e) ρ := nr rfl
/-- a turn of a loop -/
@[irreducible] def Wt (Γ : GamU) (mu : List Nat) (tg : List Nat) (body : List Sx) (u : U) (ρ : EU) (N : EU → Prop) (B : EU → Prop) (Q : FlU → EU → Prop) : Prop :=
  ∃ ρ2, setU tg u ρ = some ρ2 ∧ Wx Γ mu body ρ2 (Kt N B Q)
@[simp] theorem Wt_one {i : Nat} {u : U} {N B : EU → Prop} : Wt Γ mu [i] r u ρ N B Q = Wx Γ mu r (ρ.set i (.val u)) (Kt N B Q) := by
  unfold Wt
  exact propext ⟨fun ⟨_, h, w⟩ => by cases h; exact w, fun w => ⟨_, rfl, w⟩⟩
@[simp] theorem Wt_two {i j : Nat} {a b : U} {N B : EU → Prop} : Wt Γ mu [i, j] r (.tup [a, b]) ρ N B Q = Wx Γ mu r ((ρ.set i (.val a)).set j (.val b)) (Kt N B Q) := by
  unfold Wt
  exact propext ⟨fun ⟨_, h, w⟩ => by cases h; exact w, fun w => ⟨_, rfl, w⟩⟩
@[simp] theorem Wt_three {i j k : Nat} {a b c : U} {N B : EU → Prop} : Wt Γ mu [i, j, k] r (.tup [a, b, c]) ρ N B Q = Wx Γ mu r (((ρ.set i (.val a)).set j (.val b)).set k (.val c)) (Kt N B Q) := by
  unfold Wt
  exact propext ⟨fun ⟨_, h, w⟩ => by cases h; exact w, fun w => ⟨_, rfl, w⟩⟩
/-- a loop that may be left -/
theorem Wl_any {tg : List Nat} {body : List Sx} {us : List U} (P : Nat → EU → Prop) (hl : us.length < 1000000000) (h0 : P 0 ρ)
    (h : ∀ i u ρ, us[i]? = some u → P i ρ → ∀ N B : EU → Prop, (∀ ρ', P (i + 1) ρ' → N ρ') → (∀ ρ', Wx Γ mu r ρ' Q → B ρ') → Wt Γ mu tg body u ρ N B Q) (hq : ∀ ρ, P us.length ρ → Wx Γ mu r ρ Q) : Wl Γ mu tg body (some us) ρ r Q := by
  unfold Wl
  rw [foF_ok hl]
  obtain ⟨f, ρ', h1, h2⟩ := forU_any (step := stU Γ mu tg body) (us := us) (ρ := ρ) P (fun f ρ => match f with
    | .nxt => Wx Γ mu r ρ Q
    | f => Q f ρ) h0 (fun i u ρ hu p => by
      have hh := h i u ρ hu p (P (i + 1)) (fun ρ' => Wx Γ mu r ρ' Q) (fun _ z => z) (fun _ z => z)
      unfold Wt at hh
      obtain ⟨ρ2, e, hh⟩ := hh
      unfold Wx at hh
      obtain ⟨f, ρ', h1, h2⟩ := hh
      refine ⟨f, ρ', by unfold stU; rw [e]; exact h1, ?_⟩
      cases f <;> with_unfolding_all exact h2) (fun ρ p => hq ρ p)
  rw [h1]
  cases f <;> with_unfolding_all exact h2
theorem Wl_range {tg : List Nat} {body : List Sx} {n : Nat} (P : Nat → EU → Prop) (hl : n < 1000000000) (h0 : P 0 ρ)
    (h : ∀ i ρ, i < n → P i ρ → ∀ N B : EU → Prop, (∀ ρ', P (i + 1) ρ' → N ρ') → (∀ ρ', Wx Γ mu r ρ' Q → B ρ') → Wt Γ mu tg body (.int (i : Nat)) ρ N B Q) (hq : ∀ ρ, P n ρ → Wx Γ mu r ρ Q) : Wl Γ mu tg body (itU .range1 [.int (n : Nat)]) ρ r Q := by
  rw [itU_len hl]
  refine Wl_any P (by simp; omega) h0 (fun i u ρ hu p => ?_) (by simpa using hq)
  rw [List.getElem?_map] at hu
  obtain ⟨j, q1, q2⟩ := Option.map_eq_some_iff.mp hu
  subst q2
  obtain ⟨hj, q3⟩ := List.getElem?_eq_some_iff.mp q1
  rw [List.length_range] at hj
  rw [List.getElem_range] at q3
  subst q3
  exact h i ρ hj p
theorem Wl_range2 {tg : List Nat} {body : List Sx} {a b : Nat} (P : Nat → EU → Prop) (hl : a < 1000000000) (hb : b < 1000000000) (h0 : P a ρ) (hab : a ≤ b)
    (h : ∀ i ρ, a ≤ i → i < b → P i ρ → ∀ N B : EU → Prop, (∀ ρ', P (i + 1) ρ' → N ρ') → (∀ ρ', Wx Γ mu r ρ' Q → B ρ') → Wt Γ mu tg body (.int (i : Nat)) ρ N B Q) (hq : ∀ ρ, P b ρ → Wx Γ mu r ρ Q) : Wl Γ mu tg body (itU .range2 [.int (a : Nat), .int (b : Nat)]) ρ r Q := by
  rw [itU_range2 (by omega) (by omega) (by omega) (by omega)]
  have e1 : ((b : Int) - (a : Int)).toNat = b - a := by omega
  rw [e1]
  refine Wl_any (fun i => P (a + i)) (by simp; omega) h0 (fun i u ρ hu p => ?_) (by
    have e2 : a + (b - a) = b := by omega
    simpa [e2] using hq)
  rw [List.getElem?_map] at hu
  obtain ⟨j, q1, q2⟩ := Option.map_eq_some_iff.mp hu
  subst q2
  obtain ⟨hj, q3⟩ := List.getElem?_eq_some_iff.mp q1
  rw [List.length_range] at hj
  rw [List.getElem_range] at q3
  subst q3
  have := h (a + i) ρ (by omega) (by omega) p
  rw [Int.natCast_add] at this
  exact this
/-- over a list's items -/
theorem Wl_map {α : Type} {e : α → U} {xs : List α} {tg : List Nat} {body : List Sx} (P : Nat → EU → Prop) (hl : xs.length < 1000000000) (h0 : P 0 ρ)
    (h : ∀ i x ρ, xs[i]? = some x → P i ρ → ∀ N B : EU → Prop, (∀ ρ', P (i + 1) ρ' → N ρ') → (∀ ρ', Wx Γ mu r ρ' Q → B ρ') → Wt Γ mu tg body (e x) ρ N B Q) (hq : ∀ ρ, P xs.length ρ → Wx Γ mu r ρ Q) : Wl Γ mu tg body (some (xs.map e)) ρ r Q := by
  refine Wl_any P (by simpa using hl) h0 (fun i u ρ hu p => ?_) (by simpa using hq)
  rw [List.getElem?_map] at hu
  obtain ⟨j, q1, q2⟩ := Option.map_eq_some_iff.mp hu
  subst q2
  exact h i j ρ q1 p
/-- a while by a measure -/
theorem Ww_inv {c : Ex} {body : List Sx} (P : Nat → EU → Prop) {n : Nat} (hn : n < 1000000000) (h0 : P n ρ)
    (h : ∀ n ρ, P n ρ → ∀ N B : EU → Prop, (∀ n' ρ', n' < n → P n' ρ' → N ρ') → (∀ ρ', Wx Γ mu r ρ' Q → B ρ') → Wb (tsU Γ c (uno mu (esc Γ.fl c) ρ)) (Wx Γ mu body (uno mu (esc Γ.fl c) ρ) (Kt N B Q)) (Wx Γ mu r (uno mu (esc Γ.fl c) ρ) Q) (fun _ => False)) : Ww Γ mu c body ρ r Q := by
  unfold Ww
  obtain ⟨f, ρ', h1, h2⟩ := whlU_big (pre := uno mu (esc Γ.fl c)) (c := tsU Γ c) (b := xsU Γ mu body) P (fun f ρ => match f with
    | .nxt => Wx Γ mu r ρ Q
    | f => Q f ρ) hn h0 (fun n ρ p => by
      have := h n ρ p (fun ρ' => ∃ n', n' < n ∧ P n' ρ') (fun ρ' => Wx Γ mu r ρ' Q) (fun n' ρ' a b => ⟨n', a, b⟩) (fun _ z => z)
      unfold Wb at this
      cases e : tsU Γ c (uno mu (esc Γ.fl c) ρ) with
      | none => rw [e] at this; exact this.elim
      | some q =>
        rw [e] at this
        cases q with
        | ex e => exact this.elim
        | ok b =>
          cases b with
          | false => exact .inl ⟨rfl, this⟩
          | true =>
            dsimp only at this
            unfold Wx at this
            obtain ⟨f, ρ', h1, h2⟩ := this
            refine .inr ⟨rfl, f, ρ', h1, ?_⟩
            cases f <;> with_unfolding_all exact h2)
  rw [h1]
  cases f <;> with_unfolding_all exact h2
end
section
variable {T : Tab} {I : List FI} {k f : Nat} {d : FnI} {us : List U}
/-- a call by its body -/
theorem callW {R : RU U → Prop} (h : T.fns[f]? = some d) (hk : 3 ≤ k) (hl : us.length = d.ps)
    (w : ∀ Q : RU U → Prop, (∀ x, R x → Q x) → Wx (GV T I k) (inf I f).mu d.body (us.map Sl.val ++ List.replicate (d.n - d.ps) .emp) (fun g ρ => Q (finU (inf I f) (some (g, ρ))))) : R (callU T I k f us) := by
  rw [callU_run h hk hl]
  have w := w R (fun _ z => z)
  unfold Wx at w
  obtain ⟨g, ρ, h1, h2⟩ := w
  rw [h1]
  exact h2
theorem runW {R : Option (Ru (List (Nat × U))) → Prop} {c : Nat} {fs : List (Nat × U)} (h : T.fns[f]? = some d) (hk : 3 ≤ k) (hl : us.length + 1 = d.ps) (hm : (inf I f).mu.contains 0 = true)
    (w : ∀ Q : Option (Ru (List (Nat × U))) → Prop, (∀ x, R x → Q x) → Wx (GV T I k) (inf I f).mu d.body ((Sl.own (.ins c fs) :: us.map Sl.val) ++ List.replicate (d.n - d.ps) .emp) (fun g ρ => Q (initU c (some (g, ρ))))) : R (runU T I k f c fs us) := by
  rw [runU_run h hk hl hm]
  have w := w R (fun _ z => z)
  unfold Wx at w
  obtain ⟨g, ρ, h1, h2⟩ := w
  rw [h1]
  exact h2
end
/-! names that escape, as equations -/
section
variable {fl : Nat → Bool}
@[simp] theorem esc_var {i : Nat} : esc fl (.var i) = [i] := by rw [esc]
@[simp] theorem esc_int {i : Int} : esc fl (.int i) = [] := by rw [esc]
@[simp] theorem esc_str {i : Str} : esc fl (.str i) = [] := by rw [esc]
@[simp] theorem esc_bl {i : Bool} : esc fl (.bl i) = [] := by rw [esc]
@[simp] theorem esc_non : esc fl .non = [] := by rw [esc]
@[simp] theorem esc_glob {i : Nat} : esc fl (.glob i) = [] := by rw [esc]
@[simp] theorem esc_bin {o : Op2} {a b : Ex} : esc fl (.bin o a b) = (if isVar a = true then [] else esc fl a) ++ (if isVar b = true then [] else esc fl b) := by rw [esc]
@[simp] theorem esc_neg {a : Ex} : esc fl (.neg a) = esc fl a := by rw [esc]
@[simp] theorem esc_cmp {o : Cm} {a b : Ex} : esc fl (.cmp o a b) = (if isVar a = true then [] else esc fl a) ++ (if isVar b = true then [] else esc fl b) := by rw [esc]
@[simp] theorem esc_chn {o p : Cm} {a b c : Ex} : esc fl (.chn o p a b c) = esc fl a ++ esc fl b ++ esc fl c := by rw [esc]
@[simp] theorem esc_chn3 {o p q : Cm} {a b c d : Ex} : esc fl (.chn3 o p q a b c d) = esc fl a ++ esc fl b ++ esc fl c ++ esc fl d := by rw [esc]
@[simp] theorem esc_and {es : List Ex} : esc fl (.and es) = escs fl es := by rw [esc]
@[simp] theorem esc_or {es : List Ex} : esc fl (.or es) = escs fl es := by rw [esc]
@[simp] theorem esc_not {a : Ex} : esc fl (.not a) = esc fl a := by rw [esc]
@[simp] theorem esc_ite {a b c : Ex} : esc fl (.ite a b c) = esc fl a ++ esc fl b ++ esc fl c := by rw [esc]
@[simp] theorem esc_tup {es : List Ex} : esc fl (.tup es) = escs fl es := by rw [esc]
@[simp] theorem esc_lst {es : List Ex} : esc fl (.lst es) = escs fl es := by rw [esc]
@[simp] theorem esc_idx {a b : Ex} : esc fl (.idx a b) = (if isVar a = true then [] else esc fl a) ++ esc fl b := by rw [esc]
@[simp] theorem esc_slc {a : Ex} {lo hi : List Ex} : esc fl (.slc a lo hi) = (if isVar a = true then [] else esc fl a) ++ escs fl lo ++ escs fl hi := by rw [esc]
@[simp] theorem esc_call {f : Nat} {es : List Ex} : esc fl (.call f es) = if fl f = true then escBs fl es else escs fl es := by rw [esc]
@[simp] theorem esc_mk {f : Nat} {es : List Ex} : esc fl (.mk f es) = escs fl es := by rw [esc]
@[simp] theorem esc_callc {c m : Nat} {es : List Ex} : esc fl (.callc c m es) = escs fl es := by rw [esc]
@[simp] theorem esc_bif {b : Bf} {es : List Ex} : esc fl (.bif b es) = escBs fl es := by rw [esc]
@[simp] theorem esc_isi {a : Ex} {t : Isa} : esc fl (.isi a t) = if isVar a = true then [] else esc fl a := by rw [esc]
@[simp] theorem esc_bm {o : Ex} {m : Bm} {es : List Ex} : esc fl (.bm o m es) = (if isVar o = true then [] else esc fl o) ++ escBs fl es := by rw [esc]
@[simp] theorem esc_meth {o : Ex} {m : Nat} {es : List Ex} : esc fl (.meth o m es) = esc fl o ++ escs fl es := by rw [esc]
@[simp] theorem esc_fld {o : Ex} {m : Nat} : esc fl (.fld o m) = if isVar o = true then [] else esc fl o := by rw [esc]
@[simp] theorem esc_lc {e : Ex} {tg : List Nat} {k : Ik} {es ifs : List Ex} : esc fl (.lc e tg k es ifs) = esc fl e ++ escBs fl es ++ escs fl ifs := by rw [esc]
@[simp] theorem escs_nil : escs fl [] = [] := by rw [escs]
@[simp] theorem escs_cons {e : Ex} {es : List Ex} : escs fl (e :: es) = esc fl e ++ escs fl es := by rw [escs]
@[simp] theorem escBs_nil : escBs fl [] = [] := by rw [escBs]
@[simp] theorem escBs_cons {e : Ex} {es : List Ex} : escBs fl (e :: es) = (if isVar e = true then [] else esc fl e) ++ escBs fl es := by rw [escBs]
@[simp] theorem isVar_var {i : Nat} : isVar (.var i) = true := nr rfl
@[simp] theorem isVar_int {i : Int} : isVar (.int i) = false := nr rfl
@[simp] theorem isVar_str {i : Str} : isVar (.str i) = false := nr rfl
@[simp] theorem isVar_bl {i : Bool} : isVar (.bl i) = false := nr rfl
@[simp] theorem isVar_non : isVar .non = false := nr rfl
@[simp] theorem isVar_glob {i : Nat} : isVar (.glob i) = false := nr rfl
@[simp] theorem isVar_bin {o : Op2} {a b : Ex} : isVar (.bin o a b) = false := nr rfl
@[simp] theorem isVar_neg {a : Ex} : isVar (.neg a) = false := nr rfl
@[simp] theorem isVar_cmp {o : Cm} {a b : Ex} : isVar (.cmp o a b) = false := nr rfl
@[simp] theorem isVar_chn {o p : Cm} {a b c : Ex} : isVar (.chn o p a b c) = false := nr rfl
@[simp] theorem isVar_chn3 {o p q : Cm} {a b c d : Ex} : isVar (.chn3 o p q a b c d) = false := nr rfl
@[simp] theorem isVar_and {es : List Ex} : isVar (.and es) = false := nr rfl
@[simp] theorem isVar_or {es : List Ex} : isVar (.or es) = false := nr rfl
@[simp] theorem isVar_not {a : Ex} : isVar (.not a) = false := nr rfl
@[simp] theorem isVar_ite {a b c : Ex} : isVar (.ite a b c) = false := nr rfl
@[simp] theorem isVar_tup {es : List Ex} : isVar (.tup es) = false := nr rfl
@[simp] theorem isVar_lst {es : List Ex} : isVar (.lst es) = false := nr rfl
@[simp] theorem isVar_idx {a b : Ex} : isVar (.idx a b) = false := nr rfl
@[simp] theorem isVar_slc {a : Ex} {lo hi : List Ex} : isVar (.slc a lo hi) = false := nr rfl
@[simp] theorem isVar_call {f : Nat} {es : List Ex} : isVar (.call f es) = false := nr rfl
@[simp] theorem isVar_mk {f : Nat} {es : List Ex} : isVar (.mk f es) = false := nr rfl
@[simp] theorem isVar_callc {c m : Nat} {es : List Ex} : isVar (.callc c m es) = false := nr rfl
@[simp] theorem isVar_bif {b : Bf} {es : List Ex} : isVar (.bif b es) = false := nr rfl
@[simp] theorem isVar_isi {a : Ex} {t : Isa} : isVar (.isi a t) = false := nr rfl
@[simp] theorem isVar_bm {o : Ex} {m : Bm} {es : List Ex} : isVar (.bm o m es) = false := nr rfl
@[simp] theorem isVar_meth {o : Ex} {m : Nat} {es : List Ex} : isVar (.meth o m es) = false := nr rfl
@[simp] theorem isVar_fld {o : Ex} {m : Nat} : isVar (.fld o m) = false := nr rfl
@[simp] theorem isVar_lc {e : Ex} {tg : List Nat} {k : Ik} {es ifs : List Ex} : isVar (.lc e tg k es ifs) = false := nr rfl
end
theorem slot_eq {mu : List Nat} {i : Nat} {fr : Bool} {u : U} : slot mu i fr u = if (mu.contains i && fr && isLst u) = true then .own u else .val u := rfl
@[simp] theorem slot_no {mu : List Nat} {i : Nat} {u : U} : slot mu i false u = .val u := by simp [slot_eq]
@[simp] theorem slot_lst {mu : List Nat} {i : Nat} {us : List U} : slot mu i true (.lst us) = if mu.contains i = true then .own (.lst us) else .val (.lst us) := by simp [slot_eq]
@[simp] theorem slot_isL {mu : List Nat} {i : Nat} {u : U} : slot mu i true u = if (mu.contains i && isLst u) = true then .own u else .val u := by simp [slot_eq]
@[simp] theorem frE_lst {fr : Nat → Bool} {es : List Ex} : frE fr (.lst es) = true := nr rfl
@[simp] theorem frE_lc {fr : Nat → Bool} {e : Ex} {tg : List Nat} {k : Ik} {es ifs : List Ex} : frE fr (.lc e tg k es ifs) = true := nr rfl
@[simp] theorem frE_list {fr : Nat → Bool} {es : List Ex} : frE fr (.bif .list es) = true := nr rfl
@[simp] theorem frE_add {fr : Nat → Bool} {a b : Ex} : frE fr (.bin .add a b) = true := nr rfl
@[simp] theorem frE_mul {fr : Nat → Bool} {a b : Ex} : frE fr (.bin .mul a b) = true := nr rfl
@[simp] theorem frE_slc {fr : Nat → Bool} {a : Ex} {lo hi : List Ex} : frE fr (.slc a lo hi) = true := nr rfl
@[simp] theorem frE_call {fr : Nat → Bool} {f : Nat} {es : List Ex} : frE fr (.call f es) = fr f := nr rfl
@[simp] theorem frE_var {fr : Nat → Bool} {i : Nat} : frE fr (.var i) = false := nr rfl
@[simp] theorem frE_int {fr : Nat → Bool} {i : Int} : frE fr (.int i) = false := nr rfl
@[simp] theorem frE_str {fr : Nat → Bool} {i : Str} : frE fr (.str i) = false := nr rfl
@[simp] theorem frE_bl {fr : Nat → Bool} {i : Bool} : frE fr (.bl i) = false := nr rfl
@[simp] theorem frE_non {fr : Nat → Bool} : frE fr .non = false := nr rfl
@[simp] theorem frE_idx {fr : Nat → Bool} {a b : Ex} : frE fr (.idx a b) = false := nr rfl
@[simp] theorem frE_tup {fr : Nat → Bool} {es : List Ex} : frE fr (.tup es) = false := nr rfl
@[simp] theorem frE_ite {fr : Nat → Bool} {a b c : Ex} : frE fr (.ite a b c) = false := nr rfl
@[simp] theorem frE_meth {fr : Nat → Bool} {o : Ex} {m : Nat} {es : List Ex} : frE fr (.meth o m es) = false := nr rfl
@[simp] theorem frE_mk {fr : Nat → Bool} {m : Nat} {es : List Ex} : frE fr (.mk m es) = false := nr rfl
@[simp] theorem frE_fld {fr : Nat → Bool} {o : Ex} {m : Nat} : frE fr (.fld o m) = false := nr rfl
@[simp] theorem frE_bm {fr : Nat → Bool} {o : Ex} {m : Bm} {es : List Ex} : frE fr (.bm o m es) = false := nr rfl
@[simp] theorem frE_cmp {fr : Nat → Bool} {o : Cm} {a b : Ex} : frE fr (.cmp o a b) = false := nr rfl
@[simp] theorem frE_sub {fr : Nat → Bool} {a b : Ex} : frE fr (.bin .sub a b) = false := nr rfl
@[simp] theorem frE_mod {fr : Nat → Bool} {a b : Ex} : frE fr (.bin .mod a b) = false := nr rfl
@[simp] theorem frE_fdiv {fr : Nat → Bool} {a b : Ex} : frE fr (.bin .fdiv a b) = false := nr rfl
@[simp] theorem frE_pow {fr : Nat → Bool} {a b : Ex} : frE fr (.bin .pow a b) = false := nr rfl
@[simp] theorem frE_len {fr : Nat → Bool} {es : List Ex} : frE fr (.bif .len es) = false := nr rfl
@[simp] theorem frE_abs {fr : Nat → Bool} {es : List Ex} : frE fr (.bif .abs es) = false := nr rfl
@[simp] theorem frE_sum {fr : Nat → Bool} {es : List Ex} : frE fr (.bif .sum es) = false := nr rfl
@[simp] theorem frE_min2 {fr : Nat → Bool} {es : List Ex} : frE fr (.bif .min2 es) = false := nr rfl
@[simp] theorem frE_max2 {fr : Nat → Bool} {es : List Ex} : frE fr (.bif .max2 es) = false := nr rfl
@[simp] theorem frE_bint {fr : Nat → Bool} {es : List Ex} : frE fr (.bif .int es) = false := nr rfl
@[simp] theorem frE_btup {fr : Nat → Bool} {es : List Ex} : frE fr (.bif .tuple es) = false := nr rfl
@[simp] theorem isOwnAt_var {ρ : EU} {i : Nat} : isOwnAt ρ (.var i) = (match ρ[i]? with
  | some (.own u) => isLst u
  | _ => false) := nr rfl
@[simp] theorem uno1_own {ρ : EU} {i : Nat} {u : U} (h : ρ[i]? = some (.own u)) : uno1 ρ i = ρ.set i (.val u) := by unfold uno1; rw [h]
@[simp] theorem uno1_val {ρ : EU} {i : Nat} {u : U} (h : ρ[i]? = some (.val u)) : uno1 ρ i = ρ := by unfold uno1; rw [h]
@[simp] theorem uno1_emp {ρ : EU} {i : Nat} (h : ρ[i]? = some .emp) : uno1 ρ i = ρ := by unfold uno1; rw [h]
/-! numbers with bounds that are found by themselves -/
/-- below 2 ^ n -/
class Bd (n : outParam Nat) (i : Int) : Prop where
  sz : Sz n i
theorem lit_sz (k : Nat) : Sz (if k < 1048576 then 20 else if k < 2 ^ 140 then 140 else if k < 2 ^ 250 then 250 else k + 1) (k : Int) := by
  unfold Sz
  rw [Int.natAbs_natCast]
  split
  · omega
  · split
    · assumption
    · split
      · assumption
      · have := @Nat.lt_two_pow_self k
        rw [Nat.pow_succ]
        omega
instance {k : Nat} : Bd (if k < 1048576 then 20 else if k < 2 ^ 140 then 140 else if k < 2 ^ 250 then 250 else k + 1) (no_index (OfNat.ofNat k) : Int) := ⟨lit_sz k⟩
instance {n m : Nat} {i j : Int} [a : Bd n i] [b : Bd m j] : Bd (n + m) (i * j) := ⟨a.sz.mul b.sz⟩
instance {n m : Nat} {i j : Int} [a : Bd n i] [b : Bd m j] : Bd (max n m + 1) (i + j) := ⟨a.sz.add b.sz⟩
instance {n m : Nat} {i j : Int} [a : Bd n i] [b : Bd m j] : Bd (max n m + 1) (i - j) := ⟨a.sz.sub b.sz⟩
instance {n : Nat} {i : Int} [a : Bd n i] : Bd n (-i) := ⟨a.sz.neg⟩
theorem opU_mulB {n m : Nat} {i j : Int} [a : Bd n i] [b : Bd m j] (h : n ≤ 400000 ∧ m ≤ 400000) : opU .mul (.int i) (.int j) = some (.int (i * j)) := opU_mul a.sz b.sz h.1 h.2
/-- not nought -/
class Nz (j : Int) : Prop where
  h : j ≠ 0
instance {k : Nat} : Nz (no_index (OfNat.ofNat (k + 1)) : Int) := ⟨by
  show ((k + 1 : Nat) : Int) ≠ 0
  omega⟩
theorem emod_sz {m : Nat} {i j : Int} (h : Sz m j) (h0 : j ≠ 0) : Sz m (i % j) := by
  unfold Sz at *
  have h1 := Int.emod_nonneg i h0
  have h2 : i % j < j.natAbs := by
    by_cases hp : 0 < j
    · have := Int.emod_lt_of_pos i hp
      omega
    · have := Int.emod_lt_of_pos i (b := -j) (by omega)
      rw [Int.emod_neg] at this
      omega
  omega
theorem ediv_sz {m : Nat} {i j : Int} (h : Sz m i) : Sz m (i / j) := h.le (Int.natAbs_ediv_le_natAbs _ _)
instance {m : Nat} {i j : Int} [b : Bd m j] [z : Nz j] : Bd m (i % j) := ⟨emod_sz b.sz z.h⟩
instance {m : Nat} {i j : Int} [b : Bd m i] : Bd m (i / j) := ⟨ediv_sz b.sz⟩
@[simp] theorem opU_mulA {n m : Nat} {i j : Int} [a : Bd n i] [b : Bd m j] (h : n ≤ 400000 ∧ m ≤ 400000) : opU .mul (.int i) (.int j) = some (.int (i * j)) := opU_mul a.sz b.sz h.1 h.2
@[simp] theorem opU_modA {i j : Int} (h0 : 0 < j) : opU .mod (.int i) (.int j) = some (.int (i % j)) := opU_mod h0
@[simp] theorem opU_fdivA {m : Nat} {i j : Int} [b : Bd m j] (h : m ≤ 9000 ∧ 0 < j) : opU .fdiv (.int i) (.int j) = some (.int (i / j)) := opU_fdiv b.sz h.1 h.2
theorem Bd.of {n : Nat} {i : Int} (h1 : -(2 ^ n) < i) (h2 : i < 2 ^ n) : Bd n i := ⟨by
  unfold Sz
  have h1 : ((2 ^ n : Nat) : Int) = 2 ^ n := by simp
  omega⟩
end Ip

/-! IpD: determinants by rows, Cramer's rule, in whole numbers. Written by an AI agent. -/
namespace Ip
variable {ι : Type}
/-- over the places of R, with signs: f there, G of the others -/
def eD (f : ι → Int) : (List ι → Int) → List ι → Int
  | _, [] => 0
  | G, r :: R => f r * G R - eD f (fun R' => G (r :: R')) R
def det : List (ι → Int) → List ι → Int
  | [], _ => 1
  | f :: fs, R => eD f (det fs) R
theorem eD_lin (f g : ι → Int) (a b : Int) : ∀ (R : List ι) (G : List ι → Int), eD (fun r => a * f r + b * g r) G R = a * eD f G R + b * eD g G R
  | [], _ => by simp [eD]
  | r :: R, G => by
    simp only [eD]
    rw [eD_lin f g a b R]
    grind
theorem eD_linG (f : ι → Int) (a b : Int) : ∀ (R : List ι) (G H : List ι → Int), eD f (fun R => a * G R + b * H R) R = a * eD f G R + b * eD f H R
  | [], _, _ => by simp [eD]
  | r :: R, G, H => by
    simp only [eD]
    rw [eD_linG f a b R]
    grind
theorem eD_zero (f : ι → Int) : ∀ (R : List ι), eD f (fun _ => 0) R = 0
  | [] => rfl
  | r :: R => by simp only [eD, eD_zero f R]; simp
theorem eD_congr {f f' : ι → Int} : ∀ (R : List ι) (G : List ι → Int), (∀ r ∈ R, f r = f' r) → eD f G R = eD f' G R
  | [], _, _ => rfl
  | r :: R, G, h => by
    simp only [eD]
    rw [eD_congr R _ (fun r hr => h r (List.mem_cons_of_mem _ hr)), h r (List.mem_cons_self ..)]
theorem eD_smul (f : ι → Int) (a : Int) (R : List ι) (G : List ι → Int) : eD f (fun R => a * G R) R = a * eD f G R := by
  have := eD_linG f a 0 R G (fun _ => 0)
  simpa using this
theorem eD_swap (f g : ι → Int) : ∀ (R : List ι) (H : List ι → Int), eD f (eD g H) R = - eD g (eD f H) R
  | [], _ => by simp [eD]
  | r :: R, H => by
    have ih := eD_swap f g R (fun R'' => H (r :: R''))
    have h1 : eD f (fun R' => eD g H (r :: R')) R = g r * eD f H R - eD f (eD g (fun R'' => H (r :: R''))) R := by
      have := eD_linG f (g r) (-1) R H (eD g (fun R'' => H (r :: R'')))
      have e : (fun R' => eD g H (r :: R')) = (fun R' => g r * H R' + -1 * eD g (fun R'' => H (r :: R'')) R') := by
        funext R'
        simp only [eD]
        grind
      rw [e, this]
      grind
    have h2 : eD g (fun R' => eD f H (r :: R')) R = f r * eD g H R - eD g (eD f (fun R'' => H (r :: R''))) R := by
      have := eD_linG g (f r) (-1) R H (eD f (fun R'' => H (r :: R'')))
      have e : (fun R' => eD f H (r :: R')) = (fun R' => f r * H R' + -1 * eD f (fun R'' => H (r :: R'')) R') := by
        funext R'
        simp only [eD]
        grind
      rw [e, this]
      grind
    have l1 : eD f (eD g H) (r :: R) = f r * eD g H R - eD f (fun R' => eD g H (r :: R')) R := rfl
    have l2 : eD g (eD f H) (r :: R) = g r * eD f H R - eD g (fun R' => eD f H (r :: R')) R := rfl
    rw [l1, l2, h1, h2, ih]
    grind
theorem det_swap (f g : ι → Int) (fs : List (ι → Int)) (R : List ι) : det (f :: g :: fs) R = - det (g :: f :: fs) R := eD_swap f g R (det fs)
theorem det_dup {f : ι → Int} : ∀ {fs : List (ι → Int)} (R : List ι), f ∈ fs → det (f :: fs) R = 0
  | g :: fs, R, h => by
    rcases List.mem_cons.mp h with e | h
    · subst e
      have := det_swap f f fs R
      omega
    · rw [det_swap]
      have : det (f :: fs) = fun _ => 0 := funext fun R => det_dup R h
      show - eD g (det (f :: fs)) R = 0
      rw [this, eD_zero]
      rfl
/-- a sum of columns -/
def comb : List Int → List Int → Int
  | m :: ms, x :: xs => m * x + comb ms xs
  | _, _ => 0
theorem eD_comb (G : List ι → Int) (R : List ι) : ∀ (ms : List Int) (fs : List (ι → Int)), eD (fun r => comb ms (fs.map (· r))) G R = comb ms (fs.map fun f => eD f G R)
  | [], fs => by
    have := eD_lin (fun _ : ι => 0) (fun _ => 0) 0 0 R G
    simpa [comb] using this
  | m :: ms, [] => by
    have := eD_lin (fun _ : ι => 0) (fun _ => 0) 0 0 R G
    simpa [comb] using this
  | m :: ms, f :: fs => by
    simp only [comb, List.map_cons]
    have := eD_lin f (fun r => comb ms (fs.map (· r))) m 1 R G
    simp only [Int.one_mul] at this
    rw [this, eD_comb G R ms fs]
/-- but for one place all are 0 -/
theorem comb_one : ∀ (ms xs : List Int) (i : Nat), (∀ j, j ≠ i → ∀ x, xs[j]? = some x → x = 0) → comb ms xs = ms.getD i 0 * xs.getD i 0
  | [], xs, i, _ => by simp [comb]
  | m :: ms, [], i, _ => by simp [comb]
  | m :: ms, x :: xs, 0, h => by
    have := comb_one ms xs xs.length (fun j hj y hy => h (j + 1) (by omega) y (by simpa using hy))
    rw [comb, this]
    simp
  | m :: ms, x :: xs, i + 1, h => by
    have h0 := h 0 (by omega) x rfl
    have := comb_one ms xs i (fun j hj y hy => h (j + 1) (by omega) y (by simpa using hy))
    rw [comb, this, h0]
    simp
theorem det_move : ∀ (fs : List (ι → Int)) (i : Nat) (f : ι → Int) (R : List ι), fs[i]? = some f → det (f :: fs.eraseIdx i) R = (-1) ^ i * det fs R
  | g :: fs, 0, f, R, h => by
    simp at h
    subst h
    simp
  | g :: fs, i + 1, f, R, h => by
    have h' : fs[i]? = some f := by simpa using h
    rw [List.eraseIdx_cons_succ, det_swap]
    have : det (f :: fs.eraseIdx i) = fun R => (-1) ^ i * det fs R := funext fun R => det_move fs i f R h'
    show - eD g (det (f :: fs.eraseIdx i)) R = _
    rw [this, eD_smul]
    show -((-1) ^ i * det (g :: fs) R) = _
    rw [Int.pow_succ]
    grind
/-- Cramer's rule -/
theorem cramer {fs : List (ι → Int)} {R : List ι} {ms : List Int} {x : ι → Int} {d : Int} (h : ∀ r ∈ R, d * x r = comb ms (fs.map (· r))) {i : Nat} {f : ι → Int} (hi : fs[i]? = some f) :
    d * det (x :: fs.eraseIdx i) R = ms.getD i 0 * ((-1) ^ i * det fs R) := by
  have h1 : d * det (x :: fs.eraseIdx i) R = eD (fun r => d * x r) (det (fs.eraseIdx i)) R := by
    have := eD_lin x (fun _ => 0) d 0 R (det (fs.eraseIdx i))
    simp at this
    rw [this]
    rfl
  rw [h1, eD_congr R _ h, eD_comb]
  rw [comb_one _ _ i (fun j hj y hy => ?_)]
  · rw [← det_move fs i f R hi]
    congr 1
    have hl := (List.getElem?_eq_some_iff.mp hi).1
    have hf : fs.getD i f = f := by rw [List.getD_eq_getElem?_getD, hi]; rfl
    rw [List.getD_eq_getElem?_getD, List.getElem?_map, hi]
    rfl
  · rw [List.getElem?_map] at hy
    obtain ⟨g, hg, e⟩ := Option.map_eq_some_iff.mp hy
    rw [← e]
    refine det_dup R ?_
    rw [List.mem_eraseIdx_iff_getElem?]
    exact ⟨j, hj, hg⟩
/-! bounds -/
theorem eD_le {f : ι → Int} {B : Nat} : ∀ (R : List ι) (n : Nat) (G : List ι → Int) (C : Nat) (P : ι → Prop), (∀ r ∈ R, (f r).natAbs ≤ B) → (∀ r ∈ R, P r) → R.length ≤ n + 1 → (∀ R', (∀ r ∈ R', P r) → R'.length ≤ n → (G R').natAbs ≤ C) → (eD f G R).natAbs ≤ R.length * (B * C)
  | [], n, G, C, P, _, _, _, _ => by simp [eD]
  | r :: R, n, G, C, P, hf, hP, hl, hG => by
    have h1 := hf r (List.mem_cons_self ..)
    have h2 := hG R (fun q hq => hP q (List.mem_cons_of_mem _ hq)) (by simpa using hl)
    have h3 : (eD f (fun R' => G (r :: R')) R).natAbs ≤ R.length * (B * C) := by
      cases n with
      | zero =>
        have : R = [] := List.length_eq_zero_iff.mp (by rw [List.length_cons] at hl; omega)
        subst this
        simp [eD]
      | succ n =>
        refine eD_le R n _ C P (fun q hq => hf q (List.mem_cons_of_mem _ hq)) (fun q hq => hP q (List.mem_cons_of_mem _ hq)) (by simpa using hl) (fun R' hR' hl' => hG (r :: R') (fun q hq => ?_) (by simp; omega))
        rcases List.mem_cons.mp hq with e | hq
        · subst e; exact hP q (List.mem_cons_self ..)
        · exact hR' q hq
    have h4 : (f r * G R).natAbs ≤ B * C := by rw [Int.natAbs_mul]; exact Nat.mul_le_mul h1 h2
    rw [eD, List.length_cons, Nat.add_mul, Nat.one_mul]
    have := Int.natAbs_sub_le (f r * G R) (eD f (fun R' => G (r :: R')) R)
    omega
theorem det_le {B n : Nat} {P : ι → Prop} : ∀ (fs : List (ι → Int)) (R : List ι), (∀ f ∈ fs, ∀ r, P r → (f r).natAbs ≤ B) → (∀ r ∈ R, P r) → R.length ≤ n → (det fs R).natAbs ≤ (n * B) ^ fs.length
  | [], R, _, _, _ => by simp [det]
  | f :: fs, R, hf, hP, hl => by
    have h1 := eD_le (f := f) (B := B) R n (det fs) ((n * B) ^ fs.length) P (fun r hr => hf f (List.mem_cons_self ..) r (hP r hr)) hP (by omega) (fun R' hR' hl' => det_le fs R' (fun g hg => hf g (List.mem_cons_of_mem _ hg)) hR' hl')
    refine Nat.le_trans h1 ?_
    rw [List.length_cons, Nat.pow_succ, Nat.mul_comm ((n * B) ^ fs.length), Nat.mul_assoc]
    exact Nat.mul_le_mul_right _ hl
end Ip

/-! IpE: rows freed of unknowns, by whole numbers; the law of it, no program in sight. Written by an AI agent. -/
namespace Ip
abbrev Row := List Int
def at_ (r : Row) (j : Nat) : Int := r.getD j 0
theorem at_out {r : Row} {j : Nat} (h : r.length ≤ j) : at_ r j = 0 := by
  unfold at_
  rw [List.getD_eq_getElem?_getD, List.getElem?_eq_none h]
  rfl
theorem at_some {r : Row} {j : Nat} {x : Int} (h : r[j]? = some x) : at_ r j = x := by
  unfold at_
  rw [List.getD_eq_getElem?_getD, h]
  rfl
theorem at_get {r : Row} {j : Nat} (h : j < r.length) : r[j]? = some (at_ r j) := by
  rw [at_some (List.getElem?_eq_getElem h)]
  exact List.getElem?_eq_getElem h
theorem at_map {r : Nat} {f : Nat → Int} {j : Nat} : at_ ((List.range r).map f) j = if j < r then f j else 0 := by
  by_cases h : j < r
  · rw [if_pos h]
    exact at_some (by rw [List.getElem?_map, List.getElem?_range h]; rfl)
  · rw [if_neg h]
    exact at_out (by simp; omega)
/-- a row without a column's unknown -/
def clr (row b : Row) (c : Nat) (d : Int) : Row := (List.range row.length).map fun j => (at_ b c * at_ row j - at_ row c * at_ b j).fdiv d
theorem clr_len {row b : Row} {c : Nat} {d : Int} : (clr row b c d).length = row.length := by simp [clr]
theorem clr_at {row b : Row} {c : Nat} {d : Int} (hl : b.length = row.length) {j : Nat} (h : d ∣ at_ b c * at_ row j - at_ row c * at_ b j) : d * at_ (clr row b c d) j = at_ b c * at_ row j - at_ row c * at_ b j := by
  unfold clr
  rw [at_map]
  split
  · rw [Int.fdiv_eq_ediv_of_dvd h, Int.mul_ediv_cancel' h]
  · rw [at_out (r := row) (j := j) (by omega), at_out (r := b) (j := j) (by omega)]
    simp
/-- a sum over n unknowns -/
def dot : Nat → Row → (Nat → Rat) → Rat
  | 0, _, _ => 0
  | n + 1, a, x => dot n a x + (at_ a n : Rat) * x n
theorem dot_lin {a b c : Row} {p q d : Int} (h : ∀ j, d * at_ c j = p * at_ a j - q * at_ b j) : ∀ (n : Nat) (x : Nat → Rat), (d : Rat) * dot n c x = p * dot n a x - q * dot n b x
  | 0, x => by simp [dot]; grind
  | n + 1, x => by
    have ih := dot_lin h n x
    have h1 : (d : Rat) * (at_ c n : Rat) = p * (at_ a n : Rat) - q * (at_ b n : Rat) := by
      have := congrArg (Int.cast (R := Rat)) (h n)
      simpa using this
    simp only [dot]
    grind
theorem dot_comb {a : Row} {d : Int} : ∀ (n : Nat) (ms : List Row) (xs : List Int) (e : Row) (x : Nat → Rat), (∀ j, d * at_ a j = comb (ms.map (at_ · j)) xs + at_ e j) → (∀ m ∈ ms, dot n m x = 0) → dot n e x = 0 → (d : Rat) * dot n a x = 0 := by
  have key : ∀ (n : Nat) (ms : List Row) (xs : List Int) (x : Nat → Rat) (a : Row) (d : Int) (e : Row), (∀ j, d * at_ a j = comb (ms.map (at_ · j)) xs + at_ e j) → ∃ ys : List Rat, ys.length = ms.length ∧ (d : Rat) * dot n a x = (List.zipWith (fun m y => y * dot n m x) ms ys).foldr (· + ·) (dot n e x) := fun n ms => by
    induction ms with
    | nil =>
      intro xs x a d e h
      refine ⟨[], rfl, ?_⟩
      have := dot_lin (a := e) (b := e) (c := a) (p := 1) (q := 0) (d := d) (fun j => by have := h j; simp [comb] at this; omega) n x
      simp at this ⊢
      grind
    | cons m ms ih =>
      intro xs x a d e h
      cases xs with
      | nil =>
        obtain ⟨ys, h1, h2⟩ := ih [] x a d e (fun j => by have := h j; simp only [List.map_cons, comb] at this; rw [this]; cases ms.map (at_ · j) <;> rfl)
        refine ⟨0 :: ys, by simp [h1], ?_⟩
        rw [h2]
        simp
        grind
      | cons y xs =>
        -- d a - y m, as a row
        have hk : ∀ j, (1 : Int) * at_ ((List.range (a.length + m.length)).map fun j => d * at_ a j - y * at_ m j) j = d * at_ a j - y * at_ m j := fun j => by
          rw [at_map]
          split
          · omega
          · rw [at_out (r := a) (j := j) (by omega), at_out (r := m) (j := j) (by omega)]; simp
        obtain ⟨ys, h1, h2⟩ := ih xs x _ 1 e (fun j => by
          rw [hk j]
          have := h j
          simp only [List.map_cons, comb] at this
          rw [this]
          have := Int.mul_comm y (at_ m j)
          omega)
        refine ⟨(y : Rat) :: ys, by simp [h1], ?_⟩
        have := dot_lin hk n x
        simp only [List.zipWith_cons_cons, List.foldr_cons]
        rw [← h2]
        grind
  intro n ms xs e x h hm he
  obtain ⟨ys, h1, h2⟩ := key n ms xs x a d e h
  rw [h2]
  have : ∀ (ms : List Row) (ys : List Rat), (∀ m ∈ ms, dot n m x = 0) → (List.zipWith (fun m y => y * dot n m x) ms ys).foldr (· + ·) (dot n e x) = 0 := fun ms => by
    induction ms with
    | nil => intro ys _; simpa using he
    | cons m ms ih =>
      intro ys hm
      cases ys with
      | nil => simpa using he
      | cons y ys =>
        rw [List.zipWith_cons_cons, List.foldr_cons, ih ys fun q hq => hm q (List.mem_cons_of_mem _ hq), hm m (List.mem_cons_self ..)]
        grind
  exact this ms ys hm
theorem comb_N (p b : Int) (c j : Nat) : ∀ (P : List (Row × Row)) (xs : List Int), comb (P.map fun q => p * at_ q.2 j - at_ q.2 c * b) xs = p * comb (P.map fun q => at_ q.2 j) xs - b * comb (P.map fun q => at_ q.2 c) xs
  | [], xs => by simp [comb]
  | q :: P, [] => by simp [comb]
  | q :: P, x :: xs => by
    simp only [List.map_cons, comb]
    rw [comb_N p b c j P xs]
    grind
theorem comb_dvd {d : Int} : ∀ (ms xs : List Int), (∀ m ∈ ms, d ∣ m) → d ∣ comb ms xs
  | [], _, _ => by simp [comb]
  | m :: ms, [], _ => by simp [comb]
  | m :: ms, x :: xs, h => by
    rw [comb]
    exact Int.dvd_add (Int.dvd_mul_of_dvd_left (h m (List.mem_cons_self ..))) (comb_dvd ms xs fun q hq => h q (List.mem_cons_of_mem _ hq))
theorem comb_smul (d : Int) : ∀ (ms xs : List Int), comb (ms.map (d * ·)) xs = d * comb ms xs
  | [], _ => by simp [comb]
  | m :: ms, [] => by simp [comb]
  | m :: ms, x :: xs => by
    rw [List.map_cons, comb, comb, comb_smul d ms xs]
    grind
theorem comb_zero : ∀ (ms xs : List Int), (∀ x ∈ xs, x = 0) → comb ms xs = 0
  | [], _, _ => by simp [comb]
  | m :: ms, [], _ => by simp [comb]
  | m :: ms, x :: xs, h => by
    rw [comb, h x (List.mem_cons_self ..), comb_zero ms xs fun q hq => h q (List.mem_cons_of_mem _ hq)]
    simp
/-- behind c columns: the rows that lead (the last one first), the others, each with the row that it came of; the leading columns; the number that led -/
structure El (n : Nat) (A : List Row) (c : Nat) (P Q : List (Row × Row)) (cols : List Nat) (d : Int) : Prop where
  lenP : P.length = cols.length
  perm : ((P ++ Q).map (·.1)).Perm A
  len : ∀ p ∈ P ++ Q, p.1.length = n ∧ p.2.length = n
  d0 : d ≠ 0
  lt : ∀ x ∈ cols, x < c
  dec : cols.Pairwise (· > ·)
  piv : ∀ (i x : Nat), cols[i]? = some x → ∀ (l : Nat) (p : Row × Row), P[l]? = some p → at_ p.2 x = if l = i then d else 0
  zer : ∀ q ∈ Q, ∀ j, j < c → at_ q.2 j = 0
  relP : ∀ p ∈ P, ∀ j, d * at_ p.1 j = comb (P.map fun q : Row × Row => at_ q.2 j) (cols.map fun x => at_ p.1 x)
  relQ : ∀ q ∈ Q, ∀ j, d * at_ q.1 j = comb (P.map fun q : Row × Row => at_ q.2 j) (cols.map fun x => at_ q.1 x) + at_ q.2 j
  det : det (cols.map fun x (r : Row) => at_ r x) (P.map (·.1)) = d
  kill : ∀ x : Nat → Rat, (∀ a ∈ A, dot n a x = 0) → ∀ p ∈ P ++ Q, dot n p.2 x = 0
theorem El.start {n : Nat} {A : List Row} (h : ∀ a ∈ A, a.length = n) : El n A 0 [] (A.map fun a => (a, a)) [] 1 where
  lenP := rfl
  perm := by
    have : (A.map fun a => (a, a)).map (·.1) = A := by rw [List.map_map]; exact List.map_id A
    rw [List.nil_append, this]
  len p hp := by
    obtain ⟨a, h1, h2⟩ := List.mem_map.mp (by simpa using hp)
    subst h2
    exact ⟨h a h1, h a h1⟩
  d0 := by decide
  lt x hx := by simp at hx
  dec := .nil
  piv i x hx := by simp at hx
  zer q hq j hj := by omega
  relP p hp := by simp at hp
  relQ q hq j := by
    obtain ⟨a, h1, h2⟩ := List.mem_map.mp hq
    subst h2
    simp [comb]
  det := rfl
  kill x hx p hp := by
    obtain ⟨a, h1, h2⟩ := List.mem_map.mp (by simpa using hp)
    subst h2
    exact hx a h1
theorem El.skip {n c : Nat} {A : List Row} {P Q : List (Row × Row)} {cols : List Nat} {d : Int} (h : El n A c P Q cols d) (hz : ∀ q ∈ Q, at_ q.2 c = 0) : El n A (c + 1) P Q cols d :=
  { h with
    lt := fun x hx => Nat.lt_succ_of_lt (h.lt x hx)
    zer := fun q hq j hj => by
      by_cases e : j = c
      · subst e; exact hz q hq
      · exact h.zer q hq j (by omega) }
/-- a row cleared by another one, with what it came of -/
def clrP (b : Row) (c : Nat) (d : Int) (p : Row × Row) : Row × Row := (p.1, clr p.2 b c d)
section
variable {n c : Nat} {A : List Row} {P Q Q1 Q2 : List (Row × Row)} {b : Row × Row} {cols : List Nat} {d : Int}
/-- what stands above d, by the rows that lead -/
theorem El.above (h : El n A c P (Q1 ++ b :: Q2) cols d) (j : Nat) : ∀ r ∈ b.1 :: P.map (·.1), (d * at_ b.2 c) * at_ r j = comb (d * at_ b.2 j :: P.map fun q => at_ b.2 c * at_ q.2 j - at_ q.2 c * at_ b.2 j) ((c :: cols).map fun x => at_ r x) := fun r hr => by
  have hb : b ∈ Q1 ++ b :: Q2 := by simp
  rw [List.map_cons, comb, comb_N]
  rcases List.mem_cons.mp hr with e | hr
  · subst e
    have h1 := h.relQ b hb j
    have h2 := h.relQ b hb c
    generalize comb (P.map fun q => at_ q.2 j) (cols.map fun x => at_ b.1 x) = u at *
    generalize comb (P.map fun q => at_ q.2 c) (cols.map fun x => at_ b.1 x) = v at *
    grind
  · obtain ⟨p, hp, e⟩ := List.mem_map.mp hr
    subst e
    have h1 := h.relP p hp j
    have h2 := h.relP p hp c
    generalize comb (P.map fun q => at_ q.2 j) (cols.map fun x => at_ p.1 x) = u at *
    generalize comb (P.map fun q => at_ q.2 c) (cols.map fun x => at_ p.1 x) = v at *
    grind
theorem El.det' (h : El n A c P (Q1 ++ b :: Q2) cols d) : Ip.det ((c :: cols).map fun x (r : Row) => at_ r x) (b.1 :: P.map (·.1)) = at_ b.2 c := by
  have hb : b ∈ Q1 ++ b :: Q2 := by simp
  have hd := h.det
  generalize hfs : (cols.map fun x (r : Row) => at_ r x) = fs at hd
  generalize hR : P.map (·.1) = R at hd
  rw [List.map_cons, hfs]
  show eD (fun r => at_ r c) (Ip.det fs) (b.1 :: R) = _
  have key : d * eD (fun r => at_ r c) (Ip.det fs) (b.1 :: R) = at_ b.2 c * d := by
    have e1 : d * eD (fun r => at_ r c) (Ip.det fs) (b.1 :: R) = eD (fun r => d * at_ r c) (Ip.det fs) (b.1 :: R) := by
      have := eD_lin (fun r : Row => at_ r c) (fun _ => 0) d 0 (b.1 :: R) (Ip.det fs)
      simp at this
      rw [this]
    rw [e1]
    simp only [eD]
    have e2 : eD (fun r => d * at_ r c) (fun R' => Ip.det fs (b.1 :: R')) R = eD (fun r => comb (P.map fun q : Row × Row => at_ q.2 c) (fs.map (· r))) (fun R' => Ip.det fs (b.1 :: R')) R := eD_congr R _ fun r hr => by
      subst hR hfs
      obtain ⟨p, hp, e⟩ := List.mem_map.mp hr
      subst e
      rw [h.relP p hp c, List.map_map]
      rfl
    have e3 : eD (fun r => comb (P.map fun q : Row × Row => at_ q.2 c) (fs.map (· r))) (Ip.det fs) (b.1 :: R) = 0 := by
      rw [eD_comb]
      refine comb_zero _ _ fun x hx => ?_
      obtain ⟨f, hf, e⟩ := List.mem_map.mp hx
      rw [← e]
      exact det_dup (b.1 :: R) hf
    have e4 : d * at_ b.1 c = comb (P.map fun q : Row × Row => at_ q.2 c) (fs.map (· b.1)) + at_ b.2 c := by
      subst hfs
      rw [h.relQ b hb c, List.map_map]
      rfl
    simp only [eD] at e3
    rw [e2, e4, hd]
    rw [hd] at e3
    grind
  have : d * (eD (fun r => at_ r c) (Ip.det fs) (b.1 :: R) - at_ b.2 c) = 0 := by rw [Int.mul_sub, key, Int.mul_comm]; omega
  rcases Int.mul_eq_zero.mp this with z | z
  · exact (h.d0 z).elim
  · omega
theorem El.dvdP (h : El n A c P (Q1 ++ b :: Q2) cols d) (h0 : at_ b.2 c ≠ 0) (j : Nat) {p : Row × Row} (hp : p ∈ P) : d ∣ at_ b.2 c * at_ p.2 j - at_ p.2 c * at_ b.2 j := by
  obtain ⟨i, hi⟩ := List.mem_iff_getElem?.mp hp
  have hl := (List.getElem?_eq_some_iff.mp hi).1
  have hc : i < cols.length := by rw [← h.lenP]; exact hl
  have ab := h.above j
  have := cramer (fs := (c :: cols).map fun x (r : Row) => at_ r x) (R := b.1 :: P.map (·.1)) (ms := d * at_ b.2 j :: P.map fun q => at_ b.2 c * at_ q.2 j - at_ q.2 c * at_ b.2 j) (x := fun r => at_ r j) (d := d * at_ b.2 c) (fun r hr => by
    rw [ab r hr, List.map_map]
    rfl) (i := i + 1) (f := fun r => at_ r cols[i]) (by rw [List.map_cons, List.getElem?_cons_succ, List.getElem?_map, List.getElem?_eq_getElem hc]; rfl)
  rw [h.det'] at this
  have e : (d * at_ b.2 j :: P.map fun q => at_ b.2 c * at_ q.2 j - at_ q.2 c * at_ b.2 j).getD (i + 1) 0 = at_ b.2 c * at_ p.2 j - at_ p.2 c * at_ b.2 j := by
    rw [List.getD_eq_getElem?_getD, List.getElem?_cons_succ, List.getElem?_map, hi]
    rfl
  rw [e] at this
  generalize Ip.det _ _ = D at this
  generalize at_ b.2 c * at_ p.2 j - at_ p.2 c * at_ b.2 j = N at *
  have h2 : d * D = N * (-1) ^ (i + 1) := by
    have : at_ b.2 c * (d * D - N * (-1) ^ (i + 1)) = 0 := by grind
    rcases Int.mul_eq_zero.mp this with z | z
    · exact (h0 z).elim
    · omega
  have h3 : ((-1 : Int) ^ (i + 1)) * (-1) ^ (i + 1) = 1 := by rw [← Int.mul_pow]; exact Int.one_pow
  exact ⟨D * (-1) ^ (i + 1), by grind⟩
theorem El.dvdQ (h : El n A c P (Q1 ++ b :: Q2) cols d) (h0 : at_ b.2 c ≠ 0) (j : Nat) {q : Row × Row} (hq : q ∈ Q1 ++ b :: Q2) : d ∣ at_ b.2 c * at_ q.2 j - at_ q.2 c * at_ b.2 j := by
  have h1 := h.relQ q hq j
  have h2 := h.relQ q hq c
  have h3 := comb_N (at_ b.2 c) (at_ b.2 j) c j P (cols.map fun x => at_ q.1 x)
  have h4 : d ∣ comb (P.map fun q => at_ b.2 c * at_ q.2 j - at_ q.2 c * at_ b.2 j) (cols.map fun x => at_ q.1 x) := comb_dvd _ _ fun m hm => by
    obtain ⟨p, hp, e⟩ := List.mem_map.mp hm
    rw [← e]
    exact h.dvdP h0 j hp
  obtain ⟨k, hk⟩ := h4
  rw [hk] at h3
  generalize comb (P.map fun q => at_ q.2 j) (cols.map fun x => at_ q.1 x) = u at *
  generalize comb (P.map fun q => at_ q.2 c) (cols.map fun x => at_ q.1 x) = v at *
  exact ⟨at_ b.2 c * at_ q.1 j - at_ b.2 j * at_ q.1 c - k, by grind⟩
theorem El.step (h : El n A c P (Q1 ++ b :: Q2) cols d) (h0 : at_ b.2 c ≠ 0) : El n A (c + 1) (b :: P.map (clrP b.2 c d)) ((Q1 ++ Q2).map (clrP b.2 c d)) (c :: cols) (at_ b.2 c) := by
  have hb : b ∈ Q1 ++ b :: Q2 := by simp
  have hQ : ∀ q ∈ Q1 ++ Q2, q ∈ Q1 ++ b :: Q2 := fun q hq => by
    rcases List.mem_append.mp hq with z | z
    · simp [z]
    · simp [z]
  have lb : b.2.length = n := (h.len b (List.mem_append_right _ hb)).2
  have eP : ∀ p ∈ P, ∀ j, d * at_ (clr p.2 b.2 c d) j = at_ b.2 c * at_ p.2 j - at_ p.2 c * at_ b.2 j := fun p hp j => clr_at (by rw [lb, (h.len p (List.mem_append_left _ hp)).2]) (h.dvdP h0 j hp)
  have eQ : ∀ p ∈ Q1 ++ Q2, ∀ j, d * at_ (clr p.2 b.2 c d) j = at_ b.2 c * at_ p.2 j - at_ p.2 c * at_ b.2 j := fun p hp j => clr_at (by rw [lb, (h.len p (List.mem_append_right _ (hQ p hp))).2]) (h.dvdQ h0 j (hQ p hp))
  have cancel : ∀ {x y : Int}, d * x = d * y → x = y := fun {x y} e => Int.eq_of_mul_eq_mul_left h.d0 e
  have eC : ∀ (xs : List Int) (j : Nat), d * comb (P.map fun p => at_ (clr p.2 b.2 c d) j) xs = at_ b.2 c * comb (P.map fun q => at_ q.2 j) xs - at_ b.2 j * comb (P.map fun q => at_ q.2 c) xs := fun xs j => by
    rw [← comb_N, ← comb_smul, List.map_map]
    congr 1
    exact List.map_congr_left fun p hp => eP p hp j
  have mC : ∀ j, (b :: P.map (clrP b.2 c d)).map (fun q : Row × Row => at_ q.2 j) = at_ b.2 j :: P.map fun p => at_ (clr p.2 b.2 c d) j := fun j => by
    rw [List.map_cons, List.map_map]
    rfl
  constructor
  case lenP => simp [h.lenP]
  case perm =>
    have h1 : ((b :: P.map (clrP b.2 c d)) ++ (Q1 ++ Q2).map (clrP b.2 c d)).map (·.1) = (b :: (P ++ (Q1 ++ Q2))).map (·.1) := by
      simp [List.map_map, Function.comp_def, clrP]
    rw [h1]
    refine List.Perm.trans (List.Perm.map _ ?_) h.perm
    rw [← List.append_assoc, ← List.append_assoc]
    exact List.perm_middle.symm
  case len =>
    intro p hp
    rcases List.mem_append.mp hp with hp | hp
    · rcases List.mem_cons.mp hp with e | hp
      · subst e; exact h.len p (List.mem_append_right _ hb)
      · obtain ⟨q, hq, e⟩ := List.mem_map.mp hp
        subst e
        have := h.len q (List.mem_append_left _ hq)
        exact ⟨this.1, by simp only [clrP, clr_len]; exact this.2⟩
    · obtain ⟨q, hq, e⟩ := List.mem_map.mp hp
      subst e
      have := h.len q (List.mem_append_right _ (hQ q hq))
      exact ⟨this.1, by simp only [clrP, clr_len]; exact this.2⟩
  case d0 => exact h0
  case lt =>
    intro x hx
    rcases List.mem_cons.mp hx with e | hx
    · omega
    · have := h.lt x hx; omega
  case dec => exact List.pairwise_cons.mpr ⟨fun x hx => h.lt x hx, h.dec⟩
  case piv =>
    intro i x hx l p hp
    cases i with
    | zero =>
      simp at hx
      subst hx
      cases l with
      | zero => simp at hp; subst hp; simp
      | succ l =>
        rw [List.getElem?_cons_succ, List.getElem?_map] at hp
        obtain ⟨q, hq, e⟩ := Option.map_eq_some_iff.mp hp
        subst e
        have := eP q (List.mem_of_getElem? hq) c
        rw [if_neg (by omega)]
        exact cancel (by simp only [clrP]; rw [this]; grind)
    | succ i =>
      rw [List.getElem?_cons_succ] at hx
      have hxc := h.lt x (List.mem_of_getElem? hx)
      have hbx := h.zer b hb x hxc
      cases l with
      | zero => simp at hp; subst hp; rw [if_neg (by omega)]; exact hbx
      | succ l =>
        rw [List.getElem?_cons_succ, List.getElem?_map] at hp
        obtain ⟨q, hq, e⟩ := Option.map_eq_some_iff.mp hp
        subst e
        have h1 := eP q (List.mem_of_getElem? hq) x
        have h2 := h.piv i x hx l q hq
        refine cancel ?_
        simp only [clrP]
        rw [h1, hbx, h2]
        by_cases e : l = i
        · rw [if_pos e, if_pos (by omega)]; grind
        · rw [if_neg e, if_neg (by omega)]; grind
  case zer =>
    intro p hp j hj
    obtain ⟨q, hq, e⟩ := List.mem_map.mp hp
    subst e
    have h1 := eQ q hq j
    refine cancel ?_
    simp only [clrP]
    rw [h1]
    by_cases e : j = c
    · subst e; grind
    · rw [h.zer q (hQ q hq) j (by omega), h.zer b hb j (by omega)]; grind
  case relP =>
    intro p hp j
    rw [mC, List.map_cons, comb]
    refine cancel ?_
    rw [Int.mul_add, eC]
    rcases List.mem_cons.mp hp with e | hp
    · subst e
      have h1 := h.relQ p hb j
      have h2 := h.relQ p hb c
      generalize comb (P.map fun q => at_ q.2 j) (cols.map fun x => at_ p.1 x) = u at *
      generalize comb (P.map fun q => at_ q.2 c) (cols.map fun x => at_ p.1 x) = v at *
      grind
    · obtain ⟨q, hq, e⟩ := List.mem_map.mp hp
      subst e
      have h1 := h.relP q hq j
      have h2 := h.relP q hq c
      simp only [clrP]
      generalize comb (P.map fun q => at_ q.2 j) (cols.map fun x => at_ q.1 x) = u at *
      generalize comb (P.map fun q => at_ q.2 c) (cols.map fun x => at_ q.1 x) = v at *
      grind
  case relQ =>
    intro p hp j
    obtain ⟨q, hq, e⟩ := List.mem_map.mp hp
    subst e
    rw [mC, List.map_cons, comb]
    refine cancel ?_
    have h1 := h.relQ q (hQ q hq) j
    have h2 := h.relQ q (hQ q hq) c
    have h3 := eQ q hq j
    have h4 := eC (cols.map fun x => at_ q.1 x) j
    simp only [clrP]
    generalize comb (P.map fun p => at_ (clr p.2 b.2 c d) j) (cols.map fun x => at_ q.1 x) = w at *
    generalize comb (P.map fun q => at_ q.2 j) (cols.map fun x => at_ q.1 x) = u at *
    generalize comb (P.map fun q => at_ q.2 c) (cols.map fun x => at_ q.1 x) = v at *
    generalize at_ (clr q.2 b.2 c d) j = z at *
    grind
  case det =>
    have : (b :: P.map (clrP b.2 c d)).map (·.1) = b.1 :: P.map (·.1) := by
      simp [List.map_map, Function.comp_def, clrP]
    rw [this]
    exact h.det'
  case kill =>
    intro x hx p hp
    have hk := h.kill x hx
    have hbk := hk b (List.mem_append_right _ hb)
    have dz : ∀ {y : Rat}, (d : Rat) * y = 0 → y = 0 := fun {y} e => by
      rcases Rat.mul_eq_zero.mp e with z | z
      · exact (h.d0 (by exact_mod_cast z)).elim
      · exact z
    rcases List.mem_append.mp hp with hp | hp
    · rcases List.mem_cons.mp hp with e | hp
      · subst e; exact hbk
      · obtain ⟨q, hq, e⟩ := List.mem_map.mp hp
        subst e
        refine dz ?_
        simp only [clrP]
        rw [dot_lin (a := q.2) (b := b.2) (p := at_ b.2 c) (q := at_ q.2 c) (eP q hq) n x, hk q (List.mem_append_left _ hq), hbk]
        grind
    · obtain ⟨q, hq, e⟩ := List.mem_map.mp hp
      subst e
      refine dz ?_
      simp only [clrP]
      rw [dot_lin (a := q.2) (b := b.2) (p := at_ b.2 c) (q := at_ q.2 c) (eQ q hq) n x, hk q (List.mem_append_right _ (hQ q hq)), hbk]
      grind
end
end Ip

/-! IpE2: what freed rows tell. Written by an AI agent. -/
namespace Ip
theorem dot_nil (n : Nat) (x : Nat → Rat) : dot n [] x = 0 := by
  induction n with
  | zero => rfl
  | succ n ih =>
    rw [dot, ih, at_out (by simp)]
    simp
    grind
theorem dot_zero {a : Row} {x : Nat → Rat} : ∀ (n : Nat), (∀ j, j < n → at_ a j = 0 ∨ x j = 0) → dot n a x = 0
  | 0, _ => rfl
  | n + 1, h => by
    rw [dot, dot_zero n fun j hj => h j (by omega)]
    rcases h n (by omega) with e | e <;> rw [e] <;> simp <;> grind
/-- but for one place all are 0 -/
theorem dot_one {a : Row} {x : Nat → Rat} {f : Nat} : ∀ (n : Nat), f < n → (∀ j, j < n → j ≠ f → at_ a j = 0 ∨ x j = 0) → dot n a x = (at_ a f : Rat) * x f
  | n + 1, hf, h => by
    rw [dot]
    by_cases e : n = f
    · subst e
      rw [dot_zero n fun j hj => h j (by omega) (by omega)]
      grind
    · rw [dot_one n (by omega) fun j hj hjf => h j (by omega) hjf]
      rcases h n (by omega) e with e | e <;> rw [e] <;> simp <;> grind
/-- but for two places all are 0 -/
theorem dot_two {a : Row} {x : Nat → Rat} {f g : Nat} (hfg : f ≠ g) : ∀ (n : Nat), f < n → g < n → (∀ j, j < n → j ≠ f → j ≠ g → at_ a j = 0 ∨ x j = 0) → dot n a x = (at_ a f : Rat) * x f + (at_ a g : Rat) * x g
  | n + 1, hf, hg, h => by
    rw [dot]
    by_cases e : n = f
    · subst e
      rw [dot_one n (f := g) (by omega) fun j hj hjf => h j (by omega) (by omega) hjf]
      grind
    · by_cases e2 : n = g
      · subst e2
        rw [dot_one n (f := f) (by omega) fun j hj hjf => h j (by omega) hjf (by omega)]
      · rw [dot_two hfg n (by omega) (by omega) fun j hj h1 h2 => h j (by omega) h1 h2]
        rcases h n (by omega) e e2 with e | e <;> rw [e] <;> simp <;> grind
theorem dot_ext {a : Row} {x y : Nat → Rat} : ∀ (n : Nat), (∀ j, j < n → x j = y j) → dot n a x = dot n a y
  | 0, _ => rfl
  | n + 1, h => by rw [dot, dot, dot_ext n fun j hj => h j (by omega), h n (by omega)]
/-- unknowns that are not there -/
theorem dot_cut {a : Row} {x : Nat → Rat} {n : Nat} : ∀ (k : Nat), (∀ j, n ≤ j → x j = 0) → dot (n + k) a x = dot n a x
  | 0, _ => rfl
  | k + 1, h => by
    show dot (n + k) a x + (at_ a (n + k) : Rat) * x (n + k) = _
    rw [dot_cut k h, h (n + k) (by omega)]
    simp
    grind
section
variable {n c : Nat} {A : List Row} {P Q : List (Row × Row)} {cols : List Nat} {d : Int}
theorem El.back (h : El n A c P Q cols d) (x : Nat → Rat) (hz : ∀ p ∈ P ++ Q, dot n p.2 x = 0) : ∀ a ∈ A, dot n a x = 0 := fun a ha => by
  have dz : ∀ {y : Rat}, (d : Rat) * y = 0 → y = 0 := fun {y} e => by
    rcases Rat.mul_eq_zero.mp e with z | z
    · exact (h.d0 (by exact_mod_cast z)).elim
    · exact z
  obtain ⟨p, hp, e⟩ := List.mem_map.mp (h.perm.symm.mem_iff.mp ha)
  subst e
  have hm : ∀ m ∈ P.map (·.2), dot n m x = 0 := fun m hm => by
    obtain ⟨q, hq, e⟩ := List.mem_map.mp hm
    subst e
    exact hz q (List.mem_append_left _ hq)
  have ec : ∀ j, (P.map (·.2)).map (at_ · j) = P.map fun q : Row × Row => at_ q.2 j := fun j => by rw [List.map_map]; rfl
  rcases List.mem_append.mp hp with hq | hq
  · exact dz (dot_comb n (P.map (·.2)) (cols.map fun y => at_ p.1 y) [] x (fun j => by rw [h.relP p hq j, ec, at_out (r := []) (by simp)]; omega) hm (dot_nil n x))
  · exact dz (dot_comb n (P.map (·.2)) (cols.map fun y => at_ p.1 y) p.2 x (fun j => by rw [h.relQ p hq j, ec]) hm (hz p hp))
theorem comb_le {M X : Nat} : ∀ (ms xs : List Int), (∀ m ∈ ms, m.natAbs ≤ M) → (∀ x ∈ xs, x.natAbs ≤ X) → (comb ms xs).natAbs ≤ ms.length * (M * X)
  | [], _, _, _ => by simp [comb]
  | m :: ms, [], _, _ => by simp [comb]
  | m :: ms, x :: xs, hm, hx => by
    have h1 := comb_le ms xs (fun q hq => hm q (List.mem_cons_of_mem _ hq)) (fun q hq => hx q (List.mem_cons_of_mem _ hq))
    have h2 : (m * x).natAbs ≤ M * X := by rw [Int.natAbs_mul]; exact Nat.mul_le_mul (hm m (List.mem_cons_self ..)) (hx x (List.mem_cons_self ..))
    have := Int.natAbs_add_le (m * x) (comb ms xs)
    rw [comb, List.length_cons, Nat.add_mul, Nat.one_mul]
    omega
theorem El.bdD {B K : Nat} (h : El n A c P Q cols d) (hB : ∀ a ∈ A, ∀ j, (at_ a j).natAbs ≤ B) (hB1 : 1 ≤ B) (hK1 : 1 ≤ K) (hK : cols.length ≤ K) : d.natAbs ≤ (K * B) ^ K := by
  have hp : 1 ≤ K * B := Nat.mul_le_mul hK1 hB1
  have := det_le (B := B) (n := K) (P := fun r => r ∈ A) (cols.map fun x (r : Row) => at_ r x) (P.map (·.1)) (fun f hf r hr => by
    obtain ⟨x, hx, e⟩ := List.mem_map.mp hf
    subst e
    exact hB r hr x) (fun r hr => by
    obtain ⟨p, hp, e⟩ := List.mem_map.mp hr
    subst e
    exact h.perm.mem_iff.mp (List.mem_map.mpr ⟨p, List.mem_append_left _ hp, rfl⟩)) (by rw [List.length_map, h.lenP]; exact hK)
  rw [h.det, List.length_map] at this
  exact Nat.le_trans this (Nat.pow_le_pow_right hp hK)
theorem El.bdP {B K : Nat} (h : El n A c P Q cols d) (hB : ∀ a ∈ A, ∀ j, (at_ a j).natAbs ≤ B) (hB1 : 1 ≤ B) (hK1 : 1 ≤ K) (hK : cols.length ≤ K) {p : Row × Row} (hp : p ∈ P) (j : Nat) : (at_ p.2 j).natAbs ≤ (K * B) ^ K := by
  have hp1 : 1 ≤ K * B := Nat.mul_le_mul hK1 hB1
  obtain ⟨i, hi⟩ := List.mem_iff_getElem?.mp hp
  have hl := (List.getElem?_eq_some_iff.mp hi).1
  have hc : i < cols.length := by rw [← h.lenP]; exact hl
  have := cramer (fs := cols.map fun x (r : Row) => at_ r x) (R := P.map (·.1)) (ms := P.map fun q : Row × Row => at_ q.2 j) (x := fun r => at_ r j) (d := d) (fun r hr => by
    obtain ⟨q, hq, e⟩ := List.mem_map.mp hr
    subst e
    rw [h.relP q hq j, List.map_map]
    rfl) (i := i) (f := fun r => at_ r cols[i]) (by rw [List.getElem?_map, List.getElem?_eq_getElem hc]; rfl)
  rw [h.det] at this
  have e : (P.map fun q : Row × Row => at_ q.2 j).getD i 0 = at_ p.2 j := by
    rw [List.getD_eq_getElem?_getD, List.getElem?_map, hi]
    rfl
  rw [e] at this
  have b := det_le (B := B) (n := K) (P := fun r => r ∈ A) ((fun r : Row => at_ r j) :: (cols.map fun x (r : Row) => at_ r x).eraseIdx i) (P.map (·.1)) (fun f hf r hr => by
    rcases List.mem_cons.mp hf with e | hf
    · subst e; exact hB r hr j
    · obtain ⟨x, hx, e⟩ := List.mem_map.mp (List.mem_of_mem_eraseIdx hf)
      subst e
      exact hB r hr x) (fun r hr => by
    obtain ⟨p, hp, e⟩ := List.mem_map.mp hr
    subst e
    exact h.perm.mem_iff.mp (List.mem_map.mpr ⟨p, List.mem_append_left _ hp, rfl⟩)) (by rw [List.length_map, h.lenP]; exact hK)
  have hlen : ((fun r : Row => at_ r j) :: (cols.map fun x (r : Row) => at_ r x).eraseIdx i).length = cols.length := by
    rw [List.length_cons, List.length_eraseIdx_of_lt (by simpa using hc), List.length_map]
    omega
  rw [hlen] at b
  generalize Ip.det _ _ = D at this b
  have h3 : ((-1 : Int) ^ i) * (-1) ^ i = 1 := by rw [← Int.mul_pow]; exact Int.one_pow
  have h4 : d * (D * (-1) ^ i - at_ p.2 j) = 0 := by grind
  have h5 : at_ p.2 j = D * (-1) ^ i := by
    rcases Int.mul_eq_zero.mp h4 with z | z
    · exact (h.d0 z).elim
    · omega
  rw [h5, Int.natAbs_mul, Int.natAbs_pow]
  simp
  exact Nat.le_trans b (Nat.pow_le_pow_right hp1 hK)
theorem El.bdQ {B K : Nat} (h : El n A c P Q cols d) (hB : ∀ a ∈ A, ∀ j, (at_ a j).natAbs ≤ B) (hB1 : 1 ≤ B) (hK1 : 1 ≤ K) (hK : cols.length ≤ K) {q : Row × Row} (hq : q ∈ Q) (j : Nat) : (at_ q.2 j).natAbs ≤ (K * B) ^ K * (B * (K + 1)) := by
  have h1 := h.relQ q hq j
  have hA : q.1 ∈ A := h.perm.mem_iff.mp (List.mem_map.mpr ⟨q, List.mem_append_right _ hq, rfl⟩)
  have h2 := comb_le (M := (K * B) ^ K) (X := B) (P.map fun q : Row × Row => at_ q.2 j) (cols.map fun x => at_ q.1 x) (fun m hm => by
    obtain ⟨p, hp, e⟩ := List.mem_map.mp hm
    subst e
    exact h.bdP hB hB1 hK1 hK hp j) (fun x hx => by
    obtain ⟨p, hp, e⟩ := List.mem_map.mp hx
    subst e
    exact hB _ hA p)
  have h3 := h.bdD hB hB1 hK1 hK
  have h4 : (d * at_ q.1 j).natAbs ≤ (K * B) ^ K * B := by rw [Int.natAbs_mul]; exact Nat.mul_le_mul h3 (hB _ hA j)
  rw [List.length_map, h.lenP] at h2
  have h5 : cols.length * ((K * B) ^ K * B) ≤ K * ((K * B) ^ K * B) := Nat.mul_le_mul_right _ hK
  have h6 : (K * B) ^ K * (B * (K + 1)) = (K * B) ^ K * B + K * ((K * B) ^ K * B) := by
    rw [← Nat.mul_assoc, Nat.mul_add, Nat.mul_one, Nat.mul_comm _ K, Nat.add_comm]
  omega
end
/-- rows that leave no unknown open -/
def Tight (A : List Row) (w : Nat) : Prop := ∀ x : Nat → Rat, (∀ a ∈ A, dot w a x = 0) → ∀ j, j < w → x j = 0
/-- an answer: by it each row's products come to its last number -/
def Sol (A : List Row) (w : Nat) (X : Nat → Rat) : Prop := ∀ a ∈ A, dot w a X = (at_ a w : Rat)
section
variable {w : Nat} {A : List Row} {P Q : List (Row × Row)} {cols : List Nat} {d : Int}
theorem nodup_le {l1 l2 : List Nat} (h1 : l1.Nodup) (h2 : ∀ x ∈ l1, x ∈ l2) : l1.length ≤ l2.length := by
  induction l1 generalizing l2 with
  | nil => simp
  | cons a l1 ih =>
    rw [List.nodup_cons] at h1
    have ha := h2 a (List.mem_cons_self ..)
    have := ih (l2 := l2.erase a) h1.2 fun x hx => (List.mem_erase_of_ne (fun z => h1.1 (by rw [← z]; exact hx))).mpr (h2 x (List.mem_cons_of_mem _ hx))
    rw [List.length_erase_of_mem ha] at this
    have hp := List.length_pos_of_mem ha
    rw [List.length_cons]
    omega
theorem notin_of_len {cols : List Nat} (hd : cols.Pairwise (· > ·)) {w : Nat} (hl : ∀ x ∈ cols, x < w) (h : cols.length < w) : ∃ f, f < w ∧ f ∉ cols := by
  have := Classical.byContradiction fun z : ¬ ∃ f, f < w ∧ f ∉ cols => (show False from by
    have h1 : ∀ f, f < w → f ∈ cols := fun f hf => Classical.byContradiction fun y => z ⟨f, hf, y⟩
    have h2 : (List.range w).Nodup := List.nodup_range
    have h4 := nodup_le h2 fun f hf => h1 f (List.mem_range.mp hf)
    rw [List.length_range] at h4
    omega)
  exact this
/-- a change of the unknowns that changes no sum, where one leads no row -/
def stillX (P : List (Row × Row)) (cols : List Nat) (d : Int) (f : Nat) (j : Nat) : Rat := if j = f then 1 else match cols.idxOf? j with
  | some i => -((at_ ((P.getD i ([], [])).2) f : Rat) / (d : Rat))
  | none => 0
theorem idxOf_dec {cols : List Nat} (hd : cols.Pairwise (· > ·)) {i j : Nat} (h : cols[i]? = some j) : cols.idxOf? j = some i := by
  induction cols generalizing i with
  | nil => simp at h
  | cons a cols ih =>
    rw [List.pairwise_cons] at hd
    cases i with
    | zero => simp at h; subst h; simp [List.idxOf?_cons]
    | succ i =>
      have h' : cols[i]? = some j := by simpa using h
      have := hd.1 j (List.mem_of_getElem? h')
      rw [List.idxOf?_cons]
      have ne : (a == j) = false := by simp; omega
      rw [ne, ih hd.2 h']
      rfl
theorem El.still (h : El (w + 1) A w P Q cols d) {f : Nat} (hf : f < w) (hn : f ∉ cols) : ∀ a ∈ A, dot w a (stillX P cols d f) = 0 := by
  have dR : (d : Rat) ≠ 0 := fun z => h.d0 (by exact_mod_cast z)
  have hout : ∀ j, w ≤ j → stillX P cols d f j = 0 := fun j hj => by
    unfold stillX
    rw [if_neg (by omega)]
    cases e : cols.idxOf? j with
    | none => rfl
    | some i =>
      have : j ∈ cols := by
        have := List.isSome_idxOf?.mp (by rw [e]; rfl : (cols.idxOf? j).isSome = true)
        exact this
      have := h.lt j this
      omega
  have key := h.back (stillX P cols d f) (fun p hp => by
    rcases List.mem_append.mp hp with hp | hq
    · obtain ⟨l, hl⟩ := List.mem_iff_getElem?.mp hp
      have hlc : l < cols.length := by rw [← h.lenP]; exact (List.getElem?_eq_some_iff.mp hl).1
      have hcl : cols[l]? = some cols[l] := List.getElem?_eq_getElem hlc
      have hlw := h.lt cols[l] (List.getElem_mem hlc)
      have hfl : f ≠ cols[l] := fun z => hn (by rw [z]; exact List.getElem_mem hlc)
      rw [dot_two hfl (w + 1) (by omega) (by omega) (fun j hj h1 h2 => by
        by_cases e : j ∈ cols
        · left
          obtain ⟨i, hi⟩ := List.mem_iff_getElem?.mp e
          have := h.piv i j hi l p hl
          rw [if_neg (fun z => by subst z; rw [hcl] at hi; exact h2 (Option.some.inj hi).symm)] at this
          exact this
        · right
          unfold stillX
          rw [if_neg h1, List.idxOf?_eq_none_iff.mpr (by simpa using e)])]
      have e1 : stillX P cols d f f = 1 := by unfold stillX; rw [if_pos rfl]
      have e2 : stillX P cols d f cols[l] = -((at_ p.2 f : Rat) / (d : Rat)) := by
        unfold stillX
        rw [if_neg (fun z => hfl z.symm), idxOf_dec h.dec hcl]
        dsimp only
        rw [List.getD_eq_getElem?_getD, hl]
        rfl
      have e3 := h.piv l _ hcl l p hl
      rw [if_pos rfl] at e3
      rw [e1, e2, e3]
      have := Rat.mul_div_cancel (a := (at_ p.2 f : Rat)) dR
      grind
    · exact dot_zero _ fun j hj => by
        by_cases e : j < w
        · exact .inl (h.zer p hq j e)
        · exact .inr (hout j (by omega)))
  intro a ha
  have := key a ha
  rwa [dot_cut 1 hout] at this
theorem El.full (h : El (w + 1) A w P Q cols d) (ht : Tight A w) : cols.length = w := by
  have h1 : cols.length ≤ w := by
    have h4 := nodup_le (l2 := List.range w) (h.dec.imp fun h => Nat.ne_of_gt h) (fun f hf => List.mem_range.mpr (h.lt f hf))
    simpa using h4
  by_cases e : cols.length = w
  · exact e
  · obtain ⟨f, hf, hn⟩ := notin_of_len h.dec h.lt (by omega)
    have := ht _ (h.still hf hn) f hf
    unfold stillX at this
    rw [if_pos rfl] at this
    exact absurd this (by decide)
/-- the rows that lead no more have no sum where there is an answer -/
theorem El.solQ (h : El (w + 1) A w P Q cols d) {X : Nat → Rat} (hs : Sol A w X) : ∀ q ∈ Q, at_ q.2 w = 0 := fun q hq => by
  have := h.kill (fun j => if j < w then X j else -1) (fun a ha => by
    rw [dot, dot_ext w (y := X) (fun j hj => by simp [hj]), hs a ha]
    simp
    grind) q (List.mem_append_right _ hq)
  rw [dot, dot_zero w fun j hj => .inl (h.zer q hq j hj)] at this
  simp at this
  have e : ((at_ q.2 w : Int) : Rat) = 0 := by grind
  exact_mod_cast e
theorem El.sol (h : El (w + 1) A w P Q cols d) {X : Nat → Rat} (hs : Sol A w X) (hf : cols.length = w) {l j : Nat} {p : Row × Row} (hl : P[l]? = some p) (hj : cols[l]? = some j) : X j = (at_ p.2 w : Rat) / (d : Rat) := by
  have dR : (d : Rat) ≠ 0 := fun z => h.d0 (by exact_mod_cast z)
  have hjw := h.lt j (List.mem_of_getElem? hj)
  have := h.kill (fun j => if j < w then X j else -1) (fun a ha => by
    rw [dot, dot_ext w (y := X) (fun j hj => by simp [hj]), hs a ha]
    simp
    grind) p (List.mem_append_left _ (List.mem_of_getElem? hl))
  rw [dot_two (f := j) (g := w) (by omega) (w + 1) (by omega) (by omega) (fun i hi h1 h2 => by
    left
    have hi' : i < w := by omega
    have hm : i ∈ cols := by
      refine Classical.byContradiction fun z => ?_
      have h5 : (i :: cols).Nodup := List.nodup_cons.mpr ⟨z, h.dec.imp fun h => Nat.ne_of_gt h⟩
      have h4 := nodup_le (l2 := List.range w) h5 (fun f hf => by
        rcases List.mem_cons.mp hf with e | hf
        · subst e; exact List.mem_range.mpr hi'
        · exact List.mem_range.mpr (h.lt f hf))
      simp at h4
      omega
    obtain ⟨k, hk⟩ := List.mem_iff_getElem?.mp hm
    have := h.piv k i hk l p hl
    rw [if_neg (fun z => by subst z; rw [hj] at hk; exact h1 (Option.some.inj hk).symm)] at this
    exact this)] at this
  have e3 := h.piv l j hj l p hl
  rw [if_pos rfl] at e3
  simp [hjw, e3] at this
  have e4 : (d : Rat) * X j = (at_ p.2 w : Rat) := by grind
  rw [← e4]
  have := Rat.mul_div_cancel (a := X j) dR
  rw [Rat.mul_comm, this]
end
end Ip

/-! IpR: rows as values. Written by an AI agent. -/
namespace Ip
open PySem (Str)
def eR (r : Row) : U := .lst (r.map U.int)
def eM (rs : List Row) : U := .lst (rs.map eR)
@[simp] theorem isLst_eR {r : Row} : isLst (eR r) = true := nr rfl
@[simp] theorem isLst_eM {r : List Row} : isLst (eM r) = true := nr rfl
@[simp] theorem len_eR {r : Row} : bfnU .len [eR r] = some (.int (r.length : Nat)) := by unfold eR; rw [bfnU_lenL]; simp
@[simp] theorem len_eM {r : List Row} : bfnU .len [eM r] = some (.int (r.length : Nat)) := by unfold eM; rw [bfnU_lenL]; simp
theorem idx_eR {r : Row} {j : Nat} (h : j < r.length) : idxU (eR r) (.int (j : Nat)) = some (.int (at_ r j)) := idxU_L (by rw [List.getElem?_map, at_get h]; rfl)
theorem idx_eM {rs : List Row} {j : Nat} {r : Row} (h : rs[j]? = some r) : idxU (eM rs) (.int (j : Nat)) = some (eR r) := idxU_L (by rw [List.getElem?_map, h]; rfl)
@[simp] theorem list_eR {r : Row} : bfnU .list [eR r] = some (eR r) := nr rfl
@[simp] theorem it_eR {r : Row} : itU .val [eR r] = some (r.map U.int) := nr rfl
@[simp] theorem it_eM {r : List Row} : itU .val [eM r] = some (r.map eR) := nr rfl
/-! what changes an own list -/
section
variable {Γ : GamU} {mu : List Nat} {ρ : EU}
/-- x[i] = e on a name's own list -/
def subU (x : Option Sl) (ev ei : RU U) (ρ : EU) (j : Nat) : Option (FlU × EU) := match x with
  | some (.own (.lst xs)) => toFlU ev ρ fun v => toFlU ei ρ fun y => (match y with
    | .int k => (L2.ixN xs.length k).map fun n => (.nxt, ρ.set j (.own (.lst (xs.set n v))))
    | _ => none)
  | _ => none
@[simp] theorem x1U_subE {j : Nat} {i e : Ex} : x1U Γ mu (.sub (.var j) i e) ρ = subU (uno mu (esc Γ.fl e ++ esc Γ.fl i) ρ)[j]? (evU Γ e (uno mu (esc Γ.fl e ++ esc Γ.fl i) ρ)) (evU Γ i (uno mu (esc Γ.fl e ++ esc Γ.fl i) ρ)) (uno mu (esc Γ.fl e ++ esc Γ.fl i) ρ) j := by
  rw [x1U]
  rfl
theorem ixN_nat {n i : Nat} (h : i < n) : L2.ixN n (i : Nat) = some i := by
  unfold L2.ixN
  rw [if_pos (by omega), if_pos (by omega)]
  simp
theorem subU_own {xs : List U} {v : U} {i j : Nat} (h : i < xs.length) : subU (some (.own (.lst xs))) (some (.ok v)) (some (.ok (.int (i : Nat)))) ρ j = some (.nxt, ρ.set j (.own (.lst (xs.set i v)))) := by
  show ((L2.ixN xs.length (i : Nat)).map fun n => (FlU.nxt, ρ.set j (.own (.lst (xs.set n v))))) = _
  rw [ixN_nat h]
  rfl
theorem subU_eM {rs : List Row} {r : Row} {i j : Nat} (h : i < rs.length) : subU (some (.own (eM rs))) (some (.ok (eR r))) (some (.ok (.int (i : Nat)))) ρ j = some (.nxt, ρ.set j (.own (eM (rs.set i r)))) := by
  unfold eM
  rw [subU_own (by simpa using h), List.map_set]
theorem subU_eR {rs : Row} {r : Int} {i j : Nat} (h : i < rs.length) : subU (some (.own (eR rs))) (some (.ok (.int r))) (some (.ok (.int (i : Nat)))) ρ j = some (.nxt, ρ.set j (.own (eR (rs.set i r)))) := by
  unfold eR
  rw [subU_own (by simpa using h), List.map_set]
theorem muU_app {xs : List U} {u : U} {k : U → List U → Option (FlU × EU)} (h : xs.length < 16777216) : muU (some (.own (.lst xs))) .append (some (.ok [u])) ρ k = k .non (xs ++ [u]) := by
  rw [muU_own, mutU_app h]
  rfl
theorem muU_pop {xs : List U} {i : Nat} {u : U} {k : U → List U → Option (FlU × EU)} (h : xs[i]? = some u) (hi : i < 2 ^ 62) : muU (some (.own (.lst xs))) .pop (some (.ok [.int (i : Nat)])) ρ k = k u (xs.eraseIdx i) := by
  have hl := (List.getElem?_eq_some_iff.mp h).1
  rw [muU_own]
  have : mutU .pop xs [.int (i : Nat)] = some (u, xs.eraseIdx i) := by
    simp only [mutU]
    rw [if_pos ⟨by omega, by omega⟩, ixN_nat hl]
    simp [h]
  rw [this]
  rfl
theorem muU_ins {xs : List U} {i : Nat} {u : U} {k : U → List U → Option (FlU × EU)} (h : xs.length < 16777216) (hi : i < 2 ^ 62) : muU (some (.own (.lst xs))) .insert (some (.ok [.int (i : Nat), u])) ρ k = k .non (xs.take i ++ u :: xs.drop i) := by
  rw [muU_own]
  have : mutU .insert xs [.int (i : Nat), u] = some (.non, xs.take i ++ u :: xs.drop i) := by
    simp only [mutU]
    rw [if_pos ⟨h, by omega, by omega⟩]
    simp
  rw [this]
  rfl
end
theorem erase_mid {α : Type} (xs ys zs : List α) (b : α) : (xs ++ (ys ++ b :: zs)).eraseIdx (xs.length + ys.length) = xs ++ (ys ++ zs) := by
  rw [List.eraseIdx_append_of_length_le (by omega), Nat.add_sub_cancel_left, List.eraseIdx_append_of_length_le (by omega), Nat.sub_self]
  rfl
/-- a list of places -/
def eC (cs : List Nat) : U := .lst (cs.map fun (c : Nat) => .int c)
@[simp] theorem isLst_eC {r : List Nat} : isLst (eC r) = true := nr rfl
@[simp] theorem len_eC {r : List Nat} : bfnU .len [eC r] = some (.int (r.length : Nat)) := by unfold eC; rw [bfnU_lenL]; simp
theorem idx_eC {r : List Nat} {j c : Nat} (h : r[j]? = some c) : idxU (eC r) (.int (j : Nat)) = some (.int (c : Nat)) := idxU_L (by rw [List.getElem?_map, h]; rfl)
@[simp] theorem isN_intU {i : Int} : cmU .isN (.int i) .non = some false := nr rfl
@[simp] theorem isN_nonU : cmU .isN .non .non = some true := nr rfl
@[simp] theorem notN_intU {i : Int} : cmU .notN (.int i) .non = some true := nr rfl
@[simp] theorem notN_nonU : cmU .notN .non .non = some false := nr rfl
/-- the rows behind some turns of the inner loop -/
def elL (R0 : List Row) (r : Nat) (b : Row) (c : Nat) (d : Int) (i : Nat) : List Row := R0.mapIdx fun j row => if j < i ∧ j ≠ r then clr row b c d else row
theorem elL_len {R0 : List Row} {r : Nat} {b : Row} {c : Nat} {d : Int} {i : Nat} : (elL R0 r b c d i).length = R0.length := by simp [elL]
theorem elL_zero {R0 : List Row} {r : Nat} {b : Row} {c : Nat} {d : Int} : elL R0 r b c d 0 = R0 := by
  unfold elL
  refine List.ext_getElem? fun j => ?_
  rw [List.getElem?_mapIdx]
  simp
theorem elL_at {R0 : List Row} {r : Nat} {b : Row} {c : Nat} {d : Int} {i : Nat} {q : Row} (h : R0[i]? = some q) : (elL R0 r b c d i)[i]? = some q := by
  unfold elL
  rw [List.getElem?_mapIdx, h]
  simp
theorem elL_set {R0 : List Row} {r : Nat} {b : Row} {c : Nat} {d : Int} {i : Nat} {q : Row} (h : R0[i]? = some q) (hr : i ≠ r) : (elL R0 r b c d i).set i (clr q b c d) = elL R0 r b c d (i + 1) := by
  have hl := (List.getElem?_eq_some_iff.mp h).1
  refine List.ext_getElem? fun j => ?_
  by_cases e : i = j
  · subst e
    rw [List.getElem?_set_self (by rw [elL_len]; exact hl)]
    unfold elL
    rw [List.getElem?_mapIdx, h]
    simp [hr]
  · rw [List.getElem?_set_ne e]
    unfold elL
    rw [List.getElem?_mapIdx, List.getElem?_mapIdx]
    cases R0[j]? with
    | none => rfl
    | some q =>
      simp only [Option.map_some]
      have : (j < i ∧ j ≠ r) = (j < i + 1 ∧ j ≠ r) := by apply propext; constructor <;> intro h <;> omega
      simp only [this]
theorem elL_same {R0 : List Row} {r : Nat} {b : Row} {c : Nat} {d : Int} : elL R0 r b c d r = elL R0 r b c d (r + 1) := by
  unfold elL
  refine List.ext_getElem? fun j => ?_
  rw [List.getElem?_mapIdx, List.getElem?_mapIdx]
  cases R0[j]? with
  | none => rfl
  | some q =>
    simp only [Option.map_some]
    have : (j < r ∧ j ≠ r) = (j < r + 1 ∧ j ≠ r) := by apply propext; constructor <;> intro h <;> omega
    simp only [this]
theorem elL_end (xs ys : List Row) (b : Row) (c : Nat) (d : Int) : elL (xs ++ b :: ys) xs.length b c d (xs ++ b :: ys).length = xs.map (clr · b c d) ++ b :: ys.map (clr · b c d) := by
  unfold elL
  refine List.ext_getElem? fun j => ?_
  rw [List.getElem?_mapIdx]
  by_cases h : j < xs.length
  · rw [List.getElem?_append_left h, List.getElem?_append_left (by simpa using h), List.getElem?_map, List.getElem?_eq_getElem h]
    simp
    omega
  · rw [List.getElem?_append_right (by omega), List.getElem?_append_right (by simp; omega), List.length_map]
    by_cases e : j = xs.length
    · subst e
      simp
    · obtain ⟨i, hi⟩ : ∃ i, j - xs.length = i + 1 := ⟨j - xs.length - 1, by omega⟩
      rw [hi, List.getElem?_cons_succ, List.getElem?_cons_succ, List.getElem?_map]
      cases q : ys[i]? with
      | none => rfl
      | some y =>
        have := (List.getElem?_eq_some_iff.mp q).1
        simp only [Option.map_some, List.length_append, List.length_cons]
        rw [if_pos (by omega)]
theorem Sz.of_le {n : Nat} {i : Int} {b : Nat} (h : i.natAbs ≤ b) (hb : b < 2 ^ n) : Sz n i := Nat.lt_of_le_of_lt h hb
/-- the rows that stand -/
def elR (P Q : List (Row × Row)) : List Row := (P.reverse ++ Q).map (·.2)
/-- with the next one that leads in its place -/
def elM (P : List (Row × Row)) (b : Row) (Q : List (Row × Row)) : List Row := P.reverse.map (·.2) ++ b :: Q.map (·.2)
theorem elR_len {P Q : List (Row × Row)} : (elR P Q).length = P.length + Q.length := by simp [elR]
theorem elM_len {P Q : List (Row × Row)} {b : Row} : (elM P b Q).length = P.length + (Q.length + 1) := by simp [elM]
theorem elR_mem {P Q : List (Row × Row)} {r : Row} (h : r ∈ elR P Q) : ∃ p ∈ P ++ Q, p.2 = r := by
  obtain ⟨p, hp, e⟩ := List.mem_map.mp h
  exact ⟨p, by simpa using hp, e⟩
theorem elM_mem {P Q : List (Row × Row)} {b r : Row} (h : r ∈ elM P b Q) : r = b ∨ ∃ p ∈ P ++ Q, p.2 = r := by
  rcases List.mem_append.mp h with h | h
  · obtain ⟨p, hp, e⟩ := List.mem_map.mp h
    exact .inr ⟨p, List.mem_append_left _ (List.mem_reverse.mp hp), e⟩
  · rcases List.mem_cons.mp h with h | h
    · exact .inl h
    · obtain ⟨p, hp, e⟩ := List.mem_map.mp h
      exact .inr ⟨p, List.mem_append_right _ hp, e⟩
theorem elR_at {P Q : List (Row × Row)} {i : Nat} {q : Row × Row} (h : Q[i]? = some q) : (elR P Q)[P.length + i]? = some q.2 := by
  unfold elR
  rw [List.getElem?_map, List.getElem?_append_right (by simp), List.length_reverse, Nat.add_sub_cancel_left, h]
  rfl
theorem elR_of {P Q : List (Row × Row)} {j : Nat} {r : Row} (h : (elR P Q)[j]? = some r) (hj : P.length ≤ j) : ∃ Q1 b Q2, Q = Q1 ++ b :: Q2 ∧ b.2 = r ∧ j = P.length + Q1.length := by
  unfold elR at h
  rw [List.getElem?_map] at h
  obtain ⟨b, hb, e⟩ := Option.map_eq_some_iff.mp h
  rw [List.getElem?_append_right (by rw [List.length_reverse]; exact hj), List.length_reverse] at hb
  obtain ⟨hbl, hbe⟩ := List.getElem?_eq_some_iff.mp hb
  refine ⟨Q.take (j - P.length), b, Q.drop (j - P.length + 1), ?_, e, ?_⟩
  · rw [← hbe, List.getElem_cons_drop, List.take_append_drop]
  · rw [List.length_take]; omega
theorem el_mv (P Q1 Q2 : List (Row × Row)) (b : Row × Row) : ∃ xs ys zs : List U, eM (elR P (Q1 ++ b :: Q2)) = .lst (xs ++ (ys ++ eR b.2 :: zs)) ∧ xs.length = P.length ∧ ys.length = Q1.length ∧ zs.length = Q2.length ∧ U.lst (xs ++ eR b.2 :: (ys ++ zs)) = eM (elM P b.2 (Q1 ++ Q2)) :=
  ⟨P.reverse.map fun p => eR p.2, Q1.map fun p => eR p.2, Q2.map fun p => eR p.2, by simp [eM, elR, Function.comp_def], by simp, by simp, by simp, by simp [eM, elM, Function.comp_def]⟩
theorem elM_end (P Q : List (Row × Row)) (b : Row × Row) (c : Nat) (d : Int) : elL (elM P b.2 Q) P.length b.2 c d (elM P b.2 Q).length = elR (b :: P.map (clrP b.2 c d)) (Q.map (clrP b.2 c d)) := by
  have h := elL_end (P.reverse.map (·.2)) (Q.map (·.2)) b.2 c d
  rw [List.length_map, List.length_reverse] at h
  show elL (P.reverse.map (·.2) ++ b.2 :: Q.map (·.2)) P.length b.2 c d (P.reverse.map (·.2) ++ b.2 :: Q.map (·.2)).length = _
  rw [h]
  unfold elR
  simp [Function.comp_def, clrP]
theorem El.lenA {n c : Nat} {A : List Row} {P Q : List (Row × Row)} {cols : List Nat} {d : Int} (J : El n A c P Q cols d) : P.length + Q.length = A.length := by
  have := J.perm.length_eq
  rwa [List.length_map, List.length_append] at this
theorem El.lenC {n c : Nat} {A : List Row} {P Q : List (Row × Row)} {cols : List Nat} {d : Int} (J : El n A c P Q cols d) : cols.length ≤ c := by
  have h4 := nodup_le (l2 := List.range c) (J.dec.imp fun h => Nat.ne_of_gt h) (fun f hf => List.mem_range.mpr (J.lt f hf))
  simpa using h4
theorem elim_big {K B : Nat} (hK1 : 1 ≤ K) (hB1 : 1 ≤ B) (hKl : K ≤ 1000) (hs : (K * B) ^ K < 2 ^ 9000) : (K * B) ^ K * (B * (K + 1)) < 2 ^ 30000 := by
  have hKB : 1 ≤ K * B := Nat.mul_le_mul hK1 hB1
  have h1 : B ≤ (K * B) ^ K := by
    have h2 : B ≤ K * B := Nat.le_mul_of_pos_left B (by omega)
    have h3 : (K * B) ^ 1 ≤ (K * B) ^ K := Nat.pow_le_pow_right hKB hK1
    rw [Nat.pow_one] at h3
    exact Nat.le_trans h2 h3
  have h4 : (K * B) ^ K * (B * (K + 1)) ≤ (K * B) ^ K * ((K * B) ^ K * 1001) := Nat.mul_le_mul_left _ (Nat.mul_le_mul h1 (by omega))
  have h5 : (K * B) ^ K * ((K * B) ^ K * 1001) ≤ 2 ^ 9000 * (2 ^ 9000 * 2 ^ 10) := Nat.mul_le_mul (Nat.le_of_lt hs) (Nat.mul_le_mul (Nat.le_of_lt hs) (by decide))
  have h6 : 2 ^ 9000 * (2 ^ 9000 * 2 ^ 10) = 2 ^ 18010 := by rw [← Nat.pow_add, ← Nat.pow_add]
  exact Nat.lt_of_le_of_lt h4 (Nat.lt_of_le_of_lt h5 (h6 ▸ Nat.pow_lt_pow_right (by decide) (by decide)))
/-- the sizes of what stands -/
structure ElSz (P Q : List (Row × Row)) (d : Int) : Prop where
  r : ∀ p ∈ P ++ Q, ∀ j, Sz 30000 (at_ p.2 j)
  d : Sz 9000 d
theorem El.sz {n c B K : Nat} {A : List Row} {P Q : List (Row × Row)} {cols : List Nat} {d : Int} (J : El n A c P Q cols d) (hB : ∀ a ∈ A, ∀ j, (at_ a j).natAbs ≤ B) (hB1 : 1 ≤ B) (hK1 : 1 ≤ K) (hK : c ≤ K) (hKl : K ≤ 1000) (hs : (K * B) ^ K < 2 ^ 9000) : ElSz P Q d := by
  have hc := J.lenC
  refine ⟨fun p hp j => ?_, Sz.of_le (J.bdD hB hB1 hK1 (Nat.le_trans hc hK)) hs⟩
  rcases List.mem_append.mp hp with hp | hp
  · exact Sz.of_le (J.bdP hB hB1 hK1 (Nat.le_trans hc hK) hp j) (Nat.lt_trans hs (Nat.pow_lt_pow_right (by decide) (by decide)))
  · exact Sz.of_le (J.bdQ hB hB1 hK1 (Nat.le_trans hc hK) hp j) (elim_big hK1 hB1 hKl hs)
end Ip

/-! IpR2: answers, stills, weights. Written by an AI agent. -/
namespace Ip
open PySem (Str)
open scoped Rat
/-- what the leading rows tell, where the other unknowns are 0 -/
structure IsY (P : List (Row × Row)) (cols : List Nat) (d : Int) (w : Nat) (Y : Nat → Rat) : Prop where
  ld : ∀ (l j : Nat) (p : Row × Row), cols[l]? = some j → P[l]? = some p → Y j = (at_ p.2 w : Rat) / (d : Rat)
  fr : ∀ j, j < w → j ∉ cols → Y j = 0
section
variable {n w : Nat} {A : List Row} {P Q : List (Row × Row)} {cols : List Nat} {d : Int}
theorem IsY.sol {Y : Nat → Rat} (y : IsY P cols d w Y) (h : El n A w P Q cols d) (hn : w + 1 ≤ n) (hq : ∀ q ∈ Q, at_ q.2 w = 0) : Sol A w Y := fun a ha => by
  have dR : (d : Rat) ≠ 0 := fun z => h.d0 (by exact_mod_cast z)
  obtain ⟨k, hk⟩ : ∃ k, n = w + 1 + k := ⟨n - (w + 1), by omega⟩
  have key := h.back (fun j => if j < w then Y j else if j = w then -1 else 0) (fun p hp => by
    rcases List.mem_append.mp hp with hp | hq'
    · obtain ⟨l, hl⟩ := List.mem_iff_getElem?.mp hp
      have hlc : l < cols.length := by rw [← h.lenP]; exact (List.getElem?_eq_some_iff.mp hl).1
      have hcl : cols[l]? = some cols[l] := List.getElem?_eq_getElem hlc
      have hlw := h.lt cols[l] (List.getElem_mem hlc)
      rw [dot_two (f := cols[l]) (g := w) (by omega) n (by omega) (by omega) (fun j hj h1 h2 => by
        by_cases e : j ∈ cols
        · left
          obtain ⟨i, hi⟩ := List.mem_iff_getElem?.mp e
          have := h.piv i j hi l p hl
          rw [if_neg (fun z => by subst z; rw [hcl] at hi; exact h1 (Option.some.inj hi).symm)] at this
          exact this
        · right
          by_cases e2 : j < w
          · rw [if_pos e2]; exact y.fr j e2 e
          · rw [if_neg e2, if_neg h2])]
      have e3 := h.piv l _ hcl l p hl
      rw [if_pos rfl] at e3
      have e4 := y.ld l _ p hcl hl
      simp only [hlw, if_true, Nat.lt_irrefl, if_false]
      rw [e3, e4]
      have := Rat.mul_div_cancel (a := (at_ p.2 w : Rat)) dR
      grind
    · exact dot_zero _ fun j hj => by
        by_cases e : j < w
        · exact .inl (h.zer p hq' j e)
        · by_cases e2 : j = w
          · subst e2; exact .inl (hq p hq')
          · right; rw [if_neg e, if_neg e2]) a ha
  rw [hk, dot_cut k (fun j hj => by rw [if_neg (by omega), if_neg (by omega)]), dot, dot_ext w (y := Y) (fun j hj => by simp [hj])] at key
  simp at key
  grind
theorem El.hasY (h : El n A w P Q cols d) : ∃ Y, IsY P cols d w Y := ⟨fun j => match cols.idxOf? j with
  | some i => (at_ ((P.getD i ([], [])).2) w : Rat) / (d : Rat)
  | none => 0, fun l j p h1 h2 => by
    rw [idxOf_dec h.dec h1]
    dsimp only
    rw [List.getD_eq_getElem?_getD, h2]
    rfl, fun j hj hn => by
    rw [List.idxOf?_eq_none_iff.mpr (by simpa using hn)]⟩
theorem El.eqY (h : El (w + 1) A w P Q cols d) {X Y : Nat → Rat} (y : IsY P cols d w Y) (hs : Sol A w X) (hf : cols.length = w) : ∀ j, j < w → Y j = X j := fun j hj => by
  have hm : j ∈ cols := by
    refine Classical.byContradiction fun z => ?_
    have h5 : (j :: cols).Nodup := List.nodup_cons.mpr ⟨z, h.dec.imp fun h => Nat.ne_of_gt h⟩
    have h4 := nodup_le (l2 := List.range w) h5 (fun f hf => by
      rcases List.mem_cons.mp hf with e | hf
      · subst e; exact List.mem_range.mpr hj
      · exact List.mem_range.mpr (h.lt f hf))
    simp at h4
    omega
  obtain ⟨l, hl⟩ := List.mem_iff_getElem?.mp hm
  have hlp : l < P.length := by rw [h.lenP]; exact (List.getElem?_eq_some_iff.mp hl).1
  rw [y.ld l j _ hl (List.getElem?_eq_getElem hlp), h.sol hs hf (List.getElem?_eq_getElem hlp) hl]
end
/-! weights -/
def unitR (m k : Nat) : Row := (List.range m).map fun j => if k = j then 1 else 0
def wider (A : List Row) : List Row := A.mapIdx fun k row => row ++ unitR A.length k
theorem at_app {a b : Row} {j : Nat} : at_ (a ++ b) j = if j < a.length then at_ a j else at_ b (j - a.length) := by
  unfold at_
  rw [List.getD_eq_getElem?_getD]
  by_cases h : j < a.length
  · rw [if_pos h, List.getElem?_append_left h, List.getD_eq_getElem?_getD]
  · rw [if_neg h, List.getElem?_append_right (by omega), List.getD_eq_getElem?_getD]
theorem at_unit {m k j : Nat} (h : j < m) : at_ (unitR m k) j = if k = j then 1 else 0 := by
  unfold unitR
  rw [at_map, if_pos h]
theorem wider_mem {A : List Row} {w : Nat} (hA : ∀ a ∈ A, a.length = w + 1) {r : Row} (h : r ∈ wider A) : ∃ (k : Nat) (a : Row), A[k]? = some a ∧ r = a ++ unitR A.length k := by
  unfold wider at h
  obtain ⟨k, hk⟩ := List.mem_iff_getElem?.mp h
  rw [List.getElem?_mapIdx] at hk
  obtain ⟨a, h1, h2⟩ := Option.map_eq_some_iff.mp hk
  exact ⟨k, a, h1, h2.symm⟩
theorem wider_of {A : List Row} {k : Nat} {a : Row} (h : A[k]? = some a) : a ++ unitR A.length k ∈ wider A := by
  unfold wider
  refine List.mem_iff_getElem?.mpr ⟨k, ?_⟩
  rw [List.getElem?_mapIdx, h]
  rfl
theorem wider_len {A : List Row} {w : Nat} (hA : ∀ a ∈ A, a.length = w + 1) : ∀ r ∈ wider A, r.length = w + 1 + A.length := fun r hr => by
  obtain ⟨k, a, h1, h2⟩ := wider_mem hA hr
  subst h2
  rw [List.length_append, hA a (List.mem_of_getElem? h1)]
  simp [unitR]
theorem wider_bd {A : List Row} {w B : Nat} (hA : ∀ a ∈ A, a.length = w + 1) (hB : ∀ a ∈ A, ∀ j, (at_ a j).natAbs ≤ B) (hB1 : 1 ≤ B) : ∀ r ∈ wider A, ∀ j, (at_ r j).natAbs ≤ B := fun r hr j => by
  obtain ⟨k, a, h1, h2⟩ := wider_mem hA hr
  subst h2
  rw [at_app]
  split
  · exact hB a (List.mem_of_getElem? h1) j
  · by_cases h : j - a.length < A.length
    · rw [at_unit h]
      split <;> simp <;> omega
    · rw [at_out (by simp [unitR]; omega)]
      simp
/-- the sum of products -/
def prods (ws : Row) (A : List Row) (j : Nat) : Int := ((List.range A.length).map fun l => at_ ws l * at_ (A.getD l []) j).sum
theorem dot_w {A : List Row} {w j : Nat} (hj : j ≤ w) (r : Row) : ∀ m, m ≤ A.length →
    dot (w + 1 + m) r (fun i => if i = j then 1 else if w < i then -(at_ (A.getD (i - (w + 1)) []) j : Rat) else 0) = ((at_ r j - ((List.range m).map fun l => at_ r (w + 1 + l) * at_ (A.getD l []) j).sum : Int) : Rat)
  | 0, _ => by
    rw [Nat.add_zero, dot_one (w + 1) (f := j) (by omega) fun i hi hij => .inr (by rw [if_neg hij, if_neg (by omega)])]
    simp
  | m + 1, hm => by
    show dot (w + 1 + m) r _ + (at_ r (w + 1 + m) : Rat) * (if w + 1 + m = j then 1 else if w < w + 1 + m then -(at_ (A.getD (w + 1 + m - (w + 1)) []) j : Rat) else 0) = _
    rw [dot_w hj r m (by omega)]
    rw [if_neg (by omega), if_pos (by omega), Nat.add_sub_cancel_left]
    rw [List.range_succ, List.map_append, List.sum_append]
    simp
    grind
theorem sum_one {m k : Nat} {f : Nat → Int} (hk : k < m) : ((List.range m).map fun l => (if k = l then 1 else 0) * f l).sum = f k := by
  have h0 : ∀ m, m ≤ k → ((List.range m).map fun l => (if k = l then 1 else 0) * f l).sum = 0 := fun m => by
    induction m with
    | zero => intro _; rfl
    | succ m ih =>
      intro h
      rw [List.range_succ, List.map_append, List.sum_append, ih (by omega)]
      simp [show ¬ k = m by omega]
  induction m with
  | zero => omega
  | succ m ih =>
    rw [List.range_succ, List.map_append, List.sum_append]
    by_cases e : k = m
    · subst e
      rw [h0 k (Nat.le_refl _)]
      simp
    · rw [ih (by omega)]
      simp [e]
section
variable {w : Nat} {A : List Row} {P Q : List (Row × Row)} {cols : List Nat} {d : Int}
theorem El.weights (h : El (w + 1 + A.length) (wider A) w P Q cols d) (hA : ∀ a ∈ A, a.length = w + 1) {q : Row × Row} (hq : q ∈ Q) {j : Nat} (hj : j ≤ w) : prods (q.2.drop (w + 1)) A j = at_ q.2 j := by
  have := h.kill _ (fun r hr => by
    obtain ⟨k, a, h1, h2⟩ := wider_mem hA hr
    have hka := (List.getElem?_eq_some_iff.mp h1).1
    have hal := hA a (List.mem_of_getElem? h1)
    rw [dot_w (A := A) hj r A.length (Nat.le_refl _)]
    subst h2
    have e1 : at_ (a ++ unitR A.length k) j = at_ a j := by rw [at_app, if_pos (by omega)]
    have e2 : ((List.range A.length).map fun l => at_ (a ++ unitR A.length k) (w + 1 + l) * at_ (A.getD l []) j) = (List.range A.length).map fun l => (if k = l then 1 else 0) * at_ (A.getD l []) j := List.map_congr_left fun l hl => by
      rw [at_app, if_neg (by omega), hal, Nat.add_sub_cancel_left, at_unit (List.mem_range.mp hl)]
    rw [e1, e2, sum_one hka, List.getD_eq_getElem?_getD, h1]
    simp) q (List.mem_append_right _ hq)
  rw [dot_w (A := A) hj q.2 A.length (Nat.le_refl _)] at this
  have h2 : at_ q.2 j - ((List.range A.length).map fun l => at_ q.2 (w + 1 + l) * at_ (A.getD l []) j).sum = 0 := by exact_mod_cast this
  unfold prods
  have e : ((List.range A.length).map fun l => at_ (q.2.drop (w + 1)) l * at_ (A.getD l []) j) = (List.range A.length).map fun l => at_ q.2 (w + 1 + l) * at_ (A.getD l []) j := List.map_congr_left fun l hl => by
    congr 1
    unfold at_
    rw [List.getD_eq_getElem?_getD, List.getElem?_drop, ← List.getD_eq_getElem?_getD]
  rw [e]
  omega
/-- rows that have no answer show it -/
theorem El.badW (h : El (w + 1 + A.length) (wider A) w P Q cols d) (hA : ∀ a ∈ A, a.length = w + 1) (hb : ¬ ∃ Y, Sol A w Y) : ∃ q ∈ Q, at_ q.2 w ≠ 0 := by
  refine Classical.byContradiction fun z => hb ?_
  have hq : ∀ q ∈ Q, at_ q.2 w = 0 := fun q hq => Classical.byContradiction fun y => z ⟨q, hq, y⟩
  obtain ⟨Y, y⟩ := h.hasY
  have s := y.sol h (by omega) hq
  refine ⟨Y, fun a ha => ?_⟩
  obtain ⟨k, hk⟩ := List.mem_iff_getElem?.mp ha
  have hal := hA a ha
  have := s _ (wider_of hk)
  rw [at_app, if_pos (by omega)] at this
  rw [← this]
  have ext : ∀ (n : Nat), n ≤ w + 1 → dot n a Y = dot n (a ++ unitR A.length k) Y := fun n => by
    induction n with
    | zero => intro _; rfl
    | succ n ih =>
      intro hn
      rw [dot, dot, ih (by omega), at_app, if_pos (by omega)]
  exact ext w (by omega)
end
end Ip

/-! IpR3: more of lists as values. Written by an AI agent. -/
namespace Ip
open PySem (Str)
open scoped Rat
theorem cutL_from {α : Type} {xs : List α} {r : Nat} (h : r ≤ xs.length) : cutL xs (some (r : Int)) none = xs.drop r := by
  unfold cutL
  rw [HT.sIx_nat, HT.sIx_none, Nat.min_eq_left h, List.take_of_length_le (by rw [List.length_drop]; omega)]
theorem cutL_to {α : Type} {xs : List α} {r : Nat} : cutL xs none (some (r : Int)) = xs.take r := by
  unfold cutL
  rw [HT.sIx_nat, HT.sIx_none, Nat.sub_zero, List.drop_zero]
  by_cases h : r ≤ xs.length
  · rw [Nat.min_eq_left h]
  · rw [Nat.min_eq_right (by omega), List.take_of_length_le (Nat.le_refl _), List.take_of_length_le (by omega)]
theorem slc_eM {rs : List Row} {r : Nat} (h : r ≤ rs.length) : slcU (eM rs) (some (r : Int)) none = some (eM (rs.drop r)) := by
  show some (U.lst (cutL (rs.map eR) (some (r : Int)) none)) = _
  rw [cutL_from (by simpa using h), ← List.map_drop]
  rfl
theorem slc_eR {rs : Row} {r : Nat} (h : r ≤ rs.length) : slcU (eR rs) (some (r : Int)) none = some (eR (rs.drop r)) := by
  show some (U.lst (cutL (rs.map U.int) (some (r : Int)) none)) = _
  rw [cutL_from (by simpa using h), ← List.map_drop]
  rfl
theorem slc_eRt {rs : Row} {r : Nat} : slcU (eR rs) none (some (r : Int)) = some (eR (rs.take r)) := by
  show some (U.lst (cutL (rs.map U.int) none (some (r : Int)))) = _
  rw [cutL_to, ← List.map_take]
  rfl
theorem opU_rep {u : U} {w : Nat} (h : w ≤ 1000000) : opU .mul (.lst [u]) (.int (w : Nat)) = some (.lst (List.replicate w u)) := by
  simp only [opU]
  rw [if_pos ⟨by omega, by omega, by simp; omega⟩]
  congr 2
  rw [Int.toNat_natCast]
  induction w with
  | zero => rfl
  | succ w ih => rw [List.replicate_succ, List.flatten_cons, ih (by omega)]; rfl
/-- a list of fractions -/
def eQ (X : List Rat) : U := .lst (X.map encQ)
@[simp] theorem isLst_eQ {r : List Rat} : isLst (eQ r) = true := nr rfl
@[simp] theorem len_eQ {r : List Rat} : bfnU .len [eQ r] = some (.int (r.length : Nat)) := by unfold eQ; rw [bfnU_lenL]; simp
theorem idx_eQ {r : List Rat} {j : Nat} {q : Rat} (h : r[j]? = some q) : idxU (eQ r) (.int (j : Nat)) = some (encQ q) := idxU_L (by rw [List.getElem?_map, h]; rfl)
theorem subU_eQ {ρ : EU} {rs : List Rat} {r : Rat} {i j : Nat} (h : i < rs.length) : subU (some (.own (eQ rs))) (some (.ok (encQ r))) (some (.ok (.int (i : Nat)))) ρ j = some (.nxt, ρ.set j (.own (eQ (rs.set i r)))) := by
  unfold eQ
  rw [subU_own (by simpa using h), List.map_set]
theorem eQ_rep {w : Nat} {q : Rat} : U.lst (List.replicate w (encQ q)) = eQ (List.replicate w q) := by simp [eQ]
@[simp] theorem it_eQ {r : List Rat} : itU .val [eQ r] = some (r.map encQ) := nr rfl
theorem inW_ints {i : Int} : ∀ {cs : List Nat}, inW (.int i) ((cs.map fun (c : Nat) => U.int c).map wOf) = decide (∃ c ∈ cs, (c : Int) = i)
  | [] => by simp [inW]
  | c :: cs => by
    have ih := inW_ints (i := i) (cs := cs)
    unfold inW at ih ⊢
    rw [List.map_cons, List.map_cons, List.any_cons, ih]
    simp [wOf, eqF]
    by_cases e : (c : Int) = i <;> simp [e]
theorem isin_eC {i : Nat} {cs : List Nat} : cmU .isin (.int (i : Nat)) (eC cs) = some (decide (i ∈ cs)) := by
  show (if flatU (.int (i : Nat)) && (cs.map fun (c : Nat) => U.int c).all flatU then some (inW (.int (i : Nat)) ((cs.map fun (c : Nat) => U.int c).map wOf)) else none) = _
  rw [if_pos (by simp [flatU]), inW_ints]
  congr 1
  exact decide_eq_decide.mpr ⟨fun ⟨c, h, e⟩ => by rw [← Int.ofNat_inj.mp e]; exact h, fun h => ⟨i, h, rfl⟩⟩
theorem notin_eC {i : Nat} {cs : List Nat} : cmU .notin (.int (i : Nat)) (eC cs) = some (!decide (i ∈ cs)) := by
  have := isin_eC (i := i) (cs := cs)
  show (isinU (.int (i : Nat)) (eC cs)).map (!·) = _
  have e : isinU (.int (i : Nat)) (eC cs) = some (decide (i ∈ cs)) := this
  rw [e]
  rfl
/-- places filled, one by one -/
def fillX (X0 : List Rat) (cs : List Nat) (v : Nat → Rat) : Nat → List Rat
  | 0 => X0
  | i + 1 => (fillX X0 cs v i).set (cs.getD i 0) (v i)
theorem fillX_len {X0 : List Rat} {cs : List Nat} {v : Nat → Rat} : ∀ i, (fillX X0 cs v i).length = X0.length
  | 0 => rfl
  | i + 1 => by rw [fillX, List.length_set, fillX_len i]
theorem fillX_out {X0 : List Rat} {cs : List Nat} {v : Nat → Rat} {j : Nat} : ∀ i, i ≤ cs.length → (∀ l, l < i → cs[l]? ≠ some j) → (fillX X0 cs v i)[j]? = X0[j]?
  | 0, _, _ => rfl
  | i + 1, hi, h => by
    have : cs.getD i 0 ≠ j := fun z => h i (by omega) (by rw [List.getD_eq_getElem?_getD, List.getElem?_eq_getElem (by omega)] at z; rw [List.getElem?_eq_getElem (by omega)]; simpa using z)
    rw [fillX, List.getElem?_set_ne this, fillX_out i (by omega) fun l hl => h l (by omega)]
theorem fillX_in {X0 : List Rat} {cs : List Nat} {v : Nat → Rat} {j l : Nat} (hd : ∀ a b : Nat, a < b → cs[a]? = some j → cs[b]? ≠ some j) (hj : j < X0.length) (hl : cs[l]? = some j) : ∀ i, i ≤ cs.length → l < i → (fillX X0 cs v i)[j]? = some (v l)
  | 0, _, h => by omega
  | i + 1, hi, h => by
    rw [fillX]
    by_cases e : l = i
    · subst e
      have : cs.getD l 0 = j := by rw [List.getD_eq_getElem?_getD, hl]; rfl
      rw [this, List.getElem?_set_self (by rw [fillX_len]; exact hj)]
    · have : cs.getD i 0 ≠ j := fun z => hd l i (by omega) hl (by rw [List.getD_eq_getElem?_getD, List.getElem?_eq_getElem (by omega)] at z; rw [List.getElem?_eq_getElem (by omega)]; simpa using z)
      rw [List.getElem?_set_ne this, fillX_in hd hj hl i (by omega) (by omega)]
theorem nodup_ne {cs : List Nat} (h : cs.Nodup) {j : Nat} : ∀ a b : Nat, a < b → cs[a]? = some j → cs[b]? ≠ some j := fun a b hab ha hb => by
  have h1 := (List.getElem?_eq_some_iff.mp ha)
  have h2 := (List.getElem?_eq_some_iff.mp hb)
  obtain ⟨l1, e1⟩ := h1
  obtain ⟨l2, e2⟩ := h2
  exact List.pairwise_iff_getElem.mp h a b l1 l2 hab (by rw [e1, e2])
section
variable {n w : Nat} {A : List Row} {P Q : List (Row × Row)} {cols : List Nat} {d : Int}
theorem El.nod (h : El n A w P Q cols d) : cols.reverse.Nodup := List.pairwise_reverse.mpr (h.dec.imp fun h => Nat.ne_of_lt h)
/-- a row that leads, by the order of the columns -/
theorem El.row (h : El n A w P Q cols d) {k j : Nat} (hk : cols.reverse[k]? = some j) : ∃ (l : Nat) (p : Row × Row), cols[l]? = some j ∧ P[l]? = some p ∧ (elR P Q)[k]? = some p.2 ∧ at_ p.2 j = d ∧ j < w := by
  have hkl := (List.getElem?_eq_some_iff.mp hk).1
  rw [List.length_reverse] at hkl
  rw [List.getElem?_reverse hkl] at hk
  have hlp : cols.length - 1 - k < P.length := by rw [h.lenP]; omega
  refine ⟨cols.length - 1 - k, P[cols.length - 1 - k], hk, List.getElem?_eq_getElem hlp, ?_, ?_, h.lt j (List.mem_of_getElem? hk)⟩
  · unfold elR
    rw [List.getElem?_map, List.getElem?_append_left (by rw [List.length_reverse, h.lenP]; exact hkl), List.getElem?_reverse (by rw [h.lenP]; exact hkl)]
    have : P.length - 1 - k = cols.length - 1 - k := by rw [h.lenP]
    rw [this, List.getElem?_eq_getElem hlp]
    rfl
  · have := h.piv _ _ hk _ _ (List.getElem?_eq_getElem hlp)
    rwa [if_pos rfl] at this
theorem El.row2 (h : El n A w P Q cols d) {l j : Nat} {p : Row × Row} (h1 : cols[l]? = some j) (h2 : P[l]? = some p) : ∃ k : Nat, cols.reverse[k]? = some j ∧ (elR P Q)[k]? = some p.2 := by
  have hkl := (List.getElem?_eq_some_iff.mp h1).1
  have e : cols.length - 1 - (cols.length - 1 - l) = l := by omega
  refine ⟨cols.length - 1 - l, ?_, ?_⟩
  · rw [List.getElem?_reverse (by omega), e]
    exact h1
  · unfold elR
    rw [List.getElem?_map, List.getElem?_append_left (by rw [List.length_reverse, h.lenP]; omega), List.getElem?_reverse (by rw [h.lenP]; omega), h.lenP, e, h2]
    rfl
theorem elR_drop : (elR P Q).drop P.length = Q.map (·.2) := by
  unfold elR
  rw [List.map_append, List.drop_left' (by simp)]
/-- the answer that is filled in -/
theorem El.fillY (h : El n A w P Q cols d) {v : Nat → Rat} (hv : ∀ (k : Nat) (r : Row), k < cols.length → (elR P Q)[k]? = some r → v k = (at_ r w : Rat) / (d : Rat)) : IsY P cols d w (fun j => (fillX (List.replicate w 0) cols.reverse v cols.length).getD j 0) := by
  have hl : cols.length = cols.reverse.length := by rw [List.length_reverse]
  constructor
  · intro l j p h1 h2
    obtain ⟨k, k1, k2⟩ := h.row2 h1 h2
    have hkl := (List.getElem?_eq_some_iff.mp k1).1
    have hj := h.lt j (List.mem_of_getElem? h1)
    have := fillX_in (X0 := List.replicate w 0) (v := v) (nodup_ne h.nod) (by rw [List.length_replicate]; exact hj) k1 cols.length (by omega) (by omega)
    rw [List.getD_eq_getElem?_getD, this, ← hv k _ (by omega) k2]
    rfl
  · intro j hj hn
    have := fillX_out (X0 := List.replicate w 0) (cs := cols.reverse) (v := v) (j := j) cols.length (by omega) (fun l _ z => hn (List.mem_reverse.mp (List.mem_of_getElem? z)))
    rw [List.getD_eq_getElem?_getD, this, List.getElem?_replicate, if_pos hj]
    rfl
end
section
variable {w : Nat} {A : List Row} {P Q : List (Row × Row)} {cols : List Nat} {d : Int}
theorem El.tight (h : El (w + 1) A w P Q cols d) (hf : cols.length = w) : Tight A w := fun x hx j hj => by
  have dR : (d : Rat) ≠ 0 := fun z => h.d0 (by exact_mod_cast z)
  have all : ∀ j, j < w → j ∈ cols := fun j hj => by
    refine Classical.byContradiction fun z => ?_
    have h5 : (j :: cols).Nodup := List.nodup_cons.mpr ⟨z, h.dec.imp fun h => Nat.ne_of_gt h⟩
    have h4 := nodup_le (l2 := List.range w) h5 (fun f hf => by
      rcases List.mem_cons.mp hf with e | hf
      · subst e; exact List.mem_range.mpr hj
      · exact List.mem_range.mpr (h.lt f hf))
    simp at h4
    omega
  obtain ⟨l, hl⟩ := List.mem_iff_getElem?.mp (all j hj)
  have hlp : l < P.length := by rw [h.lenP]; exact (List.getElem?_eq_some_iff.mp hl).1
  have hp := List.getElem?_eq_getElem hlp
  have := h.kill (fun i => if i < w then x i else 0) (fun a ha => by
    rw [dot, dot_ext w (y := x) (fun j hj => by simp [hj]), hx a ha]
    simp
    grind) P[l] (List.mem_append_left _ (List.getElem_mem hlp))
  rw [dot_one (w + 1) (f := j) (by omega) (fun i hi hij => by
    by_cases hiw : i < w
    · left
      obtain ⟨m, hm⟩ := List.mem_iff_getElem?.mp (all i hiw)
      have := h.piv m i hm l _ hp
      rw [if_neg (fun z => by subst z; rw [hl] at hm; exact hij (Option.some.inj hm).symm)] at this
      exact this
    · right; rw [if_neg hiw])] at this
  have e3 := h.piv l j hl l _ hp
  rw [if_pos rfl] at e3
  rw [e3, if_pos hj] at this
  rcases Rat.mul_eq_zero.mp this with z | z
  · exact (dR z).elim
  · exact z
end
theorem Qs.ofne {n : Nat} {a b : Int} (hb : b ≠ 0) (ha : Sz n a) (hs : Sz n b) : Qs n (a /. b) := by
  by_cases h : 0 < b
  · exact Qs.of h ha hs
  · have e3 : -a /. -b = a /. b := Rat.neg_divInt_neg a b
    rw [← e3]
    exact Qs.of (by omega) ha.neg hs.neg
theorem Qs.zero {n : Nat} (h : 0 < n) : Qs n 0 := by
  have : 2 ^ 1 ≤ 2 ^ n := Nat.pow_le_pow_right (by decide) h
  constructor
  · unfold Sz
    show 0 < 2 ^ n
    omega
  · unfold Sz
    show 1 < 2 ^ n
    omega
theorem fillX_mem {X0 : List Rat} {cs : List Nat} {v : Nat → Rat} {q : Rat} : ∀ i, q ∈ fillX X0 cs v i → q ∈ X0 ∨ ∃ l, l < i ∧ q = v l
  | 0, h => .inl h
  | i + 1, h => by
    rw [fillX] at h
    rcases List.mem_or_eq_of_mem_set h with h | h
    · rcases fillX_mem i h with h | ⟨l, h1, h2⟩
      · exact .inl h
      · exact .inr ⟨l, by omega, h2⟩
    · exact .inr ⟨i, by omega, h⟩
end Ip

/-! IpR4: == of data. Written by an AI agent. -/
namespace Ip
open PySem (Str PyData)
/-- data without truths and dicts, so deep -/
def DatOk : Nat → U → Prop
  | _, .non => True
  | _, .int _ => True
  | _, .str x => PySem.PyData.canLay0 (.str x) = true
  | 0, _ => False
  | k + 1, .tup us => ∀ u ∈ us, DatOk k u
  | k + 1, .lst us => ∀ u ∈ us, DatOk k u
  | _ + 1, _ => False
theorem DatOk.succ : ∀ {k : Nat} {u : U}, DatOk k u → DatOk (k + 1) u
  | _, .non, _ => by simp [DatOk]
  | _, .int _, _ => by simp [DatOk]
  | 0, .str x, h => by simpa [DatOk] using h
  | _ + 1, .str x, h => by simpa [DatOk] using h
  | 0, .bl _, h => by simp [DatOk] at h
  | 0, .tup _, h => by simp [DatOk] at h
  | 0, .lst _, h => by simp [DatOk] at h
  | 0, .fro _, h => by simp [DatOk] at h
  | 0, .dct _, h => by simp [DatOk] at h
  | 0, .ins _ _, h => by simp [DatOk] at h
  | 0, .exn _ _, h => by simp [DatOk] at h
  | k + 1, .tup us, h => by
    simp only [DatOk] at h ⊢
    exact fun u hu => (h u hu).succ
  | k + 1, .lst us, h => by
    simp only [DatOk] at h ⊢
    exact fun u hu => (h u hu).succ
  | _ + 1, .bl _, h => by simp [DatOk] at h
  | _ + 1, .fro _, h => by simp [DatOk] at h
  | _ + 1, .dct _, h => by simp [DatOk] at h
  | _ + 1, .ins _ _, h => by simp [DatOk] at h
  | _ + 1, .exn _ _, h => by simp [DatOk] at h
theorem DatOk.mono {k m : Nat} {u : U} (h : DatOk k u) (hm : k ≤ m) : DatOk m u := by
  induction hm with
  | refl => exact h
  | step _ ih => exact ih.succ
/-- the data of a value -/
def dOf : Nat → U → PyData
  | _, .int i => .int i
  | _, .str x => .str x
  | k + 1, .tup us => .tuple (us.map (dOf k))
  | k + 1, .lst us => .list (us.map (dOf k))
  | _, _ => .none
theorem datUs_map {k : Nat} {f : U → PyData} : ∀ {us : List U}, (∀ u ∈ us, datU k u = some (f u)) → datUs k us = some (us.map f)
  | [], _ => by rw [datUs]; rfl
  | u :: us, h => by
    rw [datUs, h u (List.mem_cons_self ..), datUs_map fun v hv => h v (List.mem_cons_of_mem _ hv)]
    rfl
theorem canAll_map {f : U → PyData} : ∀ {us : List U}, (∀ u ∈ us, (f u).canLay0 = true) → PySem.PyData.canLayAll0 (us.map f) = true
  | [], _ => by simp [PySem.PyData.canLayAll0]
  | u :: us, h => by
    rw [List.map_cons, PySem.PyData.canLayAll0, h u (List.mem_cons_self ..), canAll_map fun v hv => h v (List.mem_cons_of_mem _ hv)]
    rfl
theorem eqvAll_map {f : U → PyData} : ∀ {us vs : List U}, (∀ u ∈ us, ∀ v ∈ vs, ((f u).eqv (f v) = true ↔ u = v)) → (PySem.PyData.eqvAll (us.map f) (vs.map f) = true ↔ us = vs)
  | [], [], _ => by simp [PySem.PyData.eqvAll]
  | [], v :: vs, _ => by simp [PySem.PyData.eqvAll]
  | u :: us, [], _ => by simp [PySem.PyData.eqvAll]
  | u :: us, v :: vs, h => by
    have h1 := h u (List.mem_cons_self ..) v (List.mem_cons_self ..)
    have h2 := eqvAll_map (us := us) (vs := vs) fun a ha b hb => h a (List.mem_cons_of_mem _ ha) b (List.mem_cons_of_mem _ hb)
    rw [List.map_cons, List.map_cons, PySem.PyData.eqvAll, Bool.and_eq_true, h1, h2]
    simp
theorem DatOk.dat : ∀ {k : Nat} {u : U}, DatOk k u → datU k u = some (dOf k u) ∧ (dOf k u).canLay0 = true
  | 0, .non, _ => by simp [datU, dOf, PySem.PyData.canLay0]
  | _ + 1, .non, _ => by simp [datU, dOf, PySem.PyData.canLay0]
  | 0, .int _, _ => by simp [datU, dOf, PySem.PyData.canLay0]
  | _ + 1, .int _, _ => by simp [datU, dOf, PySem.PyData.canLay0]
  | 0, .str x, h => by simp [datU, dOf]; simpa [DatOk] using h
  | _ + 1, .str x, h => by simp [datU, dOf]; simpa [DatOk] using h
  | 0, .bl _, h => by simp [DatOk] at h
  | 0, .tup _, h => by simp [DatOk] at h
  | 0, .lst _, h => by simp [DatOk] at h
  | 0, .fro _, h => by simp [DatOk] at h
  | 0, .dct _, h => by simp [DatOk] at h
  | 0, .ins _ _, h => by simp [DatOk] at h
  | 0, .exn _ _, h => by simp [DatOk] at h
  | k + 1, .tup us, h => by
    simp only [DatOk] at h
    constructor
    · rw [datU, datUs_map fun u hu => (h u hu).dat.1]
      rfl
    · show PySem.PyData.canLay0 (.tuple _) = true
      rw [PySem.PyData.canLay0]
      exact canAll_map fun u hu => (h u hu).dat.2
  | k + 1, .lst us, h => by
    simp only [DatOk] at h
    constructor
    · rw [datU, datUs_map fun u hu => (h u hu).dat.1]
      rfl
    · show PySem.PyData.canLay0 (.list _) = true
      rw [PySem.PyData.canLay0]
      exact canAll_map fun u hu => (h u hu).dat.2
  | _ + 1, .bl _, h => by simp [DatOk] at h
  | _ + 1, .fro _, h => by simp [DatOk] at h
  | _ + 1, .dct _, h => by simp [DatOk] at h
  | _ + 1, .ins _ _, h => by simp [DatOk] at h
  | _ + 1, .exn _ _, h => by simp [DatOk] at h
theorem DatOk.eqv : ∀ {k : Nat} {u v : U}, DatOk k u → DatOk k v → ((dOf k u).eqv (dOf k v) = true ↔ u = v) := fun {k} => by
  induction k with
  | zero =>
    intro u v hu hv
    cases u <;> simp [DatOk] at hu <;> cases v <;> simp [DatOk] at hv <;> simp [dOf, PySem.PyData.eqv]
  | succ k ih =>
    intro u v hu hv
    cases u with
    | tup us =>
      simp only [DatOk] at hu
      cases v with
      | tup vs =>
        simp only [DatOk] at hv
        simp only [dOf, PySem.PyData.eqv, U.tup.injEq]
        exact eqvAll_map fun a ha b hb => ih (hu a ha) (hv b hb)
      | _ => first | (simp [DatOk] at hv; done) | simp [dOf, PySem.PyData.eqv]
    | lst us =>
      simp only [DatOk] at hu
      cases v with
      | lst vs =>
        simp only [DatOk] at hv
        simp only [dOf, PySem.PyData.eqv, U.lst.injEq]
        exact eqvAll_map fun a ha b hb => ih (hu a ha) (hv b hb)
      | _ => first | (simp [DatOk] at hv; done) | simp [dOf, PySem.PyData.eqv]
    | non => cases v <;> first | (simp [DatOk] at hv; done) | simp [dOf, PySem.PyData.eqv]
    | int i => cases v <;> first | (simp [DatOk] at hv; done) | simp [dOf, PySem.PyData.eqv]
    | str x => cases v <;> first | (simp [DatOk] at hv; done) | simp [dOf, PySem.PyData.eqv]
    | _ => simp [DatOk] at hu
open Classical in
theorem eqU_dat {k : Nat} {u v : U} (hk : k ≤ 64) (hu : DatOk k u) (hv : DatOk k v) : cmU .eq u v = some (decide (u = v)) := by
  have hu' := hu.mono hk
  have hv' := hv.mono hk
  have deep : eqDeepU u v = some (decide (u = v)) := by
    unfold eqDeepU
    rw [hu'.dat.1, hv'.dat.1]
    dsimp only
    rw [hu'.dat.2, hv'.dat.2]
    have := hu'.eqv hv'
    by_cases e : u = v
    · rw [this.mpr e, decide_eq_true e]
      rfl
    · rw [decide_eq_false e]
      cases h : PySem.PyData.eqv (dOf 64 u) (dOf 64 v) with
      | false => rfl
      | true => exact (e (this.mp h)).elim
  show eqU u v = _
  unfold eqU
  split
  · congr 1; simp
  · cases k <;> simp [DatOk] at hu
  · congr 1; simp
  · exact deep
open Classical in
theorem neU_dat {k : Nat} {u v : U} (hk : k ≤ 64) (hu : DatOk k u) (hv : DatOk k v) : cmU .ne u v = some (!decide (u = v)) := by
  have := eqU_dat hk hu hv
  show (eqU u v).map (!·) = _
  have e : eqU u v = some (decide (u = v)) := this
  rw [e]
  rfl
theorem eqU_self {k : Nat} {u : U} (hk : k ≤ 64) (hu : DatOk k u) : cmU .eq u u = some true := by rw [eqU_dat hk hu hu]; simp
theorem neU_self {k : Nat} {u : U} (hk : k ≤ 64) (hu : DatOk k u) : cmU .ne u u = some false := by rw [neU_dat hk hu hu]; simp
theorem DatOk.eQ' {q : Rat} : DatOk 1 (encQ q) := by
  unfold encQ
  simp [DatOk]
theorem DatOk.eR {r : Row} : DatOk 1 (eR r) := by
  unfold Ip.eR
  simp only [DatOk]
  intro u hu
  obtain ⟨i, _, e⟩ := List.mem_map.mp hu
  subst e
  simp [DatOk]
theorem DatOk.eM {r : List Row} : DatOk 2 (eM r) := by
  unfold Ip.eM
  simp only [DatOk]
  intro u hu
  obtain ⟨i, _, e⟩ := List.mem_map.mp hu
  subst e
  exact .eR
theorem DatOk.eQ {r : List Rat} : DatOk 2 (eQ r) := by
  unfold Ip.eQ
  simp only [DatOk]
  intro u hu
  obtain ⟨i, _, e⟩ := List.mem_map.mp hu
  subst e
  exact .eQ'
theorem DatOk.eC {r : List Nat} : DatOk 1 (eC r) := by
  unfold Ip.eC
  simp only [DatOk]
  intro u hu
  obtain ⟨i, _, e⟩ := List.mem_map.mp hu
  subst e
  simp [DatOk]
@[simp] theorem eq_eM {r : List Row} : cmU .eq (eM r) (eM r) = some true := eqU_self (by decide) .eM
@[simp] theorem ne_eM {r : List Row} : cmU .ne (eM r) (eM r) = some false := neU_self (by decide) .eM
@[simp] theorem eq_eQ {r : List Rat} : cmU .eq (eQ r) (eQ r) = some true := eqU_self (by decide) .eQ
@[simp] theorem ne_eQ {r : List Rat} : cmU .ne (eQ r) (eQ r) = some false := neU_self (by decide) .eQ
@[simp] theorem eq_eR {r : Row} : cmU .eq (eR r) (eR r) = some true := eqU_self (by decide) .eR
@[simp] theorem ne_eR {r : Row} : cmU .ne (eR r) (eR r) = some false := neU_self (by decide) .eR
@[simp] theorem eq_eC {r : List Nat} : cmU .eq (eC r) (eC r) = some true := eqU_self (by decide) .eC
@[simp] theorem ne_eC {r : List Nat} : cmU .ne (eC r) (eC r) = some false := neU_self (by decide) .eC
@[simp] theorem it_eC {r : List Nat} : itU .val [eC r] = some (r.map fun (c : Nat) => .int c) := nr rfl
/-! what answers tell of each other -/
def prodM (W : Row) (A : List Row) (m j : Nat) : Int := ((List.range m).map fun l => at_ W l * at_ (A.getD l []) j).sum
theorem prodM_succ {W : Row} {A : List Row} {m j : Nat} : prodM W A (m + 1) j = prodM W A m j + at_ W m * at_ (A.getD m []) j := by
  unfold prodM
  rw [List.range_succ, List.map_append, List.sum_append, List.map_singleton, List.sum_singleton]
/-- weights that come to something at the sums: no answer -/
theorem prods_sol {A : List Row} {w : Nat} {W : Row} {X : Nat → Rat} (hA : ∀ a ∈ A, a.length = w + 1) (hs : Sol A w X) (hz : ∀ j, j < w → prods W A j = 0) : prods W A w = 0 := by
  have key : ∀ m, m ≤ A.length → dot w ((List.range (w + 1)).map fun j => prodM W A m j) X = ((prodM W A m w : Int) : Rat) := fun m => by
    induction m with
    | zero =>
      intro _
      rw [dot_zero w fun j hj => .inl (by rw [at_map, if_pos (by omega)]; rfl)]
      rfl
    | succ m ih =>
      intro hm
      have hml : m < A.length := hm
      have hg : A.getD m [] = A[m] := by rw [List.getD_eq_getElem?_getD, List.getElem?_eq_getElem hml]; rfl
      have hs' := hs A[m] (List.getElem_mem hml)
      have hl := hA A[m] (List.getElem_mem hml)
      have := dot_lin (a := (List.range (w + 1)).map fun j => prodM W A m j) (b := A[m]) (c := (List.range (w + 1)).map fun j => prodM W A (m + 1) j) (p := 1) (q := -(at_ W m)) (d := 1) (fun j => by
        rw [at_map, at_map]
        by_cases h : j < w + 1
        · rw [if_pos h, if_pos h, prodM_succ, hg]
          grind
        · rw [if_neg h, if_neg h, at_out (r := A[m]) (j := j) (by omega)]
          simp) w X
      rw [ih (by omega), hs'] at this
      rw [prodM_succ, hg]
      simp at this ⊢
      rw [this]
      grind
  have h := key A.length (Nat.le_refl _)
  rw [dot_zero w fun j hj => .inl (by rw [at_map, if_pos (by omega)]; exact hz j hj)] at h
  show prodM W A A.length w = 0
  exact_mod_cast h.symm
theorem dot_sub {a : Row} {x y : Nat → Rat} : ∀ n, dot n a (fun j => x j - y j) = dot n a x - dot n a y
  | 0 => by simp [dot]; grind
  | n + 1 => by
    rw [dot, dot, dot, dot_sub n]
    grind
theorem tight_eq {A : List Row} {w : Nat} {X Y : Nat → Rat} (ht : Tight A w) (hx : Sol A w X) (hy : Sol A w Y) : ∀ j, j < w → X j = Y j := fun j hj => by
  have := ht (fun j => X j - Y j) (fun a ha => by rw [dot_sub, hx a ha, hy a ha]; grind) j hj
  grind
theorem getD_ext {X Y : List Rat} {w : Nat} (hx : X.length = w) (hy : Y.length = w) (h : ∀ j, j < w → X.getD j 0 = Y.getD j 0) : X = Y := by
  refine List.ext_getElem (by omega) fun j h1 h2 => ?_
  have := h j (by omega)
  rw [List.getD_eq_getElem?_getD, List.getD_eq_getElem?_getD, List.getElem?_eq_getElem h1, List.getElem?_eq_getElem h2] at this
  simpa using this
theorem num_eq (z : Rat) : (z.num : Rat) = z * (z.den : Rat) := by
  have h := Rat.num_divInt_den z
  rw [Rat.divInt_eq_div] at h
  have hd : ((z.den : Int) : Rat) ≠ 0 := by
    have := z.den_nz
    intro h0
    exact this (by exact_mod_cast h0)
  have h2 := Rat.div_mul_cancel (a := (z.num : Rat)) hd
  rw [h] at h2
  exact h2.symm
end Ip

namespace K11
open PySem PySem.Spec PyProof.Rows L2 Ip
abbrev R : PySem.W.OpenRow := PySem.W.OpenLaw.row PySem.Challenge.rw_chanceduel_k11_the_one_answer
def top (i : Nat) : Stmt := PySem.Challenge.pw_chanceduel_k11_the_one_answer.main.body.getD i (.Pass ⟨0, 0, 0, 0⟩)
def mth (i j : Nat) : Stmt := match top i with
  | .ClassDef _ _ _ body _ _ _ _ _ _ _ => body.getD j (.Pass ⟨0, 0, 0, 0⟩)
  | s => s
/-- law('_law_script', '_law_wide_here', '_law_due', '_law_asked', '_law_row', '_law_handed', '_law_found') -/
def b_law : List Sx := [.asg 1 (.call 1 [.call 2 [.var 0, .int 0]]), .asg 2 (.call 3 [.var 0, .var 1]), .asg 3 (.lc (.call 4 [.var 4, .var 2]) [4] .val [.call 5 [.var 0, .var 1]] []), .asg 5 (.lc (.bif .list [.var 4]) [4] .val [.var 3] []), .asg 6 (.call 6 [.var 5]), .iff (.or [.cmp .ne (.var 5) (.var 3), .not (.call 7 [.var 6, .var 2])]) [.ret (.bl false)] [], .sub (.var 6) (.int 0) (.tup [.bin .add (.idx (.idx (.var 6) (.int 0)) (.int 0)) (.int 1), .idx (.idx (.var 6) (.int 0)) (.int 1)]), .ret (.and [.call 7 [.call 6 [.var 5], .var 2], .cmp .eq (.var 5) (.var 3)])]
/-- _law_wide('_law_cell_here',) -/
def b__law_wide : List Sx := [.iff (.cmp .eq (.bin .mod (.bin .mod (.bin .mul (.var 0) (.int 69621)) (.int 65521)) (.int 8)) (.int 5)) [.ret (.bin .add (.int 6) (.bin .mod (.var 0) (.int 7)))] [], .ret (.bin .add (.int 1) (.bin .mod (.var 0) (.int 5)))]
/-- _law_at('_law_script', '_law_k', '_law_mixed', '_law_cell_here') -/
def b__law_at : List Sx := [.iff (.cmp .lt (.var 1) (.bif .len [.var 0])) [.ret (.bin .mod (.idx (.var 0) (.var 1)) (.bin .pow (.int 10) (.int 40)))] [], .asg 2 (.bin .add (.int 5) (.bin .mul (.int 3) (.bif .len [.var 0]))), .for [3] .val [.slc (.var 0) [] [.int 6]] [.asg 2 (.bin .mod (.bin .add (.bin .mul (.var 2) (.int 48271)) (.bin .mod (.var 3) (.bin .pow (.int 10) (.int 12)))) (.int 2147483647))], .ret (.bin .mod (.bin .mul (.bin .add (.var 2) (.int 1)) (.bin .add (.bin .mul (.var 1) (.var 1)) (.int 69621))) (.int 2147483629))]
/-- _law_numbers('_law_script', '_law_wide_here', '_law_far', '_law_low', '_law_some', '_law_k', '_law_cell_here') -/
def b__law_numbers : List Sx := [.asg 2 (.idx (.lst [.int 9, .bin .pow (.int 10) (.int 9), .bin .pow (.int 10) (.int 30)]) (.bin .mod (.call 2 [.var 0, .int 1]) (.int 3))), .asg 3 (.idx (.lst [.int 1, .int 12, .bin .pow (.int 10) (.int 6)]) (.bin .mod (.bin .mod (.bin .mul (.call 2 [.var 0, .int 1]) (.int 48271)) (.int 65521)) (.int 3))), .iff (.cmp .gt (.var 1) (.int 5)) [.asg 2 (.int 9), .asg 3 (.int 1)] [], .asg 4 (.lst []), .for [5] .range1 [.var 1] [.asg 6 (.call 8 [.var 0, .int 2, .var 5, .var 1]), .exp (.bm (.var 4) .append [.call 9 [.bin .sub (.bin .mod (.var 6) (.bin .add (.bin .mul (.int 2) (.var 2)) (.int 1))) (.var 2), .bin .add (.int 1) (.bin .mod (.bin .mod (.bin .mul (.var 6) (.int 69621)) (.int 1000003)) (.var 3))]])], .ret (.var 4)]
/-- _law_with_sum('_law_row', '_law_some', '_law_many', '_law_number', '_law_total', '_law_k', '_law_one') -/
def b__law_with_sum : List Sx := [.asg 2 (.int 1), .for [3] .val [.var 1] [.asg 2 (.bin .mul (.var 2) (.idx (.var 3) (.int 1)))], .asg 4 (.int 0), .for [5] .range1 [.bif .len [.var 1]] [.asg 4 (.bin .add (.var 4) (.bin .mul (.bin .mul (.idx (.var 0) (.var 5)) (.idx (.idx (.var 1) (.var 5)) (.int 0))) (.bin .fdiv (.var 2) (.idx (.idx (.var 1) (.var 5)) (.int 1)))))], .ret (.bin .add (.lc (.bin .mul (.var 6) (.var 2)) [6] .val [.var 0] []) (.lst [.var 4]))]
/-- _law_rows('_law_script', '_law_wide_here', '_law_rows_here', '_law_k', '_law_cell_here', '_law_one', '_law_two', '_law_many', '_law_c') -/
def b__law_rows : List Sx := [.asg 2 (.call 10 [.var 0, .var 1]), .for [3] .range1 [.bif .min2 [.bin .mod (.call 2 [.var 0, .int 45]) (.int 4), .bin .sub (.int 12) (.bif .len [.var 2])]] [.asg 4 (.call 2 [.var 0, .bin .add (.int 46) (.var 3)]), .asg 5 (.idx (.var 2) (.bin .mod (.var 4) (.bif .len [.var 2]))), .asg 6 (.idx (.var 2) (.bin .mod (.bin .mod (.bin .mul (.var 4) (.int 48271)) (.int 65521)) (.bif .len [.var 2]))), .asg 7 (.bin .mod (.bin .mul (.var 4) (.int 69621)) (.int 65537)), .exp (.bm (.var 2) .append [.lc (.bin .add (.bin .mul (.bin .sub (.bin .mod (.var 7) (.int 5)) (.int 2)) (.idx (.var 5) (.var 8))) (.bin .mul (.bin .sub (.bin .mod (.bin .fdiv (.var 7) (.int 5)) (.int 5)) (.int 2)) (.idx (.var 6) (.var 8)))) [8] .range1 [.var 1] []])], .ret (.lc (.idx (.var 2) (.var 3)) [3] .val [.call 11 [.call 2 [.var 0, .int 49], .bif .len [.var 2]]] [])]
/-- answer_of('rows', 'wide', 'told', 'columns', 'row', 'answer', 'k') -/
def b_answer_of : List Sx := [.asg 1 (.bin .sub (.bif .len [.idx (.var 0) (.int 0)]) (.int 1)), .unp [2, 3] (.call 12 [.var 0, .var 1]), .for [4] .val [.slc (.var 2) [.bif .len [.var 3]] []] [.iff (.cmp .ne (.idx (.var 4) (.var 1)) (.int 0)) [.raise 0 [0] [.call 13 [.var 0, .var 1]]] []], .asg 5 (.bin .mul (.lst [.tup [.int 0, .int 1]]) (.var 1)), .for [6] .range1 [.bif .len [.var 3]] [.sub (.var 5) (.idx (.var 3) (.var 6)) (.call 14 [.idx (.idx (.var 2) (.var 6)) (.var 1), .idx (.idx (.var 2) (.var 6)) (.idx (.var 3) (.var 6))])], .iff (.cmp .lt (.bif .len [.var 3]) (.var 1)) [.raise 2 [1, 2] [.var 5, .call 15 [.var 2, .var 3, .var 1]]] [], .ret (.var 5)]
/-- _law_told('_law_found', '_law_due', '_law_k', '_law_number') -/
def b__law_told : List Sx := [.iff (.or [.not (.isi (.var 0) .list), .cmp .ne (.bif .len [.var 0]) (.bif .len [.var 1])]) [.ret (.bl false)] [], .for [2] .range1 [.bif .len [.var 1]] [.iff (.or [.not (.isi (.idx (.var 0) (.var 2)) .tuple), .cmp .ne (.bif .len [.idx (.var 0) (.var 2)]) (.int 2), .cmp .ne (.idx (.var 0) (.var 2)) (.idx (.var 1) (.var 2))]) [.ret (.bl false)] [], .for [3] .val [.idx (.var 0) (.var 2)] [.iff (.or [.not (.isi (.var 3) .int), .isi (.var 3) .bool]) [.ret (.bl false)] []]], .ret (.bl true)]
/-- _law_cell('_law_script', '_law_at_here', '_law_k', '_law_wide_here') -/
def b__law_cell : List Sx := [.iff (.cmp .lt (.var 3) (.int 6)) [.ret (.call 2 [.var 0, .bin .add (.var 1) (.var 2)])] [], .ret (.bin .mod (.bin .mul (.call 2 [.var 0, .bin .add (.var 1) (.bin .mod (.var 2) (.int 5))]) (.bin .add (.int 48271) (.bin .mul (.bin .mul (.var 2) (.var 2)) (.var 2)))) (.int 2147483629))]
/-- _law_lowest('_law_top', '_law_bottom', '_law_one', '_law_two') -/
def b__law_lowest : List Sx := [.par 2 3 (.bif .abs [.var 0]) (.var 1), .while (.cmp .ne (.var 3) (.int 0)) [.par 2 3 (.var 3) (.bin .mod (.var 2) (.var 3))], .ret (.tup [.bin .fdiv (.var 0) (.var 2), .bin .fdiv (.var 1) (.var 2)])]
/-- _law_corner('_law_script', '_law_wide_here', '_law_order_here', '_law_far', '_law_rows_here', '_law_k', '_law_row', '_law_j', '_law_cell_here', '_law_number', '_law_c') -/
def b__law_corner : List Sx := [.asg 2 (.call 11 [.call 2 [.var 0, .int 7], .var 1]), .asg 3 (.idx (.lst [.int 9, .int 9, .int 1, .bin .pow (.int 10) (.int 20)]) (.bin .mod (.bin .mod (.bin .mul (.call 2 [.var 0, .int 7]) (.int 69621)) (.int 65521)) (.int 4))), .iff (.cmp .gt (.var 1) (.int 5)) [.asg 3 (.bif .min2 [.var 3, .int 9])] [], .asg 4 (.lst []), .for [5] .range1 [.var 1] [.asg 6 (.bin .mul (.lst [.int 0]) (.var 1)), .for [7] .range2 [.var 5, .var 1] [.sub (.var 6) (.idx (.var 2) (.var 7)) (.bin .sub (.bin .mod (.call 8 [.var 0, .int 8, .bin .add (.bin .mul (.var 1) (.var 5)) (.var 7), .var 1]) (.bin .add (.bin .mul (.int 2) (.var 3)) (.int 1))) (.var 3))], .iff (.cmp .eq (.idx (.var 6) (.idx (.var 2) (.var 5))) (.int 0)) [.sub (.var 6) (.idx (.var 2) (.var 5)) (.int 1)] [], .exp (.bm (.var 4) .append [.var 6])], .for [8] .val [.slc (.var 0) [.int 33] [.int 45]] [.asg 9 (.bin .mod (.var 8) (.bin .pow (.int 10) (.int 12))), .asg 5 (.bin .mod (.var 9) (.var 1)), .asg 7 (.bin .mod (.bin .mod (.bin .mul (.var 9) (.int 48271)) (.int 65521)) (.var 1)), .iff (.cmp .ne (.var 5) (.var 7)) [.sub (.var 4) (.var 5) (.lc (.bin .add (.idx (.idx (.var 4) (.var 5)) (.var 10)) (.bin .mul (.bin .sub (.bin .mod (.bin .mod (.bin .mul (.var 9) (.int 69621)) (.int 65537)) (.int 7)) (.int 3)) (.idx (.idx (.var 4) (.var 7)) (.var 10)))) [10] .range1 [.var 1] [])] []], .ret (.var 4)]
/-- _law_order('_law_cell_here', '_law_many', '_law_order_here', '_law_k') -/
def b__law_order : List Sx := [.asg 2 (.lst []), .for [3] .range1 [.var 1] [.exp (.bm (.var 2) .insert [.bin .mod (.bin .mod (.bin .mul (.var 0) (.bin .add (.int 48271) (.bin .mul (.var 3) (.var 3)))) (.int 65537)) (.bin .add (.var 3) (.int 1)), .var 3])], .ret (.var 2)]
/-- eliminated('rows', 'wide', 'row', 'columns', 'ahead', 'column', 'done', 'at', 'by', 'k') -/
def b_eliminated : List Sx := [.asg 0 (.lc (.bif .list [.var 2]) [2] .val [.var 0] []), .asg 3 (.lst []), .asg 4 (.int 1), .for [5] .range1 [.var 1] [.asg 6 (.bif .len [.var 3]), .asg 7 (.call 16 [.var 0, .var 6, .var 5]), .iff (.cmp .isN (.var 7) .non) [.cnt] [], .asg 8 (.bm (.var 0) .pop [.var 7]), .exp (.bm (.var 0) .insert [.var 6, .var 8]), .for [9] .range1 [.bif .len [.var 0]] [.iff (.cmp .ne (.var 9) (.var 6)) [.sub (.var 0) (.var 9) (.call 17 [.idx (.var 0) (.var 9), .var 8, .var 5, .var 4])] []], .asg 4 (.idx (.var 8) (.var 5)), .exp (.bm (.var 3) .append [.var 5])], .ret (.tup [.var 0, .var 3])]
/-- weights_of('rows', 'wide', 'many', 'wider', 'j', 'k', 'told', 'columns', 'row') -/
def b_weights_of : List Sx := [.asg 2 (.bif .len [.var 0]), .asg 3 (.lc (.bin .add (.idx (.var 0) (.var 5)) (.lc (.bif .int [.cmp .eq (.var 5) (.var 4)]) [4] .range1 [.var 2] [])) [5] .range1 [.var 2] []), .unp [6, 7] (.call 12 [.var 3, .var 1]), .for [8] .val [.slc (.var 6) [.bif .len [.var 7]] []] [.iff (.cmp .ne (.idx (.var 8) (.var 1)) (.int 0)) [.ret (.slc (.var 8) [.bin .add (.var 1) (.int 1)] [])] []], .ret (.bin .mul (.lst [.int 0]) (.var 2))]
/-- fraction('top', 'bottom', 'common') -/
def b_fraction : List Sx := [.iff (.cmp .eq (.var 1) (.int 0)) [.raise 3 [] []] [], .iff (.cmp .lt (.var 1) (.int 0)) [.asg 0 (.bin .sub (.int 0) (.var 0)), .asg 1 (.bin .sub (.int 0) (.var 1))] [], .asg 2 (.call 18 [.var 0, .var 1]), .ret (.tup [.bin .fdiv (.var 0) (.var 2), .bin .fdiv (.var 1) (.var 2)])]
/-- still_of('told', 'columns', 'wide', 'free', 'still', 'k') -/
def b_still_of : List Sx := [.asg 3 (.int 0), .while (.cmp .isin (.var 3) (.var 1)) [.asg 3 (.bin .add (.var 3) (.int 1))], .asg 4 (.bin .mul (.lst [.tup [.int 0, .int 1]]) (.var 2)), .sub (.var 4) (.var 3) (.tup [.int 1, .int 1]), .for [5] .range1 [.bif .len [.var 1]] [.sub (.var 4) (.idx (.var 1) (.var 5)) (.call 14 [.bin .sub (.int 0) (.idx (.idx (.var 0) (.var 5)) (.var 3)), .idx (.idx (.var 0) (.var 5)) (.idx (.var 1) (.var 5))])], .ret (.var 4)]
/-- leading('rows', 'start', 'column', 'k') -/
def b_leading : List Sx := [.for [3] .range2 [.var 1, .bif .len [.var 0]] [.iff (.cmp .ne (.idx (.idx (.var 0) (.var 3)) (.var 2)) (.int 0)) [.ret (.var 3)] []], .ret .non]
/-- cleared('row', 'by', 'column', 'ahead', 'k') -/
def b_cleared : List Sx := [.ret (.lc (.bin .fdiv (.bin .sub (.bin .mul (.idx (.var 1) (.var 2)) (.idx (.var 0) (.var 4))) (.bin .mul (.idx (.var 0) (.var 2)) (.idx (.var 1) (.var 4)))) (.var 3)) [4] .range1 [.bif .len [.var 0]] [])]
/-- divisor('one', 'other') -/
def b_divisor : List Sx := [.while (.cmp .ne (.var 1) (.int 0)) [.par 0 1 (.var 1) (.bin .mod (.var 0) (.var 1))], .ret (.bif .abs [.var 0])]
def T : Tab where
  fns := [⟨1, 7, b_law⟩, ⟨1, 1, b__law_wide⟩, ⟨2, 4, b__law_at⟩, ⟨2, 7, b__law_numbers⟩, ⟨2, 7, b__law_with_sum⟩, ⟨2, 9, b__law_rows⟩, ⟨1, 7, b_answer_of⟩, ⟨2, 4, b__law_told⟩, ⟨4, 4, b__law_cell⟩, ⟨2, 4, b__law_lowest⟩, ⟨2, 11, b__law_corner⟩, ⟨2, 4, b__law_order⟩, ⟨2, 10, b_eliminated⟩, ⟨2, 9, b_weights_of⟩, ⟨2, 3, b_fraction⟩, ⟨3, 6, b_still_of⟩, ⟨3, 4, b_leading⟩, ⟨4, 5, b_cleared⟩, ⟨2, 2, b_divisor⟩]
  cls := [{ ups := [0, 1], xfl := [0] }, { ups := [1] }, { ups := [2, 1], xfl := [1, 2] }, { ups := [3, 1] }]
  globs := []
def I : List FI := [{ mu := [6] }, {  }, {  }, { mu := [4], fr := true }, {  }, { mu := [2], fr := true }, { mu := [5], fr := true }, { fl := true }, {  }, {  }, { mu := [4, 6], fr := true }, { mu := [2], fr := true }, { mu := [0, 3] }, {  }, {  }, { mu := [4], fr := true }, { fl := true }, { fr := true }, { fl := true }]
abbrev n_law : Nat := 0
theorem fn_law : T.fns[n_law]? = some ⟨1, 7, b_law⟩ := rfl
@[simp] theorem in_law : inf I n_law = { mu := [6] } := Ip.nr rfl
abbrev n__law_wide : Nat := 1
theorem fn__law_wide : T.fns[n__law_wide]? = some ⟨1, 1, b__law_wide⟩ := rfl
@[simp] theorem in__law_wide : inf I n__law_wide = {  } := Ip.nr rfl
abbrev n__law_at : Nat := 2
theorem fn__law_at : T.fns[n__law_at]? = some ⟨2, 4, b__law_at⟩ := rfl
@[simp] theorem in__law_at : inf I n__law_at = {  } := Ip.nr rfl
abbrev n__law_numbers : Nat := 3
theorem fn__law_numbers : T.fns[n__law_numbers]? = some ⟨2, 7, b__law_numbers⟩ := rfl
@[simp] theorem in__law_numbers : inf I n__law_numbers = { mu := [4], fr := true } := Ip.nr rfl
abbrev n__law_with_sum : Nat := 4
theorem fn__law_with_sum : T.fns[n__law_with_sum]? = some ⟨2, 7, b__law_with_sum⟩ := rfl
@[simp] theorem in__law_with_sum : inf I n__law_with_sum = {  } := Ip.nr rfl
abbrev n__law_rows : Nat := 5
theorem fn__law_rows : T.fns[n__law_rows]? = some ⟨2, 9, b__law_rows⟩ := rfl
@[simp] theorem in__law_rows : inf I n__law_rows = { mu := [2], fr := true } := Ip.nr rfl
abbrev n_answer_of : Nat := 6
theorem fn_answer_of : T.fns[n_answer_of]? = some ⟨1, 7, b_answer_of⟩ := rfl
@[simp] theorem in_answer_of : inf I n_answer_of = { mu := [5], fr := true } := Ip.nr rfl
abbrev n__law_told : Nat := 7
theorem fn__law_told : T.fns[n__law_told]? = some ⟨2, 4, b__law_told⟩ := rfl
@[simp] theorem in__law_told : inf I n__law_told = { fl := true } := Ip.nr rfl
abbrev n__law_cell : Nat := 8
theorem fn__law_cell : T.fns[n__law_cell]? = some ⟨4, 4, b__law_cell⟩ := rfl
@[simp] theorem in__law_cell : inf I n__law_cell = {  } := Ip.nr rfl
abbrev n__law_lowest : Nat := 9
theorem fn__law_lowest : T.fns[n__law_lowest]? = some ⟨2, 4, b__law_lowest⟩ := rfl
@[simp] theorem in__law_lowest : inf I n__law_lowest = {  } := Ip.nr rfl
abbrev n__law_corner : Nat := 10
theorem fn__law_corner : T.fns[n__law_corner]? = some ⟨2, 11, b__law_corner⟩ := rfl
@[simp] theorem in__law_corner : inf I n__law_corner = { mu := [4, 6], fr := true } := Ip.nr rfl
abbrev n__law_order : Nat := 11
theorem fn__law_order : T.fns[n__law_order]? = some ⟨2, 4, b__law_order⟩ := rfl
@[simp] theorem in__law_order : inf I n__law_order = { mu := [2], fr := true } := Ip.nr rfl
abbrev n_eliminated : Nat := 12
theorem fn_eliminated : T.fns[n_eliminated]? = some ⟨2, 10, b_eliminated⟩ := rfl
@[simp] theorem in_eliminated : inf I n_eliminated = { mu := [0, 3] } := Ip.nr rfl
abbrev n_weights_of : Nat := 13
theorem fn_weights_of : T.fns[n_weights_of]? = some ⟨2, 9, b_weights_of⟩ := rfl
@[simp] theorem in_weights_of : inf I n_weights_of = {  } := Ip.nr rfl
abbrev n_fraction : Nat := 14
theorem fn_fraction : T.fns[n_fraction]? = some ⟨2, 3, b_fraction⟩ := rfl
@[simp] theorem in_fraction : inf I n_fraction = {  } := Ip.nr rfl
abbrev n_still_of : Nat := 15
theorem fn_still_of : T.fns[n_still_of]? = some ⟨3, 6, b_still_of⟩ := rfl
@[simp] theorem in_still_of : inf I n_still_of = { mu := [4], fr := true } := Ip.nr rfl
abbrev n_leading : Nat := 16
theorem fn_leading : T.fns[n_leading]? = some ⟨3, 4, b_leading⟩ := rfl
@[simp] theorem in_leading : inf I n_leading = { fl := true } := Ip.nr rfl
abbrev n_cleared : Nat := 17
theorem fn_cleared : T.fns[n_cleared]? = some ⟨4, 5, b_cleared⟩ := rfl
@[simp] theorem in_cleared : inf I n_cleared = { fr := true } := Ip.nr rfl
abbrev n_divisor : Nat := 18
theorem fn_divisor : T.fns[n_divisor]? = some ⟨2, 2, b_divisor⟩ := rfl
@[simp] theorem in_divisor : inf I n_divisor = { fl := true } := Ip.nr rfl
abbrev c_NoAnswer : Nat := 0
abbrev c_DuelError : Nat := 1
abbrev c_ManyAnswers : Nat := 2
abbrev c_NoNumber : Nat := 3
abbrev m_weights : Nat := 0
abbrev m_answer : Nat := 1
abbrev m_still : Nat := 2
def dd : List DI := [⟨⟨("law", none), "law", "law", defArgs (top 26), defBody (top 26), defScope (top 26), [], []⟩, ["_law_script", "_law_wide_here", "_law_due", "_law_asked", "_law_row", "_law_handed", "_law_found"], ["_law_script"]⟩,
  ⟨⟨("_law_wide", none), "_law_wide", "_law_wide", defArgs (top 18), defBody (top 18), defScope (top 18), [], []⟩, ["_law_cell_here"], ["_law_cell_here"]⟩,
  ⟨⟨("_law_at", none), "_law_at", "_law_at", defArgs (top 16), defBody (top 16), defScope (top 16), [], []⟩, ["_law_script", "_law_k", "_law_mixed", "_law_cell_here"], ["_law_script", "_law_k"]⟩,
  ⟨⟨("_law_numbers", none), "_law_numbers", "_law_numbers", defArgs (top 20), defBody (top 20), defScope (top 20), [], []⟩, ["_law_script", "_law_wide_here", "_law_far", "_law_low", "_law_some", "_law_k", "_law_cell_here"], ["_law_script", "_law_wide_here"]⟩,
  ⟨⟨("_law_with_sum", none), "_law_with_sum", "_law_with_sum", defArgs (top 24), defBody (top 24), defScope (top 24), [], []⟩, ["_law_row", "_law_some", "_law_many", "_law_number", "_law_total", "_law_k", "_law_one"], ["_law_row", "_law_some"]⟩,
  ⟨⟨("_law_rows", none), "_law_rows", "_law_rows", defArgs (top 23), defBody (top 23), defScope (top 23), [], []⟩, ["_law_script", "_law_wide_here", "_law_rows_here", "_law_k", "_law_cell_here", "_law_one", "_law_two", "_law_many", "_law_c"], ["_law_script", "_law_wide_here"]⟩,
  ⟨⟨("answer_of", none), "answer_of", "answer_of", defArgs (top 14), defBody (top 14), defScope (top 14), [], []⟩, ["rows", "wide", "told", "columns", "row", "answer", "k"], ["rows"]⟩,
  ⟨⟨("_law_told", none), "_law_told", "_law_told", defArgs (top 25), defBody (top 25), defScope (top 25), [], []⟩, ["_law_found", "_law_due", "_law_k", "_law_number"], ["_law_found", "_law_due"]⟩,
  ⟨⟨("_law_cell", none), "_law_cell", "_law_cell", defArgs (top 19), defBody (top 19), defScope (top 19), [], []⟩, ["_law_script", "_law_at_here", "_law_k", "_law_wide_here"], ["_law_script", "_law_at_here", "_law_k", "_law_wide_here"]⟩,
  ⟨⟨("_law_lowest", none), "_law_lowest", "_law_lowest", defArgs (top 17), defBody (top 17), defScope (top 17), [], []⟩, ["_law_top", "_law_bottom", "_law_one", "_law_two"], ["_law_top", "_law_bottom"]⟩,
  ⟨⟨("_law_corner", none), "_law_corner", "_law_corner", defArgs (top 22), defBody (top 22), defScope (top 22), [], []⟩, ["_law_script", "_law_wide_here", "_law_order_here", "_law_far", "_law_rows_here", "_law_k", "_law_row", "_law_j", "_law_cell_here", "_law_number", "_law_c"], ["_law_script", "_law_wide_here"]⟩,
  ⟨⟨("_law_order", none), "_law_order", "_law_order", defArgs (top 21), defBody (top 21), defScope (top 21), [], []⟩, ["_law_cell_here", "_law_many", "_law_order_here", "_law_k"], ["_law_cell_here", "_law_many"]⟩,
  ⟨⟨("eliminated", none), "eliminated", "eliminated", defArgs (top 11), defBody (top 11), defScope (top 11), [], []⟩, ["rows", "wide", "row", "columns", "ahead", "column", "done", "at", "by", "k"], ["rows", "wide"]⟩,
  ⟨⟨("weights_of", none), "weights_of", "weights_of", defArgs (top 12), defBody (top 12), defScope (top 12), [], []⟩, ["rows", "wide", "many", "wider", "j", "k", "told", "columns", "row"], ["rows", "wide"]⟩,
  ⟨⟨("fraction", none), "fraction", "fraction", defArgs (top 7), defBody (top 7), defScope (top 7), [], []⟩, ["top", "bottom", "common"], ["top", "bottom"]⟩,
  ⟨⟨("still_of", none), "still_of", "still_of", defArgs (top 13), defBody (top 13), defScope (top 13), [], []⟩, ["told", "columns", "wide", "free", "still", "k"], ["told", "columns", "wide"]⟩,
  ⟨⟨("leading", none), "leading", "leading", defArgs (top 9), defBody (top 9), defScope (top 9), [], []⟩, ["rows", "start", "column", "k"], ["rows", "start", "column"]⟩,
  ⟨⟨("cleared", none), "cleared", "cleared", defArgs (top 10), defBody (top 10), defScope (top 10), [], []⟩, ["row", "by", "column", "ahead", "k"], ["row", "by", "column", "ahead"]⟩,
  ⟨⟨("divisor", none), "divisor", "divisor", defArgs (top 6), defBody (top 6), defScope (top 6), [], []⟩, ["one", "other"], ["one", "other"]⟩]
def i0 : DI := match dd with
  | i :: _ => i
  | [] => ⟨⟨("law", none), "law", "law", defArgs (top 0), [], defScope (top 0), [], []⟩, [], []⟩
def M : Mx where
  m := { T := T, dd := dd, fnm := [some ("law" : Str), some ("_law_wide" : Str), some ("_law_at" : Str), some ("_law_numbers" : Str), some ("_law_with_sum" : Str), some ("_law_rows" : Str), some ("answer_of" : Str), some ("_law_told" : Str), some ("_law_cell" : Str), some ("_law_lowest" : Str), some ("_law_corner" : Str), some ("_law_order" : Str), some ("eliminated" : Str), some ("weights_of" : Str), some ("fraction" : Str), some ("still_of" : Str), some ("leading" : Str), some ("cleared" : Str), some ("divisor" : Str)], cnm := ["NoAnswer", "DuelError", "ManyAnswers", "NoNumber"], gnm := [], mnm := ["weights", "answer", "still"], mks := [], cts := [], rs := [3], sups := [], xin := [⟨0, 1, ⟨⟨("NoAnswer", some "__init__"), "__init__", "NoAnswer.__init__", defArgs (mth 3 0), defBody (mth 3 0), defScope (mth 3 0), [], []⟩, ["self", "weights"], ["self", "weights"]⟩, [0]⟩, ⟨2, 1, ⟨⟨("ManyAnswers", some "__init__"), "__init__", "ManyAnswers.__init__", defArgs (mth 4 0), defBody (mth 4 0), defScope (mth 4 0), [], []⟩, ["self", "answer", "still"], ["self", "answer", "still"]⟩, [1, 2]⟩] }
  xcs := [0, 2, 3]
theorem mo : MoOk M.m := moB_ok (by decide +kernel)
theorem hd : headB M = true := by decide +kernel
abbrev hk : PySem.W.Hook := Ip.hookY 4 M.fa M.fn (exB M)
def ob (s : PySem.W.SharedT) : He.AlX := Ip.obsY 4 M.fa M.fn (exB M) (HandSHeadRun.getT s)
theorem ob_eq (s : PySem.W.SharedT) : ob s = hk.obs s.abs := Ip.obsY_eq (HandSHeadRun.getT_eq s)
def loose : List Str := ([("DuelError" : Str), ("NoNumber" : Str), ("NoAnswer" : Str), ("ManyAnswers" : Str), ("divisor" : Str), ("fraction" : Str), ("leading" : Str), ("cleared" : Str), ("eliminated" : Str), ("weights_of" : Str), ("still_of" : Str), ("answer_of" : Str), ("_law_at" : Str), ("_law_lowest" : Str), ("_law_wide" : Str), ("_law_cell" : Str), ("_law_numbers" : Str), ("_law_order" : Str), ("_law_corner" : Str), ("_law_rows" : Str), ("_law_with_sum" : Str), ("_law_told" : Str)] : List Str)
def lawIx : Nat := 26
theorem run (w : World) : HandSHeadRun.RunEq R (PySem.W.view R.prog [26]) hk ob 15000 loose w := by
  intro os
  kernel_rfl
end K11
namespace K11
open Ip
open PySem (Str)
open scoped Rat
/-! PURE -/
/-! rows -/
/-- where a column's number leads -/
def Leads (rs : List Row) (s c : Nat) (r : U) : Prop := (r = .non ∧ ∀ (j : Nat) (q : Row), s ≤ j → rs[j]? = some q → at_ q c = 0) ∨ ∃ (j : Nat) (q : Row), s ≤ j ∧ rs[j]? = some q ∧ at_ q c ≠ 0 ∧ r = .int (j : Nat)
theorem leading_ {k : Nat} (hk : 3 ≤ k) {rs : List Row} {s c : Nat} (hl : rs.length ≤ 1000) (hs : s ≤ rs.length) (hc : ∀ r ∈ rs, c < r.length) : ∃ r, callU T I k n_leading [eM rs, .int (s : Nat), .int (c : Nat)] = some (.ok r) ∧ Leads rs s c r := by
  refine callW (k := k) (R := fun x => ∃ r, x = some (.ok r) ∧ Leads rs s c r) fn_leading hk rfl ?_
  intro Q hQ
  simp [b_leading]
  refine Wl_range2 (fun j ρ => ∃ x, ρ = [.val (eM rs), .val (.int (s : Nat)), .val (.int (c : Nat)), x] ∧ ∀ (i : Nat) (q : Row), s ≤ i → i < j → rs[i]? = some q → at_ q c = 0) (by omega) (by omega) ⟨_, rfl, fun i q h1 h2 => by omega⟩ hs (fun j ρ h1 h2 ⟨x, e, hz⟩ N B hN hB => ?_) (fun ρ ⟨x, e, hz⟩ => ?_)
  · subst e
    have hq := List.getElem?_eq_getElem h2
    have h3 := idx_eM hq
    have h4 := idx_eR (hc _ (List.getElem_mem h2))
    generalize rs[j] = q at *
    by_cases h0 : at_ q c = 0
    · simp [Wx_iff, h3, h4, h0]
      refine hN _ ⟨_, rfl, fun i p i1 i2 i3 => ?_⟩
      by_cases e : i = j
      · subst e; rw [hq] at i3; cases i3; exact h0
      · exact hz i p i1 (by omega) i3
    · simp [Wx_iff, h3, h4, h0]
      exact hQ _ ⟨_, rfl, .inr ⟨j, q, h1, hq, h0, rfl⟩⟩
  · subst e
    simp [Wx_cons]
    exact hQ _ ⟨_, rfl, .inl ⟨rfl, fun i q i1 i2 => hz i q i1 (List.getElem?_eq_some_iff.mp i2).1 i2⟩⟩
theorem cleared_ {k : Nat} (hk : 3 ≤ k) {row b : Row} {c n : Nat} {d : Int} (hr : row.length = n) (hb : b.length = n) (hc : c < n) (hn : n ≤ 1000) (d0 : d ≠ 0) (ds : Sz 9000 d) (hsr : ∀ j, Sz 30000 (at_ row j)) (hsb : ∀ j, Sz 30000 (at_ b j)) :
    callU T I k n_cleared [eR row, eR b, .int (c : Nat), .int d] = some (.ok (eR (clr row b c d))) := by
  refine callW (k := k) (R := fun x => x = some (.ok (eR (clr row b c d)))) fn_cleared hk rfl ?_
  intro Q hQ
  have h1 := idx_eR (r := row) (j := c) (by omega)
  have h2 := idx_eR (r := b) (j := c) (by omega)
  have hlc : lcU (lcG (GV T I k) (.bin .fdiv (.bin .sub (.bin .mul (.idx (.var 1) (.var 2)) (.idx (.var 0) (.var 4))) (.bin .mul (.idx (.var 0) (.var 2)) (.idx (.var 1) (.var 4)))) (.var 3)) [4] [] [.val (eR row), .val (eR b), .val (.int (c : Nat)), .val (.int d), .emp]) ((List.range row.length).map fun (i : Nat) => U.int i) = some ((clr row b c d).map U.int) := by
    unfold clr
    rw [List.map_map]
    refine lcU_map fun j hj => ?_
    have hj' : j < row.length := List.mem_range.mp hj
    have h3 := idx_eR (r := row) (j := j) hj'
    have h4 := idx_eR (r := b) (j := j) (by omega)
    have m1 := opU_mul (hsb c) (hsr j) (by decide) (by decide)
    have m2 := opU_mul (hsr c) (hsb j) (by decide) (by decide)
    have f : ∀ x : Int, opU .fdiv (.int x) (.int d) = some (.int (x.fdiv d)) := fun x => by
      show (if d ≠ 0 ∧ d.natAbs.log2 < 9000 then some (U.int (x.fdiv d)) else none) = _
      rw [if_pos ⟨d0, ds.log (by decide)⟩]
    simp [lcG, h1, h2, h3, h4, m1, m2, f]
  simp [b_cleared]
  rw [itU_len (by omega), lcF_ok hlc (by simp; omega) (by simp [clr_len]; omega)]
  simp
  exact hQ _ rfl
/-! rows freed -/
def elI : List Sx := [.iff (.cmp .ne (.var 9) (.var 6)) [.sub (.var 0) (.var 9) (.call n_cleared [.idx (.var 0) (.var 9), .var 8, .var 5, .var 4])] []]
def elB : List Sx := [.asg 6 (.bif .len [.var 3]), .asg 7 (.call n_leading [.var 0, .var 6, .var 5]), .iff (.cmp .isN (.var 7) .non) [.cnt] [], .asg 8 (.bm (.var 0) .pop [.var 7]), .exp (.bm (.var 0) .insert [.var 6, .var 8]), .for [9] .range1 [.bif .len [.var 0]] elI, .asg 4 (.idx (.var 8) (.var 5)), .exp (.bm (.var 3) .append [.var 5])]
theorem b_eliminated_eq : b_eliminated = [.asg 0 (.lc (.bif .list [.var 2]) [2] .val [.var 0] []), .asg 3 (.lst []), .asg 4 (.int 1), .for [5] .range1 [.var 1] elB, .ret (.tup [.var 0, .var 3])] := rfl
/-- a column -/
theorem el_col {k : Nat} (hk : 5 ≤ k) {A : List Row} {n w c : Nat} (hm : A.length ≤ 500) (hn : n ≤ 500) (hw : w ≤ n) (hc : c < w) {P Q : List (Row × Row)} {cols : List Nat} {d : Int} (J : El n A c P Q cols d) (hz : ElSz P Q d) {x2 x5 x6 x7 x8 x9 : Sl} {N B : EU → Prop} {Z : FlU → EU → Prop}
    (hN : ∀ ρ', (∃ P Q cols d x2 x5 x6 x7 x8 x9, ρ' = [.own (eM (elR P Q)), .val (.int (w : Nat)), x2, .own (eC cols.reverse), .val (.int d), x5, x6, x7, x8, x9] ∧ El n A (c + 1) P Q cols d) → N ρ') :
    Wt (GV T I k) [0, 3] [5] elB (.int (c : Nat)) [.own (eM (elR P Q)), .val (.int (w : Nat)), x2, .own (eC cols.reverse), .val (.int d), x5, x6, x7, x8, x9] N B Z := by
  have hl := J.lenA
  have hcl := J.lenC
  obtain ⟨r, hr, hL⟩ := leading_ (k := k - 1) (by omega) (rs := elR P Q) (s := cols.length) (c := c) (by rw [elR_len]; omega) (by rw [elR_len, ← J.lenP]; omega) (fun r hr => by
    obtain ⟨p, hp, e⟩ := elR_mem hr
    rw [← e, (J.len p hp).2]
    omega)
  rcases hL with ⟨e, h0⟩ | ⟨j, q, hj, hq, h0, e⟩
  · -- no row has the unknown
    subst e
    simp [elB, hr]
    refine hN _ ⟨P, Q, cols, d, _, _, _, _, _, _, rfl, J.skip fun q hq => ?_⟩
    obtain ⟨i, hi⟩ := List.mem_iff_getElem?.mp hq
    exact h0 (P.length + i) q.2 (by rw [J.lenP]; omega) (elR_at hi)
  · subst e
    -- the row that leads
    obtain ⟨Q1, b, Q2, eQ, e, ej⟩ := elR_of hq (by rw [J.lenP]; exact hj)
    subst e eQ
    have JS := J.step h0
    obtain ⟨xs, ys, zs, e1, e2, e3, e4, e5⟩ := el_mv P Q1 Q2 b
    rw [List.length_append, List.length_cons] at hl
    have hbm : b ∈ P ++ (Q1 ++ b :: Q2) := by simp
    have hix : idxU (eR b.2) (.int (c : Nat)) = some (.int (at_ b.2 c)) := idx_eR (by rw [(J.len b hbm).2]; omega)
    have rlen : (elM P b.2 (Q1 ++ Q2)).length = A.length := by rw [elM_len, List.length_append]; omega
    have hpop := fun (ρ : EU) (kk : U → List U → Option (FlU × EU)) => muU_pop (ρ := ρ) (xs := xs ++ (ys ++ eR b.2 :: zs)) (i := j) (u := eR b.2) (k := kk) (by
      rw [ej, ← e2, ← e3, List.getElem?_append_right (by omega), Nat.add_sub_cancel_left, List.getElem?_append_right (by omega)]
      simp) (by omega)
    have eer : (xs ++ (ys ++ eR b.2 :: zs)).eraseIdx j = xs ++ (ys ++ zs) := by
      rw [ej, ← e2, ← e3]
      exact erase_mid _ _ _ _
    rw [eer] at hpop
    have hins := fun (ρ : EU) (kk : U → List U → Option (FlU × EU)) => muU_ins (ρ := ρ) (xs := xs ++ (ys ++ zs)) (i := cols.length) (u := eR b.2) (k := kk) (by simp; omega) (by omega)
    have ec : cols.length = xs.length := by rw [e2, J.lenP]
    rw [show (xs ++ (ys ++ zs)).take cols.length = xs by rw [ec, List.take_left], show (xs ++ (ys ++ zs)).drop cols.length = ys ++ zs by rw [ec, List.drop_left]] at hins
    have hmem : ∀ q ∈ elM P b.2 (Q1 ++ Q2), ∃ p ∈ P ++ (Q1 ++ b :: Q2), p.2 = q := fun q hq => by
      rcases elM_mem hq with e | ⟨p, hp, e⟩
      · exact ⟨b, hbm, e.symm⟩
      · refine ⟨p, ?_, e⟩
        rcases List.mem_append.mp hp with z | z
        · exact List.mem_append_left _ z
        · rcases List.mem_append.mp z with z | z <;> simp [z]
    have hend := elM_end P (Q1 ++ Q2) b c d
    rw [rlen, J.lenP] at hend
    have hmu := fun (ρ : EU) (kk : U → List U → Option (FlU × EU)) => muU_app (ρ := ρ) (xs := cols.reverse.map fun (c : Nat) => U.int c) (u := .int (c : Nat)) (k := kk) (by simp; omega)
    have hcs : U.lst ((cols.reverse.map fun (c : Nat) => U.int c) ++ [.int (c : Nat)]) = eC (c :: cols).reverse := by
      unfold eC
      simp
    have hcs2 : eC cols.reverse = .lst (cols.reverse.map fun (c : Nat) => U.int c) := rfl
    have hcl2 : bfnU .len [eC cols.reverse] = some (.int (cols.length : Nat)) := by rw [len_eC, List.length_reverse]
    have hcl1 : ∀ q ∈ elM P b.2 (Q1 ++ Q2), callU T I (k - 1) n_cleared [eR q, eR b.2, .int (c : Nat), .int d] = some (.ok (eR (clr q b.2 c d))) := fun q hq => by
      obtain ⟨p, hp, hpe⟩ := hmem q hq
      exact cleared_ (by omega) (n := n) (by rw [← hpe]; exact (J.len p hp).2) (J.len b hbm).2 (by omega) (by omega) J.d0 hz.d (by rw [← hpe]; exact hz.r p hp) (hz.r b hbm)
    generalize elM P b.2 (Q1 ++ Q2) = R0 at *
    rw [e1] at hr ⊢
    generalize xs ++ (ys ++ eR b.2 :: zs) = X0 at *
    generalize xs ++ (ys ++ zs) = X1 at *
    generalize xs ++ eR b.2 :: (ys ++ zs) = X2 at *
    rw [hcs2] at hcl2 ⊢
    generalize cols.reverse.map (fun (c : Nat) => U.int c) = C0 at *
    have hcl3 : C0.length = cols.length := by
      rw [bfnU_lenL] at hcl2
      simp at hcl2
      omega
    simp [elB, hr, hpop, hins, e5, rlen, hcl3]
    refine Wl_range (n := A.length) (fun i ρ => ∃ x2 x9, ρ = [.own (eM (elL R0 cols.length b.2 c d i)), .val (.int (w : Nat)), x2, .own (.lst C0), .val (.int d), .val (.int (c : Nat)), .val (.int (cols.length : Nat)), .val (.int (j : Nat)), .val (eR b.2), x9]) (by omega) ⟨_, _, by rw [elL_zero]⟩ (fun i ρ hi ⟨y2, y9, e⟩ N2 B2 hN2 hB2 => ?_) (fun ρ ⟨y2, y9, e⟩ => ?_)
    · subst e
      rw [Wt_one]
      have hil : i < R0.length := by omega
      have hqi := List.getElem?_eq_getElem hil
      by_cases e : i = cols.length
      · subst e
        rw [elL_same] at *
        simp [elI]
        exact hN2 _ ⟨_, _, rfl⟩
      · have hc1 := hcl1 R0[i] (List.getElem_mem hil)
        generalize R0[i] = q at hqi hc1
        have hix2 := idx_eM (elL_at (r := cols.length) (b := b.2) (c := c) (d := d) hqi)
        have hset := fun (ρ : EU) => subU_eM (ρ := ρ) (rs := elL R0 cols.length b.2 c d i) (r := clr q b.2 c d) (i := i) (j := 0) (by rw [elL_len]; omega)
        rw [elL_set hqi e] at hset
        have e' : ¬ (i : Int) = (cols.length : Int) := by omega
        generalize elL R0 cols.length b.2 c d (i + 1) = L2 at *
        generalize elL R0 cols.length b.2 c d i = L1 at *
        simp [elI, e', hix2, hc1, uno1_val, hset]
        exact hN2 _ ⟨_, _, rfl⟩
    · subst e
      rw [hend]
      generalize hRR : elR (b :: P.map (clrP b.2 c d)) ((Q1 ++ Q2).map (clrP b.2 c d)) = RR at *
      simp [hix, hmu]
      rw [← hRR, hcs]
      exact hN _ ⟨_, _, _, _, _, _, _, _, _, _, rfl, JS⟩
theorem eliminated_ {k : Nat} (hk : 5 ≤ k) {A : List Row} {n w B K : Nat} (hA : ∀ a ∈ A, a.length = n) (hm : A.length ≤ 500) (hn : n ≤ 500) (hw : w ≤ n) (hB : ∀ a ∈ A, ∀ j, (at_ a j).natAbs ≤ B) (hB1 : 1 ≤ B) (hK1 : 1 ≤ K) (hK : w ≤ K) (hKl : K ≤ 1000) (hs : (K * B) ^ K < 2 ^ 9000) :
    ∃ P Q cols d, callU T I k n_eliminated [eM A, .int (w : Nat)] = some (.ok (.tup [eM (elR P Q), eC cols.reverse])) ∧ El n A w P Q cols d := by
  refine callW (k := k) (us := [eM A, .int (w : Nat)]) (R := fun x => ∃ P Q cols d, x = some (.ok (.tup [eM (elR P Q), eC cols.reverse])) ∧ El n A w P Q cols d) fn_eliminated (by omega) rfl ?_
  intro Z hZ
  have hcopy : lcU (lcG (GV T I k) (.bif .list [.var 2]) [2] [] [.val (eM A), .val (.int (w : Nat)), .emp, .emp, .emp, .emp, .emp, .emp, .emp, .emp]) (A.map eR) = some (A.map eR) := lcU_map fun a _ => by simp [lcG]
  have hcopy2 := lcF_ok hcopy (by simp; omega) (by simp; omega)
  have st0 : elR [] (A.map fun a => (a, a)) = A := by simp [elR, Function.comp_def]
  have st1 : U.lst (A.map eR) = eM A := rfl
  rw [st1] at hcopy2
  simp [b_eliminated_eq, hcopy2]
  refine Wl_range (n := w) (fun c ρ => ∃ P Q cols d x2 x5 x6 x7 x8 x9, ρ = [.own (eM (elR P Q)), .val (.int (w : Nat)), x2, .own (eC cols.reverse), .val (.int d), x5, x6, x7, x8, x9] ∧ El n A c P Q cols d) (by omega) ⟨[], A.map fun a => (a, a), [], 1, .emp, .emp, .emp, .emp, .emp, .emp, by rw [st0]; rfl, El.start hA⟩ (fun c ρ hc ⟨P, Q, cols, d, x2, x5, x6, x7, x8, x9, e, J⟩ N B' hN hB' => ?_) (fun ρ ⟨P, Q, cols, d, x2, x5, x6, x7, x8, x9, e, J⟩ => ?_)
  · subst e
    exact el_col hk hm hn hw hc J (J.sz hB hB1 hK1 (by omega) hKl hs) hN
  · subst e
    simp [uno1_own]
    exact hZ _ ⟨P, Q, cols, d, rfl, J⟩
/-! answers of rows -/
open scoped Rat
theorem fraction_ {k : Nat} {a b : Int} (hk : 4 ≤ k) (hb0 : b ≠ 0) (hb : Sz 9000 b) : callU T I k n_fraction [.int a, .int b] = some (.ok (encQ (a /. b))) := fraction_okU fn_fraction in_fraction fn_divisor in_divisor hk hb0 hb
theorem weights_ {k : Nat} (hk : 8 ≤ k) {A : List Row} {w B K : Nat} (hA : ∀ a ∈ A, a.length = w + 1) (hm : A.length ≤ 400) (hw : w ≤ 90) (hB : ∀ a ∈ A, ∀ j, (at_ a j).natAbs ≤ B) (hB1 : 1 ≤ B) (hK1 : 1 ≤ K) (hK : w ≤ K) (hKl : K ≤ 1000) (hs : (K * B) ^ K < 2 ^ 9000) (hno : ¬ ∃ Y, Sol A w Y) :
    ∃ W : Row, callU T I k n_weights_of [eM A, .int (w : Nat)] = some (.ok (eR W)) ∧ W.length = A.length ∧ (∀ j, j < w → prods W A j = 0) ∧ prods W A w ≠ 0 := by
  refine callW (k := k) (us := [eM A, .int (w : Nat)]) (R := fun x => ∃ W : Row, x = some (.ok (eR W)) ∧ W.length = A.length ∧ (∀ j, j < w → prods W A j = 0) ∧ prods W A w ≠ 0) fn_weights_of (by omega) rfl ?_
  intro Z hZ
  obtain ⟨P, Q, cols, d, hel, J⟩ := eliminated_ (k := k - 1) (by omega) (A := wider A) (w := w) (n := w + 1 + A.length) (wider_len hA) (by unfold wider; rw [List.length_mapIdx]; omega) (by omega) (by omega) (wider_bd hA hB hB1) hB1 hK1 hK hKl hs
  have hin : ∀ (i : Nat) (ρ : EU), ρ[5]? = some (.val (.int (i : Nat))) → ρ.length = 9 → ρ[2]? = some (.val (.int (A.length : Nat))) → lcU (lcG (GV T I k) (.bif .int [.cmp .eq (.var 5) (.var 4)]) [4] [] ρ) ((List.range A.length).map fun (j : Nat) => U.int j) = some ((unitR A.length i).map U.int) := fun i ρ h5 h9 h2 => by
    unfold unitR
    rw [List.map_map]
    refine lcU_map fun j hj => ?_
    have e4 : (ρ.set 4 (.val (.int (j : Nat))))[4]? = some (.val (.int (j : Nat))) := List.getElem?_set_self (by omega)
    have e5 : (ρ.set 4 (.val (.int (j : Nat))))[5]? = some (.val (.int (i : Nat))) := by rw [List.getElem?_set_ne (by decide), h5]
    simp [lcG, e4, e5]
    by_cases e : i = j
    · subst e; simp
    · have : ¬ (i : Int) = (j : Int) := by omega
      simp [e, this]
  have hmk : lcU (lcG (GV T I k) (.bin .add (.idx (.var 0) (.var 5)) (.lc (.bif .int [.cmp .eq (.var 5) (.var 4)]) [4] .range1 [.var 2] [])) [5] [] [.val (eM A), .val (.int (w : Nat)), .val (.int (A.length : Nat)), .emp, .emp, .emp, .emp, .emp, .emp]) ((List.range A.length).map fun (i : Nat) => U.int i) = some ((wider A).map eR) := by
    have e : (wider A).map eR = (List.range A.length).map fun i => eR (A.getD i [] ++ unitR A.length i) := by
      refine List.ext_getElem? fun i => ?_
      unfold wider
      rw [List.getElem?_map, List.getElem?_mapIdx, List.getElem?_map]
      by_cases hi : i < A.length
      · rw [List.getElem?_range hi, Option.map_some, List.getD_eq_getElem?_getD, List.getElem?_eq_getElem hi]
        rfl
      · rw [List.getElem?_eq_none (by omega), List.getElem?_eq_none (by simp; omega)]
        rfl
    rw [e]
    refine lcU_map fun i hi => ?_
    have hi' : i < A.length := List.mem_range.mp hi
    have hix := idx_eM (List.getElem?_eq_getElem hi')
    have hgd : A.getD i [] = A[i] := by rw [List.getD_eq_getElem?_getD, List.getElem?_eq_getElem hi']; rfl
    have hl2 := hin i [.val (eM A), .val (.int (w : Nat)), .val (.int (A.length : Nat)), .emp, .emp, .val (.int (i : Nat)), .emp, .emp, .emp] rfl rfl rfl
    have hl3 := lcF_ok hl2 (by simp; omega) (by simp [unitR]; omega)
    have hadd : opU .add (eR A[i]) (.lst ((unitR A.length i).map U.int)) = some (eR (A[i] ++ unitR A.length i)) := by
      have hal := hA _ (List.getElem_mem hi')
      show (if (A[i].map U.int).length + ((unitR A.length i).map U.int).length ≤ 16777216 then some (U.lst (A[i].map U.int ++ (unitR A.length i).map U.int)) else none) = _
      rw [if_pos (by simp [hal, unitR]; omega), ← List.map_append]
      rfl
    rw [hgd]
    generalize unitR A.length i = ur at *
    generalize A[i] = ai at *
    simp [lcG, hix, itU_len (show A.length < 1000000000 by omega), hl3, hadd]
  have hmk2 := lcF_ok hmk (by simp; omega) (by unfold wider; simp; omega)
  have e3 : U.lst ((wider A).map eR) = eM (wider A) := rfl
  rw [e3] at hmk2
  have hlq : P.length ≤ (elR P Q).length := by rw [elR_len]; omega
  have hdr : (elR P Q).drop cols.length = Q.map (·.2) := by rw [← J.lenP]; exact elR_drop
  have hsl := slc_eM (r := cols.length) (by rw [← J.lenP]; exact hlq)
  rw [hdr] at hsl
  have hQl : Q.length ≤ 1000 := by
    have := J.lenA
    unfold wider at this
    rw [List.length_mapIdx] at this
    omega
  generalize elR P Q = told at *
  generalize wider A = wd at hmk2 hel
  have hcl2 : bfnU .len [eC cols.reverse] = some (.int (cols.length : Nat)) := by rw [len_eC, List.length_reverse]
  generalize eC cols.reverse = cs at *
  simp [b_weights_of, itU_len (show A.length < 1000000000 by omega), hmk2, hel, hcl2, hsl]
  refine Wl_map (fun i ρ => ∃ x4 x5 x8, ρ = [.val (eM A), .val (.int (w : Nat)), .val (.int (A.length : Nat)), .val (eM wd), x4, x5, .val (eM told), .val cs, x8] ∧ ∀ (l : Nat) (q : Row × Row), l < i → Q[l]? = some q → at_ q.2 w = 0) (by omega) ⟨_, _, _, rfl, fun l q h => by omega⟩ (fun i q ρ hq ⟨x4, x5, x8, e, hz⟩ N B' hN hB' => ?_) (fun ρ ⟨x4, x5, x8, e, hz⟩ => ?_)
  · subst e
    have hqm := List.mem_of_getElem? hq
    have hql := (J.len q (List.mem_append_right _ hqm)).2
    have hix := idx_eR (r := q.2) (j := w) (by omega)
    by_cases h0 : at_ q.2 w = 0
    · simp [hix, h0]
      refine hN _ ⟨_, _, _, rfl, fun l p hl hp => ?_⟩
      by_cases e : l = i
      · subst e; rw [hq] at hp; cases hp; exact h0
      · exact hz l p (by omega) hp
    · have hsl2 : slcU (eR q.2) (some ((w : Int) + 1)) none = some (eR (q.2.drop (w + 1))) := slc_eR (r := w + 1) (by omega)
      have hw1 := fun (j : Nat) (hj : j ≤ w) => J.weights hA hqm hj
      have hwl : (q.2.drop (w + 1)).length = A.length := by rw [List.length_drop, hql]; omega
      generalize q.2.drop (w + 1) = W at *
      simp [hix, h0, hsl2]
      exact hZ _ ⟨W, rfl, hwl, fun j hj => by rw [hw1 j (by omega)]; exact J.zer q hqm j hj, by rw [hw1 w (Nat.le_refl _)]; exact h0⟩
  · obtain ⟨q, hq, h0⟩ := J.badW hA hno
    obtain ⟨l, hl⟩ := List.mem_iff_getElem?.mp hq
    exact (h0 (hz l q (List.getElem?_eq_some_iff.mp hl).1 hl)).elim
/-- a list filled by what leads: a loop's turn -/
theorem fill_turn {n w k : Nat} (hk : 4 ≤ k) {A : List Row} {P Q : List (Row × Row)} {cols : List Nat} {d : Int} (J : El n A w P Q cols d) (ds : Sz 9000 d) {i : Nat} (hi : i < cols.length) (f : Nat) (hf : f < n) :
    ∃ (j : Nat) (r : Row), cols.reverse[i]? = some j ∧ (elR P Q)[i]? = some r ∧ idxU (eC cols.reverse) (.int (i : Nat)) = some (.int (j : Nat)) ∧ idxU (eM (elR P Q)) (.int (i : Nat)) = some (eR r) ∧ idxU (eR r) (.int (j : Nat)) = some (.int d) ∧ idxU (eR r) (.int (f : Nat)) = some (.int (at_ r f)) ∧ j < w ∧ ∀ a, callU T I k n_fraction [.int a, .int d] = some (.ok (encQ (a /. d))) := by
  have hil : i < cols.reverse.length := by rw [List.length_reverse]; exact hi
  obtain ⟨l, p, h1, h2, h3, h4, h5⟩ := J.row (List.getElem?_eq_getElem hil)
  have hpl := (J.len p (List.mem_append_left _ (List.mem_of_getElem? h2))).2
  by_cases hwn : cols.reverse[i] < n
  · exact ⟨_, p.2, List.getElem?_eq_getElem hil, h3, idx_eC (List.getElem?_eq_getElem hil), idx_eM h3, by rw [idx_eR (by omega), h4], idx_eR (by omega), h5, fun a => fraction_ hk J.d0 ds⟩
  · exfalso
    have := J.d0
    rw [← h4, at_out (by omega)] at this
    exact this rfl
theorem still_ {k : Nat} (hk : 5 ≤ k) {A : List Row} {n w : Nat} {P Q : List (Row × Row)} {cols : List Nat} {d : Int} (J : El n A w P Q cols d) (ds : Sz 9000 d) (hw : w ≤ 1000) (hwn : w < n) (hl : cols.length < w) :
    ∃ f S, callU T I k n_still_of [eM (elR P Q), eC cols.reverse, .int (w : Nat)] = some (.ok (eQ S)) ∧ f < w ∧ f ∉ cols ∧ S.length = w ∧ ∀ j, j < w → S.getD j 0 = stillX P cols d f j := by
  refine callW (k := k) (us := [eM (elR P Q), eC cols.reverse, .int (w : Nat)]) (R := fun x => ∃ f S, x = some (.ok (eQ S)) ∧ f < w ∧ f ∉ cols ∧ S.length = w ∧ ∀ j, j < w → S.getD j 0 = stillX P cols d f j) fn_still_of (by omega) rfl ?_
  intro Z hZ
  obtain ⟨g, hg1, hg2⟩ := notin_of_len J.dec J.lt hl
  have hcl2 : bfnU .len [eC cols.reverse] = some (.int (cols.length : Nat)) := by rw [len_eC, List.length_reverse]
  simp [b_still_of]
  refine Ww_inv (fun m ρ => ∃ f : Nat, ρ = [.val (eM (elR P Q)), .val (eC cols.reverse), .val (.int (w : Nat)), .val (.int (f : Nat)), .emp, .emp] ∧ f ≤ g ∧ m = g - f) (n := g) (by omega) ⟨0, rfl, by omega, by omega⟩ (fun m ρ ⟨f, e, hfg, hm⟩ N B hN hB => ?_)
  subst e
  have hin := isin_eC (i := f) (cs := cols.reverse)
  simp only [List.mem_reverse] at hin
  by_cases hf : f ∈ cols
  · rw [decide_eq_true hf] at hin
    generalize eC cols.reverse = cs at *
    simp [tsU, hin]
    have hne : f ≠ g := fun z => hg2 (by rw [← z]; exact hf)
    refine hN (g - (f + 1)) _ (by omega) ⟨f + 1, by simp, by omega, rfl⟩
  · rw [decide_eq_false hf] at hin
    have ft := fun (i : Nat) (hi : i < cols.length) => fill_turn (k := k - 1) (by omega) J ds hi f (by omega)
    have hfw : f < w := by omega
    have hrep := opU_rep (u := encQ 0) (w := w) (by omega)
    rw [eQ_rep] at hrep
    have hst := fun (ρ : EU) => subU_eQ (ρ := ρ) (rs := List.replicate w 0) (r := 1) (i := f) (j := 4) (by simpa using hfw)
    generalize hcs : eC cols.reverse = cs at *
    generalize htd : elR P Q = told at *
    simp [tsU, hin, encQ_01, encQ_11, hrep, hst, hcl2]
    have v : Nat → Rat := fun i => ((0 - at_ (told.getD i []) f) /. d : Rat)
    refine Wl_range (n := cols.length) (fun i ρ => ∃ x5, ρ = [.val (eM told), .val cs, .val (.int (w : Nat)), .val (.int (f : Nat)), .own (eQ (fillX ((List.replicate w 0).set f 1) cols.reverse (fun i => ((0 - at_ (told.getD i []) f) /. d : Rat)) i)), x5]) (by omega) ⟨_, rfl⟩ (fun i ρ hi ⟨x5, e⟩ N2 B2 hN2 hB2 => ?_) (fun ρ ⟨x5, e⟩ => ?_)
    · subst e
      obtain ⟨j, r, h1, h2, h3, h4, h5, h6, h7, h8⟩ := ft i hi
      have h8' := h8 (0 - at_ r f)
      have hset := fun (ρ : EU) => subU_eQ (ρ := ρ) (rs := fillX ((List.replicate w 0).set f 1) cols.reverse (fun i => ((0 - at_ (told.getD i []) f) /. d : Rat)) i) (r := ((0 - at_ r f) /. d : Rat)) (i := j) (j := 4) (by rw [fillX_len]; simpa using h7)
      have e1 : (fillX ((List.replicate w 0).set f 1) cols.reverse (fun i => ((0 - at_ (told.getD i []) f) /. d : Rat)) i).set j ((0 - at_ r f) /. d : Rat) = fillX ((List.replicate w 0).set f 1) cols.reverse (fun i => ((0 - at_ (told.getD i []) f) /. d : Rat)) (i + 1) := by
        rw [fillX, List.getD_eq_getElem?_getD, h1, List.getD_eq_getElem?_getD, h2]
        rfl
      rw [e1] at hset
      generalize fillX ((List.replicate w 0).set f 1) cols.reverse (fun i => ((0 - at_ (told.getD i []) f) /. d : Rat)) (i + 1) = F1 at *
      generalize fillX ((List.replicate w 0).set f 1) cols.reverse (fun i => ((0 - at_ (told.getD i []) f) /. d : Rat)) i = F0 at *
      generalize ((0 - at_ r f) /. d : Rat) = qq at *
      simp at h8'
      simp [h3, h4, h5, h6, h8', hset]
      exact hN2 _ ⟨_, rfl⟩
    · subst e
      have hfl : (fillX ((List.replicate w 0).set f 1) cols.reverse (fun i => ((0 - at_ (told.getD i []) f) /. d : Rat)) cols.length).length = w := by rw [fillX_len]; simp
      have hval : ∀ j, j < w → (fillX ((List.replicate w 0).set f 1) cols.reverse (fun i => ((0 - at_ (told.getD i []) f) /. d : Rat)) cols.length).getD j 0 = stillX P cols d f j := fun j hj => by
        unfold stillX
        by_cases hm : j ∈ cols
        · have hjf : j ≠ f := fun z => hf (by rw [← z]; exact hm)
          obtain ⟨l, hl1⟩ := List.mem_iff_getElem?.mp hm
          have hlp : l < P.length := by rw [J.lenP]; exact (List.getElem?_eq_some_iff.mp hl1).1
          obtain ⟨kk, k1, k2⟩ := J.row2 hl1 (List.getElem?_eq_getElem hlp)
          have hkl := (List.getElem?_eq_some_iff.mp k1).1
          rw [List.length_reverse] at hkl
          rw [if_neg hjf, idxOf_dec J.dec hl1, List.getD_eq_getElem?_getD, fillX_in (nodup_ne J.nod) (by simpa using hj) k1 cols.length (by simp) hkl]
          rw [htd] at k2
          dsimp only
          rw [List.getD_eq_getElem?_getD, k2, List.getD_eq_getElem?_getD, List.getElem?_eq_getElem hlp]
          simp only [Option.getD_some]
          rw [Rat.divInt_eq_div]
          simp
          grind
        · have hout := fillX_out (X0 := (List.replicate w 0).set f 1) (cs := cols.reverse) (v := fun i => ((0 - at_ (told.getD i []) f) /. d : Rat)) (j := j) cols.length (by simp) (fun l _ z => hm (List.mem_reverse.mp (List.mem_of_getElem? z)))
          rw [List.getD_eq_getElem?_getD, hout]
          by_cases hjf : j = f
          · subst hjf
            rw [if_pos rfl, List.getElem?_set_self (by simpa using hj)]
            rfl
          · rw [if_neg hjf, List.getElem?_set_ne (by omega), List.getElem?_replicate, if_pos hj, List.idxOf?_eq_none_iff.mpr (by simpa using hm)]
            rfl
      generalize fillX ((List.replicate w 0).set f 1) cols.reverse (fun i => ((0 - at_ (told.getD i []) f) /. d : Rat)) cols.length = F0 at *
      simp
      exact hZ _ ⟨f, F0, rfl, hfw, hf, hfl, hval⟩

/-! the answer of rows -/
/-- rows that have no answer -/
structure AnsNo (A : List Row) (w : Nat) (W : Row) : Prop where
  len : W.length = A.length
  zero : ∀ j, j < w → prods W A j = 0
  no : prods W A w ≠ 0
/-- rows with more than one -/
structure AnsMany (A : List Row) (w : Nat) (X S : List Rat) : Prop where
  lenX : X.length = w
  lenS : S.length = w
  sol : Sol A w fun j => X.getD j 0
  still : ∀ a ∈ A, dot w a (fun j => S.getD j 0) = 0
  ne : ∃ f, f < w ∧ S.getD f 0 = 1
structure AnsOne (A : List Row) (w B K : Nat) (X : List Rat) : Prop where
  len : X.length = w
  sol : Sol A w fun j => X.getD j 0
  tight : Tight A w
  qs : ∀ N, 0 < N → (K * B) ^ K < 2 ^ N → ∀ q ∈ X, Qs N q
theorem answer_ {k : Nat} (hk : 12 ≤ k) {A : List Row} {w B K : Nat} (hA : ∀ a ∈ A, a.length = w + 1) (hm0 : 0 < A.length) (hm : A.length ≤ 400) (hw : w ≤ 90) (hB : ∀ a ∈ A, ∀ j, (at_ a j).natAbs ≤ B) (hB1 : 1 ≤ B) (hK1 : 1 ≤ K) (hK : w ≤ K) (hKl : K ≤ 1000) (hs : (K * B) ^ K < 2 ^ 9000) :
    (∃ W, callU T I k n_answer_of [eM A] = some (.ex ⟨c_NoAnswer, [(m_weights, eR W)]⟩) ∧ AnsNo A w W)
    ∨ (∃ X S, callU T I k n_answer_of [eM A] = some (.ex ⟨c_ManyAnswers, [(m_still, eQ S), (m_answer, eQ X)]⟩) ∧ AnsMany A w X S)
    ∨ (∃ X, callU T I k n_answer_of [eM A] = some (.ok (eQ X)) ∧ AnsOne A w B K X) := by
  refine callW (k := k) (us := [eM A]) (R := fun x => (∃ W, x = some (.ex ⟨c_NoAnswer, [(m_weights, eR W)]⟩) ∧ AnsNo A w W) ∨ (∃ X S, x = some (.ex ⟨c_ManyAnswers, [(m_still, eQ S), (m_answer, eQ X)]⟩) ∧ AnsMany A w X S) ∨ (∃ X, x = some (.ok (eQ X)) ∧ AnsOne A w B K X)) fn_answer_of (by omega) rfl ?_
  intro Z hZ
  obtain ⟨P, Q, cols, d, hel, J⟩ := eliminated_ (k := k - 1) (by omega) hA (by omega) (by omega) (by omega : w ≤ w + 1) hB hB1 hK1 hK hKl hs
  have hz := J.sz hB hB1 hK1 hK hKl hs
  have hidx : idxU (eM A) (.int 0) = some (eR A[0]) := idx_eM (List.getElem?_eq_getElem hm0)
  have hl0 : bfnU .len [eR A[0]] = some (.int ((w : Int) + 1)) := by
    rw [len_eR, hA _ (List.getElem_mem hm0)]
    rfl
  have hlq : P.length ≤ (elR P Q).length := by rw [elR_len]; omega
  have hdr : (elR P Q).drop cols.length = Q.map (·.2) := by rw [← J.lenP]; exact elR_drop
  have hsl := slc_eM (r := cols.length) (by rw [← J.lenP]; exact hlq)
  rw [hdr] at hsl
  have hQl := J.lenA
  have hcl2 : bfnU .len [eC cols.reverse] = some (.int (cols.length : Nat)) := by rw [len_eC, List.length_reverse]
  have hcw := J.lenC
  have ft := fun (i : Nat) (hi : i < cols.length) => fill_turn (k := k - 1) (by omega) J hz.d hi w (by omega)
  have hst := fun (h : cols.length < w) => still_ (k := k - 1) (by omega) J hz.d (by omega) (by omega) h
  have hwe := fun (h : ¬ ∃ Y, Sol A w Y) => weights_ (k := k - 1) (by omega) hA hm hw hB hB1 hK1 hK hKl hs h
  have hrep := opU_rep (u := encQ 0) (w := w) (by omega)
  rw [eQ_rep] at hrep
  generalize hcs : eC cols.reverse = cs at *
  generalize htd : elR P Q = told at *
  generalize A[0] = a0 at *
  simp [b_answer_of, hidx, hl0, hel, hcl2, hsl]
  refine Wl_map (xs := Q) (fun i ρ => ∃ x4, ρ = [.val (eM A), .val (.int (w : Nat)), .val (eM told), .val cs, x4, .emp, .emp] ∧ ∀ (l : Nat) (q : Row × Row), l < i → Q[l]? = some q → at_ q.2 w = 0) (by omega) ⟨_, rfl, fun l q h => by omega⟩ (fun i q ρ hq ⟨x4, e, hq0⟩ N B' hN hB' => ?_) (fun ρ ⟨x4, e, hq0⟩ => ?_)
  · subst e
    have hqm := List.mem_of_getElem? hq
    have hql := (J.len q (List.mem_append_right _ hqm)).2
    have hix := idx_eR (r := q.2) (j := w) (by omega)
    by_cases h0 : at_ q.2 w = 0
    · simp [hix, h0]
      refine hN _ ⟨_, rfl, fun l p hl hp => ?_⟩
      by_cases e : l = i
      · subst e; rw [hq] at hp; cases hp; exact h0
      · exact hq0 l p (by omega) hp
    · obtain ⟨W, w1, w2, w3, w4⟩ := hwe (fun ⟨Y, hY⟩ => h0 (J.solQ hY q hqm))
      simp [hix, h0, w1]
      exact hZ _ (.inl ⟨W, rfl, w2, w3, w4⟩)
  · subst e
    have hq1 : ∀ q ∈ Q, at_ q.2 w = 0 := fun q hq => by
      obtain ⟨l, hl⟩ := List.mem_iff_getElem?.mp hq
      exact hq0 l q (List.getElem?_eq_some_iff.mp hl).1 hl
    have hfy := J.fillY (v := fun i => ((at_ (told.getD i []) w) /. d : Rat)) (fun i r hi hr => by
      rw [htd] at hr
      rw [List.getD_eq_getElem?_getD, hr, Rat.divInt_eq_div]
      rfl)
    have hsol := hfy.sol J (Nat.le_refl _) hq1
    have hfl : (fillX (List.replicate w 0) cols.reverse (fun i => ((at_ (told.getD i []) w) /. d : Rat)) cols.length).length = w := by rw [fillX_len]; simp
    have hqs : ∀ N, 0 < N → (K * B) ^ K < 2 ^ N → ∀ q ∈ fillX (List.replicate w 0) cols.reverse (fun i => ((at_ (told.getD i []) w) /. d : Rat)) cols.length, Qs N q := fun N hN0 hN q hq => by
      rcases fillX_mem _ hq with h | ⟨l, h1, h2⟩
      · rw [List.mem_replicate] at h
        rw [h.2]
        exact Qs.zero hN0
      · subst h2
        obtain ⟨j, r, r1, r2, _⟩ := ft l h1
        rw [List.getD_eq_getElem?_getD, r2]
        obtain ⟨l', p, _, p2, p3, _, _⟩ := J.row r1
        rw [htd, r2] at p3
        cases p3
        exact Qs.ofne J.d0 (Sz.of_le (J.bdP hB hB1 hK1 (by omega) (List.mem_of_getElem? p2) w) hN) (Sz.of_le (J.bdD hB hB1 hK1 (by omega)) hN)
    simp [encQ_01, hrep, hcl2]
    refine Wl_range (n := cols.length) (fun i ρ => ∃ x4 x6, ρ = [.val (eM A), .val (.int (w : Nat)), .val (eM told), .val cs, x4, .own (eQ (fillX (List.replicate w 0) cols.reverse (fun i => ((at_ (told.getD i []) w) /. d : Rat)) i)), x6]) (by omega) ⟨_, _, rfl⟩ (fun i ρ hi ⟨x5, x6, e⟩ N2 B2 hN2 hB2 => ?_) (fun ρ ⟨x5, x6, e⟩ => ?_)
    · subst e
      obtain ⟨j, r, h1, h2, h3, h4, h5, h6, h7, h8⟩ := ft i hi
      have h8' := h8 (at_ r w)
      have hset := fun (ρ : EU) => subU_eQ (ρ := ρ) (rs := fillX (List.replicate w 0) cols.reverse (fun i => ((at_ (told.getD i []) w) /. d : Rat)) i) (r := ((at_ r w) /. d : Rat)) (i := j) (j := 5) (by rw [fillX_len]; simpa using h7)
      have e1 : (fillX (List.replicate w 0) cols.reverse (fun i => ((at_ (told.getD i []) w) /. d : Rat)) i).set j ((at_ r w) /. d : Rat) = fillX (List.replicate w 0) cols.reverse (fun i => ((at_ (told.getD i []) w) /. d : Rat)) (i + 1) := by
        rw [fillX, List.getD_eq_getElem?_getD, h1, List.getD_eq_getElem?_getD, h2]
        rfl
      rw [e1] at hset
      generalize fillX (List.replicate w 0) cols.reverse (fun i => ((at_ (told.getD i []) w) /. d : Rat)) (i + 1) = F1 at *
      generalize fillX (List.replicate w 0) cols.reverse (fun i => ((at_ (told.getD i []) w) /. d : Rat)) i = F0 at *
      generalize ((at_ r w) /. d : Rat) = qq at *
      simp [h3, h4, h5, h6, h8', hset]
      exact hN2 _ ⟨_, _, rfl⟩
    · subst e
      generalize fillX (List.replicate w 0) cols.reverse (fun i => ((at_ (told.getD i []) w) /. d : Rat)) cols.length = F0 at *
      by_cases hlt : cols.length < w
      · obtain ⟨f, S, s1, s2, s3, s4, s5⟩ := hst hlt
        have hlt' : (cols.length : Int) < (w : Int) := by omega
        simp [hcl2, hlt, s1]
        refine hZ _ (.inr (.inl ⟨F0, S, rfl, hfl, s4, hsol, fun a ha => ?_, f, s2, ?_⟩))
        · rw [dot_ext w s5]
          exact J.still s2 s3 a ha
        · rw [s5 f s2]
          unfold stillX
          rw [if_pos rfl]
      · have hlt' : ¬ (cols.length : Int) < (w : Int) := by omega
        simp [hcl2, hlt]
        exact hZ _ (.inr (.inr ⟨F0, rfl, hfl, hsol, J.tight (by omega), hqs⟩))
/-! k11: what the script draws -/
theorem lat_ {k : Nat} (hk : 3 ≤ k) {ns : List Int} {i : Int} (h0 : 0 ≤ i) (h1 : i ≤ 1000) : ∃ n : Int, callU T I k n__law_at [.fro (ns.map U.int), .int i] = some (.ok (.int n)) ∧ 0 ≤ n ∧ n < 10 ^ 40 := by
  refine callW (k := k) (us := [.fro (ns.map U.int), .int i]) (R := fun x => ∃ n : Int, x = some (.ok (.int n)) ∧ 0 ≤ n ∧ n < 10 ^ 40) fn__law_at hk rfl ?_
  intro Z hZ
  by_cases h : i < ns.length
  · have hix := idxU_fro h0 h
    simp [b__law_at, h, hix]
    exact hZ _ ⟨_, rfl, by omega, by omega⟩
  · have hsl : slcU (.fro (ns.map U.int)) none (some 6) = some (.lst ((ns.take 6).map U.int)) := by
      show some (U.lst (cutL (ns.map U.int) none (some ((6 : Nat) : Int)))) = _
      rw [cutL_to, List.map_take]
    haveI : Bd 20 i := Bd.of (by omega) (by omega)
    haveI : Bd 20 (ns.length : Int) := Bd.of (by omega) (by omega)
    simp [b__law_at, h, hsl]
    rw [← List.map_take]
    refine Wl_map (xs := ns.take 6) (fun j ρ => ∃ (m : Int) (x : Sl), ρ = [.val (.fro (ns.map U.int)), .val (.int i), .val (.int m), x] ∧ 0 ≤ m ∧ m < 2147483647) (by simp; omega) ⟨_, _, rfl, by omega, by omega⟩ (fun j q ρ hq ⟨m, x, e, m0, m1⟩ N B hN hB => ?_) (fun ρ ⟨m, x, e, m0, m1⟩ => ?_)
    · subst e
      haveI : Bd 31 m := Bd.of (by omega) (by omega)
      simp
      exact hN _ ⟨_, _, rfl, by omega, by omega⟩
    · subst e
      haveI : Bd 31 m := Bd.of (by omega) (by omega)
      simp
      exact hZ _ ⟨_, rfl, by omega, by omega⟩
theorem lwide_ {k : Nat} (hk : 3 ≤ k) {n : Int} (n0 : 0 ≤ n) (n1 : n < 10 ^ 40) : ∃ w : Nat, callU T I k n__law_wide [.int n] = some (.ok (.int (w : Nat))) ∧ 1 ≤ w ∧ w ≤ 12 := by
  refine callW (k := k) (us := [.int n]) (R := fun x => ∃ w : Nat, x = some (.ok (.int (w : Nat))) ∧ 1 ≤ w ∧ w ≤ 12) fn__law_wide hk rfl ?_
  intro Z hZ
  haveI : Bd 140 n := Bd.of (by omega) (by omega)
  by_cases h : n * 69621 % 65521 % 8 = 5
  · simp [b__law_wide, h]
    exact hZ _ ⟨(6 + n % 7).toNat, by congr 3; omega, by omega, by omega⟩
  · simp [b__law_wide, h]
    exact hZ _ ⟨(1 + n % 5).toNat, by congr 3; omega, by omega, by omega⟩
theorem lcell_ {k : Nat} (hk : 4 ≤ k) {ns : List Int} {a i w : Int} (a0 : 0 ≤ a) (a1 : a ≤ 100) (h0 : 0 ≤ i) (h1 : i ≤ 500) : ∃ n : Int, callU T I k n__law_cell [.fro (ns.map U.int), .int a, .int i, .int w] = some (.ok (.int n)) ∧ 0 ≤ n ∧ n < 10 ^ 40 := by
  refine callW (k := k) (us := [.fro (ns.map U.int), .int a, .int i, .int w]) (R := fun x => ∃ n : Int, x = some (.ok (.int n)) ∧ 0 ≤ n ∧ n < 10 ^ 40) fn__law_cell (by omega) rfl ?_
  intro Z hZ
  by_cases h : w < 6
  · obtain ⟨n, e, n0, n1⟩ := lat_ (k := k - 1) (ns := ns) (i := a + i) (by omega) (by omega) (by omega)
    simp [b__law_cell, h, e]
    exact hZ _ ⟨_, rfl, n0, n1⟩
  · obtain ⟨n, e, n0, n1⟩ := lat_ (k := k - 1) (ns := ns) (i := a + i % 5) (by omega) (by omega) (by omega)
    haveI : Bd 140 n := Bd.of (by omega) (by omega)
    haveI : Bd 20 i := Bd.of (by omega) (by omega)
    simp [b__law_cell, h, e]
    exact hZ _ ⟨_, rfl, by omega, by omega⟩
/-- the bounds of a due number -/
def DueOk (x : Rat) : Prop := Qs 100 x ∧ (x.den : Int) ≤ 10 ^ 6
theorem llow_ {k : Nat} (hk : 3 ≤ k) {a b : Int} (hb0 : 0 < b) (hb : Sz 9000 b) : callU T I k n__law_lowest [.int a, .int b] = some (.ok (encQ (a /. b))) := by
  refine callW (k := k) (us := [.int a, .int b]) (R := fun x => x = some (.ok (encQ (a /. b)))) fn__law_lowest hk rfl ?_
  intro Z hZ
  obtain ⟨g, h1, h2, h3⟩ := euclidU (pre := uno [] (esc (GV T I k).fl (.cmp .ne (.var 3) (.int 0)))) (c := tsU (GV T I k) (.cmp .ne (.var 3) (.int 0))) (bd := xsU (GV T I k) [] [.par 2 3 (.var 3) (.bin .mod (.var 2) (.var 3))]) (E := fun x y => [.val (.int a), .val (.int b), .val (.int x), .val (.int y)]) (L := 9000) (a := a.natAbs) (b := b) (by decide) (by omega) hb (fun a b => by simp)
    (fun a b hb => by simp [tsU]) (fun a b hb => by simp [opU_mod hb])
  have hg : g = (Int.gcd a b : Int) := by
    have := h3 (.inr hb0)
    have e : Int.gcd (a.natAbs : Int) b = Int.gcd a b := by simp [Int.gcd]
    rw [e] at h2
    omega
  have hgd : (Int.gcd a b : Int) ∣ b := Int.gcd_dvd_right ..
  have hg0 : (0 : Int) < Int.gcd a b := by
    have : Int.gcd a b ≠ 0 := fun z => by
      have := (Int.gcd_eq_zero_iff.mp z).2
      omega
    omega
  have hgs : Sz 9000 (Int.gcd a b : Int) := hb.le (by
    have := Int.le_of_dvd hb0 hgd
    omega)
  obtain ⟨e1, e2⟩ := divInt_pos a hb0
  subst hg
  rw [show esc (GV T I k).fl (.cmp .ne (.var 3) (.int 0)) = [] by simp] at h1
  simp [b__law_lowest, Ww]
  rw [h1]
  simp [opU_fdiv hgs (Nat.le_refl _) hg0]
  exact hZ _ (by simp [encQ, e1, e2])
theorem lnumbers_ {k : Nat} (hk : 6 ≤ k) {ns : List Int} {w : Nat} (hw : w ≤ 12) : ∃ X : List Rat, callU T I k n__law_numbers [.fro (ns.map U.int), .int (w : Nat)] = some (.ok (eQ X)) ∧ X.length = w ∧ ∀ x ∈ X, DueOk x := by
  refine callW (k := k) (us := [.fro (ns.map U.int), .int (w : Nat)]) (R := fun x => ∃ X : List Rat, x = some (.ok (eQ X)) ∧ X.length = w ∧ ∀ x ∈ X, DueOk x) fn__law_numbers (by omega) rfl ?_
  intro Z hZ
  obtain ⟨n, e, n0, n1⟩ := lat_ (k := k - 1) (ns := ns) (i := 1) (by omega) (by omega) (by omega)
  haveI : Bd 140 n := Bd.of (by omega) (by omega)
  have key : ∃ far low : Int, idxU (.lst [.int 9, .int 1000000000, .int 1000000000000000000000000000000]) (.int (n % 3)) = some (.int far) ∧ idxU (.lst [.int 1, .int 12, .int 1000000]) (.int (n * 48271 % 65521 % 3)) = some (.int low) ∧ 0 < far ∧ far ≤ 10 ^ 30 ∧ 0 < low ∧ low ≤ 10 ^ 6 := by
    have h3 : n % 3 = 0 ∨ n % 3 = 1 ∨ n % 3 = 2 := by omega
    have h4 : n * 48271 % 65521 % 3 = 0 ∨ n * 48271 % 65521 % 3 = 1 ∨ n * 48271 % 65521 % 3 = 2 := by omega
    rcases h3 with h | h | h <;> rcases h4 with g | g | g <;> rw [h, g] <;> exact ⟨_, _, rfl, rfl, by omega, by omega, by omega, by omega⟩
  obtain ⟨far, low, k1, k2, f0, f1, l0, l1⟩ := key
  have body : ∀ far low : Int, 0 < far → far ≤ 10 ^ 30 → 0 < low → low ≤ 10 ^ 6 → Wx (GV T I k) [4] [.asg 4 (.lst []), .for [5] .range1 [.var 1] [.asg 6 (.call n__law_cell [.var 0, .int 2, .var 5, .var 1]), .exp (.bm (.var 4) .append [.call n__law_lowest [.bin .sub (.bin .mod (.var 6) (.bin .add (.bin .mul (.int 2) (.var 2)) (.int 1))) (.var 2), .bin .add (.int 1) (.bin .mod (.bin .mod (.bin .mul (.var 6) (.int 69621)) (.int 1000003)) (.var 3))]])], .ret (.var 4)] [.val (.fro (ns.map U.int)), .val (.int (w : Nat)), .val (.int far), .val (.int low), .emp, .emp, .emp] (fun g ρ => Z (finU { mu := [4], fr := true } (some (g, ρ)))) := fun far low f0 f1 l0 l1 => by
    haveI : Bd 110 far := Bd.of (by omega) (by omega)
    simp
    refine Wl_range (n := w) (fun i ρ => ∃ (X : List Rat) (x5 x6 : Sl), ρ = [.val (.fro (ns.map U.int)), .val (.int (w : Nat)), .val (.int far), .val (.int low), .own (.lst (X.map encQ)), x5, x6] ∧ X.length = i ∧ ∀ x ∈ X, DueOk x) (by omega) ⟨[], _, _, rfl, rfl, fun x h => by simp at h⟩ (fun i ρ hi ⟨X, x5, x6, e, hX, hd⟩ N B hN hB => ?_) (fun ρ ⟨X, x5, x6, e, hX, hd⟩ => ?_)
    · subst e
      obtain ⟨c, ec, c0, c1⟩ := lcell_ (k := k - 1) (ns := ns) (a := 2) (i := i) (w := w) (by omega) (by omega) (by omega) (by omega) (by omega)
      haveI : Bd 140 c := Bd.of (by omega) (by omega)
      have r1 := Int.emod_nonneg (c * 69621 % 1000003) (show low ≠ 0 by omega)
      have r2 := Int.emod_lt_of_pos (c * 69621 % 1000003) l0
      have r3 := Int.emod_nonneg c (show 2 * far + 1 ≠ 0 by omega)
      have r4 := Int.emod_lt_of_pos c (show 0 < 2 * far + 1 by omega)
      have hl := llow_ (k := k - 1) (a := c % (2 * far + 1) - far) (b := 1 + c * 69621 % 1000003 % low) (by omega) (by omega) (Sz.mono (n := 30) (by unfold Sz; omega) (by decide))
      have hd1 : DueOk ((c % (2 * far + 1) - far) /. (1 + c * 69621 % 1000003 % low)) := ⟨Qs.of (by omega) (by unfold Sz; omega) (by unfold Sz; omega), Int.le_trans (divInt_le (by omega)).2 (by omega)⟩
      have hm := fun (ρ : EU) (kk : U → List U → Option (FlU × EU)) => muU_app (ρ := ρ) (xs := X.map encQ) (u := encQ ((c % (2 * far + 1) - far) /. (1 + c * 69621 % 1000003 % low))) (k := kk) (by simp; omega)
      generalize hq : ((c % (2 * far + 1) - far) /. (1 + c * 69621 % 1000003 % low) : Rat) = q at *
      generalize hXX : X.map encQ = XX at *
      simp [ec, show 0 < 2 * far + 1 by omega, l0, hl, hm]
      refine hN _ ⟨X ++ [q], _, _, by rw [List.map_append, hXX]; rfl, by simp [hX], fun x hx => ?_⟩
      rcases List.mem_append.mp hx with h | h
      · exact hd x h
      · rw [List.mem_singleton.mp h]; exact hd1
    · subst e
      generalize hXX : X.map encQ = XX at *
      simp
      exact hZ _ ⟨X, by unfold eQ; rw [hXX], hX, hd⟩
  by_cases h5 : (5 : Int) < (w : Int)
  · simp [b__law_numbers, e, k1, k2, h5]
    simpa using body 9 1 (by omega) (by omega) (by omega) (by omega)
  · simp [b__law_numbers, e, k1, k2, h5]
    simpa using body far low f0 f1 l0 l1
/-! k11: the rows -/
theorem muU_insI {ρ : EU} {xs : List U} {i : Int} {u : U} {k : U → List U → Option (FlU × EU)} (h : xs.length < 16777216) (h0 : 0 ≤ i) (hi : i < 2 ^ 60) : muU (some (.own (.lst xs))) .insert (some (.ok [.int i, u])) ρ k = k .non (xs.take i.toNat ++ u :: xs.drop i.toNat) := by
  have := muU_ins (ρ := ρ) (xs := xs) (i := i.toNat) (u := u) (k := k) h (by omega)
  rwa [Int.toNat_of_nonneg h0] at this
theorem lorder_ {k : Nat} (hk : 3 ≤ k) {n : Int} (n0 : 0 ≤ n) (n1 : n < 10 ^ 40) {w : Nat} (hw : w ≤ 100) : ∃ cs : List Nat, callU T I k n__law_order [.int n, .int (w : Nat)] = some (.ok (eC cs)) ∧ cs.Perm (List.range w) := by
  refine callW (k := k) (us := [.int n, .int (w : Nat)]) (R := fun x => ∃ cs : List Nat, x = some (.ok (eC cs)) ∧ cs.Perm (List.range w)) fn__law_order hk rfl ?_
  intro Z hZ
  haveI : Bd 140 n := Bd.of (by omega) (by omega)
  simp [b__law_order]
  refine Wl_range (n := w) (fun i ρ => ∃ (cs : List Nat) (x : Sl), ρ = [.val (.int n), .val (.int (w : Nat)), .own (.lst (cs.map fun (c : Nat) => U.int c)), x] ∧ cs.Perm (List.range i)) (by omega) ⟨[], _, rfl, by simp⟩ (fun i ρ hi ⟨cs, x, e, hp⟩ N B hN hB => ?_) (fun ρ ⟨cs, x, e, hp⟩ => ?_)
  · subst e
    haveI : Bd 20 (i : Int) := Bd.of (by omega) (by omega)
    have hl : cs.length = i := by rw [hp.length_eq, List.length_range]
    have i0 : (0 : Int) < (i : Int) + 1 := by omega
    have r0 := Int.emod_nonneg (n * (48271 + (i : Int) * i) % 65537) (show (i : Int) + 1 ≠ 0 by omega)
    have r1 := Int.emod_lt_of_pos (n * (48271 + (i : Int) * i) % 65537) i0
    have hins := fun (ρ : EU) (kk : U → List U → Option (FlU × EU)) => muU_insI (ρ := ρ) (xs := cs.map fun (c : Nat) => U.int c) (i := n * (48271 + (i : Int) * i) % 65537 % ((i : Int) + 1)) (u := .int (i : Nat)) (k := kk) (by simp; omega) r0 (by omega)
    generalize hp' : (n * (48271 + (i : Int) * i) % 65537 % ((i : Int) + 1)).toNat = p at *
    generalize hC : cs.map (fun (c : Nat) => U.int c) = C at *
    simp [i0, hins]
    refine hN _ ⟨cs.take p ++ i :: cs.drop p, _, by rw [List.map_append, List.map_cons, List.map_take, List.map_drop, hC], ?_⟩
    refine List.perm_middle.trans ?_
    rw [List.take_append_drop, List.range_succ]
    exact (List.Perm.cons i hp).trans (List.perm_append_comm (l₁ := [i]))
  · subst e
    generalize hC : cs.map (fun (c : Nat) => U.int c) = C at *
    simp
    exact hZ _ ⟨cs, by unfold eC; rw [hC], hp⟩
theorem tight_sub {A B : List Row} {w : Nat} (h : ∀ a ∈ A, a ∈ B) (t : Tight A w) : Tight B w := fun x hx => t x fun a ha => hx a (h a ha)
/-- each row has an unknown of its own, in an order -/
def Tri (w : Nat) (ord : List Nat) (R : List Row) : Prop := ∀ (k j : Nat) (r : Row), R[k]? = some r → ord[k]? = some j → at_ r j ≠ 0 ∧ ∀ (l i : Nat), l < k → ord[l]? = some i → at_ r i = 0
theorem Tri.tight {w : Nat} {ord : List Nat} {R : List Row} (h : Tri w ord R) (hp : ord.Perm (List.range w)) (hl : R.length = w) : Tight R w := fun x hx => by
  have hol : ord.length = w := by rw [hp.length_eq, List.length_range]
  have key : ∀ m k, w - m ≤ k → ∀ j, ord[k]? = some j → x j = 0 := fun m => by
    induction m with
    | zero =>
      intro k hk j hj
      have := (List.getElem?_eq_some_iff.mp hj).1
      omega
    | succ m ih =>
      intro k hk j hj
      have hkl := (List.getElem?_eq_some_iff.mp hj).1
      by_cases e : w - m ≤ k
      · exact ih k e j hj
      · have hkr : k < R.length := by omega
        obtain ⟨h1, h2⟩ := h k j _ (List.getElem?_eq_getElem hkr) hj
        have hjw : j < w := List.mem_range.mp (hp.mem_iff.mp (List.mem_of_getElem? hj))
        have hz := hx R[k] (List.getElem_mem hkr)
        rw [dot_one w hjw fun i hi hij => by
          have hm : i ∈ ord := hp.mem_iff.mpr (List.mem_range.mpr hi)
          obtain ⟨l, hl'⟩ := List.mem_iff_getElem?.mp hm
          by_cases hlk : l < k
          · exact .inl (h2 l i hlk hl')
          · right
            refine ih l ?_ i hl'
            have : l ≠ k := fun z => by subst z; rw [hj] at hl'; exact hij (Option.some.inj hl').symm
            omega] at hz
        rcases Rat.mul_eq_zero.mp hz with z | z
        · exact (h1 (by exact_mod_cast z)).elim
        · exact z
  intro j hj
  have hm : j ∈ ord := hp.mem_iff.mpr (List.mem_range.mpr hj)
  obtain ⟨l, hl'⟩ := List.mem_iff_getElem?.mp hm
  exact key w l (by omega) j hl'
theorem at_set {r : Row} {i j : Nat} {v : Int} (h : i < r.length) : at_ (r.set i v) j = if i = j then v else at_ r j := by
  unfold at_
  rw [List.getD_eq_getElem?_getD]
  by_cases e : i = j
  · subst e
    rw [List.getElem?_set_self h, if_pos rfl]
    rfl
  · rw [List.getElem?_set_ne e, if_neg e, List.getD_eq_getElem?_getD]
theorem at_rep {w j : Nat} : at_ (List.replicate w 0) j = 0 := by
  unfold at_
  rw [List.getD_eq_getElem?_getD, List.getElem?_replicate]
  split <;> rfl
/-- bounded rows -/
def RowOk (w B : Nat) (r : Row) : Prop := r.length = w ∧ ∀ j, (at_ r j).natAbs ≤ B
theorem lcorner1 {k : Nat} (hk : 6 ≤ k) {ns : List Int} {w : Nat} (hw1 : 1 ≤ w) (hw : w ≤ 12) {ord : List Nat} (hp : ord.Perm (List.range w)) {far : Int} (f0 : 1 ≤ far) (f1 : far ≤ 10 ^ 20) {r : List Sx} {Q : FlU → EU → Prop} {x6 x7 x8 x9 x10 x5 : Sl}
    (hr : ∀ (R : List Row) (x5 x6 x7 : Sl), R.length = w → (∀ a ∈ R, RowOk w (10 ^ 20) a) → Tight R w → Wx (GV T I k) [4, 6] r [.val (.fro (ns.map U.int)), .val (.int (w : Nat)), .val (eC ord), .val (.int far), .own (eM R), x5, x6, x7, x8, x9, x10] Q) :
    Wl (GV T I k) [4, 6] [5] [.asg 6 (.bin .mul (.lst [.int 0]) (.var 1)), .for [7] .range2 [.var 5, .var 1] [.sub (.var 6) (.idx (.var 2) (.var 7)) (.bin .sub (.bin .mod (.call n__law_cell [.var 0, .int 8, .bin .add (.bin .mul (.var 1) (.var 5)) (.var 7), .var 1]) (.bin .add (.bin .mul (.int 2) (.var 3)) (.int 1))) (.var 3))], .iff (.cmp .eq (.idx (.var 6) (.idx (.var 2) (.var 5))) (.int 0)) [.sub (.var 6) (.idx (.var 2) (.var 5)) (.int 1)] [], .exp (.bm (.var 4) .append [.var 6])] (itU .range1 [.int (w : Nat)]) [.val (.fro (ns.map U.int)), .val (.int (w : Nat)), .val (eC ord), .val (.int far), .own (.lst []), x5, x6, x7, x8, x9, x10] r Q := by
  have hol : ord.length = w := by rw [hp.length_eq, List.length_range]
  have hnd : ord.Nodup := hp.nodup_iff.mpr List.nodup_range
  haveI : Bd 110 far := Bd.of (by omega) (by omega)
  haveI : Bd 20 (w : Int) := Bd.of (by omega) (by omega)
  refine Wl_range (n := w) (fun i ρ => ∃ (R : List Row) (x5 x6 x7 : Sl), ρ = [.val (.fro (ns.map U.int)), .val (.int (w : Nat)), .val (eC ord), .val (.int far), .own (eM R), x5, x6, x7, x8, x9, x10] ∧ R.length = i ∧ (∀ a ∈ R, RowOk w (10 ^ 20) a) ∧ Tri w ord R) (by omega) ⟨[], _, _, _, rfl, rfl, fun a h => by simp at h, fun k j r h => by simp at h⟩ (fun i ρ hi ⟨R, y5, y6, y7, e, hR, hb, ht⟩ N B hN hB => ?_) (fun ρ ⟨R, y5, y6, y7, e, hR, hb, ht⟩ => ?_)
  · subst e
    haveI : Bd 20 (i : Int) := Bd.of (by omega) (by omega)
    have hrep := opU_rep (u := U.int 0) (w := w) (by omega)
    have erep : U.lst (List.replicate w (U.int 0)) = eR (List.replicate w 0) := by simp [eR]
    rw [erep] at hrep
    have hio : i < ord.length := by omega
    have hoi := List.getElem?_eq_getElem hio
    have hjw : ord[i] < w := List.mem_range.mp (hp.mem_iff.mp (List.getElem_mem hio))
    have hxi := idx_eC hoi
    generalize ho : ord[i] = oi at *
    generalize hO : eC ord = O at *
    generalize hM : eM R = M at *
    simp [hrep]
    refine Wl_range2 (a := i) (b := w) (fun j ρ => ∃ (q : Row) (x7 : Sl), ρ = [.val (.fro (ns.map U.int)), .val (.int (w : Nat)), .val O, .val (.int far), .own M, .val (.int (i : Nat)), .own (eR q), x7, x8, x9, x10] ∧ RowOk w (10 ^ 20) q ∧ ∀ (l m : Nat), l < i → ord[l]? = some m → at_ q m = 0) (by omega) (by omega) ⟨List.replicate w 0, _, rfl, ⟨by simp, fun j => by rw [at_rep]; decide⟩, fun l m _ _ => at_rep⟩ (by omega) (fun j ρ h1 h2 ⟨q, z7, e, hq, hz⟩ N2 B2 hN2 hB2 => ?_) (fun ρ ⟨q, z7, e, hq, hz⟩ => ?_)
    · subst e
      haveI : Bd 20 (j : Int) := Bd.of (by omega) (by omega)
      have hjo : j < ord.length := by omega
      have hoj := List.getElem?_eq_getElem hjo
      have hjw2 : ord[j] < w := List.mem_range.mp (hp.mem_iff.mp (List.getElem_mem hjo))
      have hxj := idx_eC hoj
      rw [hO] at hxj
      generalize ho2 : ord[j] = oj at *
      have b1 : 0 ≤ (w : Int) * i := Int.mul_nonneg (by omega) (by omega)
      have b2 : (w : Int) * i ≤ 12 * 12 := Int.mul_le_mul (by omega) (by omega) (by omega) (by omega)
      obtain ⟨c, ec, c0, c1⟩ := lcell_ (k := k - 1) (ns := ns) (a := 8) (i := (w : Int) * i + j) (w := w) (by omega) (by omega) (by omega) (by omega) (by omega)
      have r3 := Int.emod_nonneg c (show 2 * far + 1 ≠ 0 by omega)
      have r4 := Int.emod_lt_of_pos c (show 0 < 2 * far + 1 by omega)
      have hset := fun (ρ : EU) => subU_eR (ρ := ρ) (rs := q) (r := c % (2 * far + 1) - far) (i := oj) (j := 6) (by rw [hq.1]; exact hjw2)
      have hq2 : RowOk w (10 ^ 20) (q.set oj (c % (2 * far + 1) - far)) := ⟨by rw [List.length_set]; exact hq.1, fun m => by
        rw [at_set (by rw [hq.1]; exact hjw2)]
        split
        · omega
        · exact hq.2 m⟩
      have hz2 : ∀ (l m : Nat), l < i → ord[l]? = some m → at_ (q.set oj (c % (2 * far + 1) - far)) m = 0 := fun l m hl hm => by
        rw [at_set (by rw [hq.1]; exact hjw2), if_neg (fun z => by
          rw [← z] at hm
          exact nodup_ne hnd l j (by omega) hm hoj)]
        exact hz l m hl hm
      generalize q.set oj (c % (2 * far + 1) - far) = q2 at *
      simp [ec, show 0 < 2 * far + 1 by omega, hxj, hset]
      exact hN2 _ ⟨q2, _, rfl, hq2, hz2⟩
    · subst e
      have hix := idx_eR (r := q) (j := oi) (by rw [hq.1]; exact hjw)
      have fin : ∀ q : Row, RowOk w (10 ^ 20) q → at_ q oi ≠ 0 → (∀ (l m : Nat), l < i → ord[l]? = some m → at_ q m = 0) → ∀ y7, Wx (GV T I k) [4, 6] [.exp (.bm (.var 4) .append [.var 6])] [.val (.fro (ns.map U.int)), .val (.int (w : Nat)), .val O, .val (.int far), .own M, .val (.int (i : Nat)), .own (eR q), y7, x8, x9, x10] (Kt N B Q) := fun q hq h0 hz y7 => by
        have hm := fun (ρ : EU) (kk : U → List U → Option (FlU × EU)) => muU_app (ρ := ρ) (xs := R.map eR) (u := eR q) (k := kk) (by simp; omega)
        have hM' : M = .lst (R.map eR) := hM.symm
        rw [hM']
        generalize hRR : R.map eR = RR at *
        simp [hm]
        refine hN _ ⟨R ++ [q], _, _, _, by unfold eM; rw [List.map_append, hRR]; rfl, by simp [hR], fun a ha => ?_, fun kk j r h1 h2 => ?_⟩
        · rcases List.mem_append.mp ha with h | h
          · exact hb a h
          · rw [List.mem_singleton.mp h]; exact hq
        · by_cases hkk : kk < R.length
          · rw [List.getElem?_append_left hkk] at h1
            exact ht kk j r h1 h2
          · have hlt := (List.getElem?_eq_some_iff.mp h1).1
            rw [List.length_append] at hlt
            have ek : kk = i := by simp at hlt; omega
            subst ek
            rw [List.getElem?_append_right (by omega), hR, Nat.sub_self] at h1
            simp at h1
            subst h1
            rw [hoi] at h2
            cases h2
            exact ⟨h0, hz⟩
      by_cases h0 : at_ q oi = 0
      · have hset := fun (ρ : EU) => subU_eR (ρ := ρ) (rs := q) (r := 1) (i := oi) (j := 6) (by rw [hq.1]; exact hjw)
        simp [hxi, hix, h0, hset]
        have := fin (q.set oi 1) ⟨by rw [List.length_set]; exact hq.1, fun m => by
          rw [at_set (by rw [hq.1]; exact hjw)]
          split
          · decide
          · exact hq.2 m⟩ (by rw [at_set (by rw [hq.1]; exact hjw), if_pos rfl]; decide) (fun l m hl hm => by
          rw [at_set (by rw [hq.1]; exact hjw), if_neg (fun z => by
            rw [← z] at hm
            exact nodup_ne hnd l i hl hm hoi)]
          exact hz l m hl hm) z7
        simpa using this
      · simp [hxi, hix, h0]
        have := fin q hq h0 hz z7
        simpa using this
  · subst e
    exact hr R _ _ _ hR hb (ht.tight hp hR)
/-! k11: rows put to rows -/
/-- a row and so many times another one -/
def mix (w : Nat) (a b : Int) (p q : Row) : Row := (List.range w).map fun j => a * at_ p j + b * at_ q j
theorem mix_at {w : Nat} {a b : Int} {p q : Row} {j : Nat} (h : j < w) : at_ (mix w a b p q) j = a * at_ p j + b * at_ q j := by
  unfold mix
  rw [at_map, if_pos h]
theorem mix_ok {w B C : Nat} {a b : Int} {p q : Row} (hp : RowOk w B p) (hq : RowOk w B q) (hC : a.natAbs + b.natAbs ≤ C) : RowOk w (C * B) (mix w a b p q) := ⟨by simp [mix], fun j => by
  unfold mix
  rw [at_map]
  split
  · have h1 := hp.2 j
    have h2 := hq.2 j
    have h3 : (a * at_ p j).natAbs ≤ a.natAbs * B := by rw [Int.natAbs_mul]; exact Nat.mul_le_mul_left _ h1
    have h4 : (b * at_ q j).natAbs ≤ b.natAbs * B := by rw [Int.natAbs_mul]; exact Nat.mul_le_mul_left _ h2
    have h5 := Int.natAbs_add_le (a * at_ p j) (b * at_ q j)
    have h6 : a.natAbs * B + b.natAbs * B ≤ C * B := by rw [← Nat.add_mul]; exact Nat.mul_le_mul_right _ hC
    omega
  · simp⟩
theorem mix_dot {w : Nat} {a b : Int} {p q : Row} {x : Nat → Rat} : ∀ n, n ≤ w → dot n (mix w a b p q) x = a * dot n p x + b * dot n q x
  | 0, _ => by simp [dot]; grind
  | n + 1, h => by
    rw [dot, dot, dot, mix_dot n (by omega), mix_at (by omega)]
    simp
    grind
theorem RowOk.mono {w B C : Nat} {r : Row} (h : RowOk w B r) (hc : B ≤ C) : RowOk w C r := ⟨h.1, fun j => Nat.le_trans (h.2 j) hc⟩
theorem RowOk.sz {w B n : Nat} {r : Row} (h : RowOk w B r) (hb : B < 2 ^ n) (j : Nat) : Sz n (at_ r j) := Sz.of_le (h.2 j) hb
/-- a row put to another one leaves no unknown open -/
theorem tight_mix {w : Nat} {R : List Row} {i j : Nat} {b : Int} {p q : Row} (ht : Tight R w) (hp : R[i]? = some p) (hq : R[j]? = some q) (hij : i ≠ j) : Tight (R.set i (mix w 1 b p q)) w := fun x hx => ht x fun a ha => by
  have hil := (List.getElem?_eq_some_iff.mp hp).1
  have h1 : dot w q x = 0 := hx q (List.mem_of_getElem? (by rw [List.getElem?_set_ne hij]; exact hq))
  have h2 : dot w (mix w 1 b p q) x = 0 := hx _ (List.mem_of_getElem? (List.getElem?_set_self hil))
  rw [mix_dot w (Nat.le_refl _), h1] at h2
  obtain ⟨l, hl⟩ := List.mem_iff_getElem?.mp ha
  by_cases e : i = l
  · subst e
    rw [hp] at hl
    cases hl
    simp at h2
    grind
  · exact hx a (List.mem_of_getElem? (by rw [List.getElem?_set_ne e]; exact hl))
theorem slc_cells (ns : List Int) : ∃ ms : List Int, slcU (.fro (ns.map U.int)) (some 33) (some 45) = some (.lst (ms.map U.int)) ∧ ms.length ≤ 12 := by
  refine ⟨cutL ns (some ((33 : Nat) : Int)) (some ((45 : Nat) : Int)), ?_, ?_⟩
  · show some (U.lst (cutL (ns.map U.int) (some ((33 : Nat) : Int)) (some ((45 : Nat) : Int)))) = _
    unfold cutL
    rw [List.map_take, List.map_drop, List.length_map]
  · unfold cutL
    rw [HT.sIx_nat, HT.sIx_nat, List.length_take, List.length_drop]
    omega
theorem lc_mix {k : Nat} {w B : Nat} (hw : w ≤ 100) (hB : B < 2 ^ 4000) {p q : Row} (hp : RowOk w B p) (hq : RowOk w B q) {b : Int} (hb : Sz 100 b) {g : U → RU (Option U)} (hg : ∀ j : Nat, j < w → g (.int (j : Nat)) = (match opU .mul (.int b) (.int (at_ q j)) with
    | some y => (match opU .add (.int (at_ p j)) y with
      | some z => some (.ok (some z))
      | none => none)
    | none => none)) : lcF g (itU .range1 [.int (w : Nat)]) = some (.ok (eR (mix w 1 b p q))) := by
  have h : lcU g ((List.range w).map fun (i : Nat) => U.int i) = some ((mix w 1 b p q).map U.int) := by
    unfold mix
    rw [List.map_map]
    refine lcU_map fun j hj => ?_
    rw [hg j (List.mem_range.mp hj), opU_mul hb (hq.sz hB j) (by decide) (by decide)]
    simp
  rw [itU_len (by omega), lcF_ok h (by simp; omega) (by simp [mix]; omega)]
  rfl
theorem lcorner2 {k : Nat} (hk : 6 ≤ k) {ns ms : List Int} (hms : ms.length ≤ 12) {w : Nat} (hw1 : 1 ≤ w) (hw : w ≤ 12) {R : List Row} (hR : R.length = w) (hb : ∀ a ∈ R, RowOk w (10 ^ 20) a) (ht : Tight R w) {O : U} {far : Int} {r : List Sx} {Q : FlU → EU → Prop} {x6 x7 x8 x9 x10 x5 : Sl}
    (hr : ∀ (R : List Row) (x5 x7 x8 x9 x10 : Sl), R.length = w → (∀ a ∈ R, RowOk w (2 ^ 100) a) → Tight R w → Wx (GV T I k) [4, 6] r [.val (.fro (ns.map U.int)), .val (.int (w : Nat)), .val O, .val (.int far), .own (eM R), x5, x6, x7, x8, x9, x10] Q) :
    Wl (GV T I k) [4, 6] [8] [.asg 9 (.bin .mod (.var 8) (.bin .pow (.int 10) (.int 12))), .asg 5 (.bin .mod (.var 9) (.var 1)), .asg 7 (.bin .mod (.bin .mod (.bin .mul (.var 9) (.int 48271)) (.int 65521)) (.var 1)), .iff (.cmp .ne (.var 5) (.var 7)) [.sub (.var 4) (.var 5) (.lc (.bin .add (.idx (.idx (.var 4) (.var 5)) (.var 10)) (.bin .mul (.bin .sub (.bin .mod (.bin .mod (.bin .mul (.var 9) (.int 69621)) (.int 65537)) (.int 7)) (.int 3)) (.idx (.idx (.var 4) (.var 7)) (.var 10)))) [10] .range1 [.var 1] [])] []] (some (ms.map U.int)) [.val (.fro (ns.map U.int)), .val (.int (w : Nat)), .val O, .val (.int far), .own (eM R), x5, x6, x7, x8, x9, x10] r Q := by
  refine Wl_map (xs := ms) (fun i ρ => ∃ (R : List Row) (x5 x7 x8 x9 x10 : Sl), ρ = [.val (.fro (ns.map U.int)), .val (.int (w : Nat)), .val O, .val (.int far), .own (eM R), x5, x6, x7, x8, x9, x10] ∧ R.length = w ∧ (∀ a ∈ R, RowOk w (4 ^ i * 10 ^ 20) a) ∧ Tight R w) (by omega) ⟨R, _, _, _, _, _, rfl, hR, by simpa using hb, ht⟩ (fun i c ρ hc ⟨R, y5, y7, y8, y9, y10, e, hR, hb, ht⟩ N B hN hB => ?_) (fun ρ ⟨R, y5, y7, y8, y9, y10, e, hR, hb, ht⟩ => ?_)
  · subst e
    have him := (List.getElem?_eq_some_iff.mp hc).1
    have w0 : (0 : Int) < (w : Int) := by omega
    have n0 := Int.emod_nonneg c (show (1000000000000 : Int) ≠ 0 by omega)
    have n1 := Int.emod_lt_of_pos c (show (0 : Int) < 1000000000000 by omega)
    have hmono : ∀ a ∈ R, RowOk w (4 ^ (i + 1) * 10 ^ 20) a := fun a ha => (hb a ha).mono (Nat.mul_le_mul_right _ (Nat.pow_le_pow_right (by decide) (by omega)))
    have hB4 : 4 ^ i * 10 ^ 20 < 2 ^ 4000 := by
      have h1 : 4 ^ i ≤ 4 ^ 12 := Nat.pow_le_pow_right (by decide) (by omega)
      have h2 : 4 ^ i * 10 ^ 20 ≤ 4 ^ 12 * 10 ^ 20 := Nat.mul_le_mul_right _ h1
      have h3 : 4 ^ 12 * 10 ^ 20 < 2 ^ 250 := by decide
      exact Nat.lt_of_le_of_lt h2 (Nat.lt_of_lt_of_le h3 (Nat.pow_le_pow_right (by decide) (by decide)))
    haveI : Bd 41 (c % 1000000000000) := Bd.of (by omega) (by omega)
    have p0 := Int.emod_nonneg (c % 1000000000000) (show (w : Int) ≠ 0 by omega)
    have p1 := Int.emod_lt_of_pos (c % 1000000000000) w0
    have q0 := Int.emod_nonneg (c % 1000000000000 * 48271 % 65521) (show (w : Int) ≠ 0 by omega)
    have q1 := Int.emod_lt_of_pos (c % 1000000000000 * 48271 % 65521) w0
    obtain ⟨kk, hkk⟩ : ∃ kk : Nat, c % 1000000000000 % (w : Int) = (kk : Nat) := ⟨(c % 1000000000000 % (w : Int)).toNat, by omega⟩
    obtain ⟨jj, hjj⟩ : ∃ jj : Nat, c % 1000000000000 * 48271 % 65521 % (w : Int) = (jj : Nat) := ⟨(c % 1000000000000 * 48271 % 65521 % (w : Int)).toNat, by omega⟩
    rw [hkk] at p0 p1
    rw [hjj] at q0 q1
    by_cases e : kk = jj
    · subst e
      simp [w0, show 0 < w by omega, hkk, hjj]
      exact hN _ ⟨R, _, _, _, _, _, rfl, hR, hmono, ht⟩
    · have e' : ¬ (kk : Int) = (jj : Int) := by omega
      have hkl : kk < R.length := by omega
      have hjl : jj < R.length := by omega
      have hpk := List.getElem?_eq_getElem hkl
      have hqj := List.getElem?_eq_getElem hjl
      have rp := hb _ (List.getElem_mem hkl)
      have rq := hb _ (List.getElem_mem hjl)
      generalize R[kk] = p at *
      generalize R[jj] = q at *
      have xp := idx_eM hpk
      have xq := idx_eM hqj
      have hbb : Sz 100 (c % 1000000000000 * 69621 % 65537 % 7 - 3) := by unfold Sz; omega
      have hset := fun (ρ : EU) => subU_eM (ρ := ρ) (rs := R) (r := mix w 1 (c % 1000000000000 * 69621 % 65537 % 7 - 3) p q) (i := kk) (j := 4) hkl
      have hN' := hN [.val (.fro (ns.map U.int)), .val (.int (w : Nat)), .val O, .val (.int far), .own (eM (R.set kk (mix w 1 (c % 1000000000000 * 69621 % 65537 % 7 - 3) p q))), .val (.int kk), x6, .val (.int jj), .val (.int c), .val (.int (c % 1000000000000)), y10] ⟨_, _, _, _, _, _, rfl, by rw [List.length_set]; exact hR, fun a ha => by
        rcases List.mem_or_eq_of_mem_set ha with h | h
        · exact hmono a h
        · rw [h]
          have := mix_ok (C := 4) (a := 1) (b := c % 1000000000000 * 69621 % 65537 % 7 - 3) rp rq (by omega)
          rw [Nat.pow_succ, Nat.mul_comm (4 ^ i), Nat.mul_assoc]
          exact this, tight_mix ht hpk hqj e⟩
      have hlc := lc_mix (k := k) (by omega) hB4 rp rq hbb (g := lcG (GV T I k) (.bin .add (.idx (.idx (.var 4) (.var 5)) (.var 10)) (.bin .mul (.bin .sub (.bin .mod (.bin .mod (.bin .mul (.var 9) (.int 69621)) (.int 65537)) (.int 7)) (.int 3)) (.idx (.idx (.var 4) (.var 7)) (.var 10)))) [10] [] [.val (.fro (ns.map U.int)), .val (.int (w : Nat)), .val O, .val (.int far), .own (eM R), .val (.int kk), x6, .val (.int jj), .val (.int c), .val (.int (c % 1000000000000)), y10]) (fun m hm => by
        have i1 := idx_eR (r := p) (j := m) (by rw [rp.1]; exact hm)
        have i2 := idx_eR (r := q) (j := m) (by rw [rq.1]; exact hm)
        have m1 := opU_mul hbb (rq.sz hB4 m) (by decide) (by decide)
        generalize at_ q m = qm at *
        generalize at_ p m = pm at *
        simp [lcG, xp, xq, i1, i2, m1])
      generalize mix w 1 (c % 1000000000000 * 69621 % 65537 % 7 - 3) p q = mx at *
      simp [w0, show 0 < w by omega, hkk, hjj, e', hlc, hset]
      exact hN'
  · subst e
    refine hr R _ _ _ _ _ hR (fun a ha => (hb a ha).mono ?_) ht
    have h1 : 4 ^ ms.length ≤ 4 ^ 12 := Nat.pow_le_pow_right (by decide) hms
    have h2 : 4 ^ ms.length * 10 ^ 20 ≤ 4 ^ 12 * 10 ^ 20 := Nat.mul_le_mul_right _ h1
    exact Nat.le_trans h2 (by decide)
theorem lcorner_ {k : Nat} (hk : 8 ≤ k) {ns : List Int} {w : Nat} (hw1 : 1 ≤ w) (hw : w ≤ 12) : ∃ R : List Row, callU T I k n__law_corner [.fro (ns.map U.int), .int (w : Nat)] = some (.ok (eM R)) ∧ R.length = w ∧ (∀ a ∈ R, RowOk w (2 ^ 100) a) ∧ Tight R w := by
  refine callW (k := k) (us := [.fro (ns.map U.int), .int (w : Nat)]) (R := fun x => ∃ R : List Row, x = some (.ok (eM R)) ∧ R.length = w ∧ (∀ a ∈ R, RowOk w (2 ^ 100) a) ∧ Tight R w) fn__law_corner (by omega) rfl ?_
  intro Z hZ
  obtain ⟨n, e, n0, n1⟩ := lat_ (k := k - 1) (ns := ns) (i := 7) (by omega) (by omega) (by omega)
  haveI : Bd 140 n := Bd.of (by omega) (by omega)
  obtain ⟨ord, eo, hp⟩ := lorder_ (k := k - 1) (by omega) n0 n1 (w := w) (by omega)
  obtain ⟨ms, hsl, hms⟩ := slc_cells ns
  have key : ∃ far : Int, idxU (.lst [.int 9, .int 9, .int 1, .int 100000000000000000000]) (.int (n * 69621 % 65521 % 4)) = some (.int far) ∧ 1 ≤ far ∧ far ≤ 10 ^ 20 := by
    have h4 : n * 69621 % 65521 % 4 = 0 ∨ n * 69621 % 65521 % 4 = 1 ∨ n * 69621 % 65521 % 4 = 2 ∨ n * 69621 % 65521 % 4 = 3 := by omega
    rcases h4 with g | g | g | g <;> rw [g] <;> exact ⟨_, rfl, by omega, by omega⟩
  obtain ⟨far, k2, f0, f1⟩ := key
  have body : ∀ far : Int, 1 ≤ far → far ≤ 10 ^ 20 → Wx (GV T I k) [4, 6] (b__law_corner.drop 3) [.val (.fro (ns.map U.int)), .val (.int (w : Nat)), .val (eC ord), .val (.int far), .emp, .emp, .emp, .emp, .emp, .emp, .emp] (fun g ρ => Z (finU { mu := [4, 6], fr := true } (some (g, ρ)))) := fun far f0 f1 => by
    simp [b__law_corner]
    refine lcorner1 (by omega) hw1 hw hp f0 f1 fun R x5 x6 x7 hR hb ht => ?_
    simp [hsl]
    refine lcorner2 (by omega) hms hw1 hw hR hb ht fun R x5 x7 x8 x9 x10 hR hb ht => ?_
    simp
    exact hZ _ ⟨R, rfl, hR, hb, ht⟩
  by_cases h5 : (5 : Int) < (w : Int)
  · simp [b__law_corner, e, eo, k2, h5]
    simpa [b__law_corner] using body (min far 9) (by omega) (by omega)
  · simp [b__law_corner, e, eo, k2, h5]
    simpa [b__law_corner] using body far f0 f1
/-! k11: all rows, with their sums -/
theorem lc_mixG {w B : Nat} (hw : w ≤ 100) {p q : Row} {a b : Int} {g : U → RU (Option U)} (hg : ∀ j : Nat, j < w → g (.int (j : Nat)) = some (.ok (some (.int (a * at_ p j + b * at_ q j))))) : lcF g (itU .range1 [.int (w : Nat)]) = some (.ok (eR (mix w a b p q))) := by
  have h : lcU g ((List.range w).map fun (i : Nat) => U.int i) = some ((mix w a b p q).map U.int) := by
    unfold mix
    rw [List.map_map]
    exact lcU_map fun j hj => hg j (List.mem_range.mp hj)
  rw [itU_len (by omega), lcF_ok h (by simp; omega) (by simp [mix]; omega)]
  rfl
theorem lrows_ {k : Nat} (hk : 10 ≤ k) {ns : List Int} {w : Nat} (hw1 : 1 ≤ w) (hw : w ≤ 12) : ∃ R : List Row, callU T I k n__law_rows [.fro (ns.map U.int), .int (w : Nat)] = some (.ok (eM R)) ∧ 0 < R.length ∧ R.length ≤ 12 ∧ (∀ a ∈ R, RowOk w (2 ^ 106) a) ∧ Tight R w := by
  refine callW (k := k) (us := [.fro (ns.map U.int), .int (w : Nat)]) (R := fun x => ∃ R : List Row, x = some (.ok (eM R)) ∧ 0 < R.length ∧ R.length ≤ 12 ∧ (∀ a ∈ R, RowOk w (2 ^ 106) a) ∧ Tight R w) fn__law_rows (by omega) rfl ?_
  intro Z hZ
  obtain ⟨R0, e0, hR0, hb0, ht0⟩ := lcorner_ (k := k - 1) (by omega) (ns := ns) hw1 hw
  obtain ⟨n45, e45, n450, n451⟩ := lat_ (k := k - 1) (ns := ns) (i := 45) (by omega) (by omega) (by omega)
  obtain ⟨mt, hmt⟩ : ∃ mt : Nat, min (n45 % 4) (12 - (R0.length : Int)) = (mt : Nat) := ⟨(min (n45 % 4) (12 - (R0.length : Int))).toNat, by omega⟩
  simp [b__law_rows, e0, e45, hmt]
  refine Wl_range (n := mt) (fun i ρ => ∃ (R : List Row) (x4 x5 x6 x7 x3 : Sl), ρ = [.val (.fro (ns.map U.int)), .val (.int (w : Nat)), .own (eM R), x3, x4, x5, x6, x7, .emp] ∧ R.length = w + i ∧ (∀ a ∈ R, RowOk w (4 ^ i * 2 ^ 100) a) ∧ Tight R w) (by omega) ⟨R0, _, _, _, _, _, rfl, by omega, by simpa using hb0, ht0⟩ (fun i ρ hi ⟨R, y4, y5, y6, y7, y3, e, hR, hb, ht⟩ N B hN hB => ?_) (fun ρ ⟨R, y4, y5, y6, y7, y3, e, hR, hb, ht⟩ => ?_)
  · subst e
    obtain ⟨c, ec, c0, c1⟩ := lat_ (k := k - 1) (ns := ns) (i := 46 + (i : Int)) (by omega) (by omega) (by omega)
    haveI : Bd 140 c := Bd.of (by omega) (by omega)
    have w0 : (0 : Int) < (R.length : Int) := by omega
    have p0 := Int.emod_nonneg c (show (R.length : Int) ≠ 0 by omega)
    have p1 := Int.emod_lt_of_pos c w0
    have q0 := Int.emod_nonneg (c * 48271 % 65521) (show (R.length : Int) ≠ 0 by omega)
    have q1 := Int.emod_lt_of_pos (c * 48271 % 65521) w0
    obtain ⟨kk, hkk⟩ : ∃ kk : Nat, c % (R.length : Int) = (kk : Nat) := ⟨(c % (R.length : Int)).toNat, by omega⟩
    obtain ⟨jj, hjj⟩ : ∃ jj : Nat, c * 48271 % 65521 % (R.length : Int) = (jj : Nat) := ⟨(c * 48271 % 65521 % (R.length : Int)).toNat, by omega⟩
    rw [hkk] at p0 p1
    rw [hjj] at q0 q1
    have hkl : kk < R.length := by omega
    have hjl : jj < R.length := by omega
    have hpk := List.getElem?_eq_getElem hkl
    have hqj := List.getElem?_eq_getElem hjl
    have rp := hb _ (List.getElem_mem hkl)
    have rq := hb _ (List.getElem_mem hjl)
    generalize R[kk] = p at *
    generalize R[jj] = q at *
    have xp := idx_eM hpk
    have xq := idx_eM hqj
    have hB4 : 4 ^ i * 2 ^ 100 < 2 ^ 200 := by
      have h1 : 4 ^ i ≤ 4 ^ 4 := Nat.pow_le_pow_right (by decide) (by omega)
      have h2 : 4 ^ i * 2 ^ 100 ≤ 4 ^ 4 * 2 ^ 100 := Nat.mul_le_mul_right _ h1
      have h3 : 4 ^ 4 * 2 ^ 100 < 2 ^ 200 := by decide
      exact Nat.lt_of_le_of_lt h2 h3
    have hlc := lc_mixG (w := w) (B := 0) (by omega) (p := p) (q := q) (a := c * 69621 % 65537 % 5 - 2) (b := c * 69621 % 65537 / 5 % 5 - 2) (g := lcG (GV T I k) (.bin .add (.bin .mul (.bin .sub (.bin .mod (.var 7) (.int 5)) (.int 2)) (.idx (.var 5) (.var 8))) (.bin .mul (.bin .sub (.bin .mod (.bin .fdiv (.var 7) (.int 5)) (.int 5)) (.int 2)) (.idx (.var 6) (.var 8)))) [8] [] [.val (.fro (ns.map U.int)), .val (.int (w : Nat)), .own (eM R), .val (.int (i : Nat)), .val (.int c), .val (eR p), .val (eR q), .val (.int (c * 69621 % 65537)), .emp]) (fun m hm => by
      have i1 := idx_eR (r := p) (j := m) (by rw [rp.1]; exact hm)
      have i2 := idx_eR (r := q) (j := m) (by rw [rq.1]; exact hm)
      haveI : Bd 200 (at_ p m) := ⟨rp.sz hB4 m⟩
      haveI : Bd 200 (at_ q m) := ⟨rq.sz hB4 m⟩
      generalize at_ q m = qm at *
      generalize at_ p m = pm at *
      simp [lcG, i1, i2])
    have hrow : RowOk w (4 ^ (i + 1) * 2 ^ 100) (mix w (c * 69621 % 65537 % 5 - 2) (c * 69621 % 65537 / 5 % 5 - 2) p q) := by
      have := mix_ok (C := 4) (a := c * 69621 % 65537 % 5 - 2) (b := c * 69621 % 65537 / 5 % 5 - 2) rp rq (by omega)
      rw [Nat.pow_succ, Nat.mul_comm (4 ^ i), Nat.mul_assoc]
      exact this
    generalize mix w (c * 69621 % 65537 % 5 - 2) (c * 69621 % 65537 / 5 % 5 - 2) p q = mx at *
    have hM' : eM R = .lst (R.map eR) := rfl
    have hm := fun (ρ : EU) (kk : U → List U → Option (FlU × EU)) => muU_app (ρ := ρ) (xs := R.map eR) (u := eR mx) (k := kk) (by simp; omega)
    have hml : bfnU .len [.lst (R.map eR)] = some (.int (R.length : Nat)) := by rw [bfnU_lenL, List.length_map]
    rw [hM'] at xp xq hlc ⊢
    generalize hRR : R.map eR = RR at *
    rw [bfnU_lenL] at hml
    have hml' : (RR.length : Int) = (R.length : Int) := by simpa using hml
    simp [ec, hml', w0, show 0 < R.length by omega, hkk, hjj, xp, xq, hlc, hm]
    refine hN _ ⟨R ++ [mx], _, _, _, _, _, by unfold eM; rw [List.map_append, hRR]; rfl, by simp [hR]; omega, fun a ha => ?_, tight_sub (fun a ha => List.mem_append_left _ ha) ht⟩
    rcases List.mem_append.mp ha with h | h
    · exact (hb a h).mono (Nat.mul_le_mul_right _ (Nat.pow_le_pow_right (by decide) (by omega)))
    · rw [List.mem_singleton.mp h]; exact hrow
  · subst e
    obtain ⟨n49, e49, n490, n491⟩ := lat_ (k := k - 1) (ns := ns) (i := 49) (by omega) (by omega) (by omega)
    obtain ⟨cs, eo, hp⟩ := lorder_ (k := k - 1) (by omega) n490 n491 (w := R.length) (by omega)
    have hlc : lcU (lcG (GV T I k) (.idx (.var 2) (.var 3)) [3] [] [.val (.fro (ns.map U.int)), .val (.int (w : Nat)), .own (eM R), y3, y4, y5, y6, y7, .emp]) (cs.map fun (c : Nat) => U.int c) = some (cs.map fun c => eR (R.getD c [])) := lcU_map fun c hc => by
      have hcl : c < R.length := List.mem_range.mp (hp.mem_iff.mp hc)
      have hx := idx_eM (List.getElem?_eq_getElem hcl)
      have hg : R.getD c [] = R[c] := by rw [List.getD_eq_getElem?_getD, List.getElem?_eq_getElem hcl]; rfl
      rw [hg]
      generalize R[c] = rc at *
      simp [lcG, hx]
    have hcl : cs.length = R.length := by rw [hp.length_eq, List.length_range]
    have hlc2 := lcF_ok hlc (by simp; omega) (by simp; omega)
    have hcs2 : itU .val [eC cs] = some (cs.map fun (c : Nat) => U.int c) := rfl
    have heq : U.lst (cs.map fun c => eR (R.getD c [])) = eM (cs.map fun c => R.getD c []) := by unfold eM; rw [List.map_map]; rfl
    rw [heq] at hlc2
    have hmem : ∀ a, a ∈ (cs.map fun c => R.getD c []) ↔ a ∈ R := fun a => by
      constructor
      · intro h
        obtain ⟨c, hc, e⟩ := List.mem_map.mp h
        have hcl : c < R.length := List.mem_range.mp (hp.mem_iff.mp hc)
        rw [← e, List.getD_eq_getElem?_getD, List.getElem?_eq_getElem hcl]
        exact List.getElem_mem hcl
      · intro h
        obtain ⟨c, hc⟩ := List.mem_iff_getElem?.mp h
        have hcl := (List.getElem?_eq_some_iff.mp hc).1
        exact List.mem_map.mpr ⟨c, hp.mem_iff.mpr (List.mem_range.mpr hcl), by rw [List.getD_eq_getElem?_getD, hc]; rfl⟩
    have hl2 : (cs.map fun c => R.getD c []).length = R.length := by rw [List.length_map, hcl]
    generalize (cs.map fun c => R.getD c []) = R2 at *
    generalize cs.map (fun (c : Nat) => U.int c) = C at *
    generalize eC cs = cc at *
    simp [e49, eo, hcs2, hlc2]
    exact hZ _ ⟨R2, rfl, by omega, by omega, fun a ha => (hb a ((hmem a).mp ha)).mono (by
      have h1 : 4 ^ mt ≤ 4 ^ 3 := Nat.pow_le_pow_right (by decide) (by omega)
      exact Nat.le_trans (Nat.mul_le_mul_right _ h1) (by decide)), tight_sub (fun a ha => (hmem a).mpr ha) ht⟩
/-! k11: sums made whole -/
/-- the product of the bottoms -/
def pD (X : List Rat) : Nat := X.foldl (fun a q => a * q.den) 1
theorem pD_take {X : List Rat} {i : Nat} {q : Rat} (h : X[i]? = some q) : pD (X.take (i + 1)) = pD (X.take i) * q.den := by
  unfold pD
  rw [List.take_add_one, h, List.foldl_append]
  rfl
theorem pD_dvd : ∀ (X : List Rat) (a : Nat), a ∣ X.foldl (fun a q => a * q.den) a ∧ ∀ q ∈ X, q.den ∣ X.foldl (fun a q => a * q.den) a
  | [], a => ⟨Nat.dvd_refl _, fun q h => by simp at h⟩
  | p :: X, a => by
    obtain ⟨h1, h2⟩ := pD_dvd X (a * p.den)
    refine ⟨Nat.dvd_trans (Nat.dvd_mul_right _ _) h1, fun q hq => ?_⟩
    rcases List.mem_cons.mp hq with e | hq
    · subst e
      exact Nat.dvd_trans (Nat.dvd_mul_left _ _) h1
    · exact h2 q hq
theorem pD_bd {X : List Rat} (h : ∀ q ∈ X, (q.den : Int) ≤ 10 ^ 6) : ∀ i, i ≤ X.length → 0 < pD (X.take i) ∧ pD (X.take i) ≤ (2 ^ 20) ^ i
  | 0, _ => by simp [pD]
  | i + 1, hi => by
    have hl : i < X.length := hi
    obtain ⟨h1, h2⟩ := pD_bd h i (by omega)
    have hd := h _ (List.getElem_mem hl)
    rw [pD_take (List.getElem?_eq_getElem hl), Nat.pow_succ]
    exact ⟨Nat.mul_pos h1 X[i].den_pos, Nat.mul_le_mul h2 (by omega)⟩
theorem lwith_ {k : Nat} (hk : 3 ≤ k) {w : Nat} (hw : w ≤ 12) {q : Row} (hq : RowOk w (2 ^ 106) q) {X : List Rat} (hX : X.length = w) (hd : ∀ x ∈ X, DueOk x) :
    ∃ A : Row, callU T I k n__law_with_sum [eR q, eQ X] = some (.ok (eR A)) ∧ RowOk (w + 1) (2 ^ 460) A ∧ ∃ M : Int, M ≠ 0 ∧ (∀ j, j < w → at_ A j = M * at_ q j) ∧ (at_ A w : Rat) = M * dot w q (fun j => X.getD j 0) := by
  refine callW (k := k) (us := [eR q, eQ X]) (R := fun x => ∃ A : Row, x = some (.ok (eR A)) ∧ RowOk (w + 1) (2 ^ 460) A ∧ ∃ M : Int, M ≠ 0 ∧ (∀ j, j < w → at_ A j = M * at_ q j) ∧ (at_ A w : Rat) = M * dot w q (fun j => X.getD j 0)) fn__law_with_sum hk rfl ?_
  intro Z hZ
  have hpd := pD_bd fun x hx => (hd x hx).2
  simp [b__law_with_sum]
  refine Wl_map (xs := X) (fun i ρ => ∃ (x : Sl), ρ = [.val (eR q), .val (eQ X), .val (.int (pD (X.take i) : Nat)), x, .emp, .emp, .emp]) (by omega) ⟨.emp, by simp [pD]⟩ (fun i x ρ hx ⟨y, e⟩ N B hN hB => ?_) (fun ρ ⟨y, e⟩ => ?_)
  · subst e
    have hl := (List.getElem?_eq_some_iff.mp hx).1
    obtain ⟨h1, h2⟩ := hpd i (by omega)
    have hdx := (hd x (List.mem_of_getElem? hx)).2
    have hp2 : (2 ^ 20) ^ i ≤ (2 ^ 20) ^ 12 := Nat.pow_le_pow_right (by decide) (by omega)
    haveI : Bd 250 (pD (X.take i) : Int) := ⟨Sz.of_le (b := (2 ^ 20) ^ 12) (by rw [Int.natAbs_natCast]; exact Nat.le_trans h2 hp2) (by decide)⟩
    haveI : Bd 30 (x.den : Int) := Bd.of (by omega) (by omega)
    have e1 := pD_take hx
    have e2 : (pD (X.take i) : Int) * (x.den : Int) = (pD (X.take (i + 1)) : Int) := by rw [e1]; simp
    generalize pD (X.take (i + 1)) = p1 at *
    generalize pD (X.take i) = p0 at *
    simp
    rw [e2]
    exact hN _ ⟨_, rfl⟩
  · subst e
    rw [List.take_length]
    obtain ⟨h1, h2⟩ := hpd X.length (Nat.le_refl _)
    rw [List.take_length] at h1 h2
    have hp2 : (2 ^ 20) ^ X.length ≤ (2 ^ 20) ^ 12 := Nat.pow_le_pow_right (by decide) (by omega)
    have hMs : pD X ≤ 2 ^ 240 := Nat.le_trans h2 (Nat.le_trans hp2 (by decide))
    have hdv := (pD_dvd X 1).2
    change ∀ q ∈ X, q.den ∣ pD X at hdv
    generalize pD X = M at *
    simp [hX]
    refine Wl_range (n := w) (fun i ρ => ∃ (t : Int) (y x : Sl), ρ = [.val (eR q), .val (eQ X), .val (.int (M : Nat)), y, .val (.int t), x, .emp] ∧ (t : Rat) = (M : Rat) * dot i q (fun j => X.getD j 0) ∧ t.natAbs ≤ i * 2 ^ 446) (by omega) ⟨0, _, _, rfl, by simp [dot], by simp⟩ (fun i ρ hi ⟨t, y, x, e, ht, hs⟩ N B hN hB => ?_) (fun ρ ⟨t, y, x, e, ht, hs⟩ => ?_)
    · subst e
      have hl : i < X.length := by omega
      have hxi := idx_eQ (List.getElem?_eq_getElem hl)
      have hqi := idx_eR (r := q) (j := i) (by rw [hq.1]; exact hi)
      obtain ⟨⟨d1, d2⟩, d3⟩ := hd _ (List.getElem_mem hl)
      have dv := hdv _ (List.getElem_mem hl)
      have hg : X.getD i 0 = X[i] := by rw [List.getD_eq_getElem?_getD, List.getElem?_eq_getElem hl]; rfl
      have hqs := hq.2 i
      have hdot : dot (i + 1) q (fun j => X.getD j 0) = dot i q (fun j => X.getD j 0) + (at_ q i : Rat) * X[i] := by rw [dot, hg]
      generalize X[i] = z at *
      generalize dot i q (fun j => X.getD j 0) = dd at *
      generalize at_ q i = a at *
      haveI : Bd 110 a := ⟨Sz.of_le hqs (by decide)⟩
      haveI : Bd 100 z.num := ⟨d1⟩
      haveI : Bd 30 (z.den : Int) := Bd.of (by omega) (by omega)
      haveI : Bd 250 (M : Int) := ⟨Sz.of_le (b := 2 ^ 240) (by simpa using hMs) (by decide)⟩
      have zd := den_pos' z
      have zd' := z.den_pos
      have hMd : (M : Int) / (z.den : Int) * (z.den : Int) = (M : Int) := Int.ediv_mul_cancel (Int.natCast_dvd_natCast.mpr dv)
      have hMle : ((M : Int) / (z.den : Int)).natAbs ≤ 2 ^ 240 := Nat.le_trans (Int.natAbs_ediv_le_natAbs _ _) (by simpa using hMs)
      simp [hxi, hqi, zd, zd']
      refine hN _ ⟨_, _, _, rfl, ?_, ?_⟩
      · rw [hdot]
        generalize (M : Int) / (z.den : Int) = c at *
        have c1 : (c : Rat) * (z.den : Rat) = (M : Rat) := by exact_mod_cast hMd
        have c2 := num_eq z
        simp
        grind
      · have h4 : (a * z.num * ((M : Int) / (z.den : Int))).natAbs ≤ 2 ^ 106 * 2 ^ 100 * 2 ^ 240 := by
          rw [Int.natAbs_mul, Int.natAbs_mul]
          exact Nat.mul_le_mul (Nat.mul_le_mul hqs (Nat.le_of_lt d1)) hMle
        have h5 := Int.natAbs_add_le t (a * z.num * ((M : Int) / (z.den : Int)))
        have h6 : 2 ^ 106 * 2 ^ 100 * 2 ^ 240 = 2 ^ 446 := by decide
        rw [h6] at h4
        rw [Nat.add_mul, Nat.one_mul]
        omega
    · subst e
      have hlc : lcU (lcG (GV T I k) (.bin .mul (.var 6) (.var 2)) [6] [] [.val (eR q), .val (eQ X), .val (.int (M : Nat)), y, .val (.int t), x, .emp]) (q.map U.int) = some ((q.map fun a => a * (M : Int)).map U.int) := by
        rw [List.map_map]
        refine lcU_map fun a ha => ?_
        obtain ⟨j, hj⟩ := List.mem_iff_getElem?.mp ha
        have hqs := hq.2 j
        rw [at_some hj] at hqs
        haveI : Bd 110 a := ⟨Sz.of_le hqs (by decide)⟩
        haveI : Bd 250 (M : Int) := ⟨Sz.of_le (b := 2 ^ 240) (by simpa using hMs) (by decide)⟩
        simp [lcG]
      have hlc2 := lcF_ok hlc (by have := hq.1; simp; omega) (by have := hq.1; simp; omega)
      have hadd : opU .add (.lst ((q.map fun a => a * (M : Int)).map U.int)) (.lst [.int t]) = some (eR ((q.map fun a => a * (M : Int)) ++ [t])) := by
        have := hq.1
        show (if ((q.map fun a => a * (M : Int)).map U.int).length + 1 ≤ 16777216 then some (U.lst ((q.map fun a => a * (M : Int)).map U.int ++ [.int t])) else none) = _
        rw [if_pos (by simp; omega)]
        unfold eR
        simp
      have hlen : (q.map fun a => a * (M : Int)).length = w := by rw [List.length_map, hq.1]
      have hA1 : ∀ j, j < w → at_ ((q.map fun a => a * (M : Int)) ++ [t]) j = (M : Int) * at_ q j := fun j hj => by
        rw [at_app, if_pos (by omega)]
        have := at_get (r := q) (j := j) (by rw [hq.1]; exact hj)
        rw [at_some (x := at_ q j * (M : Int)) (by rw [List.getElem?_map, this]; rfl), Int.mul_comm]
      have hA2 : at_ ((q.map fun a => a * (M : Int)) ++ [t]) w = t := by
        rw [at_app, if_neg (by omega), hlen, Nat.sub_self]
        rfl
      have hAl : ((q.map fun a => a * (M : Int)) ++ [t]).length = w + 1 := by rw [List.length_append, hlen]; rfl
      generalize (q.map fun a => a * (M : Int)) ++ [t] = A at *
      generalize (q.map fun a => a * (M : Int)).map U.int = qm at *
      simp [hlc2, hadd]
      refine hZ _ ⟨A, rfl, ⟨hAl, fun j => ?_⟩, M, by omega, hA1, by rw [hA2, ht]; rfl⟩
      by_cases hj : j < w
      · rw [hA1 j hj, Int.natAbs_mul]
        have := Nat.mul_le_mul (show (M : Int).natAbs ≤ 2 ^ 240 by simpa using hMs) (hq.2 j)
        exact Nat.le_trans this (by decide)
      · by_cases hjw : j = w
        · subst hjw
          rw [hA2]
          exact Nat.le_trans hs (Nat.le_trans (Nat.mul_le_mul_right _ hw) (by decide))
        · rw [at_out (by omega)]
          simp
theorem ltold_ {k : Nat} (hk : 3 ≤ k) {X : List Rat} (hl : X.length ≤ 100) : callU T I k n__law_told [eQ X, eQ X] = some (.ok (.bl true)) := by
  refine callW (k := k) (us := [eQ X, eQ X]) (R := fun x => x = some (.ok (.bl true))) fn__law_told hk rfl ?_
  intro Z hZ
  have h1 : isaU_ (GV T I k) (eQ X) .list = some true := rfl
  simp [b__law_told, h1]
  refine Wl_range (n := X.length) (fun i ρ => ∃ (x y : Sl), ρ = [.val (eQ X), .val (eQ X), x, y]) (by omega) ⟨_, _, rfl⟩ (fun i ρ hi ⟨x, y, e⟩ N B hN hB => ?_) (fun ρ ⟨x, y, e⟩ => ?_)
  · subst e
    have hxi := idx_eQ (List.getElem?_eq_getElem hi)
    generalize X[i] = z at *
    have h2 : isaU_ (GV T I k) (encQ z) .tuple = some true := rfl
    have h3 : bfnU .len [encQ z] = some (.int 2) := rfl
    have h4 : itU .val [encQ z] = some [.int z.num, .int (z.den : Nat)] := rfl
    simp [hxi, h2, h3, h4]
    refine Wl_any (fun j ρ => ∃ (x : Sl), ρ = [.val (eQ X), .val (eQ X), .val (.int (i : Nat)), x]) (by simp) ⟨_, rfl⟩ (fun j u ρ hu ⟨x, e⟩ N2 B2 hN2 hB2 => ?_) (fun ρ ⟨x, e⟩ => ?_)
    · subst e
      have : ∃ n : Int, u = .int n := by
        have hm := List.mem_of_getElem? hu
        rcases List.mem_cons.mp hm with e | hm
        · exact ⟨_, e⟩
        · rcases List.mem_cons.mp hm with e | hm
          · exact ⟨_, e⟩
          · simp at hm
      obtain ⟨n, e⟩ := this
      subst e
      have g1 : isaU_ (GV T I k) (.int n) .int = some true := rfl
      have g2 : isaU_ (GV T I k) (.int n) .bool = some false := rfl
      simp [g1, g2]
      exact hN2 _ ⟨_, rfl⟩
    · subst e
      simp
      exact hN _ ⟨_, _, rfl⟩
  · subst e
    simp
    exact hZ _ rfl
/-! k11: the law -/
theorem answer_due {k : Nat} (hk : 12 ≤ k) {A : List Row} {w : Nat} {X : List Rat} (hA : ∀ a ∈ A, RowOk (w + 1) (2 ^ 460) a) (hm0 : 0 < A.length) (hm : A.length ≤ 12) (hw : w ≤ 12) (hX : X.length = w) (hs : Sol A w fun j => X.getD j 0) (ht : Tight A w) : callU T I k n_answer_of [eM A] = some (.ok (eQ X)) := by
  have hA1 : ∀ a ∈ A, a.length = w + 1 := fun a ha => (hA a ha).1
  rcases answer_ (k := k) hk (A := A) (w := w) (B := 2 ^ 460) (K := 12) hA1 hm0 (by omega) (by omega) (fun a ha => (hA a ha).2) Nat.one_le_two_pow (by decide) hw (by decide) (by decide +kernel) with ⟨W, _, h⟩ | ⟨Y, S, _, h⟩ | ⟨Y, e, h⟩
  · exact (h.no (prods_sol hA1 hs h.zero)).elim
  · obtain ⟨f, hf, h1⟩ := h.ne
    have := ht _ h.still f hf
    rw [h1] at this
    exact absurd this (by decide)
  · have : Y = X := getD_ext h.len hX fun j hj => tight_eq ht h.sol hs j hj
    rw [← this]
    exact e
theorem pure0 (ns : List Int) : callU T I 60 0 [.fro (ns.map U.int)] = some (.ok (.bl true)) := by
  refine callW (k := 60) (us := [.fro (ns.map U.int)]) (R := fun x => x = some (.ok (.bl true))) fn_law (by decide) rfl ?_
  intro Z hZ
  obtain ⟨n, e1, n0, n1⟩ := lat_ (k := 59) (ns := ns) (i := 0) (by decide) (by decide) (by decide)
  obtain ⟨w, e2, w1, w2⟩ := lwide_ (k := 59) (by decide) n0 n1
  obtain ⟨X, e3, x1, x2⟩ := lnumbers_ (k := 59) (by decide) (ns := ns) (w := w) w2
  obtain ⟨R, e4, r0, r1, r2, r3⟩ := lrows_ (k := 59) (by decide) (ns := ns) w1 w2
  obtain ⟨f, hf⟩ := Classical.skolem.mp (fun q : Row => show ∃ A : Row, q ∈ R → (callU T I 59 n__law_with_sum [eR q, eQ X] = some (.ok (eR A)) ∧ RowOk (w + 1) (2 ^ 460) A ∧ ∃ M : Int, M ≠ 0 ∧ (∀ j, j < w → at_ A j = M * at_ q j) ∧ (at_ A w : Rat) = M * dot w q (fun j => X.getD j 0)) from by
    by_cases hq : q ∈ R
    · obtain ⟨A, h⟩ := lwith_ (k := 59) (by decide) w2 (r2 q hq) x1 x2
      exact ⟨A, fun _ => h⟩
    · exact ⟨[], fun h => (hq h).elim⟩)
  have hA : ∀ a ∈ R.map f, RowOk (w + 1) (2 ^ 460) a := fun a ha => by
    obtain ⟨q, hq, e⟩ := List.mem_map.mp ha
    subst e
    exact (hf q hq).2.1
  have hdot : ∀ q ∈ R, ∃ M : Int, M ≠ 0 ∧ (at_ (f q) w : Rat) = M * dot w q (fun j => X.getD j 0) ∧ ∀ x, dot w (f q) x = M * dot w q x := fun q hq => by
    obtain ⟨_, _, M, m0, m1, m2⟩ := hf q hq
    refine ⟨M, m0, m2, fun x => ?_⟩
    have : ∀ n, n ≤ w → dot n (f q) x = M * dot n q x := fun n => by
      induction n with
      | zero => intro _; simp [dot]
      | succ n ih =>
        intro hn
        rw [dot, dot, ih (by omega), m1 n (by omega)]
        simp
        grind
    exact this w (Nat.le_refl _)
  have hs : Sol (R.map f) w fun j => X.getD j 0 := fun a ha => by
    obtain ⟨q, hq, e⟩ := List.mem_map.mp ha
    subst e
    obtain ⟨M, _, m2, m3⟩ := hdot q hq
    rw [m2, m3]
  have ht : Tight (R.map f) w := fun x hx => r3 x fun q hq => by
    obtain ⟨M, m0, _, m3⟩ := hdot q hq
    have := hx (f q) (List.mem_map.mpr ⟨q, hq, rfl⟩)
    rw [m3] at this
    rcases Rat.mul_eq_zero.mp this with z | z
    · exact (m0 (by exact_mod_cast z)).elim
    · exact z
  have e5 := answer_due (k := 59) (by decide) hA (by simpa using r0) (by simpa using r1) w2 x1 hs ht
  have e6 := ltold_ (k := 59) (by decide) (X := X) (by omega)
  have l1 : lcU (lcG (GV T I 60) (.call n__law_with_sum [.var 4, .var 2]) [4] [] [.val (.fro (ns.map U.int)), .val (.int (w : Nat)), .val (eQ X), .emp, .emp, .emp, .emp]) (R.map eR) = some (R.map fun q => eR (f q)) := lcU_map fun q hq => by
    simp [lcG, (hf q hq).1]
  have l2 := lcF_ok l1 (by simp; omega) (by simp; omega)
  have l3 : U.lst (R.map fun q => eR (f q)) = eM (R.map f) := by unfold eM; rw [List.map_map]; rfl
  rw [l3] at l2
  have hAl : (R.map f).length = R.length := by simp
  generalize R.map f = A at *
  have l4 : lcU (lcG (GV T I 60) (.bif .list [.var 4]) [4] [] [.val (.fro (ns.map U.int)), .val (.int (w : Nat)), .val (eQ X), .val (eM A), .emp, .emp, .emp]) (A.map eR) = some (A.map eR) := lcU_map fun q hq => by simp [lcG]
  have l5 := lcF_ok l4 (by simp; omega) (by simp; omega)
  have l6 : U.lst (A.map eR) = eM A := rfl
  rw [l6] at l5
  have hx0 : 0 < X.length := by omega
  have hx := idx_eQ (List.getElem?_eq_getElem hx0)
  have hx' : idxU (eQ X) (.int 0) = some (encQ X[0]) := hx
  have hsub := fun (ρ : EU) (u : U) => subU_own (ρ := ρ) (xs := X.map encQ) (v := u) (i := 0) (j := 6) (by simpa using hx0)
  have hsub' : ∀ (ρ : EU) (u : U), subU (some (.own (eQ X))) (some (.ok u)) (some (.ok (.int 0))) ρ 6 = some (.nxt, ρ.set 6 (.own (.lst ((X.map encQ).set 0 u)))) := hsub
  generalize X[0] = z at *
  generalize (X.map encQ) = XX at *
  simp [b_law, e1, e2, e3, e4, e5, l2, l5, e6, hx', hsub']
  exact hZ _ rfl
end K11
namespace K11
open PySem PySem.Spec PyProof.Rows L2 Ip
theorem pure_ : ∀ ns : List Int, ns.length ≤ 63 → (∀ z ∈ ns, Builtin.Int.intBits z ≤ 1048576) → callU T I 60 0 [.fro (ns.map U.int)] = some (.ok (.bl true)) := fun ns _ _ => pure0 ns
end K11
open PySem PySem.W PySem.Calls PyProof.Rows in
theorem PySem.Challenge.cw_chanceduel_k11_the_one_answer_holds : PySem.Challenge.rw_chanceduel_k11_the_one_answer.Holds := by
  w_on; o_law
  refine HandSHeadRun.head_any (r := OpenLaw.row PySem.Challenge.rw_chanceduel_k11_the_one_answer) (q := view (OpenLaw.row PySem.Challenge.rw_chanceduel_k11_the_one_answer).prog [26]) (H := K11.hk) (ob := K11.ob) (M := 15000) (loose := K11.loose) (d := HandSHeadRun.topDef (OpenLaw.row PySem.Challenge.rw_chanceduel_k11_the_one_answer).prog 26) (kwd := []) K11.ob_eq
    (by kernel_rfl) (fun s => by kernel_rfl) K11.run (by kernel_rfl) (by kernel_rfl) (by kernel_rfl) (by rfl) (by first | assumption | decide +kernel) (by decide +kernel) ⟨rfl, rfl, rfl, rfl, rfl, by decide +kernel⟩ ?hw ?hc
  case hw => w_witness2
  case hc =>
    refine Ip.walk_EB (l := PySem.Challenge.rw_chanceduel_k11_the_one_answer) (n := 63) (k := 60) (x := "_law_script") (M := K11.M.m) (fL := 0) (i := K11.i0) rfl (by decide) (by kernel_rfl) ⟨rfl, by decide, by decide⟩ K11.mo (by kernel_rfl) (by kernel_rfl) (by kernel_rfl) ?S (fun ns h1 h2 => Ip.law_of (K11.pure_ ns h1 h2))
    intro w mg h Y G
    obtain ⟨K, KX, c⟩ := Y
    exact ⟨Ip.cfOf K11.M K, KX, (Ip.stands_of K11.hd c KX G).gl 0 _ (by kernel_rfl), fun base b1 b2 => Ip.stands_of K11.hd c b1 b2⟩
