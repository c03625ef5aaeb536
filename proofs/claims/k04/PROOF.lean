import PyProof.Rows.All
import Wide.All
import OpenK.AllK
import Wide.FinOn
import HandS.ForExc
import HandS.Wide
import HandS.Text
import HandS.Dict
import HandS.Comp
import HandS.More
import HandS.ExcCtx
import HandS.ExcIs
import HandS.TupAny
import HandS.IsInst
import HandS.Iter
import HandS.HeadWalk
import HandS.Hot
import HandS.HotCalls
import HandS.StrMore
import HandS.ExcField
import HandS.WordsExc
import HandS.Defaults
import HandS.HeadHook4
import HandS.HeadEnd
import HandS.EndBits
import PyProof.ExcBaseAll.ValueError
import HandS.Head0
import HandS.Head1
import HandS.Head2
import PySem.Challenge.RW_chanceduel_k04_fractions_read
set_option Elab.async false
set_option linter.all false
set_option maxRecDepth 100000
set_option maxHeartbeats 0
/-! IpCore: values, stores, a small IR, its interpreter. Written by an AI agent. -/
namespace Ip
open PySem (Str)

/-- values: tuples by value, lists, dicts, instances, caught exceptions by their place in the store -/
inductive W where
  | non | bl (b : Bool) | int (i : Int) | str (x : Str) | tup (ws : List W) | loc (n : Nat)
abbrev Env := List (Option W)
abbrev Key := Sum Int Str
inductive Cell where
  | lst (ws : List W)
  /-- a list that is read alone -/
  | fro (ws : List W)
  | dct (kvs : List (Key × W))
  | ins (c : Nat) (fs : List (Nat × W))
  /-- a caught exception, within its except suite -/
  | exn (c : Nat) (fs : List (Nat × W))
  /-- let go -/
  | dead
abbrev Store := List Cell
structure Exn where
  cls : Nat
  fs : List (Nat × W)
inductive Rs (α : Type) where
  | ok (a : α)
  | ex (e : Exn)
abbrev R (α : Type) := Option (Rs α × Store)
inductive Fl where
  | nxt | brk | cnt | ret (w : W) | ex (e : Exn)

/-! ### the IR -/
inductive Op2 where
  | add | sub | mul | fdiv | mod | pow
inductive Cm where
  | eq | ne | lt | le | gt | ge | isN | notN | isin | notin
inductive Isa where
  | int | bool | str | tuple | list | dict | ve | own (c : Nat)
inductive Bf where
  | len | abs | int | str | list | tuple | max2 | min2 | max1 | min1 | sum | any | all
/-- built-in methods -/
inductive Bm where
  | append | pop | insert | index | clear | get | join | split | partition
  deriving DecidableEq
/-- what a loop walks -/
inductive Ik where
  | val | range1 | range2 | enum
inductive Ex where
  | var (i : Nat)
  | int (i : Int)
  | str (x : Str)
  | bl (b : Bool)
  | non
  | glob (x : Nat)
  | bin (op : Op2) (a b : Ex)
  | neg (a : Ex)
  | cmp (op : Cm) (a b : Ex)
  | chn (o1 o2 : Cm) (a b c : Ex)
  | chn3 (o1 o2 o3 : Cm) (a b c d : Ex)
  | and (es : List Ex)
  | or (es : List Ex)
  | not (a : Ex)
  | ite (c a b : Ex)
  | tup (es : List Ex)
  | lst (es : List Ex)
  | idx (a i : Ex)
  | slc (a : Ex) (lo hi : List Ex)
  | call (f : Nat) (es : List Ex)
  | mk (c : Nat) (es : List Ex)
  | bif (b : Bf) (es : List Ex)
  | isi (a : Ex) (t : Isa)
  | bm (o : Ex) (m : Bm) (es : List Ex)
  | meth (o : Ex) (m : Nat) (es : List Ex)
  | fld (o : Ex) (x : Nat)
  | lc (elt : Ex) (tg : List Nat) (k : Ik) (es : List Ex) (ifs : List Ex)
inductive Sx where
  | asg (i : Nat) (e : Ex)
  | unp (is : List Nat) (e : Ex)
  | par (i j : Nat) (a b : Ex)
  | sub (o i e : Ex)
  | fset (o : Ex) (x : Nat) (e : Ex)
  | aug (i : Nat) (op : Op2) (e : Ex)
  | augs (o i : Ex) (op : Op2) (e : Ex)
  | exp (e : Ex)
  | iff (c : Ex) (a b : List Sx)
  | for (tg : List Nat) (k : Ik) (es : List Ex) (body : List Sx)
  | while (c : Ex) (body : List Sx)
  | ret (e : Ex)
  | retN
  | raise (c : Nat) (fs : List Nat) (es : List Ex)
  | tryAs (body : List Sx) (c : Nat) (i : Nat) (suite : List Sx)
  | tryOnly (body : List Sx) (c : Nat) (suite : List Sx)
  | pass | brk | cnt

/-! ### results -/
def bnd {α β : Type} (x : R α) (f : α → Store → R β) : R β := match x with
  | none => none
  | some (.ex e, S) => some (.ex e, S)
  | some (.ok a, S) => f a S
def rok {α : Type} (a : α) (S : Store) : R α := some (.ok a, S)
@[simp] theorem bnd_ok {α β : Type} (a : α) (S : Store) (f : α → Store → R β) : bnd (some (.ok a, S)) f = f a S := rfl
@[simp] theorem bnd_ex {α β : Type} (e : Exn) (S : Store) (f : α → Store → R β) : bnd (some (.ex e, S)) f = some (.ex e, S) := rfl
@[simp] theorem bnd_none {α β : Type} (f : α → Store → R β) : bnd none f = none := rfl
@[simp] theorem bnd_rok {α β : Type} (a : α) (S : Store) (f : α → Store → R β) : bnd (rok a S) f = f a S := rfl

/-! ### data by the store: for == -/
def listAt (S : Store) (n : Nat) : Option (List W) := match S[n]? with
  | some (.lst ws) => some ws
  | some (.fro ws) => some ws
  | _ => none
mutual
def dat (S : Store) : Nat → W → Option PySem.PyData
  | _, .non => some .none
  | _, .bl b => some (.bool b)
  | _, .int i => some (.int i)
  | _, .str x => some (.str x)
  | 0, _ => none
  | k + 1, .tup ws => (datAll S k ws).map .tuple
  | k + 1, .loc n => match listAt S n with
    | some ws => (datAll S k ws).map .list
    | none => none
def datAll (S : Store) : Nat → List W → Option (List PySem.PyData)
  | _, [] => some []
  | k, w :: ws => match dat S k w, datAll S k ws with
    | some d, some ds => some (d :: ds)
    | _, _ => none
end
/-- scalars alone -/
def scalW : W → Option PySem.PyData
  | .non => some .none
  | .bl b => some (.bool b)
  | .int i => some (.int i)
  | .str x => some (.str x)
  | _ => none

/-! ### operators -/
def op2 (op : Op2) (S : Store) (a b : W) : Option (W × Store) := match op, a, b with
  | .add, .int i, .int j => some (.int (i + j), S)
  | .add, .str x, .str y => if x.length + y.length ≤ 16777216 then some (.str (x ++ y), S) else none
  | .add, .tup xs, .tup ys => if xs.length + ys.length ≤ 16777216 ∧ xs ≠ [] ∧ ys ≠ [] then some (.tup (xs ++ ys), S) else none
  | .add, .loc n, .loc k => match S[n]?, S[k]? with
    | some (.lst xs), some (.lst ys) => if xs.length + ys.length ≤ 16777216 then some (.loc S.length, S ++ [.lst (xs ++ ys)]) else none
    | _, _ => none
  | .sub, .int i, .int j => some (.int (i - j), S)
  | .mul, .int i, .int j => if i.natAbs.log2 + j.natAbs.log2 < 1000000 then some (.int (i * j), S) else none
  | .mul, .loc n, .int k => match S[n]? with
    | some (.lst xs) => if -(2 ^ 63) ≤ k ∧ k < 2 ^ 63 ∧ xs.length * k.toNat ≤ 16777216 then some (.loc S.length, S ++ [.lst (List.replicate k.toNat xs).flatten]) else none
    | _ => none
  | .fdiv, .int i, .int j => if j ≠ 0 ∧ j.natAbs.log2 < 9000 then some (.int (i.fdiv j), S) else none
  | .mod, .int i, .int j => if j ≠ 0 then some (.int (i.fmod j), S) else none
  | .pow, .int i, .int j => if 0 ≤ j ∧ j ≤ 1000000 ∧ i.natAbs < 2 ^ 64 then some (.int (i ^ j.toNat), S) else none
  | _, _, _ => none

/-- == of flat values, as `in` asks it -/
def flatW : W → Bool
  | .non => true
  | .bl _ => true
  | .int _ => true
  | .str _ => true
  | _ => false
def eqF : W → W → Bool
  | .non, .non => true
  | .bl a, .bl b => a == b
  | .bl a, .int b => (if a then 1 else 0) == b
  | .int a, .bl b => a == (if b then 1 else 0)
  | .int a, .int b => a == b
  | .str a, .str b => a == b
  | _, _ => false
def inW (x : W) (xs : List W) : Bool := xs.any fun y => eqF y x
def eqDeep (S : Store) (a b : W) : Option Bool := match dat S 64 a, dat S 64 b with
  | some d, some e => if d.canLay0 && e.canLay0 then some (PySem.PyData.eqv d e) else none
  | _, _ => none
def eqW (S : Store) : W → W → Option Bool
  | .int i, .int j => some (decide (i = j))
  | .bl a, .bl b => some (decide (a = b))
  | .str x, .str y => some (decide (x = y))
  | a, b => eqDeep S a b
def keyW : W → Option Key
  | .int i => some (.inl i)
  | .str x => some (.inr x)
  | _ => none
def getK (k : Key) : List (Key × W) → Option W
  | [] => none
  | (q, w) :: r => if q = k then some w else getK k r
def isinS (x y : Str) : Bool := match x.cps.toList with
  | [c] => decide (c ∈ y.cps.toList)
  | _ => !(PySem.Builtin.Str.occurrences y x 0 y.length 1).isEmpty
def isin (S : Store) (a b : W) : Option Bool := match a, b with
  | .str x, .str y => some (isinS x y)
  | a, .tup ws => if flatW a && ws.all flatW then some (inW a ws) else none
  | a, .loc n => match S[n]? with
    | some (.lst ws) => if flatW a && ws.all flatW then some (inW a ws) else none
    | some (.fro ws) => if flatW a && ws.all flatW then some (inW a ws) else none
    | some (.dct kvs) => match keyW a with
      | some k => some (getK k kvs).isSome
      | none => none
    | _ => none
  | _, _ => none
def isN : W → Bool
  | .non => true
  | _ => false
def cm2 (op : Cm) (S : Store) (a b : W) : Option Bool := match op with
  | .eq => eqW S a b
  | .ne => (eqW S a b).map (!·)
  | .isN => if isN b then some (isN a) else none
  | .notN => if isN b then some (!isN a) else none
  | .isin => isin S a b
  | .notin => (isin S a b).map (!·)
  | .lt => match a, b with
    | .int i, .int j => some (decide (i < j))
    | _, _ => none
  | .le => match a, b with
    | .int i, .int j => some (decide (i ≤ j))
    | _, _ => none
  | .gt => match a, b with
    | .int i, .int j => some (decide (j < i))
    | _, _ => none
  | .ge => match a, b with
    | .int i, .int j => some (decide (j ≤ i))
    | _, _ => none
def idx2 (S : Store) (a i : W) : Option W := match a, i with
  | .tup ws, .int i => L2.atI ws i
  | .str z, .int i => if z.length ≤ 16777216 then (L2.atI z.cps.toList i).map fun c => .str ⟨#[c]⟩ else none
  | .loc n, i => match S[n]?, i with
    | some (.lst ws), .int i => L2.atI ws i
    | some (.fro ws), .int i => L2.atI ws i
    | some (.dct kvs), i => match keyW i with
      | some k => getK k kvs
      | none => none
    | _, _ => none
  | _, _ => none
def cutW (xs : List W) (lo hi : Option Int) : List W := (xs.drop (HT.sIx xs.length 0 lo)).take (HT.sIx xs.length xs.length hi - HT.sIx xs.length 0 lo)
def slc2 (S : Store) (a : W) (lo hi : Option Int) : Option (W × Store) := match a with
  | .str z => if z.length ≤ 16777216 then some (.str (L2.cutS z lo hi), S) else none
  | .tup ws => some (.tup (cutW ws lo hi), S)
  | .loc n => match listAt S n with
    | some ws => some (.loc S.length, S ++ [.lst (cutW ws lo hi)])
    | none => none
  | _ => none
def intsOf : List W → Option (List Int)
  | [] => some []
  | .int i :: r => (intsOf r).map (i :: ·)
  | _ => none
def blsOf : List W → Option (List Bool)
  | [] => some []
  | .bl i :: r => (blsOf r).map (i :: ·)
  | _ => none
def strsOf : List W → Option (List Str)
  | [] => some []
  | .str i :: r => (strsOf r).map (i :: ·)
  | _ => none
def maxL : List Int → Int
  | [] => 0
  | [a] => a
  | a :: r => max a (maxL r)
def minL : List Int → Int
  | [] => 0
  | [a] => a
  | a :: r => min a (minL r)
def seqAt (S : Store) : W → Option (List W)
  | .tup ws => some ws
  | .loc n => listAt S n
  | _ => none
def bfn (b : Bf) (S : Store) (ws : List W) : Option (W × Store) := match b, ws with
  | .len, [.str x] => if x.length ≤ 16777216 then some (.int x.length, S) else none
  | .len, [.tup ws] => some (.int ws.length, S)
  | .len, [.loc n] => match S[n]? with
    | some (.lst ws) => some (.int ws.length, S)
    | some (.fro ws) => some (.int ws.length, S)
    | _ => none
  | .abs, [.int i] => some (.int (if i < 0 then -i else i), S)
  | .int, [.int i] => some (.int i, S)
  | .int, [.bl b] => some (.int (if b then 1 else 0), S)
  | .int, [.str x] => if x.length ≤ 640 then (PySem.intText? x).map fun n => (.int n, S) else none
  | .str, [.int i] => if i.natAbs.log2 < 1920 then some (.str (toString i), S) else none
  | .list, [a] => match seqAt S a with
    | some ws => some (.loc S.length, S ++ [.lst ws])
    | none => none
  | .tuple, [.loc n] => match listAt S n with
    | some ws => some (.tup ws, S)
    | none => none
  | .max2, [.int i, .int j] => some (.int (if j > i then j else i), S)
  | .min2, [.int i, .int j] => some (.int (if j < i then j else i), S)
  | .max1, [.loc n] => match (listAt S n).bind intsOf with
    | some ns => if 0 < ns.length then some (.int (maxL ns), S) else none
    | none => none
  | .min1, [.loc n] => match (listAt S n).bind intsOf with
    | some ns => if 0 < ns.length then some (.int (minL ns), S) else none
    | none => none
  | .sum, [.loc n] => match (listAt S n).bind intsOf with
    | some ns => some (.int ns.sum, S)
    | none => none
  | .any, [.loc n] => match (listAt S n).bind blsOf with
    | some bs => some (.bl (bs.any id), S)
    | none => none
  | .all, [.loc n] => match (listAt S n).bind blsOf with
    | some bs => some (.bl (bs.all id), S)
    | none => none
  | _, _ => none
/-- the first place -/
def ixOf (x : W) : List W → Option Nat
  | [] => none
  | y :: r => if eqF y x then some 0 else (ixOf x r).map (· + 1)
def bmt (m : Bm) (S : Store) (o : W) (ws : List W) : Option (W × Store) := match m, o, ws with
  | .append, .loc n, [w] => match S[n]? with
    | some (.lst xs) => if xs.length < 16777216 then some (.non, S.set n (.lst (xs ++ [w]))) else none
    | _ => none
  | .pop, .loc n, [.int i] => match S[n]? with
    | some (.lst xs) => if -(2 ^ 63) ≤ i ∧ i < 2 ^ 63 then (L2.ixN xs.length i).bind fun k => (xs[k]?).map fun w => (w, S.set n (.lst (xs.eraseIdx k))) else none
    | _ => none
  | .insert, .loc n, [.int i, w] => match S[n]? with
    | some (.lst xs) => if xs.length < 16777216 ∧ 0 ≤ i ∧ i < 2 ^ 63 then some (.non, S.set n (.lst (xs.take i.toNat ++ w :: xs.drop i.toNat))) else none
    | _ => none
  | .clear, .loc n, [] => match S[n]? with
    | some (.lst xs) => some (.non, S.set n (.lst []))
    | _ => none
  | .index, .loc n, [x] => match listAt S n with
    | some xs => if flatW x && xs.all flatW then (ixOf x xs).map fun (j : Nat) => (.int (j : Int), S) else none
    | none => none
  | .join, .str a, [.loc n] => match (listAt S n).bind strsOf with
    | some ys => if (ys.map (·.length)).sum + ys.length * a.length ≤ 16777216 then some (.str (PySem.Txt.join a ys), S) else none
    | none => none
  | .split, .str a, [.str b] => if (b.length == 0) = false ∧ a.length + 2 ≤ 16777216 then some (.loc S.length, S ++ [.lst ((PySem.Txt.split a b).map W.str)]) else none
  | .partition, .str a, [.str b] => if (b.length == 0) = false ∧ a.length ≤ 16777216 then some (.tup [.str (PySem.Txt.partition a b).1, .str (PySem.Txt.partition a b).2.1, .str (PySem.Txt.partition a b).2.2], S) else none
  | _, _, _ => none

/-- whose method it is -/
def bmStr : Bm → Bool
  | .join => true
  | .split => true
  | .partition => true
  | _ => false
def bmTy (m : Bm) (S : Store) (o : W) : Bool := match o with
  | .str _ => bmStr m
  | .loc n => !bmStr m && (listAt S n).isSome
  | _ => false

/-! ### walks -/
inductive Src where
  | fixed (ws : List W)
  | live (n : Nat)
  | enum (n : Nat)
def srcOf (k : Ik) (S : Store) (ws : List W) : Option Src := match k, ws with
  | .val, [.tup ws] => some (.fixed ws)
  | .val, [.str x] => some (.fixed (x.cps.toList.map fun c => .str ⟨#[c]⟩))
  | .val, [.loc n] => match listAt S n with
    | some _ => some (.live n)
    | none => none
  | .range1, [.int j] => if -(2 ^ 62) ≤ j ∧ j < 2 ^ 62 then some (.fixed ((List.range j.toNat).map fun (i : Nat) => .int (0 + (i : Int)))) else none
  | .range2, [.int i, .int j] => if -(2 ^ 62) ≤ i ∧ i < 2 ^ 62 ∧ -(2 ^ 62) ≤ j ∧ j < 2 ^ 62 then some (.fixed ((List.range (j - i).toNat).map fun (k : Nat) => .int (i + (k : Int)))) else none
  | .enum, [.loc n] => match listAt S n with
    | some _ => some (.enum n)
    | none => none
  | _, _ => none
/-- the i-th item: some none at the end -/
def srcAt (S : Store) (i : Nat) : Src → Option (Option W)
  | .fixed ws => some ws[i]?
  | .live n => (listAt S n).map fun ws => ws[i]?
  | .enum n => (listAt S n).map fun ws => (ws[i]?).map fun w => .tup [.int i, w]
@[irreducible] def big : Nat := 1000000000
def setT (tg : List Nat) (w : W) (ρ : Env) : Option Env := match tg, w with
  | [i], w => some (ρ.set i (some w))
  | [i, j], .tup [a, b] => some ((ρ.set i (some a)).set j (some b))
  | [i, j, k], .tup [a, b, c] => some (((ρ.set i (some a)).set j (some b)).set k (some c))
  | [i, j, k, l], .tup [a, b, c, d] => some ((((ρ.set i (some a)).set j (some b)).set k (some c)).set l (some d))
  | _, _ => none
/-- a comprehension's loop; what raises within is not told -/
def lcL (g : W → Store → R (Option W)) (src : Src) : Nat → Nat → Store → Option (List W × Store)
  | 0, _, _ => none
  | k + 1, i, S => match srcAt S i src with
    | none => none
    | some none => some ([], S)
    | some (some w) => match g w S with
      | some (.ok o, S1) => match lcL g src k (i + 1) S1 with
        | some (ys, S2) => some (o.toList ++ ys, S2)
        | none => none
      | _ => none
def forL (step : W → Env → Store → Option (Fl × Env × Store)) (src : Src) : Nat → Nat → Env → Store → Option (Fl × Env × Store)
  | 0, _, _, _ => none
  | k + 1, i, ρ, S => match srcAt S i src with
    | none => none
    | some none => some (.nxt, ρ, S)
    | some (some w) => match step w ρ S with
      | some (.nxt, ρ1, S1) => forL step src k (i + 1) ρ1 S1
      | some (.cnt, ρ1, S1) => forL step src k (i + 1) ρ1 S1
      | some (.brk, ρ1, S1) => some (.nxt, ρ1, S1)
      | some r => some r
      | none => none
def whlL (c : Env → Store → R Bool) (b : Env → Store → Option (Fl × Env × Store)) : Nat → Env → Store → Option (Fl × Env × Store)
  | 0, _, _ => none
  | k + 1, ρ, S => match c ρ S with
    | none => none
    | some (.ex e, S1) => some (.ex e, ρ, S1)
    | some (.ok false, S1) => some (.nxt, ρ, S1)
    | some (.ok true, S1) => match b ρ S1 with
      | some (.nxt, ρ2, S2) => whlL c b k ρ2 S2
      | some (.cnt, ρ2, S2) => whlL c b k ρ2 S2
      | some (.brk, ρ2, S2) => some (.nxt, ρ2, S2)
      | some r => some r
      | none => none

/-! ### the interpreter -/
structure Gam where
  call : Nat → List W → Store → R W
  make : Nat → List W → Store → R W
  mt : Nat → Nat → Option Nat
  glob : Nat → Option W
  /-- is the exception class under the other -/
  up : Nat → Nat → Bool
  /-- the fields of a class, of an exception class -/
  fok : Nat → Nat → Bool
  fox : Nat → Nat → Bool
def lift (x : Option (W × Store)) : R W := x.map fun p => (.ok p.1, p.2)
def truth (x : R W) : R Bool := bnd x fun w S => match w with
  | .bl b => rok b S
  | _ => none
inductive Ty where
  | non | bl | int | str | tup | lst | dct
def isaT : Ty → Isa → Bool
  | .int, .int => true
  | .bl, .int => true
  | .bl, .bool => true
  | .str, .str => true
  | .tup, .tuple => true
  | .lst, .list => true
  | .dct, .dict => true
  | _, _ => false
def isaX (Γ : Gam) (c : Nat) : Isa → Bool
  | .ve => true
  | .own d => Γ.up c d
  | _ => false
def isaW (Γ : Gam) (S : Store) (a : W) (t : Isa) : Option Bool := match a with
  | .non => some (isaT .non t)
  | .bl _ => some (isaT .bl t)
  | .int _ => some (isaT .int t)
  | .str _ => some (isaT .str t)
  | .tup _ => some (isaT .tup t)
  | .loc n => match S[n]? with
    | some (.lst _) => some (isaT .lst t)
    | some (.fro _) => some (isaT .lst t)
    | some (.dct _) => some (isaT .dct t)
    | some (.exn c fs) => if fs = [] then some (isaX Γ c t) else none
    | _ => none
def fldW (Γ : Gam) (S : Store) (a : W) (x : Nat) : Option W := match a with
  | .loc n => match S[n]? with
    | some (.ins c fs) => if Γ.fok c x then fs.lookup x else none
    | some (.exn c fs) => if Γ.fox c x then fs.lookup x else none
    | _ => none
  | _ => none
def toP (ws : List W) (S : Store) : R (Option Int) := match intsOf ws with
  | some l => rok l.head? S
  | none => none
mutual
def ev (Γ : Gam) : Ex → Env → Store → R W
  | .var i, ρ, S => (match ρ[i]? with
    | some (some w) => rok w S
    | _ => none)
  | .int i, _, S => rok (.int i) S
  | .str x, _, S => rok (.str x) S
  | .bl b, _, S => rok (.bl b) S
  | .non, _, S => rok .non S
  | .glob x, _, S => (match Γ.glob x with
    | some w => rok w S
    | none => none)
  | .bin op a b, ρ, S => bnd (ev Γ a ρ S) fun x S1 => bnd (ev Γ b ρ S1) fun y S2 => lift (op2 op S2 x y)
  | .neg a, ρ, S => bnd (ev Γ a ρ S) fun x S1 => (match x with
    | .int i => rok (.int (-i)) S1
    | _ => none)
  | .cmp op a b, ρ, S => bnd (ev Γ a ρ S) fun x S1 => bnd (ev Γ b ρ S1) fun y S2 => (match cm2 op S2 x y with
    | some k => rok (.bl k) S2
    | none => none)
  | .chn o1 o2 a b c, ρ, S => bnd (ev Γ a ρ S) fun x S1 => bnd (ev Γ b ρ S1) fun y S2 => (match cm2 o1 S2 x y with
    | some true => bnd (ev Γ c ρ S2) fun z S3 => (match cm2 o2 S3 y z with
      | some k => rok (.bl k) S3
      | none => none)
    | some false => rok (.bl false) S2
    | none => none)
  | .chn3 o1 o2 o3 a b c d, ρ, S => bnd (ev Γ a ρ S) fun x S1 => bnd (ev Γ b ρ S1) fun y S2 => (match cm2 o1 S2 x y with
    | some true => bnd (ev Γ c ρ S2) fun z S3 => (match cm2 o2 S3 y z with
      | some true => bnd (ev Γ d ρ S3) fun u S4 => (match cm2 o3 S4 z u with
        | some k => rok (.bl k) S4
        | none => none)
      | some false => rok (.bl false) S3
      | none => none)
    | some false => rok (.bl false) S2
    | none => none)
  | .and es, ρ, S => evAnd Γ es ρ S
  | .or es, ρ, S => evOr Γ es ρ S
  | .not a, ρ, S => bnd (truth (ev Γ a ρ S)) fun b S1 => rok (.bl (!b)) S1
  | .ite c a b, ρ, S => bnd (truth (ev Γ c ρ S)) fun k S1 => (match k with
    | true => ev Γ a ρ S1
    | false => ev Γ b ρ S1)
  | .tup es, ρ, S => bnd (evs Γ es ρ S) fun ws S1 => rok (.tup ws) S1
  | .lst es, ρ, S => bnd (evs Γ es ρ S) fun ws S1 => rok (.loc S1.length) (S1 ++ [.lst ws])
  | .idx a i, ρ, S => bnd (ev Γ a ρ S) fun x S1 => bnd (ev Γ i ρ S1) fun y S2 => (match idx2 S2 x y with
    | some w => rok w S2
    | none => none)
  | .slc a lo hi, ρ, S => bnd (ev Γ a ρ S) fun x S1 => bnd (bnd (evs Γ lo ρ S1) toP) fun l S2 => bnd (bnd (evs Γ hi ρ S2) toP) fun h S3 => lift (slc2 S3 x l h)
  | .call f es, ρ, S => bnd (evs Γ es ρ S) fun ws S1 => Γ.call f ws S1
  | .mk c es, ρ, S => bnd (evs Γ es ρ S) fun ws S1 => Γ.make c ws S1
  | .bif b es, ρ, S => bnd (evs Γ es ρ S) fun ws S1 => lift (bfn b S1 ws)
  | .isi a t, ρ, S => bnd (ev Γ a ρ S) fun x S1 => (match isaW Γ S1 x t with
    | some k => rok (.bl k) S1
    | none => none)
  | .bm o m es, ρ, S => bnd (ev Γ o ρ S) fun x S1 => (match bmTy m S1 x with
    | true => bnd (evs Γ es ρ S1) fun ws S2 => lift (bmt m S2 x ws)
    | false => none)
  | .meth o m es, ρ, S => bnd (ev Γ o ρ S) fun x S1 => (match x with
    | .loc n => (match S1[n]? with
      | some (.ins c fs) => (match fs.lookup m, Γ.mt c m with
        | none, some f => bnd (evs Γ es ρ S1) fun ws S2 => Γ.call f (.loc n :: ws) S2
        | _, _ => none)
      | _ => none)
    | _ => none)
  | .fld o x, ρ, S => bnd (ev Γ o ρ S) fun a S1 => (match fldW Γ S1 a x with
    | some w => rok w S1
    | none => none)
  | .lc elt tg k es ifs, ρ, S => bnd (evs Γ es ρ S) fun ws S1 => (match srcOf k S1 ws with
    | none => none
    | some src => (match lcL (fun w S2 => match setT tg w ρ with
        | none => none
        | some ρ1 => bnd (evAll Γ ifs ρ1 S2) fun b S3 => match b with
          | true => bnd (ev Γ elt ρ1 S3) fun y S4 => rok (some y) S4
          | false => rok none S3) src big 0 S1 with
      | some (ys, S2) => if ys.length ≤ 16777216 then rok (.loc S2.length) (S2 ++ [.lst ys]) else none
      | none => none))
def evs (Γ : Gam) : List Ex → Env → Store → R (List W)
  | [], _, S => rok [] S
  | e :: es, ρ, S => bnd (ev Γ e ρ S) fun w S1 => bnd (evs Γ es ρ S1) fun ws S2 => rok (w :: ws) S2
def evAnd (Γ : Gam) : List Ex → Env → Store → R W
  | [], _, _ => none
  | [e], ρ, S => ev Γ e ρ S
  | e :: es, ρ, S => bnd (truth (ev Γ e ρ S)) fun b S1 => (match b with
    | true => evAnd Γ es ρ S1
    | false => rok (.bl false) S1)
def evOr (Γ : Gam) : List Ex → Env → Store → R W
  | [], _, _ => none
  | [e], ρ, S => ev Γ e ρ S
  | e :: es, ρ, S => bnd (truth (ev Γ e ρ S)) fun b S1 => (match b with
    | false => evOr Γ es ρ S1
    | true => rok (.bl true) S1)
/-- a comprehension's tests -/
def evAll (Γ : Gam) : List Ex → Env → Store → R Bool
  | [], _, S => rok true S
  | e :: es, ρ, S => bnd (truth (ev Γ e ρ S)) fun b S1 => (match b with
    | true => evAll Γ es ρ S1
    | false => rok false S1)
end
/-- an expression's result as a statement's -/
def toFl (x : R W) (ρ : Env) (k : W → Store → Option (Fl × Env × Store)) : Option (Fl × Env × Store) := match x with
  | none => none
  | some (.ex e, S) => some (.ex e, ρ, S)
  | some (.ok w, S) => k w S
def toFls (x : R (List W)) (ρ : Env) (k : List W → Store → Option (Fl × Env × Store)) : Option (Fl × Env × Store) := match x with
  | none => none
  | some (.ex e, S) => some (.ex e, ρ, S)
  | some (.ok w, S) => k w S
def setIx (S : Store) (o i v : W) : Option Store := match o with
  | .loc n => match S[n]?, i with
    | some (.lst xs), .int k => (L2.ixN xs.length k).map fun j => S.set n (.lst (xs.set j v))
    | _, _ => none
  | _ => none
def augW (op : Op2) (a b : W) : Option W := match op, a, b with
  | .add, .int x, .int y => some (.int (x + y))
  | .sub, .int x, .int y => some (.int (x - y))
  | _, _, _ => none
def putW (x : Nat) (w : W) : List (Nat × W) → List (Nat × W)
  | [] => [(x, w)]
  | (y, u) :: r => if y = x then (y, w) :: r else (y, u) :: putW x w r
def setFl (Γ : Gam) (S : Store) (o : W) (x : Nat) (v : W) : Option Store := match o with
  | .loc n => match S[n]? with
    | some (.ins c fs) => if Γ.fok c x = true ∧ fs.length < 1000 then some (S.set n (.ins c (putW x v fs))) else none
    | _ => none
  | _ => none
mutual
def xs (Γ : Gam) : List Sx → Env → Store → Option (Fl × Env × Store)
  | [], ρ, S => some (.nxt, ρ, S)
  | s :: r, ρ, S => match x1 Γ s ρ S with
    | some (.nxt, ρ1, S1) => xs Γ r ρ1 S1
    | o => o
def x1 (Γ : Gam) : Sx → Env → Store → Option (Fl × Env × Store)
  | .asg i e, ρ, S => toFl (ev Γ e ρ S) ρ fun w S1 => some (.nxt, ρ.set i (some w), S1)
  | .unp is e, ρ, S => toFl (ev Γ e ρ S) ρ fun w S1 => (match w with
    | .tup ws => (setT is (.tup ws) ρ).map fun ρ1 => (.nxt, ρ1, S1)
    | _ => none)
  | .par i j a b, ρ, S => toFl (ev Γ a ρ S) ρ fun v S1 => toFl (ev Γ b ρ S1) ρ fun w S2 => some (.nxt, (ρ.set i (some v)).set j (some w), S2)
  | .sub o i e, ρ, S => toFl (ev Γ e ρ S) ρ fun v S1 => toFl (ev Γ o ρ S1) ρ fun x S2 => toFl (ev Γ i ρ S2) ρ fun y S3 => (setIx S3 x y v).map fun S4 => (.nxt, ρ, S4)
  | .fset o x e, ρ, S => toFl (ev Γ e ρ S) ρ fun v S1 => toFl (ev Γ o ρ S1) ρ fun y S2 => (setFl Γ S2 y x v).map fun S3 => (.nxt, ρ, S3)
  | .aug i op e, ρ, S => (match ρ[i]? with
    | some (some a) => toFl (ev Γ e ρ S) ρ fun b S1 => (augW op a b).map fun w => (.nxt, ρ.set i (some w), S1)
    | _ => none)
  | .augs _ _ _ _, _, _ => none
  | .exp e, ρ, S => toFl (ev Γ e ρ S) ρ fun _ S1 => some (.nxt, ρ, S1)
  | .iff c a b, ρ, S => (match truth (ev Γ c ρ S) with
    | some (.ok true, S1) => xs Γ a ρ S1
    | some (.ok false, S1) => xs Γ b ρ S1
    | some (.ex e, S1) => some (.ex e, ρ, S1)
    | none => none)
  | .for tg k es body, ρ, S => toFls (evs Γ es ρ S) ρ fun ws S1 => (match srcOf k S1 ws with
    | none => none
    | some src => forL (fun w ρ1 S2 => match setT tg w ρ1 with
      | none => none
      | some ρ2 => xs Γ body ρ2 S2) src big 0 ρ S1)
  | .while c body, ρ, S => whlL (fun ρ1 S1 => truth (ev Γ c ρ1 S1)) (fun ρ1 S1 => xs Γ body ρ1 S1) big ρ S
  | .ret e, ρ, S => toFl (ev Γ e ρ S) ρ fun w S1 => some (.ret w, ρ, S1)
  | .retN, ρ, S => some (.ret .non, ρ, S)
  | .raise c fs es, ρ, S => toFls (evs Γ es ρ S) ρ fun ws S1 => some (.ex ⟨c, fs.zip ws⟩, ρ, S1)
  | .tryAs body c i suite, ρ, S => (match xs Γ body ρ S with
    | some (.ex e, ρ1, S1) => if Γ.up e.cls c then (match xs Γ suite (ρ1.set i (some (.loc S1.length))) (S1 ++ [.exn e.cls e.fs]) with
        | some (.ex _, _, _) => none
        | some (f, ρ2, S2) => some (f, ρ2.set i none, S2.set S1.length .dead)
        | none => none)
      else some (.ex e, ρ1, S1)
    | o => o)
  | .tryOnly body c suite, ρ, S => (match xs Γ body ρ S with
    | some (.ex e, ρ1, S1) => if Γ.up e.cls c then (match xs Γ suite ρ1 S1 with
        | some (.ex _, _, _) => none
        | o => o)
      else some (.ex e, ρ1, S1)
    | o => o)
  | .pass, ρ, S => some (.nxt, ρ, S)
  | .brk, ρ, S => some (.brk, ρ, S)
  | .cnt, ρ, S => some (.cnt, ρ, S)
end

/-! ### defs, classes, calls -/
structure FnI where
  ps : Nat
  n : Nat
  body : List Sx
structure ClI where
  init : Option Nat := none
  mets : List (Nat × Nat) := []
  ups : List Nat := []
  flds : List Nat := []
  xfl : List Nat := []
structure Tab where
  fns : List FnI
  cls : List ClI := []
  globs : List W := []
def Tab.gam (T : Tab) (call : Nat → List W → Store → R W) (init : Nat → List W → Store → R W) : Gam where
  call := call
  make := fun c ws S => match T.cls[c]? with
    | some d => match d.init with
      | some f => bnd (init f (.loc S.length :: ws) (S ++ [.ins c []])) fun r S1 => match r with
        | .non => rok (.loc S.length) S1
        | _ => none
      | none => none
    | none => none
  mt := fun c m => match T.cls[c]? with
    | some d => d.mets.lookup m
    | none => none
  glob := fun x => T.globs[x]?
  up := fun c d => match T.cls[c]? with
    | some k => k.ups.contains d
    | none => false
  fok := fun c x => match T.cls[c]? with
    | some k => k.flds.contains x
    | none => false
  fox := fun c x => match T.cls[c]? with
    | some k => k.xfl.contains x
    | none => false
def fin (x : Option (Fl × Env × Store)) : R W := match x with
  | some (.ret w, _, S) => rok w S
  | some (.nxt, _, S) => rok .non S
  | some (.ex e, _, S) => some (.ex e, S)
  | _ => none
def Tab.callF (T : Tab) : Nat → Nat → List W → Store → R W
  | 0, _, _, _ => none
  | 1, _, _, _ => none
  | k + 2, f, ws, S => match T.fns[f]? with
    | none => none
    | some d => if ws.length = d.ps then fin (xs (T.gam (T.callF (k + 1)) (T.callF k)) d.body (ws.map some ++ List.replicate (d.n - d.ps) none) S) else none
end Ip

/-! IpRel: stores and the abstract heap. Written by an AI agent. -/
namespace Ip
open PySem PySem.Spec PyProof.Rows L2

/-! ### values -/
mutual
inductive RW (K : PySem.W.Frag) (m : List Addr) (H : Hp) : W → V → Prop
  | non : RW K m H .non .non
  | bl (b : Bool) : RW K m H (.bl b) (.bl b)
  | int (i : Int) : RW K m H (.int i) (.int i)
  | str (x : Str) : RW K m H (.str x) (.str x)
  | tup {a : Addr} {xs : List V} {ws : List W} : SqT K H a xs → RWs K m H ws xs → RW K m H (.tup ws) (.ref a)
  | loc {n : Nat} {a : Addr} : m[n]? = some a → RW K m H (.loc n) (.ref a)
inductive RWs (K : PySem.W.Frag) (m : List Addr) (H : Hp) : List W → List V → Prop
  | nil : RWs K m H [] []
  | cons {w : W} {ws : List W} {v : V} {vs : List V} : RW K m H w v → RWs K m H ws vs → RWs K m H (w :: ws) (v :: vs)
end
/-- what may change -/
def isM : HO → Bool
  | .lst _ => true
  | .dK _ => true
  | .dT _ => true
  | .set _ _ => true
  | .ins _ _ _ => true
  | _ => false
def Cell.mut : Cell → Bool
  | .lst _ => true
  | .dct _ => true
  | .ins _ _ => true
  | _ => false
/-- the places of what may change -/
def MA (m : List Addr) (S : Store) (a : Addr) : Prop := ∃ (n : Nat) (c : Cell), m[n]? = some a ∧ S[n]? = some c ∧ c.mut = true
structure Ext (m : List Addr) (S : Store) (H : Hp) (m' : List Addr) (S' : Store) (H' : Hp) : Prop where
  pre : ∃ r, m' = m ++ r
  keep : ∀ a o, H a = some o → (isM o = true → ¬ MA m S a) → H' a = some o ∧ (isM o = true → ¬ MA m' S' a)
section
variable {K : PySem.W.Frag} {m m' m2 : List Addr} {S S' S2 : Store} {H H' H2 : Hp}
theorem Ext.refl : Ext m S H m S H := ⟨⟨[], by simp⟩, fun a o h k => ⟨h, k⟩⟩
theorem Ext.trans (a : Ext m S H m' S' H') (b : Ext m' S' H' m2 S2 H2) : Ext m S H m2 S2 H2 := by
  obtain ⟨r, e⟩ := a.pre
  obtain ⟨r2, e2⟩ := b.pre
  refine ⟨⟨r ++ r2, by rw [e2, e, List.append_assoc]⟩, fun x o h k => ?_⟩
  obtain ⟨h1, k1⟩ := a.keep x o h k
  exact b.keep x o h1 k1
theorem Ext.at (e : Ext m S H m' S' H') {n : Nat} {a : Addr} (h : m[n]? = some a) : m'[n]? = some a := by
  obtain ⟨r, e⟩ := e.pre
  obtain ⟨h1, h2⟩ := List.getElem?_eq_some_iff.mp h
  rw [e, List.getElem?_append_left h1, h]
theorem Ext.imm (e : Ext m S H m' S' H') {a : Addr} {o : HO} (h : H a = some o) (hi : isM o = false) : H' a = some o :=
  (e.keep a o h (fun z => by rw [hi] at z; cases z)).1
theorem Ext.sqT (e : Ext m S H m' S' H') {a : Addr} {xs : List V} (h : SqT K H a xs) : SqT K H' a xs := by
  rcases h with (h | ⟨o, h⟩) | h
  · exact .inl (.inl (e.imm h rfl))
  · exact .inl (.inr ⟨o, e.imm h rfl⟩)
  · exact .inr h
mutual
theorem RW.mono (e : Ext m S H m' S' H') : ∀ {w : W} {v : V}, RW K m H w v → RW K m' H' w v
  | _, _, .non => .non
  | _, _, .bl b => .bl b
  | _, _, .int i => .int i
  | _, _, .str x => .str x
  | _, _, .tup h r => .tup (e.sqT h) (RWs.mono e r)
  | _, _, .loc h => .loc (e.at h)
theorem RWs.mono (e : Ext m S H m' S' H') : ∀ {w : List W} {v : List V}, RWs K m H w v → RWs K m' H' w v
  | _, _, .nil => .nil
  | _, _, .cons h r => .cons (RW.mono e h) (RWs.mono e r)
end
theorem RWs.length : ∀ {ws : List W} {vs : List V}, RWs K m H ws vs → ws.length = vs.length
  | _, _, .nil => rfl
  | _, _, .cons _ r => by rw [List.length_cons, List.length_cons, RWs.length r]
theorem RWs.append : ∀ {ws ws2 : List W} {vs vs2 : List V}, RWs K m H ws vs → RWs K m H ws2 vs2 → RWs K m H (ws ++ ws2) (vs ++ vs2)
  | _, _, _, _, .nil, s => s
  | _, _, _, _, .cons h r, s => .cons h (RWs.append r s)
theorem RWs.get : ∀ {ws : List W} {vs : List V} {i : Nat} {w : W}, RWs K m H ws vs → ws[i]? = some w → ∃ v, vs[i]? = some v ∧ RW K m H w v
  | _, _, _, _, .nil, e => by simp at e
  | _, _, 0, _, .cons h _, e => by simp at e; subst e; exact ⟨_, rfl, h⟩
  | _, _, i + 1, _, .cons _ r, e => by
    obtain ⟨v, h1, h2⟩ := RWs.get (i := i) r (by simpa using e)
    exact ⟨v, by simpa using h1, h2⟩
theorem RWs.set {w : W} {v : V} (h : RW K m H w v) : ∀ {ws : List W} {vs : List V} (i : Nat), RWs K m H ws vs → RWs K m H (ws.set i w) (vs.set i v)
  | _, _, _, .nil => .nil
  | _, _, 0, .cons _ r => .cons h r
  | _, _, i + 1, .cons q r => .cons q (RWs.set h i r)
theorem RWs.take : ∀ {ws : List W} {vs : List V} (n : Nat), RWs K m H ws vs → RWs K m H (ws.take n) (vs.take n)
  | _, _, 0, _ => .nil
  | _, _, _ + 1, .nil => .nil
  | _, _, n + 1, .cons h r => .cons h (RWs.take n r)
theorem RWs.drop : ∀ {ws : List W} {vs : List V} (n : Nat), RWs K m H ws vs → RWs K m H (ws.drop n) (vs.drop n)
  | _, _, 0, r => r
  | _, _, _ + 1, .nil => .nil
  | _, _, n + 1, .cons _ r => RWs.drop n r
theorem RWs.erase : ∀ {ws : List W} {vs : List V} (n : Nat), RWs K m H ws vs → RWs K m H (ws.eraseIdx n) (vs.eraseIdx n)
  | _, _, _, .nil => .nil
  | _, _, 0, .cons _ r => r
  | _, _, n + 1, .cons h r => .cons h (RWs.erase n r)
theorem RWs.flat : ∀ {ws : List W} {vs : List V} (n : Nat), RWs K m H ws vs → RWs K m H (List.replicate n ws).flatten (List.replicate n vs).flatten
  | _, _, 0, _ => .nil
  | _, _, n + 1, r => by
    rw [List.replicate_succ, List.replicate_succ, List.flatten_cons, List.flatten_cons]
    exact r.append (RWs.flat n r)
theorem RWs.none_of {ws : List W} {vs : List V} {i : Nat} (r : RWs K m H ws vs) (e : ws[i]? = none) : vs[i]? = none := by
  have h1 := r.length
  have h2 : ws.length ≤ i := List.getElem?_eq_none_iff.mp e
  exact List.getElem?_eq_none_iff.mpr (by omega)
theorem RWs.atI {ws : List W} {vs : List V} {i : Int} {w : W} (r : RWs K m H ws vs) (e : L2.atI ws i = some w) : ∃ v, L2.atI vs i = some v ∧ RW K m H w v := by
  unfold L2.atI at e ⊢
  rw [r.length] at e
  cases q : ixN vs.length i with
  | none => rw [q] at e; cases e
  | some j =>
    rw [q] at e
    exact r.get e
theorem RWs.ints : ∀ {ws : List W} {vs : List V} {ns : List Int}, RWs K m H ws vs → intsOf ws = some ns → vs = ns.map V.int
  | _, _, _, .nil, e => by
    have e' : ([] : List Int) = _ := Option.some.inj e
    rw [← e']
    rfl
  | _, _, _, .cons h r, e => by
    cases h with
    | int i =>
      unfold intsOf at e
      cases q : intsOf _ with
      | none => rw [q] at e; cases e
      | some ns =>
        rw [q] at e
        have e' : (i :: ns) = _ := Option.some.inj e
        rw [← e', List.map_cons, RWs.ints r q]
    | _ => cases e
theorem RWs.bls : ∀ {ws : List W} {vs : List V} {ns : List Bool}, RWs K m H ws vs → blsOf ws = some ns → vs = ns.map V.bl
  | _, _, _, .nil, e => by
    have e' : ([] : List Bool) = _ := Option.some.inj e
    rw [← e']
    rfl
  | _, _, _, .cons h r, e => by
    cases h with
    | bl i =>
      unfold blsOf at e
      cases q : blsOf _ with
      | none => rw [q] at e; cases e
      | some ns =>
        rw [q] at e
        have e' : (i :: ns) = _ := Option.some.inj e
        rw [← e', List.map_cons, RWs.bls r q]
    | _ => cases e
theorem RWs.strs : ∀ {ws : List W} {vs : List V} {ns : List Str}, RWs K m H ws vs → strsOf ws = some ns → vs = ns.map V.str
  | _, _, _, .nil, e => by
    have e' : ([] : List Str) = _ := Option.some.inj e
    rw [← e']
    rfl
  | _, _, _, .cons h r, e => by
    cases h with
    | str i =>
      unfold strsOf at e
      cases q : strsOf _ with
      | none => rw [q] at e; cases e
      | some ns =>
        rw [q] at e
        have e' : (i :: ns) = _ := Option.some.inj e
        rw [← e', List.map_cons, RWs.strs r q]
    | _ => cases e
theorem RWs.mkStrs : ∀ (l : List Str), RWs K m H (l.map W.str) (l.map V.str)
  | [] => .nil
  | x :: r => .cons (.str x) (RWs.mkStrs r)
theorem RWs.mkSigns : ∀ (l : List Nat), RWs K m H (l.map fun c => W.str ⟨#[c]⟩) (l.map fun c => V.str ⟨#[c]⟩)
  | [] => .nil
  | x :: r => .cons (.str _) (RWs.mkSigns r)
end

/-! ### cells -/
/-- a list of the written part -/
def KL (K : PySem.W.Frag) (a : Addr) (xs : List V) : Prop :=
  ∃ (o : Obj) (its : Array Value) (n : Nat), K.lookup a = some o ∧ o.cls = .type "list" ∧ o.dict = none ∧ o.data = .seq its n ∧ its.size ≤ sizeLine ∧ Vals xs its.toList
/-- fields by names -/
inductive RF (K : PySem.W.Frag) (fn : Nat → Str) (m : List Addr) (H : Hp) : List (Nat × W) → List (Str × V) → Prop
  | nil : RF K fn m H [] []
  | cons {k : Nat} {w : W} {v : V} {fs : List (Nat × W)} {ys : List (Str × V)} : RW K m H w v → RF K fn m H fs ys → RF K fn m H ((k, w) :: fs) ((fn k, v) :: ys)
inductive RD (K : PySem.W.Frag) (m : List Addr) (H : Hp) : List (Key × W) → List (Key × V) → Prop
  | nil : RD K m H [] []
  | cons {k : Key} {w : W} {v : V} {fs : List (Key × W)} {ys : List (Key × V)} : RW K m H w v → RD K m H fs ys → RD K m H ((k, w) :: fs) ((k, v) :: ys)
/-- what stands around: the written part, classes, names of fields, the exceptions that are held -/
structure Cf where
  K : PySem.W.Frag
  cl : Nat → Addr
  fn : Nat → Str
  xi : Addr → Value → Option Addr → Prop
  /-- the exception classes -/
  xc : Nat → Prop
  /-- the cells of caught exceptions -/
  xn : Nat → Prop
/-- an exception's dict -/
def RXd (C : Cf) (m : List Addr) (H : Hp) (d : Option Addr) (fs : List (Nat × W)) : Prop :=
  (fs = [] ∧ d = none) ∨ ∃ dd ys, d = some dd ∧ H dd = some (.xd ys) ∧ RF C.K C.fn m H fs ys ∧ fs ≠ []
def RC (C : Cf) (m : List Addr) (H : Hp) (a : Addr) : Cell → Prop
  | .lst ws => ∃ xs, H a = some (.lst xs) ∧ RWs C.K m H ws xs
  | .fro ws => ∃ xs, ((∃ o, H a = some (.frz o (.lst xs))) ∨ KL C.K a xs) ∧ RWs C.K m H ws xs
  | .dct kvs => ∃ ys, H a = some (.dK ys) ∧ RD C.K m H kvs ys
  | .ins c fs => ∃ dx ys, H a = some (.ins (C.cl c) dx ys) ∧ RF C.K C.fn m H fs ys
  | .exn c fs => ∃ d, C.xi a (.ref (C.cl c)) d ∧ C.xc c ∧ RXd C m H d fs
  | .dead => True
structure RelH (C : Cf) (m : List Addr) (S : Store) (H : Hp) : Prop where
  len : m.length = S.length
  cell : ∀ (n : Nat) (a : Addr) (c : Cell), m[n]? = some a → S[n]? = some c → RC C m H a c
  dis : ∀ (n k : Nat) (a : Addr) (c e : Cell), m[n]? = some a → m[k]? = some a → S[n]? = some c → S[k]? = some e → c.mut = true → e.mut = true → n = k
  exs : ∀ (n c : Nat) (fs : List (Nat × W)), S[n]? = some (.exn c fs) → C.xn n
section
variable {C : Cf} {m m' : List Addr} {S S' : Store} {H H' : Hp}
theorem RF.mono {K : PySem.W.Frag} {fn : Nat → Str} (e : Ext m S H m' S' H') : ∀ {fs : List (Nat × W)} {ys : List (Str × V)}, RF K fn m H fs ys → RF K fn m' H' fs ys
  | _, _, .nil => .nil
  | _, _, .cons h r => .cons (h.mono e) (RF.mono e r)
theorem RD.mono {K : PySem.W.Frag} (e : Ext m S H m' S' H') : ∀ {fs : List (Key × W)} {ys : List (Key × V)}, RD K m H fs ys → RD K m' H' fs ys
  | _, _, .nil => .nil
  | _, _, .cons h r => .cons (h.mono e) (RD.mono e r)
theorem RXd.mono (e : Ext m S H m' S' H') {d : Option Addr} {fs : List (Nat × W)} (h : RXd C m H d fs) : RXd C m' H' d fs := by
  rcases h with h | ⟨dd, ys, h1, h2, h3, h4⟩
  · exact .inl h
  · exact .inr ⟨dd, ys, h1, e.imm h2 rfl, h3.mono e, h4⟩
/-- a cell whose object stands -/
theorem RC.mono (e : Ext m S H m' S' H') {a : Addr} : ∀ {c : Cell}, (c.mut = true → ∀ o, H a = some o → isM o = true → H' a = some o) → RC C m H a c → RC C m' H' a c
  | .lst _, hs, ⟨xs, h1, h2⟩ => ⟨xs, hs rfl _ h1 rfl, h2.mono e⟩
  | .fro _, _, ⟨xs, h1, h2⟩ => ⟨xs, h1.imp (fun ⟨o, z⟩ => ⟨o, e.imm z rfl⟩) id, h2.mono e⟩
  | .dct _, hs, ⟨ys, h1, h2⟩ => ⟨ys, hs rfl _ h1 rfl, h2.mono e⟩
  | .ins _ _, hs, ⟨dx, ys, h1, h2⟩ => ⟨dx, ys, hs rfl _ h1 rfl, h2.mono e⟩
  | .exn _ _, _, ⟨d, h1, hc, h2⟩ => ⟨d, h1, hc, h2.mono e⟩
  | .dead, _, _ => trivial
/-- what a cell that may change has in the heap -/
theorem RC.has {a : Addr} : ∀ {c : Cell}, c.mut = true → RC C m H a c → ∃ o, H a = some o ∧ isM o = true
  | .lst _, _, ⟨xs, h1, _⟩ => ⟨_, h1, rfl⟩
  | .dct _, _, ⟨ys, h1, _⟩ => ⟨_, h1, rfl⟩
  | .ins _ _, _, ⟨dx, ys, h1, _⟩ => ⟨_, h1, rfl⟩
theorem RelH.lt (R : RelH C m S H) {n : Nat} {c : Cell} (h : S[n]? = some c) : ∃ a, m[n]? = some a ∧ RC C m H a c := by
  have h1 : n < S.length := (List.getElem?_eq_some_iff.mp h).1
  have h2 : n < m.length := by rw [R.len]; exact h1
  exact ⟨m[n], List.getElem?_eq_getElem h2, R.cell n _ c (List.getElem?_eq_getElem h2) h⟩
theorem RelH.ma (R : RelH C m S H) {a : Addr} (h : MA m S a) : ∃ o, H a = some o ∧ isM o = true := by
  obtain ⟨n, c, h1, h2, h3⟩ := h
  exact (R.cell n a c h1 h2).has h3
/-- a new thing that is no cell -/
theorem RelH.tuple (R : RelH C m S H) {p : Addr} {o : HO} (hp : H p = none) (hm : isM o = false) : RelH C m S (upd H p o) ∧ Ext m S H m S (upd H p o) := by
  have e : Ext m S H m S (upd H p o) := ⟨⟨[], by simp⟩, fun a u h k => ⟨by rw [upd_ne (ne_of_none h hp)]; exact h, k⟩⟩
  exact ⟨⟨R.len, fun n a c h1 h2 => RC.mono e (fun _ u h _ => by rw [upd_ne (ne_of_none h hp)]; exact h) (R.cell n a c h1 h2), R.dis, R.exs⟩, e⟩
/-- a new object that is tracked beside the cells -/
theorem RelH.beside (R : RelH C m S H) {p : Addr} {o : HO} (hp : H p = none) : RelH C m S (upd H p o) ∧ Ext m S H m S (upd H p o) ∧ ¬ MA m S p := by
  have e : Ext m S H m S (upd H p o) := ⟨⟨[], by simp⟩, fun a u h k => ⟨by rw [upd_ne (ne_of_none h hp)]; exact h, k⟩⟩
  refine ⟨⟨R.len, fun n a c h1 h2 => RC.mono e (fun _ u h _ => by rw [upd_ne (ne_of_none h hp)]; exact h) (R.cell n a c h1 h2), R.dis, R.exs⟩, e, fun z => ?_⟩
  obtain ⟨u, q, _⟩ := R.ma z
  rw [hp] at q
  cases q
theorem ext_new {p : Addr} {o : HO} {c : Cell} (hl : m.length = S.length) (hp : H p = none) : Ext m S H (m ++ [p]) (S ++ [c]) (upd H p o) := by
  refine ⟨⟨[p], rfl⟩, fun a u h k => ⟨by rw [upd_ne (ne_of_none h hp)]; exact h, fun hu z => ?_⟩⟩
  obtain ⟨n, d, h1, h2, h3⟩ := z
  by_cases hn : n < m.length
  · rw [List.getElem?_append_left hn] at h1
    rw [List.getElem?_append_left (by rw [← hl]; exact hn)] at h2
    exact k hu ⟨n, d, h1, h2, h3⟩
  · rw [List.getElem?_append_right (by omega)] at h1
    have : n - m.length = 0 := by
      by_cases z : n - m.length = 0
      · exact z
      · rw [List.getElem?_eq_none (by simp; omega)] at h1
        cases h1
    rw [this] at h1
    have e : p = a := Option.some.inj h1
    rw [← e, hp] at h
    cases h
/-- a new cell -/
theorem RelH.new (R : RelH C m S H) {p : Addr} {o : HO} {c : Cell} (hp : H p = none) (hc : c.mut = true) (hr : RC C (m ++ [p]) (upd H p o) p c) :
    RelH C (m ++ [p]) (S ++ [c]) (upd H p o) ∧ Ext m S H (m ++ [p]) (S ++ [c]) (upd H p o) := by
  have e : Ext m S H (m ++ [p]) (S ++ [c]) (upd H p o) := ext_new R.len hp
  have old : ∀ {n : Nat}, n < S.length → (m ++ [p])[n]? = m[n]? ∧ (S ++ [c])[n]? = S[n]? := fun {n} h => ⟨List.getElem?_append_left (by rw [R.len]; exact h), List.getElem?_append_left h⟩
  have last : ∀ {n : Nat} {d : Cell}, ¬ n < S.length → (S ++ [c])[n]? = some d → n = S.length ∧ d = c := fun {n d} h q => by
    rw [List.getElem?_append_right (by omega)] at q
    have z : n - S.length = 0 := by
      by_cases z : n - S.length = 0
      · exact z
      · rw [List.getElem?_eq_none (by simp; omega)] at q
        cases q
    rw [z] at q
    exact ⟨by omega, (Option.some.inj q).symm⟩
  have lastm : (m ++ [p])[S.length]? = some p := by rw [← R.len]; simp
  refine ⟨⟨by rw [List.length_append, List.length_append, R.len]; rfl, fun n a d h1 h2 => ?_, fun n k a d f h1 h2 h3 h4 h5 h6 => ?_, fun n c' fs h => ?_⟩, e⟩
  · by_cases hn : n < S.length
    · rw [(old hn).1] at h1
      rw [(old hn).2] at h2
      exact RC.mono e (fun _ u h _ => by rw [upd_ne (ne_of_none h hp)]; exact h) (R.cell n a d h1 h2)
    · obtain ⟨en, ed⟩ := last hn h2
      subst ed
      rw [en, lastm] at h1
      have e1 : p = a := Option.some.inj h1
      subst e1
      exact hr
  · have key : ∀ {n k : Nat} {d f : Cell}, n < S.length → ¬ k < S.length → (m ++ [p])[n]? = some a → (m ++ [p])[k]? = some a → (S ++ [c])[n]? = some d → (S ++ [c])[k]? = some f → d.mut = true → False := fun {n k d f} hn hk h1 h2 h3 h4 h5 => by
      rw [(old hn).1] at h1
      rw [(old hn).2] at h3
      obtain ⟨ek, _⟩ := last hk h4
      rw [ek, lastm] at h2
      have e1 : p = a := Option.some.inj h2
      obtain ⟨u, q, _⟩ := (R.cell n a d h1 h3).has h5
      rw [← e1, hp] at q
      cases q
    by_cases hn : n < S.length
    · by_cases hk : k < S.length
      · rw [(old hn).1] at h1
        rw [(old hk).1] at h2
        rw [(old hn).2] at h3
        rw [(old hk).2] at h4
        exact R.dis n k a d f h1 h2 h3 h4 h5 h6
      · exact (key hn hk h1 h2 h3 h4 h5).elim
    · by_cases hk : k < S.length
      · exact (key hk hn h2 h1 h4 h3 h6).elim
      · exact ((last hn h3).1).trans ((last hk h4).1).symm
  · by_cases hn : n < S.length
    · rw [(old hn).2] at h
      exact R.exs n c' fs h
    · obtain ⟨_, ed⟩ := last hn h
      rw [← ed] at hc
      cases hc
/-- a cell is written -/
theorem RelH.set (R : RelH C m S H) {n : Nat} {a : Addr} {c d : Cell} {o : HO} (h1 : m[n]? = some a) (h2 : S[n]? = some c) (hc : c.mut = true) (hd : d.mut = true) (ho : isM o = true) (hr : RC C m (upd H a o) a d) :
    RelH C m (S.set n d) (upd H a o) ∧ Ext m S H m (S.set n d) (upd H a o) := by
  have hn : n < S.length := (List.getElem?_eq_some_iff.mp h2).1
  obtain ⟨u, hu, mu⟩ := (R.cell n a c h1 h2).has hc
  have ma : MA m S a := ⟨n, c, h1, h2, hc⟩
  have same : ∀ b, MA m (S.set n d) b → MA m S b := fun b z => by
    obtain ⟨k, e, q1, q2, q3⟩ := z
    by_cases hk : n = k
    · subst hk
      rw [h1] at q1
      have e1 : a = b := Option.some.inj q1
      rw [← e1]
      exact ma
    · rw [List.getElem?_set_ne hk] at q2
      exact ⟨k, e, q1, q2, q3⟩
  have ext : Ext m S H m (S.set n d) (upd H a o) := ⟨⟨[], by simp⟩, fun b v h k => by
    have ne : b ≠ a := fun z => by
      subst z
      rw [hu] at h
      have e1 : u = v := Option.some.inj h
      subst e1
      exact k mu ma
    exact ⟨by rw [upd_ne ne]; exact h, fun hv z => k hv (same b z)⟩⟩
  refine ⟨⟨by rw [List.length_set]; exact R.len, fun k b e q1 q2 => ?_, fun k l b e f q1 q2 q3 q4 q5 q6 => ?_, fun k c' fs q => ?_⟩, ext⟩
  · by_cases hk : n = k
    · subst hk
      rw [h1] at q1
      have e1 : a = b := Option.some.inj q1
      rw [List.getElem?_set_self hn] at q2
      have e2 : d = e := Option.some.inj q2
      subst e1 e2
      exact hr
    · rw [List.getElem?_set_ne hk] at q2
      refine RC.mono ext (fun hm v hv mv => ?_) (R.cell k b e q1 q2)
      have hb : b ≠ a := fun z => by
        subst z
        exact hk (R.dis n k b c e h1 q1 h2 q2 hc hm)
      rw [upd_ne hb]
      exact hv
  · have ce : ∀ {k : Nat} {e : Cell}, (S.set n d)[k]? = some e → e.mut = true → ∃ e', S[k]? = some e' ∧ e'.mut = true := fun {k e} q z => by
      by_cases hk : n = k
      · subst hk
        exact ⟨c, h2, hc⟩
      · rw [List.getElem?_set_ne hk] at q
        exact ⟨e, q, z⟩
    obtain ⟨e', z1, z2⟩ := ce q3 q5
    obtain ⟨f', z3, z4⟩ := ce q4 q6
    exact R.dis k l b e' f' q1 q2 z1 z3 z2 z4
  · by_cases hk : n = k
    · subst hk
      rw [List.getElem?_set_self hn] at q
      have e2 : d = .exn c' fs := Option.some.inj q
      rw [e2] at hd
      cases hd
    · rw [List.getElem?_set_ne hk] at q
      exact R.exs k c' fs q
end
end Ip

/-! IpOps: the operations by values. Written by an AI agent. -/
namespace Ip
open PySem PySem.Spec PyProof.Rows L2
theorem sl_le {n : Nat} (h : n ≤ 16777216) : n ≤ sizeLine := by rw [sizeLine_eq]; exact h
theorem sl_lt {n : Nat} (h : n < 16777216) : n < sizeLine := by rw [sizeLine_eq]; exact h

/-- what is wanted of a value that an operation gives -/
def Post (C : Cf) (m : List Addr) (S : Store) (H : Hp) (S' : Store) (w : W) (Q : VK) : Prop :=
  ∀ m' H' v, RelH C m' S' H' → Ext m S H m' S' H' → RW C.K m' H' w v → Q v H'
section
variable {C : Cf} {m : List Addr} {S S' : Store} {H : Hp} {w : W} {Q : VK}
theorem Post.here {v : V} (p : Post C m S H S w Q) (R : RelH C m S H) (r : RW C.K m H w v) : Q v H := p m H v R Ext.refl r
theorem Post.lst {q : Addr} {ws : List W} {xs : List V} (p : Post C m S H (S ++ [.lst ws]) (.loc S.length) Q) (R : RelH C m S H) (hq : H q = none) (r : RWs C.K m H ws xs) : Q (.ref q) (upd H q (.lst xs)) := by
  have e := ext_new (o := .lst xs) (c := .lst ws) R.len hq
  have n := R.new (c := .lst ws) (o := .lst xs) hq rfl ⟨xs, upd_same, r.mono e⟩
  exact p _ _ _ n.1 n.2 (.loc (by rw [← R.len]; simp))
theorem Post.tup {q : Addr} {ws : List W} {xs : List V} (p : Post C m S H S (.tup ws) Q) (R : RelH C m S H) (hq : H q = none) (r : RWs C.K m H ws xs) : Q (.ref q) (upd H q (.tup xs)) := by
  have n := R.tuple (o := .tup xs) hq rfl
  exact p _ _ _ n.1 n.2 (.tup (SqT.of upd_same) (r.mono n.2))
theorem RelH.listAt (R : RelH C m S H) {n : Nat} {a : Addr} {ws : List W} (h : m[n]? = some a) (e : listAt S n = some ws) : ∃ xs, SqL C.K H a xs ∧ RWs C.K m H ws xs := by
  unfold Ip.listAt at e
  cases q : S[n]? with
  | none => rw [q] at e; cases e
  | some c =>
    rw [q] at e
    have rc := R.cell n a c h q
    cases c with
    | lst ws' =>
      have e1 : ws' = ws := Option.some.inj e
      subst e1
      obtain ⟨xs, h1, h2⟩ := rc
      exact ⟨xs, SqL.of h1, h2⟩
    | fro ws' =>
      have e1 : ws' = ws := Option.some.inj e
      subst e1
      obtain ⟨xs, h1, h2⟩ := rc
      rcases h1 with ⟨o, z⟩ | z
      · exact ⟨xs, .inl (.inr ⟨o, z⟩), h2⟩
      · exact ⟨xs, .inr z, h2⟩
    | _ => cases e
end

/-! ### data for == -/
mutual
theorem dat_dp {C : Cf} {m : List Addr} {S : Store} {H : Hp} (R : RelH C m S H) : ∀ (k : Nat) {w : W} {v : V} {d : PyData}, RW C.K m H w v → dat S k w = some d → Dp C.K H v d ∧ d.depth ≤ k
  | _, _, _, _, .non, e => by
    simp only [dat, Option.some.injEq] at e
    subst e
    exact ⟨.non, Nat.zero_le _⟩
  | _, _, _, _, .bl b, e => by
    simp only [dat, Option.some.injEq] at e
    subst e
    exact ⟨.bl b, Nat.zero_le _⟩
  | _, _, _, _, .int b, e => by
    simp only [dat, Option.some.injEq] at e
    subst e
    exact ⟨.int b, Nat.zero_le _⟩
  | _, _, _, _, .str b, e => by
    simp only [dat, Option.some.injEq] at e
    subst e
    exact ⟨.str b, Nat.zero_le _⟩
  | 0, _, _, _, .tup _ _, e => by simp [dat] at e
  | k + 1, _, _, _, .tup h r, e => by
    simp only [dat] at e
    obtain ⟨ds, h1, h2⟩ := Option.map_eq_some_iff.mp e
    subst h2
    obtain ⟨z1, z2⟩ := datAll_dp R k r h1
    refine ⟨.tup h z1, ?_⟩
    show PyData.depthAll ds + 1 ≤ k + 1
    omega
  | 0, _, _, _, .loc _, e => by simp [dat] at e
  | k + 1, _, _, _, .loc h, e => by
    simp only [dat] at e
    split at e
    · rename_i ws q
      obtain ⟨ds, h1, h2⟩ := Option.map_eq_some_iff.mp e
      subst h2
      obtain ⟨xs, hs, r⟩ := R.listAt h q
      obtain ⟨z1, z2⟩ := datAll_dp R k r h1
      refine ⟨.lst hs z1, ?_⟩
      show PyData.depthAll ds + 1 ≤ k + 1
      omega
    · cases e
theorem datAll_dp {C : Cf} {m : List Addr} {S : Store} {H : Hp} (R : RelH C m S H) : ∀ (k : Nat) {ws : List W} {vs : List V} {ds : List PyData}, RWs C.K m H ws vs → datAll S k ws = some ds → DpAll C.K H vs ds ∧ PyData.depthAll ds ≤ k
  | _, _, _, _, .nil, e => by
    simp only [datAll, Option.some.injEq] at e
    subst e
    exact ⟨.nil, Nat.zero_le _⟩
  | k, _, _, _, .cons h r, e => by
    simp only [datAll] at e
    split at e
    · rename_i d ds q1 q2
      have e1 := Option.some.inj e
      subst e1
      obtain ⟨z1, z2⟩ := dat_dp R k h q1
      obtain ⟨z3, z4⟩ := datAll_dp R k r q2
      refine ⟨.cons z1 z3, ?_⟩
      show max (PyData.depth d) (PyData.depthAll ds) ≤ k
      omega
    · cases e
end
theorem flat_rw {K : PySem.W.Frag} {m : List Addr} {H : Hp} : ∀ {w : W} {v : V}, RW K m H w v → flatW w = true → flatV v = true
  | _, _, .non, _ => rfl
  | _, _, .bl _, _ => rfl
  | _, _, .int _, _ => rfl
  | _, _, .str _, _ => rfl
  | _, _, .tup _ _, h => by cases h
  | _, _, .loc _, h => by cases h
theorem flats_rw {K : PySem.W.Frag} {m : List Addr} {H : Hp} : ∀ {ws : List W} {vs : List V}, RWs K m H ws vs → ws.all flatW = true → vs.all flatV = true
  | _, _, .nil, _ => rfl
  | _, _, .cons h r, e => by
    rw [List.all_cons, Bool.and_eq_true] at e ⊢
    exact ⟨flat_rw h e.1, flats_rw r e.2⟩
theorem eqF_rw {K : PySem.W.Frag} {m : List Addr} {H : Hp} {w u : W} {v x : V} (h : RW K m H w v) (g : RW K m H u x) (f : flatW w = true) (f2 : flatW u = true) : eqV v x = eqF w u := by
  cases h <;> first | (cases f; done) | (cases g <;> first | (cases f2; done) | rfl)
theorem inW_rw {K : PySem.W.Frag} {m : List Addr} {H : Hp} {w : W} {v : V} (h : RW K m H w v) (f : flatW w = true) : ∀ {ws : List W} {vs : List V}, RWs K m H ws vs → ws.all flatW = true → inV v vs = inW w ws
  | _, _, .nil, _ => rfl
  | _, _, .cons g r, e => by
    rw [List.all_cons, Bool.and_eq_true] at e
    have ih := inW_rw h f r e.2
    unfold inV inW at ih ⊢
    rw [List.any_cons, List.any_cons, ih, eqF_rw g h e.1 f]
theorem key_rw {K : PySem.W.Frag} {m : List Addr} {H : Hp} {w : W} {v : V} {k : Key} (h : RW K m H w v) (e : keyW w = some k) : v = kV k := by
  cases h with
  | int i =>
    have e1 : (Sum.inl i : Key) = k := Option.some.inj e
    subst e1
    rfl
  | str i =>
    have e1 : (Sum.inr i : Key) = k := Option.some.inj e
    subst e1
    rfl
  | _ => cases e
theorem getK_rd {K : PySem.W.Frag} {m : List Addr} {H : Hp} {k : Key} : ∀ {kvs : List (Key × W)} {ys : List (Key × V)}, RD K m H kvs ys →
    (getK k kvs = none ∧ valV ys k = none) ∨ ∃ w v, getK k kvs = some w ∧ valV ys k = some v ∧ RW K m H w v
  | _, _, .nil => .inl ⟨rfl, rfl⟩
  | _, _, .cons (k := q) (w := w) (v := v) h r => by
    by_cases e : q = k
    · exact .inr ⟨w, v, by unfold getK; rw [if_pos e], valV_pos e, h⟩
    · have ih := getK_rd (k := k) r
      rw [show getK k ((q, w) :: _) = (if q = k then some w else getK k _) from rfl, if_neg e, valV_neg (p := (q, v)) e]
      exact ih
theorem getK_some {K : PySem.W.Frag} {m : List Addr} {H : Hp} {k : Key} {kvs : List (Key × W)} {ys : List (Key × V)} (r : RD K m H kvs ys) : (valV ys k).isSome = (getK k kvs).isSome := by
  rcases getK_rd (k := k) r with ⟨h1, h2⟩ | ⟨w, v, h1, h2, _⟩ <;> rw [h1, h2] <;> rfl

/-! ### operators -/
section
variable {X : Cx}
theorem op_fdivG : OpR X (binaryOp .FloorDiv) (rI (fun _ j => j ≠ 0 ∧ j.natAbs.log2 < 9000) fun i j => .int (i.fdiv j)) := opI fun _ _ _ _ _ _ _ hc q => floordiv_int hc.1 q (.inl (PyProof.noPylong_of_log2 hc.2))
def rAddS : R2 := fun x y H Q => ∃ i j, x = .str i ∧ y = .str j ∧ i.length + j.length ≤ sizeLine ∧ Q (.str (i ++ j)) H
def orR (r r' : R2) : R2 := fun x y H Q => r x y H Q ∨ r' x y H Q
def pyOp : Op2 → Operator
  | .add => .Add | .sub => .Sub | .mul => .Mult | .fdiv => .FloorDiv | .mod => .Mod | .pow => .Pow
def rOp (K : PySem.W.Frag) : Op2 → R2
  | .add => orR (rI0 fun i j => .int (i + j)) (orR rAddS (orR (rCatA K) rCat))
  | .sub => rI0 fun i j => .int (i - j)
  | .mul => orR (rI CMulW fun i j => .int (i * j)) rRep
  | .fdiv => rI (fun _ j => j ≠ 0 ∧ j.natAbs.log2 < 9000) fun i j => .int (i.fdiv j)
  | .mod => rI (fun _ j => j ≠ 0) fun i j => .int (i.fmod j)
  | .pow => rI CPow fun i j => .int (i ^ j.toNat)
theorem opR_ok : ∀ op : Op2, OpR X (binaryOp (pyOp op)) (rOp X.K op)
  | .add => op_add.or (op_add_str.or (op_catA.or op_cat))
  | .sub => op_sub
  | .mul => op_mulW.or op_rep
  | .fdiv => op_fdivG
  | .mod => op_modN
  | .pow => op_pow
end
section
variable {C : Cf} {m : List Addr} {S S' : Store} {H : Hp} {a b w : W} {x y : V} {Q : VK}
theorem op2_ok {op : Op2} (R : RelH C m S H) (ra : RW C.K m H a x) (rb : RW C.K m H b y) (e : op2 op S a b = some (w, S')) (p : Post C m S H S' w Q) : rOp C.K op x y H Q := by
  unfold op2 at e
  split at e
  · -- int + int
    cases ra; cases rb
    simp only [Option.some.injEq, Prod.mk.injEq] at e
    obtain ⟨rfl, rfl⟩ := e
    exact .inl ⟨_, _, rfl, rfl, p.here R (.int _)⟩
  · -- str + str
    cases ra; cases rb
    split at e
    · rename_i hl
      simp only [Option.some.injEq, Prod.mk.injEq] at e
      obtain ⟨rfl, rfl⟩ := e
      exact .inr (.inl ⟨_, _, rfl, rfl, sl_le hl, p.here R (.str _)⟩)
    · cases e
  · -- tup + tup
    cases ra with
    | tup h1 r1 =>
      cases rb with
      | tup h2 r2 =>
        split at e
        · rename_i hl
          obtain ⟨hl, n1, n2⟩ := hl
          simp only [Option.some.injEq, Prod.mk.injEq] at e
          obtain ⟨rfl, rfl⟩ := e
          have l1 := r1.length
          have l2 := r2.length
          refine .inr (.inr (.inl ⟨_, _, _, _, rfl, rfl, h1, h2, sl_le (by omega), fun z => ?_, fun _ z => ?_, fun _ _ q hq => p.tup R hq (r1.append r2)⟩))
          · rw [z] at l1
            exact absurd (List.length_eq_zero_iff.mp l1) n1
          · rw [z] at l2
            exact absurd (List.length_eq_zero_iff.mp l2) n2
        · cases e
  · -- list + list
    cases ra with
    | loc h1 =>
      cases rb with
      | loc h2 =>
        split at e
        · rename_i q1 q2
          split at e
          · rename_i hl
            simp only [Option.some.injEq, Prod.mk.injEq] at e
            obtain ⟨rfl, rfl⟩ := e
            obtain ⟨v1, z1, r1⟩ := R.cell _ _ _ h1 q1
            obtain ⟨v2, z2, r2⟩ := R.cell _ _ _ h2 q2
            have l1 := r1.length
            have l2 := r2.length
            exact .inr (.inr (.inr ⟨_, _, _, _, rfl, rfl, z1, z2, sl_le (by omega), fun q hq => p.lst R hq (r1.append r2)⟩))
          · cases e
        · cases e
  · cases ra; cases rb
    simp only [Option.some.injEq, Prod.mk.injEq] at e
    obtain ⟨rfl, rfl⟩ := e
    exact ⟨_, _, rfl, rfl, p.here R (.int _)⟩
  · cases ra; cases rb
    split at e
    · rename_i hl
      simp only [Option.some.injEq, Prod.mk.injEq] at e
      obtain ⟨rfl, rfl⟩ := e
      exact .inl ⟨_, _, rfl, rfl, hl, p.here R (.int _)⟩
    · cases e
  · -- list * int
    cases rb
    cases ra with
    | loc h1 =>
      split at e
      · rename_i q1
        split at e
        · rename_i hl
          obtain ⟨l1, l2, l3⟩ := hl
          simp only [Option.some.injEq, Prod.mk.injEq] at e
          obtain ⟨rfl, rfl⟩ := e
          obtain ⟨v1, z1, r1⟩ := R.cell _ _ _ h1 q1
          exact .inr ⟨_, _, _, rfl, rfl, z1, l1, l2, by rw [← r1.length]; exact sl_le l3, fun q hq => p.lst R hq (r1.flat _)⟩
        · cases e
      · cases e
  · cases ra; cases rb
    split at e
    · rename_i hl
      simp only [Option.some.injEq, Prod.mk.injEq] at e
      obtain ⟨rfl, rfl⟩ := e
      exact ⟨_, _, rfl, rfl, hl, p.here R (.int _)⟩
    · cases e
  · cases ra; cases rb
    split at e
    · rename_i hl
      simp only [Option.some.injEq, Prod.mk.injEq] at e
      obtain ⟨rfl, rfl⟩ := e
      exact ⟨_, _, rfl, rfl, hl, p.here R (.int _)⟩
    · cases e
  · cases ra; cases rb
    split at e
    · rename_i hl
      simp only [Option.some.injEq, Prod.mk.injEq] at e
      obtain ⟨rfl, rfl⟩ := e
      exact ⟨_, _, rfl, rfl, hl, p.here R (.int _)⟩
    · cases e
  · cases e
end

/-! ### comparisons -/
def pyCm : Cm → CmpOp
  | .eq => .Eq | .ne => .NotEq | .lt => .Lt | .le => .LtE | .gt => .Gt | .ge => .GtE | .isN => .Is | .notN => .IsNot | .isin => .In | .notin => .NotIn
def rSgn (g : Bool → Bool) : R2 := fun x y H Q => ∃ (c : Nat) (z : Str), x = .str ⟨#[c]⟩ ∧ y = .str z ∧ Q (.bl (g (decide (c ∈ z.cps.toList)))) H
def rSub (g : Bool → Bool) : R2 := fun x y H Q => ∃ i j, x = .str i ∧ y = .str j ∧ Q (.bl (g (!(Builtin.Str.occurrences j i 0 j.length 1).isEmpty))) H
def rDin (g : Bool → Bool) : R2 := fun x y H Q => ∃ a o, y = .ref a ∧ DGet H a x o ∧ Q (.bl (g o.isSome)) H
def rCm (K : PySem.W.Frag) : Cm → R2
  | .eq => orR rEq (rEqD K)
  | .ne => orR rNe (rNeD K)
  | .lt => rI0 fun i j => .bl (decide (i < j))
  | .le => rI0 fun i j => .bl (decide (i ≤ j))
  | .gt => rI0 fun i j => .bl (decide (j < i))
  | .ge => rI0 fun i j => .bl (decide (j ≤ i))
  | .isN => fun x y H Q => y = .non ∧ Q (.bl (decide (x = .non))) H
  | .notN => fun x y H Q => y = .non ∧ Q (.bl (!decide (x = .non))) H
  | .isin => orR (rSgn id) (orR (rSub id) (orR (rIn K false) (rDin id)))
  | .notin => orR (rSgn (!·)) (orR (rSub (!·)) (orR (rIn K true) (rDin (!·))))
section
variable {X : Cx}
theorem op_din (hu : X.A.units + 1 < cLine) : OpR X (compareOp .In) (rDin id) := fun pins s σ H x y v u Q I rx ry h => by
  obtain ⟨a, o, rfl, g, q⟩ := h
  cases ry
  exact d_in hu I g rx fun s3 I3 => ⟨.bl o.isSome, H, I3, rfl, q⟩
theorem op_dnotin (hu : X.A.units + 1 < cLine) : OpR X (compareOp .NotIn) (rDin (!·)) := fun pins s σ H x y v u Q I rx ry h => by
  obtain ⟨a, o, rfl, g, q⟩ := h
  cases ry
  exact d_notIn hu I g rx fun s3 I3 => ⟨.bl (!o.isSome), H, I3, rfl, q⟩
theorem cmR_ok (hu : X.A.units + 64 < cLine) : ∀ op : Cm, OpR X (compareOp (pyCm op)) (rCm X.K op)
  | .eq => op_eq.or (op_eqD hu)
  | .ne => op_ne.or (op_neD hu)
  | .lt => op_lt
  | .le => op_le
  | .gt => op_gt
  | .ge => op_ge
  | .isN => op_isN
  | .notN => op_notN
  | .isin => op_in_sign.or (op_in_str.or (op_in_seq.or (op_din (by omega))))
  | .notin => op_notIn_sign.or (op_notin_str.or (op_notIn_seq.or (op_dnotin (by omega))))
end
section
variable {C : Cf} {m : List Addr} {S : Store} {H : Hp} {a b : W} {x y : V} {Q : VK} {k : Bool}
theorem str_one {z : Str} {c : Nat} (h : z.cps.toList = [c]) : z = ⟨#[c]⟩ := by
  obtain ⟨a⟩ := z
  obtain ⟨l⟩ := a
  have e : l = [c] := h
  subst e
  rfl
theorem eqDeep_ok (R : RelH C m S H) (ra : RW C.K m H a x) (rb : RW C.K m H b y) (e : eqDeep S a b = some k) : ∃ d f, Dp C.K H x d ∧ Dp C.K H y f ∧ SeqAt.shaped d = true ∧ SeqAt.shaped f = true ∧ PyData.eqv d f = k := by
  unfold eqDeep at e
  split at e
  · rename_i d f q1 q2
    split at e
    · rename_i hc
      rw [Bool.and_eq_true] at hc
      obtain ⟨z1, z2⟩ := dat_dp R 64 ra q1
      obtain ⟨z3, z4⟩ := dat_dp R 64 rb q2
      refine ⟨d, f, z1, z3, ?_, ?_, Option.some.inj e⟩
      · unfold SeqAt.shaped
        rw [hc.1, decide_eq_true z2] <;> rfl
      · unfold SeqAt.shaped
        rw [hc.2, decide_eq_true z4] <;> rfl
    · cases e
  · cases e
theorem eqW_ok (R : RelH C m S H) (ra : RW C.K m H a x) (rb : RW C.K m H b y) (e : eqW S a b = some k) :
    (scal x y = true ∧ decide (x = y) = k) ∨ ∃ d f, Dp C.K H x d ∧ Dp C.K H y f ∧ SeqAt.shaped d = true ∧ SeqAt.shaped f = true ∧ PyData.eqv d f = k := by
  unfold eqW at e
  split at e
  · cases ra; cases rb
    have e1 := Option.some.inj e
    exact .inl ⟨rfl, by rw [← e1]; simp⟩
  · cases ra; cases rb
    have e1 := Option.some.inj e
    exact .inl ⟨rfl, by rw [← e1]; simp⟩
  · cases ra; cases rb
    have e1 := Option.some.inj e
    exact .inl ⟨rfl, by rw [← e1]; simp⟩
  · exact .inr (eqDeep_ok R ra rb e)
theorem isN_rw {w : W} {v : V} (h : RW C.K m H w v) : decide (v = .non) = isN w := by
  cases h <;> first | rfl | simp [isN]
theorem isN_non {w : W} {v : V} (h : RW C.K m H w v) (e : isN w = true) : v = .non := by
  cases h <;> first | rfl | cases e
theorem isin_ok (R : RelH C m S H) (ra : RW C.K m H a x) (rb : RW C.K m H b y) (e : isin S a b = some k) (g : Bool → Bool) (neg : Bool) (hg : ∀ c, g c = if neg then !c else c) (q : Q (.bl (g k)) H) :
    orR (rSgn g) (orR (rSub g) (orR (rIn C.K neg) (rDin g))) x y H Q := by
  have seq : ∀ {p : Addr} {ws : List W} {xs : List V}, (SqL C.K H p xs ∨ SqT C.K H p xs) → RWs C.K m H ws xs → (if (flatW a && ws.all flatW) = true then some (inW a ws) else none) = some k → y = .ref p → orR (rSgn g) (orR (rSub g) (orR (rIn C.K neg) (rDin g))) x y H Q := fun {p ws xs} hs rs e hy => by
    subst hy
    split at e
    · rename_i hf
      rw [Bool.and_eq_true] at hf
      have e1 := Option.some.inj e
      refine .inr (.inr (.inl ⟨p, xs, rfl, hs, flat_rw ra hf.1, flats_rw rs hf.2, ?_⟩))
      rw [inW_rw ra hf.1 rs hf.2, e1, ← hg]
      exact q
    · cases e
  unfold isin at e
  split at e
  · cases ra; cases rb
    have e1 := Option.some.inj e
    unfold isinS at e1
    split at e1
    · rename_i z1 z2 c hc
      refine .inl ⟨c, _, ?_, rfl, by rw [e1]; exact q⟩
      congr 1
      exact str_one hc
    · exact .inr (.inl ⟨_, _, rfl, rfl, by rw [e1]; exact q⟩)
  · cases rb with
    | tup h r => exact seq (.inr h) r e rfl
  · cases rb with
    | loc h =>
      split at e
      · rename_i q1
        obtain ⟨xs, z1, z2⟩ := R.cell _ _ _ h q1
        exact seq (.inl (SqL.of z1)) z2 e rfl
      · rename_i q1
        obtain ⟨xs, z1, z2⟩ := R.listAt h (ws := _) (by unfold Ip.listAt; rw [q1])
        exact seq (.inl z1) z2 e rfl
      · rename_i q1
        split at e
        · rename_i kk hk
          have e1 := Option.some.inj e
          obtain ⟨ys, z1, z2⟩ := R.cell _ _ _ h q1
          refine .inr (.inr (.inr ⟨_, _, rfl, by rw [key_rw ra hk]; exact DGet.k z1, ?_⟩))
          rw [getK_some z2, e1]
          exact q
        · cases e
      · cases e
  · cases e
theorem cm2_ok {op : Cm} (R : RelH C m S H) (ra : RW C.K m H a x) (rb : RW C.K m H b y) (e : cm2 op S a b = some k) (q : Q (.bl k) H) : rCm C.K op x y H Q := by
  unfold cm2 at e
  split at e
  · rcases eqW_ok R ra rb e with ⟨h1, h2⟩ | ⟨d, f, h1, h2, h3, h4, h5⟩
    · exact .inl ⟨h1, by rw [h2]; exact q⟩
    · exact .inr ⟨d, f, h1, h2, h3, h4, by rw [h5]; exact q⟩
  · obtain ⟨k', e1, e2⟩ := Option.map_eq_some_iff.mp e
    subst e2
    rcases eqW_ok R ra rb e1 with ⟨h1, h2⟩ | ⟨d, f, h1, h2, h3, h4, h5⟩
    · exact .inl ⟨h1, by rw [h2]; exact q⟩
    · exact .inr ⟨d, f, h1, h2, h3, h4, by rw [h5]; exact q⟩
  · split at e
    · rename_i hn
      have e1 := Option.some.inj e
      exact ⟨isN_non rb hn, by rw [isN_rw ra, e1]; exact q⟩
    · cases e
  · split at e
    · rename_i hn
      have e1 := Option.some.inj e
      exact ⟨isN_non rb hn, by rw [isN_rw ra, e1]; exact q⟩
    · cases e
  · exact isin_ok R ra rb e id false (fun c => rfl) q
  · obtain ⟨k', e1, e2⟩ := Option.map_eq_some_iff.mp e
    subst e2
    exact isin_ok R ra rb e1 (!·) true (fun c => rfl) q
  · split at e
    · cases ra; cases rb
      have e1 := Option.some.inj e
      subst e1
      exact ⟨_, _, rfl, rfl, q⟩
    · cases e
  · split at e
    · cases ra; cases rb
      have e1 := Option.some.inj e
      subst e1
      exact ⟨_, _, rfl, rfl, q⟩
    · cases e
  · split at e
    · cases ra; cases rb
      have e1 := Option.some.inj e
      subst e1
      exact ⟨_, _, rfl, rfl, q⟩
    · cases e
  · split at e
    · cases ra; cases rb
      have e1 := Option.some.inj e
      subst e1
      exact ⟨_, _, rfl, rfl, q⟩
    · cases e
end
end Ip

/-! IpHot: any(list), all(list) while an exception is handled. Written by an AI agent. -/
namespace Ip
open PySem PySem.Spec PyProof.Rows L2 HotX
section
variable {prog : Program} {w : World} {A : Around} {E : Value → Shared → Prop} {s : Shared}
/-- the end of a list, a caught exception at hand: as the library's pyNext_list_end and pyNext_range_end_hot -/
theorem list_end_hot {it l x1 : Addr} {i : Nat} {items : Array Value} {Q : Option Value → Shared → Prop} (hot : HotAt A x1 s.heap) (hxi : x1 ≠ it)
    (hit : s.heap.IsListIter it l i) (hl : s.heap.IsList l items) (hx : items[i]? = none)
    (hQ : ∀ h', (∀ b o, b ≠ it → s.heap.get? b = some o → h'.get? b = some o) → Q none { s with heap := h' }) : wpAny (model prog w) A (pyNext (.ref it)) Q E s := by
  obtain ⟨o, ho, hc, hd⟩ := id hit
  obtain ⟨ol, hol, _, nl, hdl⟩ := hl
  obtain ⟨hh, o1, vs1, h1, d1, c1⟩ := hot
  unfold pyNext
  refine wpAny_bind (wpAny_attempt (wpAny_callSpecial?_slot (name := Str.ofString "__next__") hit.typeIs slot_listiter_next
    (wpAny_call_entry slot_listiter_next hit.typeIs entry_listiter_next ?_ (args_listiter_next _))))
  show wpAny _ _ (field (.ref it) 0 >>= _) _ _ s
  refine wpAny_bind (wpAny_field ho hd (x := .ref l) rfl ?_)
  show wpAny _ _ (if (Value.ref l == Value.none) = true then _ else _) _ _ s
  rw [if_neg (show ¬ ((Value.ref l == Value.none) = true) from Bool.false_ne_true)]
  show wpAny _ _ (field (.ref it) 1 >>= _) _ _ s
  refine wpAny_bind (wpAny_field ho hd (x := .int i 0) rfl ?_)
  show wpAny _ _ (seqItems? (.ref l) >>= _) _ _ s
  refine wpAny_bind (wpAny_seqItems hol hdl ?_)
  simp only [Int.toNat_natCast, hx]
  refine wpAny_bind (wpAny_rule (wpAny_bind (wpAny_setField ho hd (by simp) ?_)))
  show wpAny _ _ (newExc (.type "StopIteration") [] >>= _) _ _ _
  refine wpAny_bind ?_
  simp only [newExc, newTuple]
  refine wpAny_bind (wpAny_newObj_type ?_ (by size_fits))
  refine wpAny_bind (m := firstArgMember _ _) (wpAny_of_eq (a := Value.none) (by first | rfl | (simp only [firstArgMember]; rfl)) ?_)
  refine wpAny_newObj_type ?_ (by size_fits)
  have k1 : ∀ b o, b ≠ it → s.heap.get? b = some o → (s.heap.update it (Obj.mapFields (·.setIfInBounds 0 .none))).get? b = some o := fun b o hb e => (Heap.get?_update_other _ _ (Ne.symm hb)).trans e
  refine raiseNew_hot (x1 := x1) ⟨hh, o1, vs1, Heap.get?_push_of_some _ (Heap.get?_push_of_some _ (k1 _ _ hxi h1)), d1, c1⟩ (Nat.ne_of_lt (Heap.lt_size (Heap.get?_push_of_some _ (k1 _ _ hxi h1)))) (Heap.get?_push_size _ rfl) rfl (by simp; omega) ?_
  refine wpAny_bind (wpAny_isInstance (T := "StopIteration") (b := true) ⟨_, Heap.get?_update_self _ (Heap.get?_push_size _ rfl) rfl, rfl⟩ isSubtype_stop ?_)
  refine wpAny_pure (hQ _ fun b o hb e => ?_)
  rw [Heap.get?_update_other _ _ (Nat.ne_of_gt (Heap.lt_size (Heap.get?_push_of_some _ (k1 _ _ hb e))))]
  exact Heap.get?_push_of_some _ (Heap.get?_push_of_some _ (k1 _ _ hb e))
theorem HotAt.keep {x1 : Addr} {h h' : Heap} (a : HotAt A x1 h) (k : ∀ o, h.get? x1 = some o → h'.get? x1 = some o) : HotAt A x1 h' := by
  obtain ⟨hh, o1, vs1, h1, d1, c1⟩ := a
  exact ⟨hh, o1, vs1, k _ h1, d1, c1⟩
theorem walks_hot {x1 : Addr} (I ax : Addr) (hne : ax ≠ I) (hx : x1 ≠ I) (items : Array Value) :
    Walks prog w A I [I, ax, x1] [I] items.size (fun i v => items[i]? = some v) (fun i h => (h.IsListIter I ax i ∧ h.IsList ax items) ∧ HotAt A x1 h) where
  sub := fun b hb => by simp at hb; simp [hb]
  frame := fun _ _ _ st hk => ⟨⟨st.1.1.at fun o e => hk I (by simp) o e, st.1.2.at fun o e => hk ax (by simp) o e⟩, HotAt.keep st.2 fun o e => hk x1 (by simp) o e⟩
  item := fun i s Q E hi st hQ => by
    refine wpAny_pyNext_list_item st.1.1 st.1.2 (x := items[i]) (by simp [hi]) fun h' hit' hs' => ?_
    exact hQ _ h' s.toks (by simp [hi]) ⟨⟨hit', st.1.2.extBut hs'.extBut hne⟩, HotAt.keep st.2 fun o e => hs'.extBut x1 o hx e⟩ fun b o hb e => hs'.extBut b o (fun h => hb (by simp [h])) e
  done := fun s Q E st hQ => list_end_hot st.2 hx st.1.1 st.1.2 (by simp) fun h' he' => hQ h' s.toks fun b o hb e => he' b o (fun h => hb (by simp [h])) e
  self := fun _ _ _ _ st hQ => wpAny_pyIter_listiter st.1.1 hQ
end
section
variable {X : Cx}
theorem cr_anyH (hc : L2H.HotC X) : CallR X (.builtin "any") (rAny X.K) := by
  intro pins s σ H vs us Q I r h
  obtain ⟨a, bs, rfl, hs, q⟩ := h
  obtain ⟨its, rv, hl, _⟩ := I.list hs
  rw [Vals.ref1 r]
  have hb := rv.bls
  obtain ⟨x1, hot⟩ := hc.at I
  have hot1 : HotAt X.A.in1 x1 s.heap := hot
  have hx1 : x1 < s.heap.objs.size := by obtain ⟨_, o1, _, h1, _⟩ := hot; exact Heap.lt_size h1
  refine call_any_walk (iter_any hl.isList fun s₂ e2 st hne => ?_)
  subst e2
  refine ⟨_, _, _, _, _, _, _, rfl, walks_hot (A := X.A.in1) _ a hne (Nat.ne_of_lt hx1) its.toArray, ⟨st, HotAt.keep hot1 fun o e => Heap.get?_push_of_some _ e⟩, truth_bools hb, fun h' tk hk => ?_⟩
  refine ⟨.bl _, H, I.kept fun b o eo => hk b o (fun hmem => ?_) (Heap.get?_push_of_some _ eo), ?_, q⟩
  · rcases List.mem_cons.mp hmem with e1 | hmem
    · exact absurd (e1 ▸ Heap.lt_size eo) (Nat.lt_irrefl _)
    · cases hmem
  · show Value.bool _ = Value.bool _
    rw [← L2.any_range, hb, List.size_toArray, List.length_map]
theorem cr_allH (hc : L2H.HotC X) : CallR X (.builtin "all") (rAll X.K) := by
  intro pins s σ H vs us Q I r h
  obtain ⟨a, bs, rfl, hs, q⟩ := h
  obtain ⟨its, rv, hl, _⟩ := I.list hs
  rw [Vals.ref1 r]
  have hb := rv.bls
  obtain ⟨x1, hot⟩ := hc.at I
  have hot1 : HotAt X.A.in1 x1 s.heap := hot
  have hx1 : x1 < s.heap.objs.size := by obtain ⟨_, o1, _, h1, _⟩ := hot; exact Heap.lt_size h1
  refine call_all_walk (iter_any hl.isList fun s₂ e2 st hne => ?_)
  subst e2
  refine ⟨_, _, _, _, _, _, _, rfl, walks_hot (A := X.A.in1) _ a hne (Nat.ne_of_lt hx1) its.toArray, ⟨st, HotAt.keep hot1 fun o e => Heap.get?_push_of_some _ e⟩, truth_bools hb, fun h' tk hk => ?_⟩
  refine ⟨.bl _, H, I.kept fun b o eo => hk b o (fun hmem => ?_) (Heap.get?_push_of_some _ eo), ?_, q⟩
  · rcases List.mem_cons.mp hmem with e1 | hmem
    · exact absurd (e1 ▸ Heap.lt_size eo) (Nat.lt_irrefl _)
    · cases hmem
  · show Value.bool _ = Value.bool _
    rw [← L2.all_range, hb, List.size_toArray, List.length_map]
theorem cr_any2 (h : X.calm = true ∨ L2H.HotC X) : CallR X (.builtin "any") (rAny X.K) := h.elim cr_any cr_anyH
theorem cr_all2 (h : X.calm = true ∨ L2H.HotC X) : CallR X (.builtin "all") (rAll X.K) := h.elim cr_all cr_allH
end
end Ip

/-! IpSnd: the interpreter is kept by HandS' judgements: expressions. Written by an AI agent. -/
namespace Ip
open PySem PySem.Spec PyProof.Rows L2

/-! ### readings -/
def Rst (K : PySem.W.Frag) (m : List Addr) (H : Hp) (ρ : Env) (σ : L2.St) : Prop := ρ.length = σ.length ∧ ∀ (i : Nat) (w : W), ρ[i]? = some (some w) → ∃ v, σ[i]? = some (some v) ∧ RW K m H w v
structure At (C : Cf) (m : List Addr) (S : Store) (H : Hp) (ρ : Env) (σ : L2.St) : Prop where
  h : RelH C m S H
  s : Rst C.K m H ρ σ
/-- an exception's class, dict -/
def RX (C : Cf) (m : List Addr) (H : Hp) (x : Exn) (cls : Value) (d : Option Addr) : Prop := cls = .ref (C.cl x.cls) ∧ C.xc x.cls ∧ RXd C m H d x.fs
/-- what is wanted of a result -/
def PG {α β : Type} (Rl : List Addr → Hp → α → β → Prop) (C : Cf) (Wx : WX) (m : List Addr) (S : Store) (H : Hp) (σ : L2.St) (r : Rs α × Store) (Q : β → Hp → Prop) : Prop :=
  match r with
  | (.ok w, S') => ∀ m' H' v, RelH C m' S' H' → Ext m S H m' S' H' → Rl m' H' w v → Q v H'
  | (.ex x, S') => ∀ m' H' cls d, RelH C m' S' H' → Ext m S H m' S' H' → RX C m' H' x cls d → Wx cls d σ H'
def rdE (C : Cf) (Γ : Gam) (Wx : WX) (e : Ex) : TE := fun σ H Q => ∃ m ρ S r, At C m S H ρ σ ∧ ev Γ e ρ S = some r ∧ PG (RW C.K) C Wx m S H σ r Q
def rdA (C : Cf) (Γ : Gam) (Wx : WX) (es : List Ex) : TA := fun σ H Q => ∃ m ρ S r, At C m S H ρ σ ∧ evs Γ es ρ S = some r ∧ PG (RWs C.K) C Wx m S H σ r Q
def EqB (_ : List Addr) (_ : Hp) (a b : Bool) : Prop := a = b
def rdT (C : Cf) (Γ : Gam) (Wx : WX) (e : Ex) : TT := fun σ H Q => ∃ m ρ S r, At C m S H ρ σ ∧ truth (ev Γ e ρ S) = some r ∧ PG EqB C Wx m S H σ r Q
section
variable {C : Cf} {Γ : Gam} {Wx : WX} {m m' : List Addr} {S S' : Store} {H H' : Hp} {ρ : Env} {σ : L2.St}
theorem Rst.mono (e : Ext m S H m' S' H') (r : Rst C.K m H ρ σ) : Rst C.K m' H' ρ σ := ⟨r.1, fun i w h => by
  obtain ⟨v, h1, h2⟩ := r.2 i w h
  exact ⟨v, h1, h2.mono e⟩⟩
theorem At.go (a : At C m S H ρ σ) (h : RelH C m' S' H') (e : Ext m S H m' S' H') : At C m' S' H' ρ σ := ⟨h, a.s.mono e⟩
theorem Rst.set {w : W} {v : V} (r : Rst C.K m H ρ σ) (i : Nat) (h : RW C.K m H w v) : Rst C.K m H (ρ.set i (some w)) (σ.set i (some v)) := by
  refine ⟨by rw [List.length_set, List.length_set]; exact r.1, fun j u hu => ?_⟩
  by_cases hj : i = j
  · subst hj
    by_cases hl : i < ρ.length
    · rw [List.getElem?_set_self hl] at hu
      have e : w = u := Option.some.inj (Option.some.inj hu)
      subst e
      exact ⟨v, List.getElem?_set_self (by rw [← r.1]; exact hl), h⟩
    · rw [List.getElem?_eq_none (by rw [List.length_set]; omega)] at hu
      cases hu
  · rw [List.getElem?_set_ne hj] at hu
    obtain ⟨x, h1, h2⟩ := r.2 j u hu
    exact ⟨x, by rw [List.getElem?_set_ne hj]; exact h1, h2⟩
theorem PG.go {α β : Type} {Rl : List Addr → Hp → α → β → Prop} {r : Rs α × Store} {Q : β → Hp → Prop} (p : PG Rl C Wx m S H σ r Q) (e : Ext m S H m' S' H') : PG Rl C Wx m' S' H' σ r Q := by
  obtain ⟨r, S2⟩ := r
  cases r with
  | ok w => exact fun m2 H2 v h1 h2 h3 => p m2 H2 v h1 (e.trans h2) h3
  | ex x => exact fun m2 H2 c d h1 h2 h3 => p m2 H2 c d h1 (e.trans h2) h3
/-- a step, then what goes on from its value -/
theorem pg_bnd {α β γ δ : Type} {Rl : List Addr → Hp → α → β → Prop} {Rl2 : List Addr → Hp → γ → δ → Prop} {x : R α} {k : α → Store → R γ} {r : Rs γ × Store} {Q : δ → Hp → Prop} {Q' : β → Hp → Prop}
    (h : bnd x k = some r) (p : PG Rl2 C Wx m S H σ r Q)
    (hk : ∀ w S1 m1 H1 v, x = some (.ok w, S1) → k w S1 = some r → RelH C m1 S1 H1 → Ext m S H m1 S1 H1 → Rl m1 H1 w v → PG Rl2 C Wx m1 S1 H1 σ r Q → Q' v H1) :
    ∃ r1, x = some r1 ∧ PG Rl C Wx m S H σ r1 Q' := by
  unfold bnd at h
  split at h
  · cases h
  · rename_i e S1
    have e1 := Option.some.inj h
    subst e1
    exact ⟨_, rfl, p⟩
  · rename_i w S1
    exact ⟨_, rfl, fun m1 H1 v h1 h2 h3 => hk w S1 m1 H1 v rfl h h1 h2 h3 (p.go h2)⟩
theorem rd_step {γ δ : Type} {Rl2 : List Addr → Hp → γ → δ → Prop} {e : Ex} {k : W → Store → R γ} {r : Rs γ × Store} {Q : δ → Hp → Prop} {Q' : VK} (A : At C m S H ρ σ) (h : bnd (ev Γ e ρ S) k = some r) (p : PG Rl2 C Wx m S H σ r Q)
    (hk : ∀ w S1 m1 H1 v, k w S1 = some r → At C m1 S1 H1 ρ σ → Ext m S H m1 S1 H1 → RW C.K m1 H1 w v → PG Rl2 C Wx m1 S1 H1 σ r Q → Q' v H1) : rdE C Γ Wx e σ H Q' := by
  obtain ⟨r1, h1, h2⟩ := pg_bnd (Rl := RW C.K) h p fun w S1 m1 H1 v _ z1 z2 z3 z4 z5 => hk w S1 m1 H1 v z1 (A.go z2 z3) z3 z4 z5
  exact ⟨m, ρ, S, r1, A, h1, h2⟩
theorem rd_stepA {γ δ : Type} {Rl2 : List Addr → Hp → γ → δ → Prop} {es : List Ex} {k : List W → Store → R γ} {r : Rs γ × Store} {Q : δ → Hp → Prop} {Q' : List V → Hp → Prop} (A : At C m S H ρ σ) (h : bnd (evs Γ es ρ S) k = some r) (p : PG Rl2 C Wx m S H σ r Q)
    (hk : ∀ w S1 m1 H1 v, k w S1 = some r → At C m1 S1 H1 ρ σ → Ext m S H m1 S1 H1 → RWs C.K m1 H1 w v → PG Rl2 C Wx m1 S1 H1 σ r Q → Q' v H1) : rdA C Γ Wx es σ H Q' := by
  obtain ⟨r1, h1, h2⟩ := pg_bnd (Rl := RWs C.K) h p fun w S1 m1 H1 v _ z1 z2 z3 z4 z5 => hk w S1 m1 H1 v z1 (A.go z2 z3) z3 z4 z5
  exact ⟨m, ρ, S, r1, A, h1, h2⟩
theorem rd_stepT {γ δ : Type} {Rl2 : List Addr → Hp → γ → δ → Prop} {e : Ex} {k : Bool → Store → R γ} {r : Rs γ × Store} {Q : δ → Hp → Prop} {Q' : Bool → Hp → Prop} (A : At C m S H ρ σ) (h : bnd (truth (ev Γ e ρ S)) k = some r) (p : PG Rl2 C Wx m S H σ r Q)
    (hk : ∀ w S1 m1 H1, k w S1 = some r → At C m1 S1 H1 ρ σ → Ext m S H m1 S1 H1 → PG Rl2 C Wx m1 S1 H1 σ r Q → Q' w H1) : rdT C Γ Wx e σ H Q' := by
  obtain ⟨r1, h1, h2⟩ := pg_bnd (Rl := EqB) (Q' := Q') h p fun w S1 m1 H1 v _ z1 z2 z3 z4 z5 => by
    have e : w = v := z4
    subst e
    exact hk w S1 m1 H1 z1 (A.go z2 z3) z3 z5
  exact ⟨m, ρ, S, r1, A, h1, h2⟩
/-- an expression's value, last -/
theorem PG.rok {w : W} {v : V} {r : Rs W × Store} {Q : VK} (p : PG (RW C.K) C Wx m S H σ r Q) (h : Ip.rok w S = some r) (R : RelH C m S H) (rw' : RW C.K m H w v) : Q v H := by
  have e := Option.some.inj h
  subst e
  exact p m H v R Ext.refl rw'
theorem PG.rokB {b : Bool} {r : Rs Bool × Store} {Q : Bool → Hp → Prop} (p : PG EqB C Wx m S H σ r Q) (h : Ip.rok b S = some r) (R : RelH C m S H) : Q b H := by
  have e := Option.some.inj h
  subst e
  exact p m H b R Ext.refl rfl
theorem PG.rokA {ws : List W} {vs : List V} {r : Rs (List W) × Store} {Q : List V → Hp → Prop} (p : PG (RWs C.K) C Wx m S H σ r Q) (h : Ip.rok ws S = some r) (R : RelH C m S H) (rw' : RWs C.K m H ws vs) : Q vs H := by
  have e := Option.some.inj h
  subst e
  exact p m H vs R Ext.refl rw'
/-- an operation's value, last -/
theorem PG.lift {x : Option (W × Store)} {r : Rs W × Store} {Q : VK} (p : PG (RW C.K) C Wx m S H σ r Q) (h : Ip.lift x = some r) : ∃ w S', x = some (w, S') ∧ Post C m S H S' w Q := by
  unfold Ip.lift at h
  obtain ⟨q, e1, e2⟩ := Option.map_eq_some_iff.mp h
  subst e2
  exact ⟨q.1, q.2, e1, p⟩
end

/-! ### judgements, joined and weakened -/
section
variable {X : Cx} {e : Expr} {t t' : TE} {u u' : TT} {a a' : TA} {es : List Expr}
theorem pe_imp (h : PE X e t) (i : ∀ σ H Q, t' σ H Q → t σ H Q) : PE X e t' := ⟨fun pins s σ H Q I q => h.run pins s σ H Q I (i σ H Q q)⟩
theorem pt_imp (h : PT X e u) (i : ∀ σ H Q, u' σ H Q → u σ H Q) : PT X e u' := ⟨fun pins s σ H Q I q => h.run pins s σ H Q I (i σ H Q q)⟩
theorem pa_imp (h : PA X es a) (i : ∀ σ H Q, a' σ H Q → a σ H Q) : PA X es a' := ⟨fun pos pins s σ H Q I q => h.run pos pins s σ H Q I (i σ H Q q)⟩
theorem pe_or2 (h : PE X e t) (h' : PE X e t') : PE X e (fun σ H Q => t σ H Q ∨ t' σ H Q) := ⟨fun pins s σ H Q I q => q.elim (h.run pins s σ H Q I) (h'.run pins s σ H Q I)⟩
end

/-! ### the check -/
structure Ck where
  sc : Scope
  N : List Str
  /-- defs of the module, by their numbers; none: a method -/
  fnm : List (Option Str) := []
  cnm : List Str := []
  gnm : List Str := []
  /-- names of fields and methods -/
  mnm : List Str := []
  /-- the classes that are made -/
  mks : List Nat := []
  /-- the classes that are caught -/
  cts : List Nat := []
  /-- the classes that are raised with a text alone -/
  rs : List Nat := []
  /-- cells that may be set -/
  fnc : Str → Bool := fun _ => true
def okName (x : Str) : Bool := !(x == ("__debug__" : Str)) && !(x == ("__classdict__" : Str))
def visB (sc : Scope) (x : Str) : Bool := match sc.names.lookup x with
  | some .local => true
  | some .cell => true
  | some .free => true
  | _ => false
def glB (sc : Scope) (x : Str) : Bool := decide (sc.names.lookup x = some .globalImplicit) && okName x
def noSup : Expr → Bool
  | .Call (.Name _ _) [] [] _ => false
  | _ => true
def bfNm : Bf → Str
  | .len => "len" | .abs => "abs" | .int => "int" | .str => "str" | .list => "list" | .tuple => "tuple" | .max2 => "max" | .min2 => "min" | .max1 => "max" | .min1 => "min" | .sum => "sum" | .any => "any" | .all => "all"
def bmNm : Bm → Str
  | .append => "append" | .pop => "pop" | .insert => "insert" | .index => "index" | .clear => "clear" | .get => "get" | .join => "join" | .split => "split" | .partition => "partition"
def cmEq : Cm → CmpOp → Bool
  | .eq, .Eq => true | .ne, .NotEq => true | .lt, .Lt => true | .le, .LtE => true | .gt, .Gt => true | .ge, .GtE => true | .isN, .Is => true | .notN, .IsNot => true | .isin, .In => true | .notin, .NotIn => true
  | _, _ => false
def op2Eq : Op2 → Operator → Bool
  | .add, .Add => true | .sub, .Sub => true | .mul, .Mult => true | .fdiv, .FloorDiv => true | .mod, .Mod => true | .pow, .Pow => true
  | _, _ => false
def cmEqs : List Cm → List CmpOp → Bool
  | [], [] => true
  | c :: cs, d :: ds => cmEq c d && cmEqs cs ds
  | _, _ => false
theorem cmEq_ok : ∀ {c : Cm} {d : CmpOp}, cmEq c d = true → d = pyCm c := fun {c d} h => by cases c <;> cases d <;> first | rfl | cases h
theorem op2Eq_ok : ∀ {c : Op2} {d : Operator}, op2Eq c d = true → d = pyOp c := fun {c d} h => by cases c <;> cases d <;> first | rfl | cases h
theorem ba {a b : Bool} (h : (a && b) = true) : a = true ∧ b = true := Bool.and_eq_true_iff.mp h

/-! ### written forms -/
def noStar : Expr → Bool
  | .Starred _ _ => false
  | _ => true
def noSet : Expr → Bool
  | .Set _ _ _ => false
  | _ => true
def noSlc : Expr → Bool
  | .Slice _ _ _ _ => false
  | _ => true
theorem star_cons {e : Expr} {es : List Expr} {env : PySem.Env} (h : noStar e = true) : starEach (e :: es) env = (false, eval e env) :: starEach es env := by
  cases e <;> first | rfl | cases h
theorem star_all {env : PySem.Env} : ∀ {es : List Expr}, es.all noStar = true → starEach es env = es.map fun e => (false, eval e env)
  | [], _ => rfl
  | e :: es, h => by
    rw [List.all_cons, Bool.and_eq_true] at h
    rw [star_cons h.1, star_all h.2, List.map_cons]
theorem star_plain {env : PySem.Env} {p : Pos} : ∀ {es : List Expr}, es.all noStar = true → (backTo p (starEach es env)).any (·.1) = false
  | [], _ => rfl
  | e :: es, h => by
    rw [List.all_cons, Bool.and_eq_true] at h
    rw [star_cons h.1]
    show (false || (backTo p (starEach es env)).any (·.1)) = false
    rw [star_plain h.2] <;> rfl
theorem star_few {env : PySem.Env} {p : Pos} : ∀ {es : List Expr}, es.all noStar = true → (backTo p (starEach es env)).all (fun x => !x.1) = true
  | [], _ => rfl
  | e :: es, h => by
    rw [List.all_cons, Bool.and_eq_true] at h
    rw [star_cons h.1]
    show (true && (backTo p (starEach es env)).all (fun x => !x.1)) = true
    rw [star_few h.2] <;> rfl
theorem set_mark {op : CmpOp} {e : Expr} (h : noSet e = true) : behindInMarks op e = false := by
  cases e <;> first | rfl | cases h
theorem set_marks : ∀ {ops : List CmpOp} {es : List Expr}, es.all noSet = true → lastMarks ops es = false
  | [], _, _ => by unfold lastMarks; rfl
  | [op], [], _ => by unfold lastMarks; rfl
  | [op], [e], h => by
    rw [List.all_cons, Bool.and_eq_true] at h
    exact set_mark h.1
  | [op], e :: f :: es, h => by unfold lastMarks; unfold lastMarks; rfl
  | op :: o2 :: ops, [], _ => by unfold lastMarks; rfl
  | op :: o2 :: ops, e :: es, h => by
    rw [List.all_cons, Bool.and_eq_true] at h
    unfold lastMarks
    exact set_marks h.2
theorem sup_base {e : Expr} {n : Str} {env : PySem.Env} {wh : Sem Value} (h : noSup e = true) : attributeBase e n env wh = wh := by
  unfold attributeBase
  split
  · rename_i id p pos
    cases h
  · rfl
theorem slc_plain {e : Expr} (h : noSlc e = true) (o i : Value) : subscripted e false o i = operate [o, i] (getItem o i) := by
  cases e <;> first | rfl | cases h

/-! ### expressions, rule by rule -/
section
variable {C : Cf} {Γ : Gam} {Wx : WX} {X : Cx} {a b c : Ex} {x y z : Expr} {pos : Pos}
theorem s_var {i : Nat} {n : Str} (hN : X.N[i]? = some n) (hv : Vis X.env.scope n) (hd : (n == ("__debug__" : Str)) = false) (hc : (n == ("__classdict__" : Str)) = false) : PE X (.Name n pos) (rdE C Γ Wx (.var i)) := by
  refine pe_imp (pe_var hN hv hd hc) fun σ H Q ⟨m, ρ, S, r, A, h, p⟩ => ?_
  unfold ev at h
  split at h
  · rename_i w hw
    obtain ⟨v, h1, h2⟩ := A.s.2 i w hw
    exact ⟨v, h1, p.rok h A.h h2⟩
  · cases h
theorem s_int {i : Int} {k : Nat} : PE X (.Constant (.int i) k pos) (rdE C Γ Wx (.int i)) := pe_imp pe_int fun σ H Q ⟨m, ρ, S, r, A, h, p⟩ => by
  unfold ev at h
  exact p.rok h A.h (.int i)
theorem s_str {i : Str} {k : Nat} : PE X (.Constant (.str i) k pos) (rdE C Γ Wx (.str i)) := pe_imp pe_str fun σ H Q ⟨m, ρ, S, r, A, h, p⟩ => by
  unfold ev at h
  exact p.rok h A.h (.str i)
theorem s_bl {i : Bool} {k : Nat} : PE X (.Constant (.bool i) k pos) (rdE C Γ Wx (.bl i)) := pe_imp pe_bl fun σ H Q ⟨m, ρ, S, r, A, h, p⟩ => by
  unfold ev at h
  exact p.rok h A.h (.bl i)
theorem s_non {k : Nat} : PE X (.Constant .none k pos) (rdE C Γ Wx .non) := pe_imp pe_non fun σ H Q ⟨m, ρ, S, r, A, h, p⟩ => by
  unfold ev at h
  exact p.rok h A.h .non
theorem s_glob {g : Nat} {n : Str} {u : Value} {v : V} {w : W} (hg : Gl X n) (hm : X.mg n = some u) (r : RelV v u) (hw : Γ.glob g = some w) (hr : ∀ m H, RW C.K m H w v) (hd : (n == ("__debug__" : Str)) = false) : PE X (.Name n pos) (rdE C Γ Wx (.glob g)) :=
  pe_imp (pe_glob hg hm r hd) fun σ H Q ⟨m, ρ, S, r, A, h, p⟩ => by
    unfold ev at h
    rw [hw] at h
    exact p.rok h A.h (hr m H)
theorem s_bin {op : Op2} (hK : X.K = C.K) (ha : PE X x (rdE C Γ Wx a)) (hb : PE X y (rdE C Γ Wx b)) : PE X (.BinOp x (pyOp op) y pos) (rdE C Γ Wx (.bin op a b)) := by
  refine pe_imp (pe_op (opR_ok op) ha hb) fun σ H Q ⟨m, ρ, S, r, A, h, p⟩ => ?_
  unfold ev at h
  refine rd_step A h p fun w S1 m1 H1 v h1 A1 _ rv p1 => rd_step A1 h1 p1 fun w2 S2 m2 H2 v2 h2 A2 e2 rv2 p2 => ?_
  obtain ⟨w3, S3, h3, p3⟩ := p2.lift h2
  rw [hK]
  exact op2_ok A2.h (rv.mono e2) rv2 h3 p3
theorem s_neg (ha : PE X x (rdE C Γ Wx a)) : PE X (.UnaryOp .USub x pos) (rdE C Γ Wx (.neg a)) := by
  refine pe_imp (pe_un un_neg ha) fun σ H Q ⟨m, ρ, S, r, A, h, p⟩ => ?_
  unfold ev at h
  refine rd_step A h p fun w S1 m1 H1 v h1 A1 _ rv p1 => ?_
  cases rv with
  | int i => exact ⟨i, rfl, p1.rok h1 A1.h (.int _)⟩
  | _ => cases h1
theorem s_cmp {op : Cm} (hK : X.K = C.K) (hu : X.A.units + 64 < cLine) (hn : noSet y = true) (ha : PE X x (rdE C Γ Wx a)) (hb : PE X y (rdE C Γ Wx b)) : PE X (.Compare x [pyCm op] [y] pos) (rdE C Γ Wx (.cmp op a b)) := by
  refine pe_imp (pe_cmpR (cmR_ok hu op) ha hb (set_mark hn)) fun σ H Q ⟨m, ρ, S, r, A, h, p⟩ => ?_
  unfold ev at h
  refine rd_step A h p fun w S1 m1 H1 v h1 A1 _ rv p1 => rd_step A1 h1 p1 fun w2 S2 m2 H2 v2 h2 A2 e2 rv2 p2 => ?_
  split at h2
  · rename_i k hk
    rw [hK]
    exact cm2_ok A2.h (rv.mono e2) rv2 hk (p2.rok h2 A2.h (.bl k))
  · cases h2
/-- a test from a value -/
theorem t_val {e : Ex} (h : PE X x (rdE C Γ Wx e)) (he : ∀ whole, isTrue x X.env whole = (do let v ← whole; standAt x.pos; holding [v] (truthy v))) : PT X x (rdT C Γ Wx e) := by
  refine pt_imp (pt_val h he) fun σ H Q ⟨m, ρ, S, r, A, h, p⟩ => ?_
  unfold truth at h
  refine rd_step A h p fun w S1 m1 H1 v h1 A1 _ rv p1 => ?_
  cases rv with
  | bl b => exact ⟨b, rfl, p1.rokB h1 A1.h⟩
  | _ => cases h1
theorem t_cmp {op : Cm} (hK : X.K = C.K) (hu : X.A.units + 64 < cLine) (hn : noSet y = true) (ha : PE X x (rdE C Γ Wx a)) (hb : PE X y (rdE C Γ Wx b)) : PT X (.Compare x [pyCm op] [y] pos) (rdT C Γ Wx (.cmp op a b)) := by
  refine pt_imp (pt_cmpR (cmR_ok hu op) ha hb (set_mark hn)) fun σ H Q ⟨m, ρ, S, r, A, h, p⟩ => ?_
  unfold truth at h
  unfold ev at h
  obtain ⟨r1, h1, p1⟩ := pg_bnd (Rl := RW C.K) (Q' := fun v H1 => ∃ k, v = V.bl k ∧ Q k H1) h p fun w S1 m1 H1 v _ z1 z2 z3 z4 z5 => by
    cases z4 with
    | bl b => exact ⟨b, rfl, z5.rokB z1 z2⟩
    | _ => cases z1
  refine rd_step A h1 p1 fun w S1 m1 H1 v h1 A1 _ rv p1 => rd_step A1 h1 p1 fun w2 S2 m2 H2 v2 h2 A2 e2 rv2 p2 => ?_
  split at h2
  · rename_i k hk
    rw [hK]
    exact cm2_ok A2.h (rv.mono e2) rv2 hk (p2.rok h2 A2.h (.bl k))
  · cases h2
theorem s_not (ha : PE X x (rdE C Γ Wx a)) : PE X (.UnaryOp .Not x pos) (rdE C Γ Wx (.not a)) := by
  refine pe_imp (pe_not ha) fun σ H Q ⟨m, ρ, S, r, A, h, p⟩ => ?_
  unfold ev at h
  obtain ⟨r1, h1, p1⟩ := pg_bnd (Rl := EqB) (Q' := fun k H1 => Q (.bl (!k)) H1) h p fun w S1 m1 H1 v _ z1 z2 z3 z4 z5 => by
    have e : w = v := z4
    subst e
    exact z5.rok z1 z2 (.bl _)
  unfold truth at h1
  refine rd_step A h1 p1 fun w S1 m1 H1 v h1 A1 _ rv p1 => ?_
  cases rv with
  | bl b => exact ⟨b, rfl, p1.rokB h1 A1.h⟩
  | _ => cases h1
theorem t_not (ha : PT X x (rdT C Γ Wx a)) : PT X (.UnaryOp .Not x pos) (rdT C Γ Wx (.not a)) := by
  refine pt_imp (pt_not ha) fun σ H Q ⟨m, ρ, S, r, A, h, p⟩ => ?_
  unfold truth at h
  unfold ev at h
  obtain ⟨r1, h1, p1⟩ := pg_bnd (Rl := RW C.K) (Q' := fun v H1 => ∃ k, v = V.bl k ∧ Q k H1) h p fun w S1 m1 H1 v _ z1 z2 z3 z4 z5 => by
    cases z4 with
    | bl b => exact ⟨b, rfl, z5.rokB z1 z2⟩
    | _ => cases z1
  refine rd_stepT A h1 p1 fun w S1 m1 H1 h1 A1 _ p1 => ?_
  obtain ⟨k, e, q⟩ := p1.rok h1 A1.h (.bl _)
  cases e
  exact q
theorem s_ite (hc : PT X z (rdT C Γ Wx c)) (ha : PE X x (rdE C Γ Wx a)) (hb : PE X y (rdE C Γ Wx b)) : PE X (.IfExp z x y pos) (rdE C Γ Wx (.ite c a b)) := by
  refine pe_imp (pe_ifExp hc ha hb) fun σ H Q ⟨m, ρ, S, r, A, h, p⟩ => ?_
  unfold ev at h
  refine rd_stepT A h p fun w S1 m1 H1 h1 A1 _ p1 => ?_
  cases w with
  | true => exact iteT ⟨m1, ρ, S1, r, A1, h1, p1⟩
  | false => exact iteF ⟨m1, ρ, S1, r, A1, h1, p1⟩
end

/-! ### lists of expressions -/
inductive PEs (C : Cf) (Γ : Gam) (Wx : WX) (X : Cx) : List Ex → List Expr → Prop
  | nil : PEs C Γ Wx X [] []
  | cons {e : Ex} {es : List Ex} {y : Expr} {ys : List Expr} : PE X y (rdE C Γ Wx e) → noStar y = true → noSet y = true → PEs C Γ Wx X es ys → PEs C Γ Wx X (e :: es) (y :: ys)
inductive PTs2 (C : Cf) (Γ : Gam) (Wx : WX) (X : Cx) : List Ex → List Expr → Prop
  | nil : PTs2 C Γ Wx X [] []
  | cons {e : Ex} {es : List Ex} {y : Expr} {ys : List Expr} : PE X y (rdE C Γ Wx e) → PT X y (rdT C Γ Wx e) → PTs2 C Γ Wx X es ys → PTs2 C Γ Wx X (e :: es) (y :: ys)
section
variable {C : Cf} {Γ : Gam} {Wx : WX} {X : Cx} {a b c : Ex} {x y z : Expr} {es : List Ex} {ys : List Expr} {pos : Pos}
theorem PEs.noStar : ∀ {es : List Ex} {ys : List Expr}, PEs C Γ Wx X es ys → ys.all Ip.noStar = true
  | _, _, .nil => rfl
  | _, _, .cons _ h _ r => by rw [List.all_cons, h, PEs.noStar r] <;> rfl
theorem PEs.noSet : ∀ {es : List Ex} {ys : List Expr}, PEs C Γ Wx X es ys → ys.all Ip.noSet = true
  | _, _, .nil => rfl
  | _, _, .cons _ _ h r => by rw [List.all_cons, h, PEs.noSet r] <;> rfl
theorem PEs.length : ∀ {es : List Ex} {ys : List Expr}, PEs C Γ Wx X es ys → es.length = ys.length
  | _, _, .nil => rfl
  | _, _, .cons _ _ _ r => by rw [List.length_cons, List.length_cons, PEs.length r]
theorem PEs.pa : ∀ {es : List Ex} {ys : List Expr}, PEs C Γ Wx X es ys → PA X ys (rdA C Γ Wx es)
  | _, _, .nil => pa_imp pa_nil fun σ H Q ⟨m, ρ, S, r, A, h, p⟩ => by
    unfold evs at h
    exact p.rokA h A.h .nil
  | _, _, .cons h hs _ r => pa_imp (pa_cons h (PEs.pa r) (star_cons hs)) fun σ H Q ⟨m, ρ, S, r, A, h, p⟩ => by
    unfold evs at h
    exact rd_step A h p fun w S1 m1 H1 v h1 A1 _ rv p1 => rd_stepA A1 h1 p1 fun w2 S2 m2 H2 v2 h2 A2 e2 rv2 p2 => p2.rokA h2 A2.h (.cons (rv.mono e2) rv2)
theorem bnd_some {α β : Type} {x : R α} {f : α → Store → R β} {b : β} {S' : Store} (h : bnd x f = some (.ok b, S')) : ∃ a S1, x = some (.ok a, S1) ∧ f a S1 = some (.ok b, S') := by
  unfold bnd at h
  split at h
  · cases h
  · cases (Option.some.inj h)
  · exact ⟨_, _, rfl, h⟩
theorem truth_bnd {α : Type} (x : R α) (f : α → Store → R W) : truth (bnd x f) = bnd x fun a S => truth (f a S) := by
  match x with
  | none => rfl
  | some (.ex e, S) => rfl
  | some (.ok a, S) => rfl
theorem evs_len {Γ : Gam} {ρ : Env} : ∀ {es : List Ex} {S S' : Store} {ws : List W}, evs Γ es ρ S = some (.ok ws, S') → ws.length = es.length
  | [], S, S', ws, h => by
    unfold evs at h
    have e := Option.some.inj h
    cases e
    rfl
  | e :: es, S, S', ws, h => by
    unfold evs at h
    obtain ⟨w, S1, h1, h⟩ := bnd_some h
    obtain ⟨ws', S2, hq, h⟩ := bnd_some h
    cases (Option.some.inj h)
    rw [List.length_cons, List.length_cons, evs_len hq]
theorem rd_stepL {γ δ : Type} {Rl2 : List Addr → Hp → γ → δ → Prop} {m : List Addr} {S : Store} {H : Hp} {ρ : Env} {σ : L2.St} {es : List Ex} {k : List W → Store → R γ} {r : Rs γ × Store} {Q : δ → Hp → Prop} {Q' : List V → Hp → Prop} (A : At C m S H ρ σ) (h : bnd (evs Γ es ρ S) k = some r) (p : PG Rl2 C Wx m S H σ r Q)
    (hk : ∀ w S1 m1 H1 v, k w S1 = some r → At C m1 S1 H1 ρ σ → Ext m S H m1 S1 H1 → RWs C.K m1 H1 w v → PG Rl2 C Wx m1 S1 H1 σ r Q → w.length = es.length → Q' v H1) : rdA C Γ Wx es σ H Q' := by
  obtain ⟨r1, h1, h2⟩ := pg_bnd (Rl := RWs C.K) h p fun w S1 m1 H1 v hx z1 z2 z3 z4 z5 => hk w S1 m1 H1 v z1 (A.go z2 z3) z3 z4 z5 (evs_len hx)
  exact ⟨m, ρ, S, r1, A, h1, h2⟩
theorem s_tup {k : Nat} (h : PEs C Γ Wx X es ys) (hl : es.length ≤ 16777216) : PE X (.Tuple ys k pos) (rdE C Γ Wx (.tup es)) := by
  refine pe_imp (pe_tup h.pa) fun σ H Q ⟨m, ρ, S, r, A, h, p⟩ => ?_
  unfold ev at h
  refine rd_stepL A h p fun ws S1 m1 H1 vs h1 A1 _ rv p1 hw => ?_
  have e := Option.some.inj h1
  subst e
  exact ⟨by rw [← rv.length, hw]; exact sl_le hl, fun q hq => Post.tup p1 A1.h hq rv⟩
theorem s_lst (h : PEs C Γ Wx X es ys) (hl : es.length ≤ 16777216) : PE X (.List ys pos) (rdE C Γ Wx (.lst es)) := by
  refine pe_imp (pe_lst h.pa) fun σ H Q ⟨m, ρ, S, r, A, h, p⟩ => ?_
  unfold ev at h
  refine rd_stepL A h p fun ws S1 m1 H1 vs h1 A1 _ rv p1 hw => ?_
  have e := Option.some.inj h1
  subst e
  exact ⟨by rw [← rv.length, hw]; exact sl_le hl, fun q hq => Post.lst p1 A1.h hq rv⟩
/-- and, or -/
theorem s_and : ∀ {es : List Ex} {ys : List Expr}, PTs2 C Γ Wx X es ys → es ≠ [] → PE X (.BoolOp .And ys pos) (rdE C Γ Wx (.and es))
  | _, _, .nil, h => absurd rfl h
  | _, _, .cons (es := []) h _ .nil, _ => pe_imp (pe_one h) fun σ H Q ⟨m, ρ, S, r, A, h, p⟩ => ⟨m, ρ, S, r, A, by unfold ev at h; unfold evAnd at h; exact h, p⟩
  | _, _, .cons (es := e2 :: es) h ht (.cons h2 ht2 r2), _ => by
    refine pe_imp (pe_and h (s_and (.cons h2 ht2 r2) (by simp))) fun σ H Q ⟨m, ρ, S, r, A, h, p⟩ => ?_
    unfold ev at h
    unfold evAnd at h
    unfold truth at h
    obtain ⟨r1, h1, p1⟩ := pg_bnd (Rl := EqB) (Q' := fun k H1 => if k = true then rdE C Γ Wx (.and (e2 :: es)) σ H1 Q else Q (.bl false) H1) h p fun w S1 m1 H1 v hx z1 z2 z3 z4 z5 => by
      have e : w = v := z4
      subst e
      cases w with
      | true => exact iteT ⟨m1, ρ, S1, r, A.go z2 z3, by unfold ev; exact z1, z5⟩
      | false => exact iteF (z5.rok z1 z2 (.bl false))
    refine rd_step A h1 p1 fun w S1 m1 H1 v h1 A1 _ rv p1 => ?_
    cases rv with
    | bl b => exact ⟨b, rfl, p1.rokB h1 A1.h⟩
    | _ => cases h1
theorem s_or : ∀ {es : List Ex} {ys : List Expr}, PTs2 C Γ Wx X es ys → es ≠ [] → PE X (.BoolOp .Or ys pos) (rdE C Γ Wx (.or es))
  | _, _, .nil, h => absurd rfl h
  | _, _, .cons (es := []) h _ .nil, _ => pe_imp (pe_one h) fun σ H Q ⟨m, ρ, S, r, A, h, p⟩ => ⟨m, ρ, S, r, A, by unfold ev at h; unfold evOr at h; exact h, p⟩
  | _, _, .cons (es := e2 :: es) h ht (.cons h2 ht2 r2), _ => by
    refine pe_imp (pe_or h (s_or (.cons h2 ht2 r2) (by simp))) fun σ H Q ⟨m, ρ, S, r, A, h, p⟩ => ?_
    unfold ev at h
    unfold evOr at h
    unfold truth at h
    obtain ⟨r1, h1, p1⟩ := pg_bnd (Rl := EqB) (Q' := fun k H1 => if k = true then Q (.bl true) H1 else rdE C Γ Wx (.or (e2 :: es)) σ H1 Q) h p fun w S1 m1 H1 v hx z1 z2 z3 z4 z5 => by
      have e : w = v := z4
      subst e
      cases w with
      | false => exact iteF ⟨m1, ρ, S1, r, A.go z2 z3, by unfold ev; exact z1, z5⟩
      | true => exact iteT (z5.rok z1 z2 (.bl true))
    refine rd_step A h1 p1 fun w S1 m1 H1 v h1 A1 _ rv p1 => ?_
    cases rv with
    | bl b => exact ⟨b, rfl, p1.rokB h1 A1.h⟩
    | _ => cases h1
/-- as tests: truth of evAnd, evOr -/
theorem t_and : ∀ {es : List Ex} {ys : List Expr}, PTs2 C Γ Wx X es ys → es ≠ [] → PW X (.BoolOp .And ys pos) (rdT C Γ Wx (.and es))
  | _, _, .nil, h => absurd rfl h
  | _, _, .cons (es := []) _ h .nil, _ => ⟨fun wh pins s σ H Q I ⟨m, ρ, S, r, A, h2, p⟩ => (pw_and1 h).run wh pins s σ H Q I ⟨m, ρ, S, r, A, by unfold ev at h2; unfold evAnd at h2; exact h2, p⟩⟩
  | _, _, .cons (es := e2 :: es) h ht (.cons h2 ht2 r2), _ => ⟨fun wh pins s σ H Q I ⟨m, ρ, S, r, A, h3, p⟩ => (pw_and ht (t_and (.cons h2 ht2 r2) (by simp))).run wh pins s σ H Q I (by
    unfold ev at h3
    unfold evAnd at h3
    rw [truth_bnd] at h3
    refine rd_stepT A h3 p fun w S1 m1 H1 h5 A1 _ p1 => ?_
    cases w with
    | true => exact iteT ⟨m1, ρ, S1, r, A1, by unfold ev; exact h5, p1⟩
    | false => exact iteF (p1.rokB h5 A1.h))⟩
theorem t_or : ∀ {es : List Ex} {ys : List Expr}, PTs2 C Γ Wx X es ys → es ≠ [] → PW X (.BoolOp .Or ys pos) (rdT C Γ Wx (.or es))
  | _, _, .nil, h => absurd rfl h
  | _, _, .cons (es := []) _ h .nil, _ => ⟨fun wh pins s σ H Q I ⟨m, ρ, S, r, A, h2, p⟩ => (pw_or1 h).run wh pins s σ H Q I ⟨m, ρ, S, r, A, by unfold ev at h2; unfold evOr at h2; exact h2, p⟩⟩
  | _, _, .cons (es := e2 :: es) h ht (.cons h2 ht2 r2), _ => ⟨fun wh pins s σ H Q I ⟨m, ρ, S, r, A, h3, p⟩ => (pw_or ht (t_or (.cons h2 ht2 r2) (by simp))).run wh pins s σ H Q I (by
    unfold ev at h3
    unfold evOr at h3
    rw [truth_bnd] at h3
    refine rd_stepT A h3 p fun w S1 m1 H1 h5 A1 _ p1 => ?_
    cases w with
    | false => exact iteF ⟨m1, ρ, S1, r, A1, by unfold ev; exact h5, p1⟩
    | true => exact iteT (p1.rokB h5 A1.h))⟩
end
end Ip

/-! IpSnd2: expressions, further rules. Written by an AI agent. -/
namespace Ip
open PySem PySem.Spec PyProof.Rows L2
section
variable {C : Cf} {Γ : Gam} {Wx : WX} {X : Cx} {a b c d : Ex} {x y z t : Expr} {es : List Ex} {ys : List Expr} {pos : Pos}
/-! ### chains -/
/-- three comparisons -/
def tChain3 (r r' r2 : R2) (ta tb tc td : TE) : TE := fun σ H Q => ta σ H fun x H1 => tb σ H1 fun y H2 => r x y H2 fun z H3 => ∃ k, z = .bl k ∧
  (if k = true then tc σ H3 fun w H4 => r' y w H4 fun z' H5 => ∃ k', z' = .bl k' ∧ (if k' = true then td σ H5 fun u H6 => r2 w u H6 Q else Q (.bl false) H5) else Q (.bl false) H3)
theorem pe_chain3 {o1 o2 o3 : CmpOp} {r r' r2 : R2} {ta tb tc td : TE} (h1 : OpR X (compareOp o1) r) (h2 : OpR X (compareOp o2) r') (h3 : OpR X (compareOp o3) r2) (ha : PE X x ta) (hb : PE X y tb) (hc : PE X z tc) (hd : PE X t td)
    (hm : lastMarks [o1, o2, o3] [y, z, t] = false) : PE X (.Compare x [o1, o2, o3] [y, z, t] pos) (tChain3 r r' r2 ta tb tc td) := by
  refine ⟨fun pins s σ H Q I h => ?_⟩
  refine Compare_chain (thn (ha.run pins s σ H _ I h) fun v s1 ⟨x, H1, I1, r1, q1⟩ => chain_link (thn (hb.run pins s1 σ H1 _ I1 q1) fun u s2 ⟨y, H2, I2, r2, q2⟩ =>
    thn (h1 pins s2 σ H2 x y v u _ I2 r1 r2 q2) fun d s3 ⟨z, H3, I3, r3, k, e, q3⟩ => ?_)) hm
  subst e
  cases r3
  refine wpAny_truthy_bool ?_
  cases k with
  | false => exact ite_ff ⟨.bl false, H3, I3, rfl, q3⟩
  | true =>
    refine ite_tt (chain_link (thn (hc.run pins s3 σ H3 _ I3 q3) fun w' s4 ⟨z', H4, I4, r4, q4⟩ => thn (h2 pins s4 σ H4 y z' u w' _ I4 r2 r4 q4) fun d2 s5 ⟨z2, H5, I5, r5, k2, e2, q5⟩ => ?_))
    subst e2
    cases r5
    refine wpAny_truthy_bool ?_
    cases k2 with
    | false => exact ite_ff ⟨.bl false, H5, I5, rfl, q5⟩
    | true => exact ite_tt (chain_last (thn (hd.run pins s5 σ H5 _ I5 q5) fun w2 s6 ⟨z3, H6, I6, r6, q6⟩ => h3 pins s6 σ H6 z' z3 w' w2 Q I6 r4 r6 q6))
theorem pt_chain3 {o1 o2 o3 : CmpOp} {r r' r2 : R2} {ta tb tc td : TE} (h1 : OpR X (compareOp o1) r) (h2 : OpR X (compareOp o2) r') (h3 : OpR X (compareOp o3) r2) (ha : PE X x ta) (hb : PE X y tb) (hc : PE X z tc) (hd : PE X t td)
    (hm : lastMarks [o1, o2, o3] [y, z, t] = false) : PT X (.Compare x [o1, o2, o3] [y, z, t] pos) (tTest (tChain3 r r' r2 ta tb tc td)) := by
  refine ⟨fun pins s σ H Q I h => ?_⟩
  refine isTrue_chain (thn (ha.run pins s σ H _ I h) fun v s1 ⟨x, H1, I1, r1, q1⟩ => test_link (thn (hb.run pins s1 σ H1 _ I1 q1) fun u s2 ⟨y, H2, I2, r2, q2⟩ =>
    thn (h1 pins s2 σ H2 x y v u _ I2 r1 r2 q2) fun d s3 ⟨z, H3, I3, r3, k, e, q3⟩ => ?_)) hm
  subst e
  cases r3
  refine wpAny_truthy_bool ?_
  cases k with
  | false =>
    obtain ⟨k', e', q'⟩ := q3
    cases e'
    exact ite_ff ⟨H3, I3, q'⟩
  | true =>
    refine ite_tt (test_link (thn (hc.run pins s3 σ H3 _ I3 q3) fun w' s4 ⟨z', H4, I4, r4, q4⟩ => thn (h2 pins s4 σ H4 y z' u w' _ I4 r2 r4 q4) fun d2 s5 ⟨z2, H5, I5, r5, k2, e2, q5⟩ => ?_))
    subst e2
    cases r5
    refine wpAny_truthy_bool ?_
    cases k2 with
    | false =>
      obtain ⟨k', e', q'⟩ := q5
      cases e'
      exact ite_ff ⟨H5, I5, q'⟩
    | true =>
      refine ite_tt (test_last (thn (hd.run pins s5 σ H5 _ I5 q5) fun w2 s6 ⟨z3, H6, I6, r6, q6⟩ => thn (h3 pins s6 σ H6 z' z3 w' w2 _ I6 r4 r6 q6) fun d' s7 ⟨z4, H7, I7, r7, k4, e4, q7⟩ => ?_))
      subst e4
      cases r7
      exact wpAny_truthy_bool ⟨H7, I7, q7⟩
theorem chn_go {o1 o2 : Cm} {σ : L2.St} {H : Hp} {Q : VK} (q : rdE C Γ Wx (.chn o1 o2 a b c) σ H Q) : tChain (rCm C.K o1) (rCm C.K o2) (rdE C Γ Wx a) (rdE C Γ Wx b) (rdE C Γ Wx c) σ H Q := by
  obtain ⟨m, ρ, S, r, A, h, p⟩ := q
  unfold ev at h
  refine rd_step A h p fun w S1 m1 H1 v h1 A1 _ rv p1 => rd_step A1 h1 p1 fun w2 S2 m2 H2 v2 h2 A2 e2 rv2 p2 => ?_
  split at h2
  · rename_i hk
    refine cm2_ok A2.h (rv.mono e2) rv2 hk ⟨_, rfl, iteT (rd_step A2 h2 p2 fun w3 S3 m3 H3 v3 h3 A3 e3 rv3 p3 => ?_)⟩
    split at h3
    · rename_i k2 hk2
      exact cm2_ok A3.h (rv2.mono e3) rv3 hk2 (p3.rok h3 A3.h (.bl _))
    · cases h3
  · rename_i hk
    exact cm2_ok A2.h (rv.mono e2) rv2 hk ⟨_, rfl, iteF (p2.rok h2 A2.h (.bl _))⟩
  · cases h2
theorem chn3_go {o1 o2 o3 : Cm} {σ : L2.St} {H : Hp} {Q : VK} (q : rdE C Γ Wx (.chn3 o1 o2 o3 a b c d) σ H Q) : tChain3 (rCm C.K o1) (rCm C.K o2) (rCm C.K o3) (rdE C Γ Wx a) (rdE C Γ Wx b) (rdE C Γ Wx c) (rdE C Γ Wx d) σ H Q := by
  obtain ⟨m, ρ, S, r, A, h, p⟩ := q
  unfold ev at h
  refine rd_step A h p fun w S1 m1 H1 v h1 A1 _ rv p1 => rd_step A1 h1 p1 fun w2 S2 m2 H2 v2 h2 A2 e2 rv2 p2 => ?_
  split at h2
  · rename_i hk
    refine cm2_ok A2.h (rv.mono e2) rv2 hk ⟨_, rfl, iteT (rd_step A2 h2 p2 fun w3 S3 m3 H3 v3 h3 A3 e3 rv3 p3 => ?_)⟩
    split at h3
    · rename_i hk2
      refine cm2_ok A3.h (rv2.mono e3) rv3 hk2 ⟨_, rfl, iteT (rd_step A3 h3 p3 fun w4 S4 m4 H4 v4 h4 A4 e4 rv4 p4 => ?_)⟩
      split at h4
      · rename_i k3 hk3
        exact cm2_ok A4.h (rv3.mono e4) rv4 hk3 (p4.rok h4 A4.h (.bl _))
      · cases h4
    · rename_i hk2
      exact cm2_ok A3.h (rv2.mono e3) rv3 hk2 ⟨_, rfl, iteF (p3.rok h3 A3.h (.bl _))⟩
    · cases h3
  · rename_i hk
    exact cm2_ok A2.h (rv.mono e2) rv2 hk ⟨_, rfl, iteF (p2.rok h2 A2.h (.bl _))⟩
  · cases h2
theorem s_chn {o1 o2 : Cm} (hK : X.K = C.K) (hu : X.A.units + 64 < cLine) (h1 : noSet y = true) (h2 : noSet z = true) (ha : PE X x (rdE C Γ Wx a)) (hb : PE X y (rdE C Γ Wx b)) (hc : PE X z (rdE C Γ Wx c)) :
    PE X (.Compare x [pyCm o1, pyCm o2] [y, z] pos) (rdE C Γ Wx (.chn o1 o2 a b c)) := by
  refine pe_imp (pe_chain (cmR_ok hu o1) (cmR_ok hu o2) ha hb hc (set_marks (by rw [List.all_cons, List.all_cons, h1, h2] <;> rfl))) fun σ H Q q => ?_
  rw [hK]
  exact chn_go q
theorem truth_go {e : Ex} {σ : L2.St} {H : Hp} {Q : Bool → Hp → Prop} (q : rdT C Γ Wx e σ H Q) : rdE C Γ Wx e σ H fun v H1 => ∃ k, v = V.bl k ∧ Q k H1 := by
  obtain ⟨m, ρ, S, r, A, h, p⟩ := q
  unfold truth at h
  exact rd_step A h p fun w S1 m1 H1 v z1 z2 z3 z4 z5 => by
    cases z4 with
    | bl b => exact ⟨b, rfl, z5.rokB z1 z2.h⟩
    | _ => cases z1
theorem t_chn {o1 o2 : Cm} (hK : X.K = C.K) (hu : X.A.units + 64 < cLine) (h1 : noSet y = true) (h2 : noSet z = true) (ha : PE X x (rdE C Γ Wx a)) (hb : PE X y (rdE C Γ Wx b)) (hc : PE X z (rdE C Γ Wx c)) :
    PT X (.Compare x [pyCm o1, pyCm o2] [y, z] pos) (rdT C Γ Wx (.chn o1 o2 a b c)) := by
  refine pt_imp (pt_chain (cmR_ok hu o1) (cmR_ok hu o2) ha hb hc (set_marks (by rw [List.all_cons, List.all_cons, h1, h2] <;> rfl))) fun σ H Q q => ?_
  rw [hK]
  exact chn_go (truth_go q)
theorem s_chn3 {o1 o2 o3 : Cm} (hK : X.K = C.K) (hu : X.A.units + 64 < cLine) (h1 : noSet y = true) (h2 : noSet z = true) (h3 : noSet t = true) (ha : PE X x (rdE C Γ Wx a)) (hb : PE X y (rdE C Γ Wx b)) (hc : PE X z (rdE C Γ Wx c)) (hd : PE X t (rdE C Γ Wx d)) :
    PE X (.Compare x [pyCm o1, pyCm o2, pyCm o3] [y, z, t] pos) (rdE C Γ Wx (.chn3 o1 o2 o3 a b c d)) := by
  refine pe_imp (pe_chain3 (cmR_ok hu o1) (cmR_ok hu o2) (cmR_ok hu o3) ha hb hc hd (set_marks (by rw [List.all_cons, List.all_cons, List.all_cons, h1, h2, h3] <;> rfl))) fun σ H Q q => ?_
  rw [hK]
  exact chn3_go q
theorem t_chn3 {o1 o2 o3 : Cm} (hK : X.K = C.K) (hu : X.A.units + 64 < cLine) (h1 : noSet y = true) (h2 : noSet z = true) (h3 : noSet t = true) (ha : PE X x (rdE C Γ Wx a)) (hb : PE X y (rdE C Γ Wx b)) (hc : PE X z (rdE C Γ Wx c)) (hd : PE X t (rdE C Γ Wx d)) :
    PT X (.Compare x [pyCm o1, pyCm o2, pyCm o3] [y, z, t] pos) (rdT C Γ Wx (.chn3 o1 o2 o3 a b c d)) := by
  refine pt_imp (pt_chain3 (cmR_ok hu o1) (cmR_ok hu o2) (cmR_ok hu o3) ha hb hc hd (set_marks (by rw [List.all_cons, List.all_cons, List.all_cons, h1, h2, h3] <;> rfl))) fun σ H Q q => ?_
  rw [hK]
  exact chn3_go (truth_go q)
end
/-! ### subscripts, slices -/
theorem subTail_of {prog : Program} {w : World} {A : Around} {E : Value → Shared → Prop} {s : Shared} {value slice : Expr} {o i : Value} {T id : String} {Q : Value → Shared → Prop} (hT : s.TypeIs o T)
    (hl : typeLookup (.type T) "__getitem__" = pure (some (.builtin id))) (hs : subscripted slice false o i = operate [o, i] (getItem o i)) (h : wpAny (model prog w) A (getItem o i) Q E s) : wpAny (model prog w) A (subscriptTail value slice o i) Q E s := by
  unfold subscriptTail
  refine wpAny_bind ?_
  rw [getitemInPython_of_ne hT.not_modules]
  refine wpAny_bind (wpAny_specialOf hT hl ?_)
  have fin : wpAny (model prog w) A (subscripted slice false o i) (fun r s₃ => wpAny (model prog w) A (letTemporaryGo value o r >>= fun _ => pure r) Q E s₃) E s := by
    rw [hs]
    exact wpAny_operating (wpAny_mono h (fun r s₃ h₃ => wpAny_bind (wpAny_letTemporaryGo (wpAny_pure h₃))) fun _ _ x => x)
  first
    | exact wpAny_pure (wpAny_bind fin)
    | exact wpAny_bind (wpAny_pure (wpAny_bind fin))
    | exact wpAny_bind fin
def rIxDi : R2 := fun x y H Q => ∃ a v, x = .ref a ∧ DGet H a y (some v) ∧ Q v H
theorem ix_di {X : Cx} (hu : X.A.units + 1 < cLine) : IxR X rIxDi := by
  intro value slice pins s σ H x y v u Q I rx ry h hs
  obtain ⟨a, z, rfl, g, q⟩ := h
  cases rx
  exact subTail_of (dict_typeIs I g) PySem.F.slot_dict_getitem.lookup hs (d_getItem hu I g ry fun w' s3 I3 rw' => ⟨z, H, I3, rw', q⟩)
theorem idx2_ok {C : Cf} {m : List Addr} {S : Store} {H : Hp} {a i w : W} {x y : V} {Q : VK} (R : RelH C m S H) (ra : RW C.K m H a x) (ri : RW C.K m H i y) (e : idx2 S a i = some w) (q : ∀ v, RW C.K m H w v → Q v H) :
    rIx C.K x y H Q ∨ rIxDi x y H Q := by
  unfold idx2 at e
  split at e
  · cases ri
    cases ra with
    | tup h r =>
      obtain ⟨v, h1, h2⟩ := r.atI e
      exact .inl (.inr (.inl ⟨_, _, _, v, rfl, rfl, h, h1, q v h2⟩))
  · cases ri
    cases ra
    split at e
    · rename_i hl
      obtain ⟨c, h1, h2⟩ := Option.map_eq_some_iff.mp e
      subst h2
      exact .inl (.inr (.inr ⟨_, _, c, rfl, rfl, sl_le hl, h1, q _ (.str _)⟩))
    · cases e
  · cases ra with
    | loc h =>
      split at e
      · rename_i hS
        cases ri
        obtain ⟨xs, z1, z2⟩ := R.cell _ _ _ h hS
        obtain ⟨v, h1, h2⟩ := z2.atI e
        exact .inl (.inl ⟨_, _, _, v, rfl, rfl, SqL.of z1, h1, q v h2⟩)
      · rename_i hS
        cases ri
        obtain ⟨xs, z1, z2⟩ := R.listAt h (ws := _) (by unfold Ip.listAt; rw [hS])
        obtain ⟨v, h1, h2⟩ := z2.atI e
        exact .inl (.inl ⟨_, _, _, v, rfl, rfl, z1, h1, q v h2⟩)
      · rename_i hS
        split at e
        · rename_i k hk
          obtain ⟨zs, z1, z2⟩ := R.cell _ _ _ h hS
          rcases getK_rd (k := k) z2 with ⟨g1, _⟩ | ⟨w', v, g1, g2, g3⟩
          · rw [e] at g1
            cases g1
          · rw [e] at g1
            have e1 := Option.some.inj g1
            subst e1
            refine .inr ⟨_, v, rfl, ?_, q v g3⟩
            rw [key_rw ri hk, ← g2]
            exact DGet.k z1
        · cases e
      · cases e
  · cases e
theorem cutW_rw {K : PySem.W.Frag} {m : List Addr} {H : Hp} {ws : List W} {xs : List V} (r : RWs K m H ws xs) (lo hi : Option Int) : RWs K m H (cutW ws lo hi) (cutV xs lo hi) := by
  unfold cutW cutV
  rw [r.length]
  exact (r.drop _).take _
def rSl (K : PySem.W.Frag) : V → Option Int → Option Int → Hp → VK → Prop := fun x lo hi H Q => rSlS x lo hi H Q ∨ rSlA K x lo hi H Q ∨ rSlL K x lo hi H Q
theorem sl_any {X : Cx} : SlR X (rSl X.K) := sl_str.or (sl_tupA.or sl_list)
theorem slc2_ok {C : Cf} {m : List Addr} {S S' : Store} {H : Hp} {a w : W} {x : V} {lo hi : Option Int} {Q : VK} (R : RelH C m S H) (ra : RW C.K m H a x) (e : slc2 S a lo hi = some (w, S')) (p : Post C m S H S' w Q) : rSl C.K x lo hi H Q := by
  unfold slc2 at e
  split at e
  · cases ra
    split at e
    · rename_i hl
      cases e
      exact .inl ⟨_, rfl, sl_le hl, p.here R (.str _)⟩
    · cases e
  · cases ra with
    | tup h r =>
      rename_i xs
      cases e
      refine .inr (.inl ⟨_, _, rfl, h, fun ⟨h1, h2⟩ => ?_, fun _ q hq => p.tup R hq (cutW_rw r lo hi)⟩)
      refine p.here R ?_
      have e2 : cutV xs lo hi = xs := by
        unfold cutV
        rw [h1, h2]
        simp
      have r2 := cutW_rw r lo hi
      rw [e2] at r2
      exact .tup h r2
  · cases ra with
    | loc h =>
      split at e
      · rename_i ws hS
        cases e
        obtain ⟨xs, z1, z2⟩ := R.listAt h hS
        exact .inr (.inr ⟨_, xs, rfl, z1, fun q hq => p.lst R hq (cutW_rw z2 lo hi)⟩)
      · cases e
  · cases e
section
variable {C : Cf} {Γ : Gam} {Wx : WX} {X : Cx} {a b c d : Ex} {x y z t : Expr} {es : List Ex} {ys : List Expr} {pos p2 : Pos}
theorem s_idx (hK : X.K = C.K) (hu : X.A.units + 64 < cLine) (hn : noSlc y = true) (ha : PE X x (rdE C Γ Wx a)) (hb : PE X y (rdE C Γ Wx b)) : PE X (.Subscript x y pos) (rdE C Γ Wx (.idx a b)) := by
  refine pe_imp (pe_ix (ix_seq.or (ix_di (by omega))) ha hb (slc_plain hn)) fun σ H Q ⟨m, ρ, S, r, A, h, p⟩ => ?_
  unfold ev at h
  refine rd_step A h p fun w S1 m1 H1 v h1 A1 _ rv p1 => rd_step A1 h1 p1 fun w2 S2 m2 H2 v2 h2 A2 e2 rv2 p2 => ?_
  split at h2
  · rename_i w3 hw
    rw [hK]
    exact idx2_ok A2.h (rv.mono e2) rv2 hw fun v hv => p2.rok h2 A2.h hv
  · cases h2
/-- a slice's part: left out, or one expression -/
inductive Prt (C : Cf) (Γ : Gam) (Wx : WX) (X : Cx) : List Ex → Option Expr → Prop
  | none : Prt C Γ Wx X [] Option.none
  | some {e : Ex} {y : Expr} : PE X y (rdE C Γ Wx e) → Prt C Γ Wx X [e] (Option.some y)
def rdO (C : Cf) (Γ : Gam) (Wx : WX) : List Ex → TO
  | [e] => tPart (rdE C Γ Wx e)
  | _ => tNoPart
theorem Prt.po : ∀ {es : List Ex} {o : Option Expr}, Prt C Γ Wx X es o → PO X o (rdO C Γ Wx es)
  | _, _, .none => po_none
  | _, _, .some h => po_some h
theorem ints_one {w : W} {l : List Int} (h : intsOf [w] = some l) : ∃ i, w = .int i ∧ l = [i] := by
  cases w with
  | int i =>
    have e : some [i] = some l := h
    exact ⟨i, rfl, (Option.some.inj e).symm⟩
  | _ => cases h
/-- a part's value, then what goes on -/
theorem prt_step {γ δ : Type} {Rl2 : List Addr → Hp → γ → δ → Prop} {m : List Addr} {S : Store} {H : Hp} {ρ : Env} {σ : L2.St} {es : List Ex} {o : Option Expr} {k : Option Int → Store → R γ} {r : Rs γ × Store} {Q : δ → Hp → Prop} {Q' : Option Int → Hp → Prop}
    (P : Prt C Γ Wx X es o) (A : At C m S H ρ σ) (h : bnd (bnd (evs Γ es ρ S) toP) k = some r) (p : PG Rl2 C Wx m S H σ r Q)
    (hk : ∀ l S1 m1 H1, k l S1 = some r → At C m1 S1 H1 ρ σ → Ext m S H m1 S1 H1 → PG Rl2 C Wx m1 S1 H1 σ r Q → Q' l H1) : rdO C Γ Wx es σ H Q' := by
  cases P with
  | none =>
    unfold evs at h
    exact hk Option.none S m H h A Ext.refl p
  | some he =>
    rename_i e y
    have h' : bnd (ev Γ e ρ S) (fun w S1 => bnd (toP [w] S1) k) = some r := by
      rw [← h]
      unfold evs
      unfold evs
      unfold bnd
      split <;> rfl
    refine rd_step A h' p fun w S1 m1 H1 v h1 A1 e1 rv p1 => ?_
    unfold toP at h1
    split at h1
    · rename_i l hl
      obtain ⟨i, rfl, rfl⟩ := ints_one hl
      cases rv
      exact ⟨i, rfl, hk _ _ _ _ h1 A1 e1 p1⟩
    · cases h1
theorem s_slc {lo hi : List Ex} {l u : Option Expr} (hK : X.K = C.K) (ha : PE X x (rdE C Γ Wx a)) (h1 : Prt C Γ Wx X lo l) (h2 : Prt C Γ Wx X hi u) : PE X (.Subscript x (.Slice l u Option.none p2) pos) (rdE C Γ Wx (.slc a lo hi)) := by
  refine pe_imp (pe_slice sl_any ha h1.po h2.po) fun σ H Q ⟨m, ρ, S, r, A, h, p⟩ => ?_
  unfold ev at h
  refine rd_step A h p fun w S1 m1 H1 v h3 A1 _ rv p1 => prt_step h1 A1 h3 p1 fun l2 S2 m2 H2 h4 A2 e2 p2 => prt_step h2 A2 h4 p2 fun l3 S3 m3 H3 h5 A3 e3 p3 => ?_
  obtain ⟨w3, S4, h6, p4⟩ := p3.lift h5
  rw [hK]
  exact slc2_ok A3.h (rv.mono (e2.trans e3)) h6 p4
end
end Ip

/-! IpSnd3: built-in functions, methods, fields, isinstance. Written by an AI agent. -/
namespace Ip
open PySem PySem.Spec PyProof.Rows L2
theorem callR_or {X : Cx} {f : Value} {r r' : List V → Hp → VK → Prop} (h : CallR X f r) (h' : CallR X f r') : CallR X f (fun xs H Q => r xs H Q ∨ r' xs H Q) := by
  intro pins s σ H xs us Q I rs q
  rcases q with q | q
  · exact h pins s σ H xs us Q I rs q
  · exact h' pins s σ H xs us Q I rs q
/-! ### built-in functions -/
def rBf (K : PySem.W.Frag) : Bf → List V → Hp → VK → Prop
  | .len => fun xs H Q => ∃ x n, xs = [x] ∧ LenV K x H n ∧ Q (.int n) H
  | .abs => fun xs H Q => ∃ i, xs = [.int i] ∧ Q (.int (if i < 0 then -i else i)) H
  | .int => fun xs H Q => ((∃ i, xs = [.int i] ∧ Q (.int i) H) ∨ ∃ k, xs = [.bl k] ∧ Q (.int (if k then 1 else 0)) H) ∨ ∃ a n, xs = [.str a] ∧ PySem.intText? a = some n ∧ a.length ≤ 640 ∧ Q (.int n) H
  | .str => fun xs H Q => ∃ i, xs = [.int i] ∧ i.natAbs.log2 < 1920 ∧ Q (.str (toString i)) H
  | .list => fun xs H Q => ∃ p ys, xs = [.ref p] ∧ (SqL K H p ys ∨ SqT K H p ys) ∧ ∀ l, H l = none → Q (.ref l) (upd H l (.lst ys))
  | .tuple => fun xs H Q => ∃ p ys, xs = [.ref p] ∧ ((SqL K H p ys ∧ ∀ l, H l = none → Q (.ref l) (upd H l (.tup ys))) ∨ (SqT K H p ys ∧ Q (.ref p) H))
  | .max2 => fun xs H Q => ∃ i j, xs = [.int i, .int j] ∧ Q (.int (if j > i then j else i)) H
  | .min2 => fun xs H Q => ∃ i j, xs = [.int i, .int j] ∧ Q (.int (if j < i then j else i)) H
  | .max1 => rMax K
  | .min1 => rMin K
  | .sum => rSum K
  | .any => rAny K
  | .all => rAll K
def bfHot : Bf → Bool
  | .len => true | .abs => true | .int => true | .str => true | .list => true | .tuple => true | .any => true | .all => true | _ => false
theorem bf_pe {X : Cx} {p pos : Pos} {e : Expr} {es : List Expr} {t : TA} : ∀ (b : Bf), (bfHot b = false → X.calm = true) → (X.calm = true ∨ L2H.HotC X) → Gl X (bfNm b) → X.mg (bfNm b) = none → PA X (e :: es) t → noStar e = true → es.all noStar = true → PE X (.Call (.Name (bfNm b) p) (e :: es) [] pos) (tCB (rBf X.K b) t)
  | .len, hc, hh, hg, hm, ha, h1, h2 => pe_callB call_len hg hm boot_len ha (by decide) (by decide) (star_cons h1) (star_plain h2)
  | .abs, hc, hh, hg, hm, ha, h1, h2 => pe_callB call_abs hg hm boot_abs ha (by decide) (by decide) (star_cons h1) (star_plain h2)
  | .int, hc, hh, hg, hm, ha, h1, h2 => pe_callTy (callR_or call_int1 call_int_str) hg hm boot_int ha (by decide) (by decide) (star_cons h1) (star_plain h2)
  | .str, hc, hh, hg, hm, ha, h1, h2 => pe_callTy call_str_int hg hm boot_str ha (by decide) (by decide) (star_cons h1) (star_plain h2)
  | .list, hc, hh, hg, hm, ha, h1, h2 => pe_callTy call_list_of hg hm boot_list ha (by decide) (by decide) (star_cons h1) (star_plain h2)
  | .tuple, hc, hh, hg, hm, ha, h1, h2 => pe_callTy call_tuple_of hg hm boot_tuple ha (by decide) (by decide) (star_cons h1) (star_plain h2)
  | .max2, hc, hh, hg, hm, ha, h1, h2 => pe_callB (call_max2 (hc rfl)) hg hm (by decide +kernel) ha (by decide) (by decide) (star_cons h1) (star_plain h2)
  | .min2, hc, hh, hg, hm, ha, h1, h2 => pe_callB (call_min2 (hc rfl)) hg hm (by decide +kernel) ha (by decide) (by decide) (star_cons h1) (star_plain h2)
  | .max1, hc, hh, hg, hm, ha, h1, h2 => pe_callB (cr_max (hc rfl)) hg hm (by decide +kernel) ha (by decide) (by decide) (star_cons h1) (star_plain h2)
  | .min1, hc, hh, hg, hm, ha, h1, h2 => pe_callB (cr_min (hc rfl)) hg hm (by decide +kernel) ha (by decide) (by decide) (star_cons h1) (star_plain h2)
  | .sum, hc, hh, hg, hm, ha, h1, h2 => pe_callB (cr_sum (hc rfl)) hg hm (by decide +kernel) ha (by decide) (by decide) (star_cons h1) (star_plain h2)
  | .any, hc, hh, hg, hm, ha, h1, h2 => pe_callB (cr_any2 hh) hg hm (by decide +kernel) ha (by decide) (by decide) (star_cons h1) (star_plain h2)
  | .all, hc, hh, hg, hm, ha, h1, h2 => pe_callB (cr_all2 hh) hg hm (by decide +kernel) ha (by decide) (by decide) (star_cons h1) (star_plain h2)
theorem maxL_mem : ∀ {l : List Int}, 0 < l.length → maxL l ∈ l ∧ ∀ y ∈ l, y ≤ maxL l
  | [], h => by cases h
  | [a], _ => ⟨by simp [maxL], fun y hy => by simp at hy; subst hy; simp [maxL]⟩
  | a :: b :: r, _ => by
    obtain ⟨h1, h2⟩ := maxL_mem (l := b :: r) (by simp)
    have e : maxL (a :: b :: r) = max a (maxL (b :: r)) := rfl
    rw [e]
    refine ⟨?_, fun y hy => ?_⟩
    · by_cases h : a ≤ maxL (b :: r)
      · rw [Int.max_eq_right h]
        exact List.mem_cons_of_mem _ h1
      · rw [Int.max_eq_left (by omega)]
        exact List.mem_cons_self
    · rcases List.mem_cons.mp hy with rfl | hy
      · omega
      · have := h2 y hy
        omega
theorem minL_mem : ∀ {l : List Int}, 0 < l.length → minL l ∈ l ∧ ∀ y ∈ l, minL l ≤ y
  | [], h => by cases h
  | [a], _ => ⟨by simp [minL], fun y hy => by simp at hy; subst hy; simp [minL]⟩
  | a :: b :: r, _ => by
    obtain ⟨h1, h2⟩ := minL_mem (l := b :: r) (by simp)
    have e : minL (a :: b :: r) = min a (minL (b :: r)) := rfl
    rw [e]
    refine ⟨?_, fun y hy => ?_⟩
    · by_cases h : a ≤ minL (b :: r)
      · rw [Int.min_eq_left h]
        exact List.mem_cons_self
      · rw [Int.min_eq_right (by omega)]
        exact List.mem_cons_of_mem _ h1
    · rcases List.mem_cons.mp hy with rfl | hy
      · omega
      · have := h2 y hy
        omega
section
variable {C : Cf} {m : List Addr} {S S' : Store} {H : Hp} {ws : List W} {vs : List V} {w : W} {Q : VK}
theorem bfn_ok {b : Bf} (R : RelH C m S H) (rs : RWs C.K m H ws vs) (e : bfn b S ws = some (w, S')) (p : Post C m S H S' w Q) : rBf C.K b vs H Q := by
  unfold bfn at e
  split at e
  · -- len of a text
    cases rs with
    | cons h1 h2 =>
      cases h2; cases h1
      split at e
      · rename_i hl
        cases e
        exact ⟨_, _, rfl, ⟨sl_le hl, rfl⟩, p.here R (.int _)⟩
      · cases e
  · cases rs with
    | cons h1 h2 =>
      cases h2
      cases h1 with
      | tup h r =>
        cases e
        exact ⟨_, _, rfl, .inr ⟨_, h, rfl⟩, by rw [← r.length]; exact p.here R (.int _)⟩
  · cases rs with
    | cons h1 h2 =>
      cases h2
      cases h1 with
      | loc h =>
        split at e
        · rename_i hS
          cases e
          obtain ⟨xs, z1, z2⟩ := R.cell _ _ _ h hS
          exact ⟨_, _, rfl, .inl ⟨_, SqL.of z1, rfl⟩, by rw [← z2.length]; exact p.here R (.int _)⟩
        · rename_i hS
          cases e
          obtain ⟨xs, z1, z2⟩ := R.listAt h (ws := _) (by unfold Ip.listAt; rw [hS])
          exact ⟨_, _, rfl, .inl ⟨_, z1, rfl⟩, by rw [← z2.length]; exact p.here R (.int _)⟩
        · cases e
  · cases rs with
    | cons h1 h2 =>
      cases h2; cases h1
      cases e
      exact ⟨_, rfl, p.here R (.int _)⟩
  · cases rs with
    | cons h1 h2 =>
      cases h2; cases h1
      cases e
      exact .inl (.inl ⟨_, rfl, p.here R (.int _)⟩)
  · cases rs with
    | cons h1 h2 =>
      cases h2; cases h1
      cases e
      exact .inl (.inr ⟨_, rfl, p.here R (.int _)⟩)
  · cases rs with
    | cons h1 h2 =>
      cases h2; cases h1
      split at e
      · rename_i hl
        obtain ⟨n, e1, e2⟩ := Option.map_eq_some_iff.mp e
        cases e2
        exact .inr ⟨_, n, rfl, e1, hl, p.here R (.int _)⟩
      · cases e
  · cases rs with
    | cons h1 h2 =>
      cases h2; cases h1
      split at e
      · rename_i hl
        cases e
        exact ⟨_, rfl, hl, p.here R (.str _)⟩
      · cases e
  · -- list
    cases rs with
    | cons h1 h2 =>
      cases h2
      split at e
      · rename_i ws' hS
        cases e
        unfold seqAt at hS
        cases h1 with
        | tup h r =>
          cases hS
          exact ⟨_, _, rfl, .inr h, fun q hq => p.lst R hq r⟩
        | loc h =>
          obtain ⟨xs, z1, z2⟩ := R.listAt h hS
          exact ⟨_, _, rfl, .inl z1, fun q hq => p.lst R hq z2⟩
        | _ => cases hS
      · cases e
  · -- tuple
    cases rs with
    | cons h1 h2 =>
      cases h2
      cases h1 with
      | loc h =>
        split at e
        · rename_i ws' hS
          cases e
          obtain ⟨xs, z1, z2⟩ := R.listAt h hS
          exact ⟨_, _, rfl, .inl ⟨z1, fun q hq => p.tup R hq z2⟩⟩
        · cases e
  · cases rs with
    | cons h1 h2 =>
      cases h1
      cases h2 with
      | cons h1 h2 =>
        cases h2; cases h1
        cases e
        exact ⟨_, _, rfl, p.here R (.int _)⟩
  · cases rs with
    | cons h1 h2 =>
      cases h1
      cases h2 with
      | cons h1 h2 =>
        cases h2; cases h1
        cases e
        exact ⟨_, _, rfl, p.here R (.int _)⟩
  · cases rs with
    | cons h1 h2 =>
      cases h2
      cases h1 with
      | loc h =>
        split at e
        · rename_i ns hS
          split at e
          · rename_i hl
            cases e
            obtain ⟨ws', h3, h4⟩ := Option.bind_eq_some_iff.mp hS
            obtain ⟨xs, z1, z2⟩ := R.listAt h h3
            have ex := z2.ints h4
            subst ex
            refine ⟨_, ns, rfl, z1, hl, fun k h5 h6 => ?_⟩
            have q := maxL_mem hl
            have e1 : k = maxL ns := Int.le_antisymm (q.2 k h5) (h6 _ q.1)
            rw [e1]
            exact p.here R (.int _)
          · cases e
        · cases e
  · cases rs with
    | cons h1 h2 =>
      cases h2
      cases h1 with
      | loc h =>
        split at e
        · rename_i ns hS
          split at e
          · rename_i hl
            cases e
            obtain ⟨ws', h3, h4⟩ := Option.bind_eq_some_iff.mp hS
            obtain ⟨xs, z1, z2⟩ := R.listAt h h3
            have ex := z2.ints h4
            subst ex
            refine ⟨_, ns, rfl, z1, hl, fun k h5 h6 => ?_⟩
            have q := minL_mem hl
            have e1 : k = minL ns := Int.le_antisymm (h6 _ q.1) (q.2 k h5)
            rw [e1]
            exact p.here R (.int _)
          · cases e
        · cases e
  · cases rs with
    | cons h1 h2 =>
      cases h2
      cases h1 with
      | loc h =>
        split at e
        · rename_i ns hS
          cases e
          obtain ⟨ws', h3, h4⟩ := Option.bind_eq_some_iff.mp hS
          obtain ⟨xs, z1, z2⟩ := R.listAt h h3
          have ex := z2.ints h4
          subst ex
          exact ⟨_, ns, rfl, z1, p.here R (.int _)⟩
        · cases e
  · cases rs with
    | cons h1 h2 =>
      cases h2
      cases h1 with
      | loc h =>
        split at e
        · rename_i ns hS
          cases e
          obtain ⟨ws', h3, h4⟩ := Option.bind_eq_some_iff.mp hS
          obtain ⟨xs, z1, z2⟩ := R.listAt h h3
          have ex := z2.bls h4
          subst ex
          exact ⟨_, ns, rfl, z1, p.here R (.bl _)⟩
        · cases e
  · cases rs with
    | cons h1 h2 =>
      cases h2
      cases h1 with
      | loc h =>
        split at e
        · rename_i ns hS
          cases e
          obtain ⟨ws', h3, h4⟩ := Option.bind_eq_some_iff.mp hS
          obtain ⟨xs, z1, z2⟩ := R.listAt h h3
          have ex := z2.bls h4
          subst ex
          exact ⟨_, ns, rfl, z1, p.here R (.bl _)⟩
        · cases e
  · cases e
end
section
variable {C : Cf} {Γ : Gam} {Wx : WX} {X : Cx} {a b c d : Ex} {x y z t : Expr} {es : List Ex} {ys : List Expr} {pos p : Pos}
theorem s_bif {b : Bf} {e : Ex} {y : Expr} (hK : X.K = C.K) (hc : bfHot b = false → X.calm = true) (hh : X.calm = true ∨ L2H.HotC X) (hg : Gl X (bfNm b)) (hm : X.mg (bfNm b) = none) (h : PEs C Γ Wx X (e :: es) (y :: ys)) : PE X (.Call (.Name (bfNm b) p) (y :: ys) [] pos) (rdE C Γ Wx (.bif b (e :: es))) := by
  have hs := h.noStar
  rw [List.all_cons, Bool.and_eq_true] at hs
  refine pe_imp (bf_pe b hc hh hg hm h.pa hs.1 hs.2) fun σ H Q ⟨m, ρ, S, r, A, h, p⟩ => ?_
  unfold ev at h
  refine rd_stepA A h p fun ws S1 m1 H1 vs h1 A1 _ rv p1 => ?_
  obtain ⟨w3, S4, h6, p4⟩ := p1.lift h1
  rw [hK]
  exact bfn_ok A1.h rv h6 p4
end
end Ip

/-! IpSnd4: methods, fields, isinstance, calls. Written by an AI agent. -/
namespace Ip
open PySem PySem.Spec PyProof.Rows L2
/-! ### built-in methods -/
def rBm (K : PySem.W.Frag) : Bm → V → List V → Hp → VK → Prop
  | .append => rAppend
  | .pop => rPopAt
  | .insert => fun x vs H Q => ∃ (l : Addr) (xs : List V) (i : Int) (y : V), x = .ref l ∧ vs = [.int i, y] ∧ H l = some (.lst xs) ∧ xs.length < sizeLine ∧ 0 ≤ i ∧ i < 2 ^ 63 ∧ Q .non (upd H l (.lst (xs.take i.toNat ++ [y] ++ xs.drop i.toNat)))
  | .clear => rClear
  | .index => rIndex K
  | .join => fun x xs H Q => ∃ a p, ∃ ys : List Str, x = .str a ∧ xs = [.ref p] ∧ (SqL K H p (ys.map V.str) ∨ SqT K H p (ys.map V.str)) ∧ (ys.map (·.length)).sum + ys.length * a.length ≤ 16777216 ∧ Q (.str (Txt.join a ys)) H
  | .split => fun x xs H Q => ∃ a b, x = .str a ∧ xs = [.str b] ∧ (b.length == 0) = false ∧ a.length + 2 ≤ sizeLine ∧ rNewStrs (Txt.split a b) H Q
  | .partition => fun x xs H Q => ∃ a b, x = .str a ∧ xs = [.str b] ∧ (b.length == 0) = false ∧ a.length ≤ sizeLine ∧
      ∀ p, H p = none → Q (.ref p) (upd H p (.tup [.str (Txt.partition a b).1, .str (Txt.partition a b).2.1, .str (Txt.partition a b).2.2]))
  | .get => fun _ _ _ _ => False
/-- the reading of a method call -/
def tBmG (K : PySem.W.Frag) (m : Bm) (to : TE) (t : TA) : TE := fun σ H Q => to σ H fun x H1 => (if bmStr m = true then ∃ a, x = .str a else tyV K "list" x H1) ∧ t σ H1 fun xs H2 => rBm K m x xs H2 Q
theorem few_ok {env : PySem.Env} {p : Pos} {e : Expr} {es : List Expr} (hs : (e :: es).all noStar = true) (hl : (e :: es).length < 30) :
    ((backTo p (starEach (e :: es) env)).all (fun x => !x.1) && (backToKw p (keywordEach [] env)).all (fun x => x.1.isSome) && decide ((e :: es).length + ([] : List Keyword).length + (if ([] : List Keyword).isEmpty then 0 else 1) < 30)) = true := by
  rw [star_few hs]
  have e1 : (backToKw p (keywordEach [] env)).all (fun x => x.1.isSome) = true := rfl
  rw [e1]
  exact decide_eq_true hl
theorem bm_pe {X : Cx} {ap p : Pos} {o e : Expr} {es : List Expr} {to : TE} {t : TA} (ho : PE X o to) (hb : noSup o = true) (hl : (ap.endLine == p.line) = true) (hs : (e :: es).all noStar = true) (h30 : (e :: es).length < 30) (ha : PA X (e :: es) t) :
    ∀ (m : Bm), m ≠ .get → m ≠ .clear → PE X (.Call (.Attribute o (bmNm m) ap) (e :: es) [] p) (tBmG X.K m to t) := by
  have hs2 := hs
  rw [List.all_cons, Bool.and_eq_true] at hs2
  have lst : ∀ {nm : Str} {id : String} {r : V → List V → Hp → VK → Prop}, Slot "list" nm id → typeOf (.builtin id) = pure (.type "method_descriptor") → MtR X id r → PE X (.Call (.Attribute o nm ap) (e :: es) [] p) (tBM X.K "list" r to t) := fun {nm id r} sl ty hm =>
    pe_bm PySem.F.plainAttrs_list sl ty hm ho ha (sup_base hb) (few_ok hs h30) hl (star_cons hs2.1) (star_plain hs2.2)
  have str : ∀ {nm : Str} {id : String} {r : V → List V → Hp → VK → Prop}, Slot "str" nm id → typeOf (.builtin id) = pure (.type "method_descriptor") → MtR X id r → PE X (.Call (.Attribute o nm ap) (e :: es) [] p) (tBM X.K "str" r to t) := fun {nm id r} sl ty hm =>
    pe_bm PySem.F.plainAttrs_str sl ty hm ho ha (sup_base hb) (few_ok hs h30) hl (star_cons hs2.1) (star_plain hs2.2)
  have gl : ∀ {m : Bm}, bmStr m = false → PE X (.Call (.Attribute o (bmNm m) ap) (e :: es) [] p) (tBM X.K "list" (rBm X.K m) to t) → PE X (.Call (.Attribute o (bmNm m) ap) (e :: es) [] p) (tBmG X.K m to t) := fun {m} hm h => by
    have e : tBmG X.K m to t = tBM X.K "list" (rBm X.K m) to t := by
      unfold tBmG tBM
      rw [hm]
      simp
    rw [e]
    exact h
  have gs : ∀ {m : Bm}, bmStr m = true → PE X (.Call (.Attribute o (bmNm m) ap) (e :: es) [] p) (tBM X.K "str" (rBm X.K m) to t) → PE X (.Call (.Attribute o (bmNm m) ap) (e :: es) [] p) (tBmG X.K m to t) := fun {m} hm h => by
    have e : tBmG X.K m to t = tBM X.K "str" (rBm X.K m) to t := by
      unfold tBmG tBM
      rw [hm]
      funext σ H Q
      congr 1
      funext x H1
      rw [if_pos rfl]
      congr 1
      unfold tyV
      cases x <;> simp
    rw [e]
    exact h
  intro m h1 h2
  cases m with
  | append => exact gl rfl (lst PySem.F.slot_list_append PySem.F.type_list_append mt_append)
  | pop => exact gl rfl (lst PySem.F.slot_list_pop PySem.F.type_list_pop mt_popAt)
  | insert => exact gl rfl (lst PySem.F.slot_list_insert PySem.F.type_list_insert mt_insert)
  | index => exact gl rfl (lst PySem.F.slot_list_index PySem.F.type_list_index mt_index)
  | clear => exact absurd rfl h2
  | get => exact absurd rfl h1
  | join => exact gs rfl (str PySem.F.slot_str_join PySem.F.type_str_join mt_join)
  | split => exact gs rfl (str PySem.F.slot_str_split PySem.F.type_str_split mt_split)
  | partition => exact gs rfl (str PySem.F.slot_str_partition PySem.F.type_str_partition mt_partition)
theorem bm_pe0 {X : Cx} {ap p : Pos} {o : Expr} {to : TE} (ho : PE X o to) (hb : noSup o = true) (hl : (ap.endLine == p.line) = true) : PE X (.Call (.Attribute o (bmNm .clear) ap) [] [] p) (tBM0 X.K "list" (rBm X.K .clear) to) :=
  pe_bm0 PySem.F.plainAttrs_list PySem.F.slot_list_clear PySem.F.type_list_clear mt_clear ho (sup_base hb) hl
theorem ixN_seq {n : Nat} {i : Int} {k : Nat} (h : ixN n i = some k) : seqIndex? i n = some k := by
  unfold ixN at h
  split at h
  · split at h
    · have e := Option.some.inj h
      rw [← e]
      exact seqIndex_of (by assumption) (by omega)
    · cases h
  · split at h
    · have e := Option.some.inj h
      rw [← e]
      exact seqIndex_neg (by omega) (by assumption)
    · cases h
theorem ixOf_ok {K : PySem.W.Frag} {m : List Addr} {H : Hp} {x : W} {y : V} (hx : RW K m H x y) (fx : flatW x = true) : ∀ {ws : List W} {vs : List V} {j : Nat}, RWs K m H ws vs → ws.all flatW = true → ixOf x ws = some j →
    ∃ z, vs[j]? = some z ∧ eqV z y = true ∧ ∀ (k : Nat) (z' : V), k < j → vs[k]? = some z' → eqV z' y = false
  | [], _, _, _, _, e => by cases e
  | w :: ws, _, j, .cons h r, f, e => by
    rw [List.all_cons, Bool.and_eq_true] at f
    unfold ixOf at e
    split at e
    · rename_i hq
      have e1 := Option.some.inj e
      subst e1
      exact ⟨_, rfl, by rw [eqF_rw h hx f.1 fx]; exact hq, fun k z' hk => absurd hk (Nat.not_lt_zero _)⟩
    · rename_i hq
      obtain ⟨i, h1, h2⟩ := Option.map_eq_some_iff.mp e
      subst h2
      obtain ⟨z, z1, z2, z3⟩ := ixOf_ok hx fx r f.2 h1
      refine ⟨z, by simpa using z1, z2, fun k z' hk hz => ?_⟩
      cases k with
      | zero =>
        have e2 := Option.some.inj (show some _ = some z' from hz)
        subst e2
        rw [eqF_rw h hx f.1 fx]
        simpa using hq
      | succ k => exact z3 k z' (by omega) (by simpa using hz)
section
variable {C : Cf} {m : List Addr} {S S' : Store} {H : Hp} {ws : List W} {vs : List V} {o w : W} {x : V} {Q : VK}
theorem Post.put {n : Nat} {a : Addr} {xs : List W} {ys : List W} {zs : List V} (p : Post C m S H (S.set n (.lst ys)) w Q) (R : RelH C m S H) (hn : m[n]? = some a) (hS : S[n]? = some (.lst xs)) (r : RWs C.K m H ys zs) {v : V} (hv : RW C.K m H w v) : Q v (upd H a (.lst zs)) := by
  obtain ⟨us, z1, z2⟩ := R.cell _ _ _ hn hS
  have e : Ext m S H m (S.set n (.lst ys)) (upd H a (.lst zs)) := ⟨⟨[], by simp⟩, fun b u hb k => by
      have ne : b ≠ a := fun z => by
        subst z
        rw [z1] at hb
        have e1 := Option.some.inj hb
        subst e1
        exact k rfl ⟨n, _, hn, hS, rfl⟩
      refine ⟨by rw [upd_ne ne]; exact hb, fun hu z => k hu ?_⟩
      obtain ⟨j, e, q1, q2, q3⟩ := z
      by_cases hj : n = j
      · subst hj
        exact ⟨n, _, q1, hS, rfl⟩
      · rw [List.getElem?_set_ne hj] at q2
        exact ⟨j, e, q1, q2, q3⟩⟩
  have n2 := R.set (o := .lst zs) (d := .lst ys) hn hS rfl rfl rfl ⟨zs, upd_same, r.mono e⟩
  exact p _ _ _ n2.1 n2.2 (hv.mono e)
theorem bmt_ok {b : Bm} (R : RelH C m S H) (ro : RW C.K m H o x) (rs : RWs C.K m H ws vs) (e : bmt b S o ws = some (w, S')) (p : Post C m S H S' w Q) : rBm C.K b x vs H Q := by
  unfold bmt at e
  split at e
  · -- append
    cases ro with
    | loc hn =>
      cases rs with
      | cons h1 h2 =>
        cases h2
        split at e
        · rename_i xs hS
          split at e
          · rename_i hl
            cases e
            obtain ⟨us, z1, z2⟩ := R.cell _ _ _ hn hS
            exact ⟨_, _, _, rfl, rfl, z1, by rw [← z2.length]; exact sl_lt hl, p.put R hn hS (z2.append (.cons h1 .nil)) .non⟩
          · cases e
        · cases e
  · -- pop
    cases ro with
    | loc hn =>
      cases rs with
      | cons h1 h2 =>
        cases h2; cases h1
        split at e
        · rename_i xs hS
          split at e
          · rename_i hl
            obtain ⟨k, h3, h4⟩ := Option.bind_eq_some_iff.mp e
            obtain ⟨w', h5, h6⟩ := Option.map_eq_some_iff.mp h4
            cases h6
            obtain ⟨us, z1, z2⟩ := R.cell _ _ _ hn hS
            obtain ⟨v, h7, h8⟩ := z2.get h5
            exact ⟨_, _, _, k, v, rfl, rfl, z1, hl.1, hl.2, by rw [← z2.length]; exact ixN_seq h3, h7, p.put R hn hS (z2.erase k) h8⟩
          · cases e
        · cases e
  · -- insert
    cases ro with
    | loc hn =>
      cases rs with
      | cons h1 h2 =>
        cases h1
        cases h2 with
        | cons h1 h2 =>
          cases h2
          split at e
          · rename_i xs hS
            split at e
            · rename_i hl
              cases e
              obtain ⟨us, z1, z2⟩ := R.cell _ _ _ hn hS
              refine ⟨_, _, _, _, rfl, rfl, z1, by rw [← z2.length]; exact sl_lt hl.1, hl.2.1, hl.2.2, ?_⟩
              refine p.put R hn hS ?_ .non
              rw [List.append_assoc]
              exact (z2.take _).append (.cons h1 (z2.drop _))
            · cases e
          · cases e
  · -- clear
    cases ro with
    | loc hn =>
      cases rs
      split at e
      · rename_i xs hS
        cases e
        obtain ⟨us, z1, z2⟩ := R.cell _ _ _ hn hS
        exact ⟨_, _, rfl, rfl, z1, p.put R hn hS .nil .non⟩
      · cases e
  · -- index
    cases ro with
    | loc hn =>
      cases rs with
      | cons h1 h2 =>
        cases h2
        split at e
        · rename_i xs hS
          split at e
          · rename_i hf
            rw [Bool.and_eq_true] at hf
            obtain ⟨j, h3, h4⟩ := Option.map_eq_some_iff.mp e
            cases h4
            obtain ⟨us, z1, z2⟩ := R.listAt hn hS
            obtain ⟨z, q1, q2, q3⟩ := ixOf_ok h1 hf.1 z2 hf.2 h3
            exact ⟨_, _, _, j, z, rfl, rfl, z1, flat_rw h1 hf.1, flats_rw z2 hf.2, q1, q2, q3, p.here R (.int _)⟩
          · cases e
        · cases e
  · -- join
    cases ro
    cases rs with
    | cons h1 h2 =>
      cases h2
      cases h1 with
      | loc hn =>
        split at e
        · rename_i ys hS
          split at e
          · rename_i hl
            cases e
            obtain ⟨ws', h3, h4⟩ := Option.bind_eq_some_iff.mp hS
            obtain ⟨xs, z1, z2⟩ := R.listAt hn h3
            have ex := z2.strs h4
            subst ex
            exact ⟨_, _, ys, rfl, rfl, .inl z1, hl, p.here R (.str _)⟩
          · cases e
        · cases e
  · -- split
    cases ro
    cases rs with
    | cons h1 h2 =>
      cases h2; cases h1
      split at e
      · rename_i hl
        cases e
        exact ⟨_, _, rfl, rfl, hl.1, sl_le hl.2, fun q hq => p.lst R hq (RWs.mkStrs _)⟩
      · cases e
  · -- partition
    cases ro
    cases rs with
    | cons h1 h2 =>
      cases h2; cases h1
      split at e
      · rename_i hl
        cases e
        exact ⟨_, _, rfl, rfl, hl.1, sl_le hl.2, fun q hq => p.tup R hq (.cons (.str _) (.cons (.str _) (.cons (.str _) .nil)))⟩
      · cases e
  · cases e
end
section
variable {C : Cf} {Γ : Gam} {Wx : WX} {X : Cx} {a b c d : Ex} {x y z t : Expr} {es : List Ex} {ys : List Expr} {pos p ap : Pos}
theorem s_bm {b : Bm} {e : Ex} (hK : X.K = C.K) (ho : PE X x (rdE C Γ Wx a)) (hb : noSup x = true) (hl : (ap.endLine == p.line) = true) (h30 : (y :: ys).length < 30) (h : PEs C Γ Wx X (e :: es) (y :: ys)) (h1 : b ≠ .get) (h2 : b ≠ .clear) :
    PE X (.Call (.Attribute x (bmNm b) ap) (y :: ys) [] p) (rdE C Γ Wx (.bm a b (e :: es))) := by
  refine pe_imp (bm_pe ho hb hl h.noStar h30 h.pa b h1 h2) fun σ H Q ⟨m, ρ, S, r, A, h, p⟩ => ?_
  unfold ev at h
  refine rd_step A h p fun w S1 m1 H1 v h1 A1 _ rv p1 => ?_
  split at h1
  · rename_i hty
    refine ⟨?_, rd_stepA A1 h1 p1 fun ws S2 m2 H2 vs h2 A2 e2 rs p2 => ?_⟩
    · unfold bmTy at hty
      cases rv with
      | str z => rw [if_pos hty]; exact ⟨_, rfl⟩
      | loc hn =>
        rw [Bool.and_eq_true] at hty
        have h0 : bmStr b = false := by simpa using hty.1
        rw [h0, if_neg Bool.false_ne_true, hK]
        obtain ⟨ws, hws⟩ := Option.isSome_iff_exists.mp hty.2
        obtain ⟨xs, z1, _⟩ := A1.h.listAt hn hws
        exact .inl ⟨rfl, xs, z1⟩
      | _ => cases hty
    · obtain ⟨w3, S4, h6, p4⟩ := p2.lift h2
      rw [hK]
      exact bmt_ok A2.h (rv.mono e2) rs h6 p4
  · cases h1
theorem s_bm0 (hK : X.K = C.K) (ho : PE X x (rdE C Γ Wx a)) (hb : noSup x = true) (hl : (ap.endLine == p.line) = true) : PE X (.Call (.Attribute x (bmNm .clear) ap) [] [] p) (rdE C Γ Wx (.bm a .clear [])) := by
  refine pe_imp (bm_pe0 ho hb hl) fun σ H Q ⟨m, ρ, S, r, A, h, p⟩ => ?_
  unfold ev at h
  refine rd_step A h p fun w S1 m1 H1 v h1 A1 _ rv p1 => ?_
  split at h1
  · rename_i hty
    unfold evs at h1
    obtain ⟨w3, S4, h6, p4⟩ := p1.lift h1
    refine ⟨?_, by rw [hK]; exact bmt_ok A1.h rv .nil h6 p4⟩
    unfold bmTy at hty
    cases rv with
    | str z => cases hty
    | loc hn =>
      rw [Bool.and_eq_true] at hty
      obtain ⟨ws, hws⟩ := Option.isSome_iff_exists.mp hty.2
      obtain ⟨xs, z1, _⟩ := A1.h.listAt hn hws
      exact .inl ⟨rfl, xs, by rw [hK]; exact z1⟩
    | _ => cases hty
  · cases h1
end
end Ip

/-! IpSnd5: calls, methods, instances, fields, isinstance, comprehensions. Written by an AI agent. -/
namespace Ip
open PySem PySem.Spec PyProof.Rows L2
/-! ### calls with what is raised wished for at the slots -/
section
variable {X : Cx} {CX : CXT} {k : Nat} {f C : Addr} {fd : FuncData} {ps : List Str} {sp : Sp} {E : L2.St → XK} {x m : Str} {p pos apos : Pos} {e o : Expr} {es : List Expr} {ta : TE} {t : TA}
def tMethS (C : Addr) (m : Str) (sp : Sp) (E : L2.St → XK) (ta : TE) (t : TA) : TE := fun σ H Q => ta σ H fun x H1 => ∃ a dx fs, x = .ref a ∧ H1 a = some (.ins C dx fs) ∧ fs.lookup m = none ∧
  t σ H1 fun vs H2 => sp (x :: vs) H2 Q (E σ)
theorem pe_methS {pl : Sem Bool} (he : PE X o ta) (c : Cls X.K C) (hm : Meth X.K C m f) (F : FnOk X.prog X.w X.K X.mg X.base CX k f fd ps sp) (hr : Room k X.A) (hb : Binds X.K fd ps []) (hx : ∀ σ, PassesAt CX X σ (E σ)) (ha : PA X (e :: es) t)
    (hst : starEach (e :: es) X.env = (false, eval e X.env) :: starEach es X.env) (hpl : (backTo pos (starEach es X.env)).any (·.1) = false)
    (ht : eval (.Call (.Attribute o m apos) (e :: es) [] pos) X.env = (do
      let ov ← eval o X.env
      standAt apos.atName
      let (f, first) ← holding [ov] (getMethod ov m pl)
      callWith pos f first (backTo pos (starEach (e :: es) X.env)) (backToKw pos (keywordEach [] X.env)))) :
    PE X (.Call (.Attribute o m apos) (e :: es) [] pos) (tMethS C m sp E ta t) := by
  refine ⟨fun pins s σ H Q I h => ?_⟩
  refine PySem.W.methodCall_KW (pl := pl) (thn (he.run pins s σ H _ I h) fun u s1 ⟨x, H1, I1, rx, a, dx, fs, ex, ea, l, q⟩ => ?_) ht
  subst ex
  obtain rfl : u = Value.ref a := rx
  refine getmeth_ok I1 ea c hm l ?_
  refine PySem.W.callWith_K (first := [.ref a]) (h₀ := X.base) I.ok.mod.kin hm.kp (thn (ha.run pos pins s1 σ H1 _ I1 q) fun us s2 ⟨vs, H2, I2, r, q2⟩ => ⟨I2.kIn, ?_⟩) hst hpl
  exact run_fnS (us := .ref a :: us) (vs := .ref a :: vs) F hr hb (hx σ) I2 (.cons rfl r) q2
theorem pe_methS0 {pl : Sem Bool} (he : PE X o ta) (c : Cls X.K C) (hm : Meth X.K C m f) (F : FnOk X.prog X.w X.K X.mg X.base CX k f fd ps sp) (hr : Room k X.A) (hb : Binds X.K fd ps []) (hx : ∀ σ, PassesAt CX X σ (E σ))
    (ht : eval (.Call (.Attribute o m apos) [] [] pos) X.env = (do
      let ov ← eval o X.env
      standAt apos.atName
      let (f, first) ← holding [ov] (getMethod ov m pl)
      callWith pos f first (backTo pos (starEach [] X.env)) (backToKw pos (keywordEach [] X.env)))) :
    PE X (.Call (.Attribute o m apos) [] [] pos) (tMethS C m sp E ta tNil) := by
  refine ⟨fun pins s σ H Q I h => ?_⟩
  refine PySem.W.methodCall_KW (pl := pl) (thn (he.run pins s σ H _ I h) fun u s1 ⟨x, H1, I1, rx, a, dx, fs, ex, ea, l, q⟩ => ?_) ht
  subst ex
  obtain rfl : u = Value.ref a := rx
  refine getmeth_ok I1 ea c hm l ?_
  exact PySem.W.callWith_K0 (first := [.ref a]) I1.kIn hm.kp (run_fnS (us := [.ref a]) (vs := [.ref a]) F hr hb (hx σ) I1 (.cons rfl .nil) q)
def tMakeS (C : Addr) (sp : Sp) (E : L2.St → XK) (t : TA) : TE := fun σ H Q => t σ H fun vs H1 => ∀ x dx, H1 x = none → H1 dx = none → dx ≠ x →
  sp (.ref x :: vs) (upd (upd H1 dx (.own x)) x (.ins C dx [])) (fun v H2 => v = .non ∧ Q (.ref x) H2) (E σ)
theorem run_makeS {pins : List (Addr × Obj)} {σ : L2.St} {H : Hp} {s : Shared} {Q : VK} {us : List Value} {vs : List V} (M : Mk X.K C f) (F : FnOk X.prog X.w X.K X.mg X.base CX k f fd ps sp) (hr : Room (k + 1) X.A) (hb : Binds X.K fd ps [])
    (hx : PassesAt CX X σ (E σ)) (I : Inv X pins σ H s) (r : Vals vs us)
    (h : ∀ x dx, H x = none → H dx = none → dx ≠ x → sp (.ref x :: vs) (upd (upd H dx (.own x)) x (.ins C dx [])) (fun v H2 => v = .non ∧ Q (.ref x) H2) (E σ)) :
    wpAny (model X.prog X.w) X.A (call (.ref C) us) (EP X pins σ Q) X.xe s := by
  have hq := h (s.heap.objs.size + 1) s.heap.objs.size (I.hok.fresh (Nat.le_succ _)) (I.hok.fresh (Nat.le_refl _)) (Nat.ne_of_lt (Nat.lt_succ_self _))
  have I2 := Inv.made (C := C) I
  have r2 : Vals (V.ref (s.heap.objs.size + 1) :: vs) (Value.ref (s.heap.objs.size + 1) :: us) := .cons rfl r
  have hl : (Value.ref (s.heap.objs.size + 1) :: us).length = ps.length := by
    have e := r2.length
    rw [F.len _ _ _ _ hq] at e
    exact e.symm
  have b := hb _ (Value.ref (s.heap.objs.size + 1) :: us) I2.kIn (by rw [List.append_nil]; exact hl)
  rw [List.append_nil] at b
  refine wpAny_call (make_map (f := f) I.kIn M.makes M.init (beq_iff_eq.mp M.fn) (codeAny_mono (F.run _ X.stack _ _ ⟨Value.ref (s.heap.objs.size + 1) :: us, []⟩ (Value.ref (s.heap.objs.size + 1) :: us) _ _ (E σ) (hr.make C us [])
    (I2.env0.make C us []) b r2 hq) fun r s' hq' => ?_))
  cases r with
  | error e => exact hx pins _ _ e s' I2 hq'
  | ok fl =>
    cases fl with
    | ret u =>
      obtain ⟨v, H', I3, rv, ev, q3⟩ := I2.after hq'
      subst ev
      exact ⟨rv, ⟨V.ref (s.heap.objs.size + 1), H', I3, rfl, q3⟩⟩
    | next => exact False.elim hq'
    | brk => exact False.elim hq'
    | cont => exact False.elim hq'
theorem pe_makeS (M : Mk X.K C f) (F : FnOk X.prog X.w X.K X.mg X.base CX k f fd ps sp) (hr : Room (k + 1) X.A) (hg : Gl X x) (hm : X.mg x = some (.ref C)) (hb : Binds X.K fd ps []) (hx : ∀ σ, PassesAt CX X σ (E σ))
    (ha : PA X (e :: es) t) (hdb : (x == ("__debug__" : Str)) = false) (he : starEach (e :: es) X.env = (false, eval e X.env) :: starEach es X.env) (hpl : (backTo pos (starEach es X.env)).any (·.1) = false) :
    PE X (.Call (.Name x p) (e :: es) [] pos) (tMakeS C sp E t) := by
  refine ⟨fun pins s σ H Q I h => ?_⟩
  refine wpAny_Call_Name_kw (ld_glob I hg hm ?_ hdb)
  refine PySem.W.callWith_K (h₀ := X.base) I.ok.mod.kin M.kp (thn (ha.run pos pins s σ H _ I h) fun us s1 ⟨vs, H1, I1, r, q⟩ => ⟨I1.kIn, ?_⟩) he hpl
  exact run_makeS (E := E) M F hr hb (hx σ) I1 r q
theorem pe_makeS0 (M : Mk X.K C f) (F : FnOk X.prog X.w X.K X.mg X.base CX k f fd ps sp) (hr : Room (k + 1) X.A) (hg : Gl X x) (hm : X.mg x = some (.ref C)) (hb : Binds X.K fd ps []) (hx : ∀ σ, PassesAt CX X σ (E σ))
    (hdb : (x == ("__debug__" : Str)) = false) : PE X (.Call (.Name x p) [] [] pos) (tMakeS C sp E tNil) := by
  refine ⟨fun pins s σ H Q I h => ?_⟩
  refine wpAny_Call_Name_kw (ld_glob I hg hm ?_ hdb)
  exact PySem.W.callWith_K0 I.kIn M.kp (run_makeS (us := []) (E := E) M F hr hb (hx σ) I .nil h)
end

/-! ### what is known of the program around -/
/-- a def's promise: the interpreter's call -/
def spG (C : Cf) (g : List W → Store → R W) : Sp := fun vs H Q E => ∃ m ws S r, RelH C m S H ∧ RWs C.K m H ws vs ∧ g ws S = some r ∧ PG (RW C.K) C (fun cls d _ H => E cls d H) m S H [] r Q
def isaNm (cnm : List Str) : Isa → Option Str
  | .int => some "int" | .bool => some "bool" | .str => some "str" | .tuple => some "tuple" | .list => some "list" | .dict => some "dict" | .ve => some "ValueError"
  | .own c => cnm[c]?
def isaU (C : Cf) : Isa → Value
  | .int => .type "int" | .bool => .type "bool" | .str => .type "str" | .tuple => .type "tuple" | .list => .type "list" | .dict => .type "dict" | .ve => .type "ValueError"
  | .own c => .ref (C.cl c)
def isaV (C : Cf) : Isa → V
  | .int => .ty "int" | .bool => .ty "bool" | .str => .ty "str" | .tuple => .ty "tuple" | .list => .ty "list" | .dict => .ty "dict" | .ve => .ty "ValueError"
  | .own c => .ref (C.cl c)
theorem isa_cls (C : Cf) : ∀ t : Isa, ClsV (isaV C t) (isaU C t)
  | .int => .ty _ | .bool => .ty _ | .str => .ty _ | .tuple => .ty _ | .list => .ty _ | .dict => .ty _ | .ve => .ty _ | .own _ => .own _
theorem isa_rel (C : Cf) : ∀ t : Isa, RelV (isaV C t) (isaU C t)
  | .int => rfl | .bool => rfl | .str => rfl | .tuple => rfl | .list => rfl | .dict => rfl | .ve => rfl | .own _ => rfl
/-- isinstance of what is no exception, or of the exception that a suite holds -/
def rIs (C : Cf) : List V → Hp → VK → Prop := fun xs H Q => rIsi C.K xs H Q ∨ ∃ (a : Addr) (c : Nat) (t : Isa) (b : Bool), xs = [.ref a, isaV C t] ∧ C.xi a (.ref (C.cl c)) none ∧ C.xc c ∧ PySem.W.kitOne C.K (.ref (C.cl c)) (isaU C t) = some b ∧ Q (.bl b) H
def rdX (C : Cf) (Γ : Gam) (Wx : WX) (e : Ex) (x : Nat) (n : Str) : TE := fun σ H Q => rdE C Γ Wx e σ H fun v H1 => ∃ a c d dd fs u, v = .ref a ∧ C.xi a (.ref (C.cl c)) d ∧ C.xc c ∧ Γ.fox c x = true ∧ d = some dd ∧ H1 dd = some (.xd fs) ∧ fs.lookup n = some u ∧ Q u H1
def tyN : Ty → String
  | .non => "NoneType" | .bl => "bool" | .int => "int" | .str => "str" | .tup => "tuple" | .lst => "list" | .dct => "dict"
def bnames : List Str := ["len", "abs", "int", "str", "list", "tuple", "max", "min", "sum", "any", "all", "range", "enumerate", "isinstance", "bool", "dict", "ValueError"]
structure Good (C : Cf) (Γ : Gam) (K : Ck) (hot : Bool) (X : Cx) : Prop where
  hK : X.K = C.K
  hN : X.N = K.N
  hsc : X.env.scope = K.sc
  hnd : X.N.Nodup
  hu : X.A.units + 64 < cLine
  calm : hot = false → X.calm = true
  hh : X.calm = true ∨ L2H.HotC X
  kind : X.env.scope.kind = .function
  bn : ∀ x ∈ bnames, X.mg x = none
  glob : ∀ g x w, K.gnm[g]? = some x → Γ.glob g = some w → ∃ u v, X.mg x = some u ∧ RelV v u ∧ ∀ m H, RW C.K m H w v
  isi : CallR X (.builtin "isinstance") (rIs C)
  cls : ∀ c x, K.cnm[c]? = some x → X.mg x = some (.ref (C.cl c))
  inj : ∀ (x k : Nat) (n : Str), K.mnm[x]? = some n → C.fn k = n → k = x
  /-- no built-in type is an own class; own classes among themselves -/
  kt : ∀ (t : Ty) (c : Nat) (x : Str), K.cnm[c]? = some x → PySem.W.kitOne C.K (.type (tyN t)) (.ref (C.cl c)) = some false
  xk : ∀ (c : Nat) (t : Isa) (x : Str), isaNm K.cnm t = some x → C.xc c → PySem.W.kitOne C.K (.ref (C.cl c)) (isaU C t) = some (isaX Γ c t)
  call : hot = false → ∀ f x, K.fnm[f]? = some (some x) → ∃ fa fd ps k, X.mg x = some (.ref fa) ∧ PySem.W.keepIn X.K (.ref fa) = true ∧ Binds X.K fd ps [] ∧ Room k X.A ∧ FnOk X.prog X.w X.K X.mg X.base (L2N.CX X.prog X.w) k fa fd ps (spG C (Γ.call f))
  meth : hot = false → ∀ c m f n, Γ.mt c m = some f → K.mnm[m]? = some n → ∃ fa fd ps k, Cls X.K (C.cl c) ∧ Meth X.K (C.cl c) n fa ∧ Binds X.K fd ps [] ∧ Room k X.A ∧ FnOk X.prog X.w X.K X.mg X.base (L2N.CX X.prog X.w) k fa fd ps (spG C (Γ.call f))
  make : hot = false → ∀ c x, K.cnm[c]? = some x → c ∈ K.mks → ∃ fI fd ps k init, Mk X.K (C.cl c) fI ∧ Binds X.K fd ps [] ∧ Room (k + 1) X.A ∧ FnOk X.prog X.w X.K X.mg X.base (L2N.CX X.prog X.w) k fI fd ps (spG C init) ∧
    ∀ ws S, Γ.make c ws S = bnd (init (.loc S.length :: ws) (S ++ [.ins c []])) fun r S1 => match r with
      | .non => rok (.loc S.length) S1
      | _ => none
  xno : hot = false → ∀ a c d, ¬ C.xi a c d
  xnn : hot = false → ∀ n, ¬ C.xn n
  fld : ∀ c x n, Γ.fok c x = true → K.mnm[x]? = some n → C.fn x = n ∧ Cls X.K (C.cl c) ∧ NoAttr X.K (C.cl c) n
  xcc : ∀ c, C.xc c → ExcC C.K (C.cl c) ∧ XfC C.K (C.cl c)
  flx : ∀ c x n, C.xc c → Γ.fox c x = true → K.mnm[x]? = some n → C.fn x = n ∧ PySem.W.findIn C.K (.ref (C.cl c)) n = some none
  xup : ∀ c d, C.xc c → d ∈ K.cts → PySem.W.exmOne C.K (.ref (C.cl c)) (.ref (C.cl d)) = some (Γ.up c d)
  fnT : ∀ x, K.fnc x = true → X.fn x = true
  xa : ∀ (Wx : WX) (y : Expr) (e : Ex) (n : Str) (p : Pos) (x : Nat), PE X y (rdE C Γ Wx e) → noSup y = true → K.mnm[x]? = some n → PE X (.Attribute y n p) (rdX C Γ Wx e x n)
section
variable {C : Cf} {Γ : Gam} {Wx : WX} {K : Ck} {hot : Bool} {X : Cx} {a b c d : Ex} {x y z t : Expr} {es : List Ex} {ys : List Expr} {pos p ap p2 : Pos}
theorem s_call {f : Nat} {n : Str} {e : Ex} (G : Good C Γ K false X) (tk : L2N.Takes X Wx) (hf : K.fnm[f]? = some (some n)) (hg : Gl X n) (hd : (n == ("__debug__" : Str)) = false) (h : PEs C Γ Wx X (e :: es) (y :: ys)) :
    PE X (.Call (.Name n p) (y :: ys) [] pos) (rdE C Γ Wx (.call f (e :: es))) := by
  obtain ⟨fa, fd, ps, k, h1, h2, h3, h4, h5⟩ := G.call rfl f n hf
  have hs := h.noStar
  rw [List.all_cons, Bool.and_eq_true] at hs
  refine pe_imp (pe_callS (E := WE Wx) h5 h4 hg h1 h2 h3 (fun σ => L2N.passAt tk σ) h.pa hd (star_cons hs.1) (star_plain hs.2)) fun σ H Q ⟨m, ρ, S, r, A, h, p⟩ => ?_
  unfold ev at h
  refine rd_stepA A h p fun ws S1 m1 H1 vs h1 A1 _ rv p1 => ⟨m1, ws, S1, r, A1.h, rv, h1, ?_⟩
  obtain ⟨r, S2⟩ := r
  cases r with
  | ok w => exact p1
  | ex w => exact p1
theorem rf_lookup {K : PySem.W.Frag} {fn : Nat → Str} {m : List Addr} {H : Hp} {n : Str} {x : Nat} (e : fn x = n) (inj : ∀ k, fn k = n → k = x) : ∀ {fs : List (Nat × W)} {ys : List (Str × V)} {w : W}, RF K fn m H fs ys → fs.lookup x = some w → ∃ v, ys.lookup n = some v ∧ RW K m H w v
  | _, _, _, .nil, h => by cases h
  | _, _, w, .cons (k := k) (w := w') (v := v') hw r, h => by
    by_cases hk : x = k
    · subst hk
      simp only [List.lookup, beq_self_eq_true] at h
      have e1 := Option.some.inj h
      subst e1
      refine ⟨v', ?_, hw⟩
      rw [e]
      simp [List.lookup]
    · have q : (x == k) = false := by simpa using hk
      simp only [List.lookup, q] at h
      obtain ⟨v, z1, z2⟩ := rf_lookup e inj r h
      have q2 : (n == fn k) = false := by
        have : ¬ n = fn k := fun z => hk (inj k z.symm).symm
        simpa using this
      exact ⟨v, by simp only [List.lookup, q2]; exact z1, z2⟩
theorem s_fld {x1 : Nat} {n : Str} (G : Good C Γ K hot X) (hn : K.mnm[x1]? = some n) (hb : noSup y = true) (ha : PE X y (rdE C Γ Wx a)) : PE X (.Attribute y n pos) (rdE C Γ Wx (.fld a x1)) := by
  refine pe_imp (pe_or2 (pe_fld ha (sup_base hb)) (G.xa Wx y a n pos x1 ha hb hn)) fun σ H Q ⟨m, ρ, S, r, A, h, p⟩ => ?_
  unfold ev at h
  cases hev : ev Γ a ρ S with
  | none => rw [hev] at h; cases h
  | some r1 =>
    obtain ⟨r1, S1⟩ := r1
    cases r1 with
    | ex x =>
      rw [hev] at h
      have e := Option.some.inj h
      subst e
      exact .inl ⟨m, ρ, S, _, A, hev, p⟩
    | ok w =>
      rw [hev, bnd_ok] at h
      split at h
      · rename_i u hu
        unfold fldW at hu
        split at hu
        · rename_i k
          split at hu
          · rename_i c fs hS
            split at hu
            · rename_i hf
              refine .inl ⟨m, ρ, S, _, A, hev, fun m1 H1 v R1 e1 rv => ?_⟩
              cases rv with
              | loc hk =>
                obtain ⟨f1, f2, f3⟩ := G.fld c x1 n hf hn
                obtain ⟨dx, zs, z1, z2⟩ := R1.cell _ _ _ hk hS
                obtain ⟨v, z3, z4⟩ := rf_lookup f1 (fun k => G.inj x1 k n hn) z2 hu
                exact ⟨_, _, dx, zs, v, rfl, z1, f2, f3, z3, (p.go e1).rok h R1 z4⟩
            · cases hu
          · rename_i c fs hS
            split at hu
            · rename_i hf
              refine .inr ⟨m, ρ, S, _, A, hev, fun m1 H1 v R1 e1 rv => ?_⟩
              cases rv with
              | loc hk =>
                obtain ⟨d, z1, zc, z2⟩ := R1.cell _ _ _ hk hS
                obtain ⟨f1, f2⟩ := G.flx c x1 n zc hf hn
                rcases z2 with ⟨z2, _⟩ | ⟨dd, zs, z2, z3, z4, _⟩
                · rw [z2] at hu
                  cases hu
                · obtain ⟨v, z5, z6⟩ := rf_lookup f1 (fun k => G.inj x1 k n hn) z4 hu
                  exact ⟨_, c, d, dd, zs, v, rfl, z1, zc, hf, z2, z3, z5, (p.go e1).rok h R1 z6⟩
            · cases hu
          · cases hu
        · cases hu
      · cases h
/-! ### isinstance -/
theorem isa_b (G : Good C Γ K hot X) {t : Isa} {x : Str} (hx : isaNm K.cnm t = some x) (T : Ty) : PySem.W.kitOne C.K (.type (tyN T)) (isaU C t) = some (isaT T t) := by
  cases t with
  | own c =>
    have e : isaT T (.own c) = false := by cases T <;> rfl
    rw [e]
    exact G.kt T c x hx
  | _ => cases T <;> exact kit_ty (by decide +kernel)
theorem isaW_ok {m : List Addr} {S : Store} {H : Hp} {w : W} {v : V} {t : Isa} {x : Str} {k : Bool} {Q : VK} (G : Good C Γ K hot X) (hx : isaNm K.cnm t = some x) (R : RelH C m S H) (rv : RW C.K m H w v) (e : isaW Γ S w t = some k) (q : Q (.bl k) H) : rIs C [v, isaV C t] H Q := by
  have base : ∀ {T : Ty}, TyX C.K H v (.type (tyN T)) → some (isaT T t) = some k → rIs C [v, isaV C t] H Q := fun {T} ty e => by
    have e1 := Option.some.inj e
    subst e1
    exact .inl ⟨_, _, _, _, _, rfl, isa_cls C t, ty, isa_b G hx T, q⟩
  unfold isaW at e
  cases rv with
  | non => exact base (T := .non) (.base .non) e
  | bl b => exact base (T := .bl) (.base (.bl b)) e
  | int b => exact base (T := .int) (.base (.int b)) e
  | str b => exact base (T := .str) (.base (.str b)) e
  | tup h r =>
    refine base (T := .tup) ?_ e
    rcases h with (h | ⟨o, h⟩) | ⟨o, its, n, h1, h2, _⟩
    · exact .base (.tup h)
    · exact .fTuple h
    · exact .kTuple h1 h2
  | loc h =>
    split at e
    any_goals contradiction
    · rename_i n hn
      have hn' := W.loc.inj hn
      subst hn'
      split at e
      · rename_i ws hS
        obtain ⟨xs, z1, z2⟩ := R.cell _ _ _ h hS
        exact base (T := .lst) (.base (.lst z1)) e
      · rename_i ws hS
        obtain ⟨xs, z1, z2⟩ := R.cell _ _ _ h hS
        refine base (T := .lst) ?_ e
        rcases z1 with ⟨o, z1⟩ | ⟨o, its, n, h1, h2, _⟩
        · exact .base (.frz z1)
        · exact .kList h1 h2
      · rename_i ws hS
        obtain ⟨xs, z1, z2⟩ := R.cell _ _ _ h hS
        exact base (T := .dct) (.base (.dK z1)) e
      · rename_i c fs hS
        split at e
        case isFalse => cases e
        rename_i hfs
        have e1 := Option.some.inj e
        subst e1
        obtain ⟨d, z1, zc, z2⟩ := R.cell _ _ _ h hS
        rcases z2 with ⟨z2, z3⟩ | ⟨dd, ys, z3, z4, z5, z6⟩
        · subst z3
          exact .inr ⟨_, _, t, _, rfl, z1, zc, G.xk c t x hx zc, q⟩
        · exact absurd hfs z6
      · cases e
theorem s_isi {t : Isa} {n : Str} (G : Good C Γ K hot X) (hx : isaNm K.cnm t = some n) (hg : Gl X "isinstance") (hn : Gl X n) (hd : (n == ("__debug__" : Str)) = false) (h1 : noStar y = true) (ha : PE X y (rdE C Γ Wx a)) :
    PE X (.Call (.Name "isinstance" p) [y, .Name n p2] [] pos) (rdE C Γ Wx (.isi a t)) := by
  have nm : PE X (.Name n p2) (tC (isaV C t)) := by
    have bl : ∀ {s : String}, n = Str.ofString s → Str.ofString s ∈ bnames → bootBuiltins (Str.ofString s) = some (.type s) → isaV C t = .ty s → Str.ofString s ≠ "__name__" → PE X (.Name n p2) (tC (isaV C t)) := fun {s} e hb hv ev hne => by
      rw [e] at hn hd ⊢
      rw [ev]
      exact pe_bltn hn (G.bn _ hb) hv (show RelV (.ty s) (.type s) from rfl) hne hd
    cases t with
    | own c => exact pe_glob hn (G.cls c n hx) (isa_rel C _) hd
    | int => exact bl (s := "int") (Option.some.inj hx).symm (by simp [bnames]) boot_int rfl (by decide)
    | bool => exact bl (s := "bool") (Option.some.inj hx).symm (by simp [bnames]) boot_bool rfl (by decide)
    | str => exact bl (s := "str") (Option.some.inj hx).symm (by simp [bnames]) boot_str rfl (by decide)
    | tuple => exact bl (s := "tuple") (Option.some.inj hx).symm (by simp [bnames]) boot_tuple rfl (by decide)
    | list => exact bl (s := "list") (Option.some.inj hx).symm (by simp [bnames]) boot_list rfl (by decide)
    | dict => exact bl (s := "dict") (Option.some.inj hx).symm (by simp [bnames]) (by decide +kernel) rfl (by decide)
    | ve => exact bl (s := "ValueError") (Option.some.inj hx).symm (by simp [bnames]) (by decide +kernel) rfl (by decide)
  refine pe_imp (pe_callB G.isi hg (G.bn _ (by simp [bnames])) boot_isinstance (pa_cons ha (pa_cons nm pa_nil (star_cons rfl)) (star_cons h1)) (by decide) (by decide) (star_cons h1) (star_plain (es := [.Name n p2]) rfl)) fun σ H Q ⟨m, ρ, S, r, A, h, p⟩ => ?_
  unfold ev at h
  refine rd_step A h p fun w S1 m1 H1 v h1 A1 _ rv p1 => ?_
  split at h1
  · rename_i k hk
    exact isaW_ok G hx A1.h rv hk (p1.rok h1 A1.h (.bl k))
  · cases h1
end
end Ip

/-! IpSnd6: methods, instances, walks, comprehensions. Written by an AI agent. -/
namespace Ip
open PySem PySem.Spec PyProof.Rows L2
theorem mcall_eval {o : Expr} {es : List Expr} {m : Str} {apos pos : Pos} {env : PySem.Env} (hb : noSup o = true) (hl : (apos.endLine == pos.line) = true) (hs : es.all noStar = true) (h30 : es.length < 30) :
    eval (.Call (.Attribute o m apos) es [] pos) env = (do
      let ov ← eval o env
      standAt apos.atName
      let (f, first) ← holding [ov] (getMethod ov m (plainOf o env))
      callWith pos f first (backTo pos (starEach es env)) (backToKw pos (keywordEach [] env))) := by
  have e : eval (.Call (.Attribute o m apos) es [] pos) env = (do
    let ov ← attributeBase o m env (eval o env)
    standAt apos.atName
    methodCall o m apos pos env ov (es.length + ([] : List Keyword).length) (backTo pos (starEach es env)) (backToKw pos (keywordEach [] env))) := rfl
  have hf : methodCallForm (es.length + ([] : List Keyword).length) (backTo pos (starEach es env)) (backToKw pos (keywordEach [] env)) = true := by
    unfold methodCallForm
    rw [star_few hs]
    have e1 : (backToKw pos (keywordEach [] env)).all (fun x => x.1.isSome) = true := rfl
    rw [e1]
    have e2 : (backToKw pos (keywordEach [] env)).isEmpty = true := rfl
    rw [e2]
    exact decide_eq_true h30
  rw [e, sup_base hb]
  congr 1
  funext ov
  congr 1
  funext _
  exact mcall_line hf hl
theorem rf_none {K : PySem.W.Frag} {fn : Nat → Str} {m : List Addr} {H : Hp} {n : Str} {x : Nat} (inj : ∀ k, fn k = n → k = x) : ∀ {fs : List (Nat × W)} {ys : List (Str × V)}, RF K fn m H fs ys → fs.lookup x = none → ys.lookup n = none
  | _, _, .nil, _ => rfl
  | _, _, .cons (k := k) hw r, h => by
    by_cases hk : x = k
    · subst hk
      simp [List.lookup] at h
    · have q : (x == k) = false := by simpa using hk
      simp only [List.lookup, q] at h
      have q2 : (n == fn k) = false := by
        have : ¬ n = fn k := fun z => hk (inj k z.symm).symm
        simpa using this
      simp only [List.lookup, q2]
      exact rf_none inj r h
section
variable {C : Cf} {Γ : Gam} {Wx : WX} {K : Ck} {hot : Bool} {X : Cx} {a b c d : Ex} {x y z t : Expr} {es : List Ex} {ys : List Expr} {pos p ap p2 : Pos}
theorem s_meth {mi : Nat} {n : Str} (G : Good C Γ K false X) (tk : L2N.Takes X Wx) (hn : K.mnm[mi]? = some n) (ho : PE X x (rdE C Γ Wx a)) (hb : noSup x = true) (hl : (ap.endLine == p.line) = true) (h30 : ys.length < 30) (h : PEs C Γ Wx X es ys) :
    PE X (.Call (.Attribute x n ap) ys [] p) (rdE C Γ Wx (.meth a mi es)) := by
  refine ⟨fun pins s σ H Q I q => ?_⟩
  obtain ⟨m, ρ, S, r, A, h1, p1⟩ := q
  unfold ev at h1
  -- the receiver's class
  cases hev : ev Γ a ρ S with
  | none => rw [hev] at h1; cases h1
  | some r1 =>
    obtain ⟨r1, S1⟩ := r1
    cases r1 with
    | ex x' =>
      -- the receiver raises: any rule of a built-in's method will do
      rw [hev] at h1
      have e := Option.some.inj h1
      subst e
      refine PySem.W.methodCall_KW (pl := plainOf x X.env) (thn (ho.run pins s σ H (fun _ _ => False) I ⟨m, ρ, S, _, A, hev, p1⟩) fun u s1 hh => ?_) (mcall_eval hb hl h.noStar h30)
      obtain ⟨_, _, _, _, z⟩ := hh
      exact z.elim
    | ok w =>
      rw [hev, bnd_ok] at h1
      split at h1
      · rename_i k
        split at h1
        · rename_i c fs hS
          split at h1
          · rename_i f hlk hmt
            obtain ⟨fa, fd, ps, kk, g1, g2, g3, g4, g5⟩ := G.meth rfl c mi f n hmt hn
            have rd : rdE C Γ Wx a σ H fun v H1 => ∃ a' dx fs', v = .ref a' ∧ H1 a' = some (.ins (C.cl c) dx fs') ∧ fs'.lookup n = none ∧ rdA C Γ Wx es σ H1 fun vs H2 => spG C (Γ.call f) (v :: vs) H2 Q (WE Wx σ) := by
              refine ⟨m, ρ, S, _, A, hev, fun m1 H1 v R1 e1 rv => ?_⟩
              cases rv with
              | loc hk =>
                obtain ⟨dx, zs, z1, z2⟩ := R1.cell _ _ _ hk hS
                refine ⟨_, dx, zs, rfl, z1, rf_none (fun k => G.inj mi k n hn) z2 hlk, rd_stepA (A.go R1 e1) h1 (p1.go e1) fun ws S2 m2 H2 vs h3 A2 e2 rs p2 => ?_⟩
                refine ⟨m2, .loc k :: ws, S2, r, A2.h, .cons (.loc (e2.at hk)) rs, h3, ?_⟩
                obtain ⟨r, S3⟩ := r
                cases r with
                | ok w => exact p2
                | ex w => exact p2
            cases h with
            | nil =>
              refine (pe_methS0 (E := WE Wx) ho g1 g2 g5 g4 g3 (fun σ => L2N.passAt tk σ) (mcall_eval hb hl rfl h30)).run pins s σ H Q I ?_
              obtain ⟨m', ρ', S', r', A', h', p'⟩ := rd
              refine ⟨m', ρ', S', r', A', h', ?_⟩
              obtain ⟨r', S3⟩ := r'
              cases r' with
              | ex x => exact p'
              | ok w =>
                intro m2 H2 v R2 e2 rv
                obtain ⟨q1, q2, q3, q4, q5, q6, m3, ρ3, S4, r4, A4, h4, p4⟩ := p' m2 H2 v R2 e2 rv
                refine ⟨q1, q2, q3, q4, q5, q6, ?_⟩
                unfold evs at h4
                exact p4.rokA h4 A4.h .nil
            | cons he hs hset hr =>
              have hall := (PEs.cons he hs hset hr).noStar
              have hall2 := hall
              rw [List.all_cons, Bool.and_eq_true] at hall2
              exact (pe_methS (E := WE Wx) ho g1 g2 g5 g4 g3 (fun σ => L2N.passAt tk σ) (PEs.cons he hs hset hr).pa (star_cons hall2.1) (star_plain hall2.2) (mcall_eval hb hl hall h30)).run pins s σ H Q I rd
          · cases h1
        · cases h1
      · cases h1
theorem s_mk {ci : Nat} {n : Str} (G : Good C Γ K false X) (tk : L2N.Takes X Wx) (hn : K.cnm[ci]? = some n) (hm : ci ∈ K.mks) (hg : Gl X n) (hd : (n == ("__debug__" : Str)) = false) (h : PEs C Γ Wx X es ys) : PE X (.Call (.Name n p) ys [] pos) (rdE C Γ Wx (.mk ci es)) := by
  obtain ⟨fI, fd, ps, k, init, g1, g2, g3, g4, g5⟩ := G.make rfl ci n hn hm
  have gc := G.cls ci n hn
  have core : ∀ {m : List Addr} {S S1 : Store} {H H1 : Hp} {ρ : Env} {σ : L2.St} {r : Rs W × Store} {Q : VK} {ws : List W} {vs : List V}, Γ.make ci ws S1 = some r → At C m S1 H1 ρ σ → RWs C.K m H1 ws vs → PG (RW C.K) C Wx m S1 H1 σ r Q →
      ∀ x dx, H1 x = none → H1 dx = none → dx ≠ x → spG C init (.ref x :: vs) (upd (upd H1 dx (.own x)) x (.ins (C.cl ci) dx [])) (fun v H2 => v = .non ∧ Q (.ref x) H2) (WE Wx σ) := fun {m S S1 H H1 ρ σ r Q ws vs} h A rs p x dx hx hdx hne => by
    have n1 := A.h.tuple (o := .own x) hdx rfl
    have hx1 : upd H1 dx (.own x) x = none := by rw [upd_ne (Ne.symm hne)]; exact hx
    have n2 := n1.1.new (c := .ins ci []) (o := .ins (C.cl ci) dx []) hx1 rfl ⟨dx, [], upd_same, .nil⟩
    have ext := n1.2.trans n2.2
    rw [g5] at h
    obtain ⟨r1, h1, p1⟩ := pg_bnd (Rl := RW C.K) (Q' := fun v H2 => v = .non ∧ Q (.ref x) H2) h (p.go ext) fun w S2 m2 H2 v _ z1 z2 z3 z4 z5 => by
      cases z4 with
      | non => exact ⟨rfl, z5.rok z1 z2 (.loc (z3.at (by rw [← A.h.len]; simp)))⟩
      | _ => cases z1
    refine ⟨m ++ [x], .loc S1.length :: ws, S1 ++ [.ins ci []], r1, n2.1, .cons (.loc (by rw [← A.h.len]; simp)) (rs.mono ext), h1, ?_⟩
    obtain ⟨r1, S3⟩ := r1
    cases r1 with
    | ok w => exact p1
    | ex w => exact p1
  cases h with
  | nil =>
    refine pe_imp (pe_makeS0 (E := WE Wx) g1 g4 g3 hg gc g2 (fun σ => L2N.passAt tk σ) hd) fun σ H Q ⟨m, ρ, S, r, A, h, p⟩ => ?_
    unfold ev at h
    unfold evs at h
    exact core (S := S) (H := H) h A .nil p
  | cons he hs hset hr =>
    have hall := (PEs.cons he hs hset hr).noStar
    rw [List.all_cons, Bool.and_eq_true] at hall
    refine pe_imp (pe_makeS (E := WE Wx) g1 g4 g3 hg gc g2 (fun σ => L2N.passAt tk σ) (PEs.cons he hs hset hr).pa hd (star_cons hall.1) (star_plain hall.2)) fun σ H Q ⟨m, ρ, S, r, A, h, p⟩ => ?_
    unfold ev at h
    exact rd_stepA A h p fun ws S1 m1 H1 vs h1 A1 _ rv p1 => core (S := S) (H := H) h1 A1 rv p1
end

/-! ### walks -/
/-- what an iterator gives is what the source gives -/
def Wlk (C : Cf) (m0 : List Addr) (S0 : Store) (H0 : Hp) (src : Src) (J : It) : Prop :=
  ∀ m S H, RelH C m S H → Ext m0 S0 H0 m S H → ∀ i, (∀ w, srcAt S i src = some (some w) → J.go i H ∧ ∀ x H', J.yld i H x H' → RelH C m S H' ∧ Ext m S H m S H' ∧ RW C.K m H' w x) ∧ (srcAt S i src = some none → J.stop i H)
section
variable {C : Cf} {Γ : Gam} {Wx : WX} {K : Ck} {hot : Bool} {X : Cx} {a b c d : Ex} {x y z t : Expr} {es : List Ex} {ys : List Expr} {pos p ap p2 : Pos}
theorem wlk_list {m0 : List Addr} {S0 : Store} {H0 : Hp} {n : Nat} {a : Addr} (h : m0[n]? = some a) : Wlk C m0 S0 H0 (.live n) (Itl C.K a) := fun m S H R e i => by
  have ha := e.at h
  refine ⟨fun w hw => ?_, fun hw => ?_⟩
  · obtain ⟨ws, h1, h2⟩ := Option.map_eq_some_iff.mp hw
    obtain ⟨xs, z1, z2⟩ := R.listAt ha h1
    obtain ⟨v, z3, z4⟩ := z2.get h2
    refine ⟨⟨xs, v, z1, z3⟩, fun x H' y => ?_⟩
    obtain ⟨e1, y⟩ := y
    subst e1
    have := y xs z1
    rw [z3] at this
    have e2 := Option.some.inj this
    subst e2
    exact ⟨R, Ext.refl, z4⟩
  · obtain ⟨ws, h1, h2⟩ := Option.map_eq_some_iff.mp hw
    obtain ⟨xs, z1, z2⟩ := R.listAt ha h1
    exact ⟨xs, z1, List.getElem?_eq_none_iff.mp (z2.none_of h2)⟩
theorem wlk_enum {m0 : List Addr} {S0 : Store} {H0 : Hp} {n : Nat} {a : Addr} (h : m0[n]? = some a) : Wlk C m0 S0 H0 (.enum n) (Ite C.K a) := fun m S H R e i => by
  have ha := e.at h
  refine ⟨fun w hw => ?_, fun hw => ?_⟩
  · obtain ⟨ws, h1, h2⟩ := Option.map_eq_some_iff.mp hw
    obtain ⟨w', h3, h4⟩ := Option.map_eq_some_iff.mp h2
    subst h4
    obtain ⟨xs, z1, z2⟩ := R.listAt ha h1
    obtain ⟨v, z3, z4⟩ := z2.get h3
    refine ⟨⟨xs, v, z1, z3⟩, fun x H' y => ?_⟩
    obtain ⟨T, x', e1, hT, e2, y⟩ := y
    subst e1 e2
    have := y xs z1
    rw [z3] at this
    have e2 := Option.some.inj this
    subst e2
    have n1 := R.tuple (o := .tup [.int (i : Nat), v]) hT rfl
    exact ⟨n1.1, n1.2, .tup (SqT.of upd_same) (.cons (.int _) (.cons (z4.mono n1.2) .nil))⟩
  · obtain ⟨ws, h1, h2⟩ := Option.map_eq_some_iff.mp hw
    have h3 : ws[i]? = none := by
      cases q : ws[i]? with
      | none => rfl
      | some w => rw [q] at h2; cases h2
    obtain ⟨xs, z1, z2⟩ := R.listAt ha h1
    exact ⟨xs, z1, List.getElem?_eq_none_iff.mp (z2.none_of h3)⟩
theorem wlk_tup {m0 : List Addr} {S0 : Store} {H0 : Hp} {a : Addr} {ws : List W} {xs : List V} (h : SqT C.K H0 a xs) (r : RWs C.K m0 H0 ws xs) : Wlk C m0 S0 H0 (.fixed ws) (Itt C.K a) := fun m S H R e i => by
  have h1 := e.sqT h
  have r1 := r.mono e
  refine ⟨fun w hw => ?_, fun hw => ?_⟩
  · obtain ⟨v, z3, z4⟩ := r1.get (Option.some.inj hw)
    refine ⟨⟨xs, v, h1, z3⟩, fun x H' y => ?_⟩
    obtain ⟨e1, y⟩ := y
    subst e1
    have := y xs h1
    rw [z3] at this
    have e2 := Option.some.inj this
    subst e2
    exact ⟨R, Ext.refl, z4⟩
  · exact ⟨xs, h1, List.getElem?_eq_none_iff.mp (r1.none_of (Option.some.inj hw))⟩
theorem wlk_str {m0 : List Addr} {S0 : Store} {H0 : Hp} {z : Str} : Wlk C m0 S0 H0 (.fixed (z.cps.toList.map fun c => .str ⟨#[c]⟩)) (Its z) := fun m S H R e i => by
  refine ⟨fun w hw => ?_, fun hw => ?_⟩
  · have h1 := Option.some.inj hw
    rw [List.getElem?_map] at h1
    obtain ⟨c, h2, h3⟩ := Option.map_eq_some_iff.mp h1
    subst h3
    have h4 : z.cps[i]? = some c := by simpa using h2
    refine ⟨(Array.getElem?_eq_some_iff.mp h4).1, fun x H' y => ?_⟩
    obtain ⟨e1, c', h5, h6⟩ := y
    subst e1 h6
    rw [h4] at h5
    have e2 := Option.some.inj h5
    subst e2
    exact ⟨R, Ext.refl, .str _⟩
  · have h1 := Option.some.inj hw
    have := List.getElem?_eq_none_iff.mp h1
    show z.cps.size ≤ i
    simpa using this
theorem wlk_rng {m0 : List Addr} {S0 : Store} {H0 : Hp} {lo : Int} {n : Nat} : Wlk C m0 S0 H0 (.fixed ((List.range n).map fun (i : Nat) => .int (lo + (i : Int)))) (Itr lo n) := fun m S H R e i => by
  refine ⟨fun w hw => ?_, fun hw => ?_⟩
  · have h1 := Option.some.inj hw
    rw [List.getElem?_map] at h1
    obtain ⟨c, h2, h3⟩ := Option.map_eq_some_iff.mp h1
    subst h3
    obtain ⟨h4, h5⟩ := List.getElem?_eq_some_iff.mp h2
    rw [List.length_range] at h4
    rw [List.getElem_range] at h5
    subst h5
    refine ⟨h4, fun x H' y => ?_⟩
    obtain ⟨e1, h6⟩ := y
    subst e1 h6
    exact ⟨R, Ext.refl, .int _⟩
  · have h1 := List.getElem?_eq_none_iff.mp (Option.some.inj hw)
    show n ≤ i
    simpa using h1
/-- the reading of what is walked -/
def rdI (C : Cf) (Γ : Gam) (Wx : WX) (k : Ik) (es : List Ex) : TI := fun σ H R => ∃ m ρ S r, At C m S H ρ σ ∧ evs Γ es ρ S = some r ∧
  match r with
  | (.ok ws, S1) => ∃ src, srcOf k S1 ws = some src ∧ ∀ m1 H1 J, RelH C m1 S1 H1 → Ext m S H m1 S1 H1 → Wlk C m1 S1 H1 src J → R J H1
  | (.ex x, S1) => ∀ m' H' cls d, RelH C m' S1 H' → Ext m S H m' S1 H' → RX C m' H' x cls d → Wx cls d σ H'
theorem pi_imp {tg : Expr} {wi wi' : TI} (h : PI X tg x wi) (i : ∀ σ H R, wi' σ H R → wi σ H R) : PI X tg x wi' := ⟨fun pins s σ H R I q => h.run pins s σ H R I (i σ H R q)⟩
theorem evs_one {ρ : Env} {S : Store} {e : Ex} {r : Rs (List W) × Store} (h : evs Γ [e] ρ S = some r) : ∃ r1, ev Γ e ρ S = some r1 ∧ match r1 with
    | (.ok w, S1) => r = (.ok [w], S1)
    | (.ex x, S1) => r = (.ex x, S1) := by
  unfold evs at h
  unfold evs at h
  cases he : ev Γ e ρ S with
  | none => rw [he] at h; cases h
  | some r1 =>
    obtain ⟨r1, S1⟩ := r1
    rw [he] at h
    cases r1 with
    | ok w =>
      have e := Option.some.inj h
      exact ⟨_, rfl, e.symm⟩
    | ex w =>
      have e := Option.some.inj h
      exact ⟨_, rfl, e.symm⟩
theorem i_val {tg : Expr} {e : Ex} (hK : X.K = C.K) (h : PE X x (rdE C Γ Wx e)) : PI X tg x (rdI C Γ Wx .val [e]) := by
  refine ⟨fun pins s σ H R I q => ?_⟩
  obtain ⟨m, ρ, S, r, A, h1, p⟩ := q
  obtain ⟨r1, h2, h3⟩ := evs_one h1
  obtain ⟨r1, S1⟩ := r1
  cases r1 with
  | ex w =>
    subst h3
    exact (pi_list h).run pins s σ H R I ⟨m, ρ, S, _, A, h2, p⟩
  | ok w =>
    subst h3
    obtain ⟨src, h4, p⟩ := p
    unfold srcOf at h4
    split at h4
    · rename_i ws hk hw
      cases hw
      have e4 := Option.some.inj h4
      subst e4
      refine (pi_tup h).run pins s σ H R I ⟨m, ρ, S, _, A, h2, fun m1 H1 v R1 e1 rv => ?_⟩
      rw [hK]
      cases rv with
      | tup z1 z2 => exact ⟨_, rfl, ⟨_, z1⟩, p m1 H1 _ R1 e1 (wlk_tup z1 z2)⟩
    · rename_i ws hk hw
      cases hw
      have e4 := Option.some.inj h4
      subst e4
      refine (pi_str h).run pins s σ H R I ⟨m, ρ, S, _, A, h2, fun m1 H1 v R1 e1 rv => ?_⟩
      cases rv
      exact ⟨_, rfl, p m1 H1 _ R1 e1 wlk_str⟩
    · rename_i n hk hw
      cases hw
      split at h4
      · rename_i ws hS
        have e4 := Option.some.inj h4
        subst e4
        refine (pi_list h).run pins s σ H R I ⟨m, ρ, S, _, A, h2, fun m1 H1 v R1 e1 rv => ?_⟩
        rw [hK]
        cases rv with
        | loc hn =>
          obtain ⟨xs, z1, z2⟩ := R1.listAt hn hS
          exact ⟨_, rfl, ⟨xs, z1⟩, p m1 H1 _ R1 e1 (wlk_list hn)⟩
      · cases h4
    all_goals (first | contradiction | (rename_i hk _; cases hk) | skip)
theorem i_range1 {tg : Expr} {e : Ex} (hg : Gl X "range") (hm : X.mg "range" = none) (h : PEs C Γ Wx X [e] [x]) : PI X tg (.Call (.Name "range" p) [x] [] pos) (rdI C Γ Wx .range1 [e]) := by
  have hs := h.noStar
  rw [List.all_cons, Bool.and_eq_true] at hs
  refine pi_imp (pi_range1 hg hm h.pa (star_cons hs.1)) fun σ H R ⟨m, ρ, S, r, A, h1, p⟩ => ?_
  obtain ⟨r, S1⟩ := r
  cases r with
  | ex w => exact ⟨m, ρ, S, _, A, h1, p⟩
  | ok ws =>
    obtain ⟨src, h4, p⟩ := p
    refine ⟨m, ρ, S, _, A, h1, fun m1 H1 vs R1 e1 rs => ?_⟩
    unfold srcOf at h4
    split at h4
    all_goals (first | contradiction | skip)
    · rename_i j hw
      cases hw
      split at h4
      · rename_i hj
        have e4 := Option.some.inj h4
        subst e4
        cases rs with
        | cons r1 r2 =>
          cases r2; cases r1
          exact ⟨j, rfl, hj.1, hj.2, p m1 H1 _ R1 e1 wlk_rng⟩
      · cases h4
theorem i_range2 {tg : Expr} {e f : Ex} (hg : Gl X "range") (hm : X.mg "range" = none) (h : PEs C Γ Wx X [e, f] [x, y]) : PI X tg (.Call (.Name "range" p) [x, y] [] pos) (rdI C Γ Wx .range2 [e, f]) := by
  have hs := h.noStar
  rw [List.all_cons, List.all_cons, Bool.and_eq_true, Bool.and_eq_true] at hs
  have h2 : starEach [y] X.env = [(false, eval y X.env)] := star_cons hs.2.1
  refine pi_imp (pi_range2 hg hm h.pa (by rw [star_cons hs.1, h2]) h2) fun σ H R ⟨m, ρ, S, r, A, h1, p⟩ => ?_
  obtain ⟨r, S1⟩ := r
  cases r with
  | ex w => exact ⟨m, ρ, S, _, A, h1, p⟩
  | ok ws =>
    obtain ⟨src, h4, p⟩ := p
    refine ⟨m, ρ, S, _, A, h1, fun m1 H1 vs R1 e1 rs => ?_⟩
    unfold srcOf at h4
    split at h4
    all_goals (first | contradiction | skip)
    · rename_i i j hw
      cases hw
      split at h4
      · rename_i hj
        have e4 := Option.some.inj h4
        subst e4
        cases rs with
        | cons r1 r2 =>
          cases r1
          cases r2 with
          | cons r1 r2 =>
            cases r2; cases r1
            exact ⟨i, j, rfl, ⟨hj.1, hj.2.1, hj.2.2.1, hj.2.2.2⟩, p m1 H1 _ R1 e1 wlk_rng⟩
      · cases h4
theorem i_enum {elts : List Expr} {kk : Nat} {tpos : Pos} {e : Ex} (hK : X.K = C.K) (hg : Gl X "enumerate") (hm : X.mg "enumerate" = none) (h : PEs C Γ Wx X [e] [x]) : PI X (.Tuple elts kk tpos) (.Call (.Name "enumerate" p) [x] [] pos) (rdI C Γ Wx .enum [e]) := by
  have hs := h.noStar
  rw [List.all_cons, Bool.and_eq_true] at hs
  refine pi_imp (pi_enum hg hm h.pa (star_cons hs.1)) fun σ H R ⟨m, ρ, S, r, A, h1, p⟩ => ?_
  obtain ⟨r, S1⟩ := r
  cases r with
  | ex w => exact ⟨m, ρ, S, _, A, h1, p⟩
  | ok ws =>
    obtain ⟨src, h4, p⟩ := p
    refine ⟨m, ρ, S, _, A, h1, fun m1 H1 vs R1 e1 rs => ?_⟩
    unfold srcOf at h4
    split at h4
    all_goals (first | contradiction | skip)
    · rename_i n hk hw
      cases hw
      split at h4
      · rename_i ws hS
        have e4 := Option.some.inj h4
        subst e4
        cases rs with
        | cons r1 r2 =>
          cases r2
          cases r1 with
          | loc hn =>
            obtain ⟨xs, z1, z2⟩ := R1.listAt hn hS
            exact ⟨_, xs, rfl, by rw [hK]; exact z1, by rw [hK]; exact p m1 H1 _ R1 e1 (wlk_enum hn)⟩
      · cases h4
end
end Ip

/-! IpSnd7: targets, comprehensions. Written by an AI agent. -/
namespace Ip
open PySem PySem.Spec PyProof.Rows L2

/-! ### a heap whose things that stand are kept -/
section
variable {K : PySem.W.Frag} {C : Cf} {m m0 : List Addr} {S S0 : Store} {H H' H0 : Hp} {fn : Nat → Str}
def Imm (H H' : Hp) : Prop := ∀ a o, H a = some o → isM o = false → H' a = some o
theorem Imm.sqT (e : Imm H H') {a : Addr} {xs : List V} (h : SqT K H a xs) : SqT K H' a xs := by
  rcases h with (h | ⟨o, h⟩) | h
  · exact .inl (.inl (e _ _ h rfl))
  · exact .inl (.inr ⟨o, e _ _ h rfl⟩)
  · exact .inr h
mutual
theorem RW.imm (e : Imm H H') : ∀ {w : W} {v : V}, RW K m H w v → RW K m H' w v
  | _, _, .non => .non
  | _, _, .bl b => .bl b
  | _, _, .int i => .int i
  | _, _, .str x => .str x
  | _, _, .tup h r => .tup (e.sqT h) (RWs.imm e r)
  | _, _, .loc h => .loc h
theorem RWs.imm (e : Imm H H') : ∀ {w : List W} {v : List V}, RWs K m H w v → RWs K m H' w v
  | _, _, .nil => .nil
  | _, _, .cons h r => .cons (RW.imm e h) (RWs.imm e r)
end
theorem RF.imm (e : Imm H H') : ∀ {fs : List (Nat × W)} {ys : List (Str × V)}, RF K fn m H fs ys → RF K fn m H' fs ys
  | _, _, .nil => .nil
  | _, _, .cons h r => .cons (h.imm e) (RF.imm e r)
theorem RD.imm (e : Imm H H') : ∀ {fs : List (Key × W)} {ys : List (Key × V)}, RD K m H fs ys → RD K m H' fs ys
  | _, _, .nil => .nil
  | _, _, .cons h r => .cons (h.imm e) (RD.imm e r)
theorem RC.imm (e : Imm H H') {a : Addr} (same : ∀ o, isM o = true → H a = some o → H' a = some o) : ∀ {c : Cell}, c.mut = true → RC C m H a c → RC C m H' a c
  | .lst _, _, ⟨xs, h1, h2⟩ => ⟨xs, same _ rfl h1, h2.imm e⟩
  | .dct _, _, ⟨ys, h1, h2⟩ => ⟨ys, same _ rfl h1, h2.imm e⟩
  | .ins _ _, _, ⟨dx, ys, h1, h2⟩ => ⟨dx, ys, same _ rfl h1, h2.imm e⟩
theorem RC.immF (e : Imm H H') {a : Addr} : ∀ {c : Cell}, c.mut = false → RC C m H a c → RC C m H' a c
  | .fro _, _, ⟨xs, h1, h2⟩ => ⟨xs, h1.imp (fun ⟨o, z⟩ => ⟨o, e _ _ z rfl⟩) id, h2.imm e⟩
  | .exn _ _, _, ⟨d, h1, hc, h2⟩ => ⟨d, h1, hc, h2.imp id fun ⟨dd, ys, z1, z2, z3, z4⟩ => ⟨dd, ys, z1, e _ _ z2 rfl, z3.imm e, z4⟩⟩
  | .dead, _, _ => trivial
/-- a list beside the cells is written -/
theorem imm_touch {D : Addr} {l : List V} {o : HO} (h : H D = some (.lst l)) : Imm H (upd H D o) := fun a u hu hm => by
  have ne : a ≠ D := fun z => by
    subst z
    rw [h] at hu
    have e := Option.some.inj hu
    subst e
    cases hm
  rw [upd_ne ne]
  exact hu
theorem RelH.touch (R : RelH C m S H) {D : Addr} {l : List V} {o : HO} (h : H D = some (.lst l)) (hn : ¬ MA m S D) : RelH C m S (upd H D o) := by
  refine ⟨R.len, fun n a c h1 h2 => ?_, R.dis, R.exs⟩
  have r := R.cell n a c h1 h2
  cases hm : c.mut with
  | false => exact r.immF (imm_touch h) hm
  | true =>
    refine r.imm (imm_touch h) (fun u _ hu => ?_) hm
    have ne : a ≠ D := fun z => by
      subst z
      exact hn ⟨n, c, h1, h2, hm⟩
    rw [upd_ne ne]
    exact hu
theorem ext_touch (e : Ext m0 S0 H0 m S H) {D : Addr} {o : HO} (h0 : H0 D = none) : Ext m0 S0 H0 m S (upd H D o) := ⟨e.pre, fun a u h k => by
  obtain ⟨h1, h2⟩ := e.keep a u h k
  exact ⟨by rw [upd_ne (ne_of_none h h0)]; exact h1, h2⟩⟩
/-- it is taken in as a cell -/
theorem ext_adopt {D : Addr} {c : Cell} (hl : m.length = S.length) (e : Ext m0 S0 H0 m S H) (h0 : H0 D = none) : Ext m0 S0 H0 (m ++ [D]) (S ++ [c]) H := by
  obtain ⟨r, hr⟩ := e.pre
  refine ⟨⟨r ++ [D], by rw [hr, List.append_assoc]⟩, fun a u h k => ?_⟩
  obtain ⟨h1, h2⟩ := e.keep a u h k
  refine ⟨h1, fun hu z => ?_⟩
  obtain ⟨n, d, q1, q2, q3⟩ := z
  by_cases hn : n < m.length
  · rw [List.getElem?_append_left hn] at q1
    rw [List.getElem?_append_left (by rw [← hl]; exact hn)] at q2
    exact h2 hu ⟨n, d, q1, q2, q3⟩
  · rw [List.getElem?_append_right (by omega)] at q1
    have : n - m.length = 0 := by
      by_cases z : n - m.length = 0
      · exact z
      · rw [List.getElem?_eq_none (by simp; omega)] at q1
        cases q1
    rw [this] at q1
    have e1 : D = a := Option.some.inj q1
    subst e1
    rw [h0] at h
    cases h
theorem RelH.adopt (R : RelH C m S H) {D : Addr} {l : List V} {ws : List W} (h : H D = some (.lst l)) (hn : ¬ MA m S D) (r : RWs C.K m H ws l) : RelH C (m ++ [D]) (S ++ [.lst ws]) H ∧ RW C.K (m ++ [D]) H (.loc S.length) (.ref D) := by
  have old : ∀ {n : Nat}, n < S.length → (m ++ [D])[n]? = m[n]? ∧ (S ++ [Cell.lst ws])[n]? = S[n]? := fun {n} h => ⟨List.getElem?_append_left (by rw [R.len]; exact h), List.getElem?_append_left h⟩
  have last : ∀ {n : Nat} {d : Cell}, ¬ n < S.length → (S ++ [Cell.lst ws])[n]? = some d → n = S.length ∧ d = .lst ws := fun {n d} h q => by
    rw [List.getElem?_append_right (by omega)] at q
    have z : n - S.length = 0 := by
      by_cases z : n - S.length = 0
      · exact z
      · rw [List.getElem?_eq_none (by simp; omega)] at q
        cases q
    rw [z] at q
    exact ⟨by omega, (Option.some.inj q).symm⟩
  have lastm : (m ++ [D])[S.length]? = some D := by rw [← R.len]; simp
  have e : Ext m S H (m ++ [D]) (S ++ [Cell.lst ws]) H ∨ True := .inr trivial
  -- places stay
  have mono : ∀ {ws : List W} {l : List V}, RWs C.K m H ws l → RWs C.K (m ++ [D]) H ws l := fun {ws l} r => by
    have e0 : Ext m ([] : Store) H (m ++ [D]) ([] : Store) H := ⟨⟨[D], rfl⟩, fun a o h k => ⟨h, fun _ z => by
      obtain ⟨n, c, _, q, _⟩ := z
      simp at q⟩⟩
    exact r.mono e0
  have e0 : Ext m ([] : Store) H (m ++ [D]) ([] : Store) H := ⟨⟨[D], rfl⟩, fun a o h k => ⟨h, fun _ z => by
    obtain ⟨n, c, _, q, _⟩ := z
    simp at q⟩⟩
  refine ⟨⟨by rw [List.length_append, List.length_append, R.len]; rfl, fun n a d h1 h2 => ?_, fun n k a d f h1 h2 h3 h4 h5 h6 => ?_, fun n c' fs h => ?_⟩, .loc lastm⟩
  · by_cases hn : n < S.length
    · rw [(old hn).1] at h1
      rw [(old hn).2] at h2
      exact RC.mono e0 (fun _ u h _ => h) (R.cell n a d h1 h2)
    · obtain ⟨en, ed⟩ := last hn h2
      subst ed
      rw [en, lastm] at h1
      have e1 : D = a := Option.some.inj h1
      subst e1
      exact ⟨l, h, mono r⟩
  · have key : ∀ {n k : Nat} {d f : Cell}, n < S.length → ¬ k < S.length → (m ++ [D])[n]? = some a → (m ++ [D])[k]? = some a → (S ++ [Cell.lst ws])[n]? = some d → (S ++ [Cell.lst ws])[k]? = some f → d.mut = true → False := fun {n k d f} hn' hk h1 h2 h3 h4 h5 => by
      rw [(old hn').1] at h1
      rw [(old hn').2] at h3
      obtain ⟨ek, _⟩ := last hk h4
      rw [ek, lastm] at h2
      have e1 : D = a := Option.some.inj h2
      subst e1
      exact hn ⟨n, d, h1, h3, h5⟩
    by_cases hn' : n < S.length
    · by_cases hk : k < S.length
      · rw [(old hn').1] at h1
        rw [(old hk).1] at h2
        rw [(old hn').2] at h3
        rw [(old hk).2] at h4
        exact R.dis n k a d f h1 h2 h3 h4 h5 h6
      · exact (key hn' hk h1 h2 h3 h4 h5).elim
    · by_cases hk : k < S.length
      · exact (key hk hn' h2 h1 h4 h3 h6).elim
      · exact ((last hn' h3).1).trans ((last hk h4).1).symm
  · by_cases hn : n < S.length
    · rw [(old hn).2] at h
      exact R.exs n c' fs h
    · obtain ⟨_, ed⟩ := last hn h
      cases ed
end

/-! ### targets -/
def gT (K : PySem.W.Frag) : List Nat → TG
  | [i] => gName i
  | [i, j] => gTup K 2 (gCons (gName i) (gCons (gName j) gNil))
  | [i, j, k] => gTup K 3 (gCons (gName i) (gCons (gName j) (gCons (gName k) gNil)))
  | [i, j, k, l] => gTup K 4 (gCons (gName i) (gCons (gName j) (gCons (gName k) (gCons (gName l) gNil))))
  | _ => fun _ _ _ _ => False
/-- all but some slots -/
def RstX (K : PySem.W.Frag) (m : List Addr) (H : Hp) (vs : List Nat) (ρ : Env) (σ : L2.St) : Prop := ρ.length = σ.length ∧ ∀ (i : Nat) (w : W), i ∉ vs → ρ[i]? = some (some w) → ∃ v, σ[i]? = some (some v) ∧ RW K m H w v
theorem wipe_get {σ : L2.St} {i : Nat} : ∀ {vs : List Nat}, i ∉ vs → (wipe σ vs)[i]? = σ[i]?
  | [], _ => rfl
  | v :: vs, h => by
    unfold wipe
    rw [List.mem_cons, not_or] at h
    rw [List.getElem?_set_ne (fun e => h.1 e.symm)]
    exact wipe_get h.2
theorem wipe_in {σ : L2.St} {i : Nat} : ∀ {vs : List Nat}, i ∈ vs → i < σ.length → (wipe σ vs)[i]? = some none
  | v :: vs, h, hl => by
    unfold wipe
    by_cases hv : v = i
    · subst hv
      rw [List.getElem?_set_self (by rw [wipe_length]; exact hl)]
    · rw [List.getElem?_set_ne hv]
      rcases List.mem_cons.mp h with e | h
      · exact absurd e.symm hv
      · exact wipe_in h hl
theorem wipe_same {σ τ : L2.St} {vs : List Nat} (hl : σ.length = τ.length) (h : ∀ i, i ∉ vs → σ[i]? = τ[i]?) : wipe σ vs = wipe τ vs := by
  apply List.ext_getElem?
  intro i
  by_cases hi : i ∈ vs
  · by_cases hk : i < σ.length
    · rw [wipe_in hi hk, wipe_in hi (by rw [← hl]; exact hk)]
    · rw [List.getElem?_eq_none (by rw [wipe_length]; omega), List.getElem?_eq_none (by rw [wipe_length]; omega)]
  · rw [wipe_get hi, wipe_get hi]
    exact h i hi
section
variable {C : Cf} {m m' : List Addr} {S S' : Store} {H H' : Hp} {ρ ρ1 : Env} {σ : L2.St}
theorem Rst.x (r : Rst C.K m H ρ σ) {vs : List Nat} : RstX C.K m H vs ρ σ := ⟨r.1, fun i w _ h => r.2 i w h⟩
theorem RstX.all (r : RstX C.K m H [] ρ σ) : Rst C.K m H ρ σ := ⟨r.1, fun i w h => r.2 i w (by simp) h⟩
theorem Rst.wiped (r : Rst C.K m H ρ σ) {vs : List Nat} : RstX C.K m H vs ρ (wipe σ vs) := ⟨by rw [wipe_length]; exact r.1, fun i w hi h => by rw [wipe_get hi]; exact r.2 i w h⟩
theorem RstX.mono {vs : List Nat} (e : Ext m S H m' S' H') (r : RstX C.K m H vs ρ σ) : RstX C.K m' H' vs ρ σ := ⟨r.1, fun i w hi h => by
  obtain ⟨v, h1, h2⟩ := r.2 i w hi h
  exact ⟨v, h1, h2.mono e⟩⟩
theorem RstX.set {w : W} {v : V} {i : Nat} {vs : List Nat} (r : RstX C.K m H (i :: vs) ρ σ) (h : RW C.K m H w v) : RstX C.K m H vs (ρ.set i (some w)) (σ.set i (some v)) := by
  refine ⟨by rw [List.length_set, List.length_set]; exact r.1, fun j u hj hu => ?_⟩
  by_cases hj' : i = j
  · subst hj'
    by_cases hl : i < ρ.length
    · rw [List.getElem?_set_self hl] at hu
      have e : w = u := Option.some.inj (Option.some.inj hu)
      subst e
      exact ⟨v, List.getElem?_set_self (by rw [← r.1]; exact hl), h⟩
    · rw [List.getElem?_eq_none (by rw [List.length_set]; omega)] at hu
      cases hu
  · rw [List.getElem?_set_ne hj'] at hu
    obtain ⟨x, h1, h2⟩ := r.2 j u (by rw [List.mem_cons, not_or]; exact ⟨fun e => hj' e.symm, hj⟩) hu
    exact ⟨x, by rw [List.getElem?_set_ne hj']; exact h1, h2⟩
/-- a target is set -/
theorem gT_set {tg : List Nat} {w : W} {v : V} {Q : L2.St → Hp → Prop} (h : setT tg w ρ = some ρ1) (r : RstX C.K m H tg ρ σ) (rv : RW C.K m H w v)
    (hq : ∀ σ', Rst C.K m H ρ1 σ' → σ'.length = σ.length → (∀ i, i ∉ tg → σ'[i]? = σ[i]?) → Q σ' H) : gT C.K tg v σ H Q := by
  unfold setT at h
  split at h
  · rename_i i w'
    have e := Option.some.inj h
    subst e
    refine hq _ (r.set rv).all (by rw [List.length_set]) fun k hk => ?_
    rw [List.getElem?_set_ne (fun e => hk (by rw [e]; simp))]
  · rename_i i j a b
    have e := Option.some.inj h
    subst e
    cases rv with
    | tup h1 h2 =>
      cases h2 with
      | cons ra h2 =>
        cases h2 with
        | cons rb h2 =>
          cases h2
          refine ⟨_, _, rfl, h1, rfl, _, _, rfl, _, _, rfl, rfl, ?_⟩
          refine hq _ ((r.set ra).set rb).all (by rw [List.length_set, List.length_set]) fun k hk => ?_
          rw [List.getElem?_set_ne (fun e => hk (by rw [e]; simp)), List.getElem?_set_ne (fun e => hk (by rw [e]; simp))]
  · rename_i i j k a b c
    have e := Option.some.inj h
    subst e
    cases rv with
    | tup h1 h2 =>
      cases h2 with
      | cons ra h2 =>
        cases h2 with
        | cons rb h2 =>
          cases h2 with
          | cons rc h2 =>
            cases h2
            refine ⟨_, _, rfl, h1, rfl, _, _, rfl, _, _, rfl, _, _, rfl, rfl, ?_⟩
            refine hq _ (((r.set ra).set rb).set rc).all (by rw [List.length_set, List.length_set, List.length_set]) fun k hk => ?_
            rw [List.getElem?_set_ne (fun e => hk (by rw [e]; simp)), List.getElem?_set_ne (fun e => hk (by rw [e]; simp)), List.getElem?_set_ne (fun e => hk (by rw [e]; simp))]
  · rename_i i j k l a b c d
    have e := Option.some.inj h
    subst e
    cases rv with
    | tup h1 h2 =>
      cases h2 with
      | cons ra h2 =>
        cases h2 with
        | cons rb h2 =>
          cases h2 with
          | cons rc h2 =>
            cases h2 with
            | cons rd h2 =>
              cases h2
              refine ⟨_, _, rfl, h1, rfl, _, _, rfl, _, _, rfl, _, _, rfl, _, _, rfl, rfl, ?_⟩
              refine hq _ ((((r.set ra).set rb).set rc).set rd).all (by rw [List.length_set, List.length_set, List.length_set, List.length_set]) fun k hk => ?_
              rw [List.getElem?_set_ne (fun e => hk (by rw [e]; simp)), List.getElem?_set_ne (fun e => hk (by rw [e]; simp)), List.getElem?_set_ne (fun e => hk (by rw [e]; simp)), List.getElem?_set_ne (fun e => hk (by rw [e]; simp))]
  · cases h
end

/-! ### the tests of a comprehension -/
def W0 : WX := fun _ _ _ _ => False
def rdTs (C : Cf) (Γ : Gam) (Wx : WX) (es : List Ex) : TT := fun σ H Q => ∃ m ρ S r, At C m S H ρ σ ∧ evAll Γ es ρ S = some r ∧ PG EqB C Wx m S H σ r Q
section
variable {C : Cf} {Γ : Gam} {Wx : WX} {K : Ck} {hot : Bool} {X : Cx} {a b c d : Ex} {x y z t : Expr} {es : List Ex} {ys : List Expr} {pos p ap p2 : Pos}
theorem pts_imp {u u' : TT} (h : PTs X ys u) (i : ∀ σ H Q, u' σ H Q → u σ H Q) : PTs X ys u' := ⟨fun pins s σ H Q I q => h.run pins s σ H Q I (i σ H Q q)⟩
theorem ts_nil : PTs X [] (rdTs C Γ Wx []) := pts_imp pts_nil fun σ H Q ⟨m, ρ, S, r, A, h, p⟩ => by
  unfold evAll at h
  exact p.rokB h A.h
theorem ts_one (h : PT X x (rdT C Γ Wx a)) : PTs X [x] (rdTs C Γ Wx [a]) := pts_imp (pts_one h) fun σ H Q ⟨m, ρ, S, r, A, h, p⟩ => by
  unfold evAll at h
  refine rd_stepT A h p fun w S1 m1 H1 h1 A1 _ p1 => ?_
  cases w with
  | true =>
    unfold evAll at h1
    exact p1.rokB h1 A1.h
  | false => exact p1.rokB h1 A1.h
theorem lc_rd {tg : List Nat} {k : Ik} {ifs : List Ex} {elt : Ex} {σ : L2.St} {H : Hp} {Q : VK} (h : rdE C Γ Wx (.lc elt tg k es ifs) σ H Q) :
    tLc (rdI C Γ Wx k es) (gT C.K tg) (rdTs C Γ W0 ifs) (rdE C Γ W0 elt) tg σ H Q := by
  obtain ⟨m, ρ, S, r, A, h, p⟩ := h
  unfold ev at h
  cases he : evs Γ es ρ S with
  | none => rw [he] at h; cases h
  | some r1 =>
    obtain ⟨r1, S1⟩ := r1
    rw [he] at h
    cases r1 with
    | ex x =>
      have e := Option.some.inj h
      subst e
      exact ⟨m, ρ, S, _, A, he, p⟩
    | ok ws =>
      rw [bnd_ok] at h
      refine ⟨m, ρ, S, _, A, he, ?_⟩
      cases hs : srcOf k S1 ws with
      | none => rw [hs] at h; cases h
      | some src =>
        refine ⟨src, hs, fun m1 H1 J R1 e1 wlk D hD => ?_⟩
        rw [hs] at h
        dsimp only at h
        generalize hG : (fun (w : W) (S2 : Store) => (match setT tg w ρ with
          | none => none
          | some ρ1 => bnd (evAll Γ ifs ρ1 S2) fun b S3 => match b with
            | true => bnd (ev Γ elt ρ1 S3) fun y S4 => rok (some y) S4
            | false => rok none S3 : R (Option W))) = G at h
        cases hl : lcL G src big 0 S1 with
        | none => rw [hl] at h; cases h
        | some z =>
          obtain ⟨tot, Sf⟩ := z
          rw [hl] at h
          dsimp only at h
          split at h
          case isFalse => cases h
          rename_i hlen
          have er := Option.some.inj h
          subst er
          have b0 := R1.beside (o := .lst []) hD
          refine ⟨fun i n H' => ∃ m2 S2 acc accV ys, RelH C m2 S2 H' ∧ Ext m1 S1 H1 m2 S2 H' ∧ H' D = some (.lst accV) ∧ ¬ MA m2 S2 D ∧ RWs C.K m2 H' acc accV ∧ lcL G src n i S2 = some (ys, Sf) ∧ acc ++ ys = tot, ⟨big, m1, S1, [], [], tot, b0.1, b0.2.1, upd_same, b0.2.2, .nil, hl, rfl⟩, ?_⟩
          rintro i n H2 ⟨m2, S2, acc, accV, ys, R2, e2, hD2, nD2, ra2, l2, et⟩
          cases n with
          | zero => unfold lcL at l2; cases l2
          | succ n =>
            unfold lcL at l2
            have wk := wlk m2 S2 H2 R2 e2 i
            split at l2
            · cases l2
            · rename_i hat
              have ez := Option.some.inj l2
              cases ez
              refine .inl ⟨wk.2 hat, ?_⟩
              rw [List.append_nil] at et
              subst et
              obtain ⟨R3, rv⟩ := R2.adopt hD2 nD2 ra2
              exact p _ _ _ R3 (e1.trans (ext_adopt R2.len e2 hD)) rv
            · rename_i w hat
              refine .inr ⟨(wk.1 w hat).1, fun H' => ∃ m2 S2 acc accV ys, RelH C m2 S2 H' ∧ Ext m1 S1 H1 m2 S2 H' ∧ H' D = some (.lst accV) ∧ ¬ MA m2 S2 D ∧ RWs C.K m2 H' acc accV ∧ lcL G src n (i + 1) S2 = some (ys, Sf) ∧ acc ++ ys = tot, fun H' q => ⟨n, Nat.lt_succ_self _, q⟩, fun x H3 y => ?_⟩
              obtain ⟨R3, e3, rx⟩ := (wk.1 w hat).2 x H3 y
              obtain ⟨hD3, nD3⟩ := e3.keep D _ hD2 (fun _ => nD2)
              have e13 := e2.trans e3
              split at l2
              case h_2 => cases l2
              rename_i o S4 hg
              rw [← hG] at hg
              dsimp only at hg
              cases ht : setT tg w ρ with
              | none => rw [ht] at hg; cases hg
              | some ρ1 =>
                rw [ht] at hg
                dsimp only at hg
                refine gT_set ht ((A.s.mono (e1.trans e13)).wiped) rx fun σ' r' hl' hk' => ⟨?_, ?_⟩
                · refine (wipe_same (by rw [hl', wipe_length]) fun k hk => ?_).trans rfl
                  rw [hk' k hk, wipe_get hk]
                obtain ⟨b, S5, hb, hg⟩ := bnd_some hg
                refine ⟨m2, ρ1, S2, _, ⟨R3, r'⟩, hb, fun m5 H5 b' R5 e5 eb => ?_⟩
                have eb' : b = b' := eb
                subst eb'
                obtain ⟨hD5, nD5⟩ := e5.keep D _ hD3 (fun _ => nD3 rfl)
                cases b with
                | false =>
                  dsimp only at hg
                  have ez := Option.some.inj hg
                  cases ez
                  refine iteF ?_
                  split at l2
                  case h_2 => cases l2
                  rename_i ys' S6 hn
                  have ez := Option.some.inj l2
                  cases ez
                  exact ⟨m5, _, acc, accV, ys', R5, e13.trans e5, hD5, nD5 rfl, ra2.mono (e3.trans e5), hn, et⟩
                | true =>
                  refine iteT ?_
                  obtain ⟨yv, S6, hy, hg⟩ := bnd_some hg
                  have ez := Option.some.inj hg
                  cases ez
                  split at l2
                  case h_2 => cases l2
                  rename_i ys' S7 hn
                  have ez := Option.some.inj l2
                  cases ez
                  refine ⟨m5, ρ1, S5, _, ⟨R5, r'.mono e5⟩, hy, fun m6 H6 v R6 e6 rv => ?_⟩
                  obtain ⟨hD6, nD6⟩ := e6.keep D _ hD5 (fun _ => nD5 rfl)
                  have e63 := (e3.trans e5).trans e6
                  have tot1 : acc.length + 1 + ys'.length = tot.length := by
                    rw [← et]
                    simp
                    omega
                  refine ⟨accV, hD6, ?_, m6, _, acc ++ [yv], accV ++ [v], ys', R6.touch hD6 (nD6 rfl), ext_touch ((e13.trans e5).trans e6) hD, upd_same, nD6 rfl, ?_, hn, by rw [← et]; simp⟩
                  · have : accV.length + 1 ≤ sizeLine := sl_le (by rw [← ra2.length]; omega)
                    omega
                  · exact ((ra2.mono e63).append (.cons rv .nil)).imm (imm_touch hD6)
/-! ### the block -/
def Ck.blk (K : Ck) (scope : Scope) : Ck := { K with sc := relS scope K.sc, fnc := fun x => scope.names.lookup x == some .cell }
theorem Good.blk {scope : Scope} (G : Good C Γ K false X) (hk : scope.kind = .function) (s : Shared) (H : Hp) (D : Addr) (cl : List (Str × Addr)) (fp : List Addr) : Good C Γ (K.blk scope) false (X.blk s H scope (compEnvC scope cl D X.env) fp) := by
  have no : ∀ a c d, ¬ C.xi a c d := G.xno rfl
  refine ⟨G.hK, G.hN, ?_, G.hnd, G.hu, G.calm, .inl (G.calm rfl), hk, G.bn, G.glob, ?_, G.cls, G.inj, G.kt, G.xk, G.call, G.meth, G.make, G.xno, G.xnn, G.fld, G.xcc, G.flx, G.xup, fun x hx => hx, fun Wx y e n p x hp hb hn => ?_⟩
  · show relS scope X.env.scope = relS scope K.sc
    rw [G.hsc]
  · intro pins s' σ H' xs us Q I r h
    rcases h with h | ⟨a, c, t, b, _, z, _, _⟩
    · rw [← G.hK] at h
      exact call_isi (X := X.blk s H scope (compEnvC scope cl D X.env) fp) pins s' σ H' xs us Q I r h
    · exact absurd z (no _ _ _)
  · refine pe_imp (pe_fld hp (sup_base hb)) fun σ H Q ⟨m, ρ, S, r, A, h, p⟩ => ⟨m, ρ, S, r, A, h, ?_⟩
    obtain ⟨r, S'⟩ := r
    cases r with
    | ex x => exact p
    | ok w =>
      intro m' H' v R e rv
      obtain ⟨a, c, d, _, _, _, _, z, _⟩ := p m' H' v R e rv
      exact absurd z (no _ _ _)
theorem s_lc {tg : List Nat} {k : Ik} {ifs : List Ex} {elt : Ex} {pelt ptg piter : Expr} {pifs : List Expr} {scope : Scope} {own : List (Str × Nat)} (G : Good C Γ K false X) (hi : PI X ptg piter (rdI C Γ Wx k es)) (ok : BlkOk X.N X.env.scope scope own) (ho : own.map (·.2) = tg)
    (hg : ∀ (s : Shared) (H : Hp) (D : Addr) (cl : List (Str × Addr)) (fp : List Addr), L2.PG (X.blk s H scope (compEnvC scope cl D X.env) fp) ptg (gT C.K tg)) (ht : ∀ (s : Shared) (H : Hp) (D : Addr) (cl : List (Str × Addr)) (fp : List Addr), PTs (X.blk s H scope (compEnvC scope cl D X.env) fp) pifs (rdTs C Γ W0 ifs))
    (he : ∀ (s : Shared) (H : Hp) (D : Addr) (cl : List (Str × Addr)) (fp : List Addr), PE (X.blk s H scope (compEnvC scope cl D X.env) fp) pelt (rdE C Γ W0 elt)) (hs : ∀ x, foldedSetIterable piter X.env x = pure x) :
    PE X (.ListComp pelt [⟨ptg, piter, pifs, 0⟩] scope pos) (rdE C Γ Wx (.lc elt tg k es ifs)) := by
  refine pe_imp (pe_lc (G.calm rfl) G.hnd hi ok hg ht he hs) fun σ H Q h => ?_
  rw [ho]
  exact lc_rd h
end
end Ip

/-! IpChk: the check of expressions, and that it is enough. Written by an AI agent. -/
namespace Ip
open PySem PySem.Spec PyProof.Rows L2
def noIte : Expr → Bool
  | .IfExp _ _ _ _ => false
  | _ => true
def locB (K : Ck) (n : Str) : Bool := match K.sc.names.lookup n with
  | some .local => true
  | some .cell => K.fnc n
  | _ => false
def nmB (K : Ck) (i : Nat) (n : Str) : Bool := decide (K.N[i]? = some n) && locB K n
/-- a target -/
def chkTg (K : Ck) : List Nat → Expr → Bool
  | [i], .Name n _ => nmB K i n
  | [i, j], .Tuple [.Name n _, .Name n2 _] _ _ => nmB K i n && nmB K j n2
  | [i, j, k], .Tuple [.Name n _, .Name n2 _, .Name n3 _] _ _ => nmB K i n && nmB K j n2 && nmB K k n3
  | [i, j, k, l], .Tuple [.Name n _, .Name n2 _, .Name n3 _, .Name n4 _] _ _ => nmB K i n && nmB K j n2 && nmB K k n3 && nmB K l n4
  | _, _ => false
/-- what is walked: its arguments -/
def itArgs (sc : Scope) (k : Ik) (ptg : Expr) (e : Expr) : Option (List Expr) := match k with
  | .val => some [e]
  | .range1 => match e with
    | .Call (.Name n _) [x] [] _ => if n = "range" ∧ glB sc n = true then some [x] else none
    | _ => none
  | .range2 => match e with
    | .Call (.Name n _) [x, y] [] _ => if n = "range" ∧ glB sc n = true then some [x, y] else none
    | _ => none
  | .enum => match ptg, e with
    | .Tuple _ _ _, .Call (.Name n _) [x] [] _ => if n = "enumerate" ∧ glB sc n = true then some [x] else none
    | _, _ => none
def bmAr (m : Bm) (n : Nat) : Bool := match m with
  | .get => false
  | .clear => n == 0
  | _ => n != 0
def ownOf (N : List Str) (tg : List Nat) : List (Str × Nat) := tg.map fun i => ((N[i]?).getD "", i)
mutual
def chkE (h : Bool) (K : Ck) : Ex → Expr → Bool
  | .var i, x => (match x with
    | .Name n _ => decide (K.N[i]? = some n) && visB K.sc n && okName n
    | _ => false)
  | .int i, x => (match x with
    | .Constant (.int j) _ _ => decide (i = j)
    | _ => false)
  | .str i, x => (match x with
    | .Constant (.str j) _ _ => decide (i = j)
    | _ => false)
  | .bl i, x => (match x with
    | .Constant (.bool j) _ _ => decide (i = j)
    | _ => false)
  | .non, x => (match x with
    | .Constant .none _ _ => true
    | _ => false)
  | .glob g, x => (match x with
    | .Name n _ => decide (K.gnm[g]? = some n) && glB K.sc n
    | _ => false)
  | .bin op a b, x => (match x with
    | .BinOp x o y _ => op2Eq op o && chkE h K a x && chkE h K b y
    | _ => false)
  | .neg a, x => (match x with
    | .UnaryOp .USub x _ => chkE h K a x
    | _ => false)
  | .cmp op a b, x => (match x with
    | .Compare x [o] [y] _ => cmEq op o && noSet y && chkE h K a x && chkE h K b y
    | _ => false)
  | .chn o1 o2 a b c, x => (match x with
    | .Compare x [p1, p2] [y, z] _ => cmEq o1 p1 && cmEq o2 p2 && noSet y && noSet z && chkE h K a x && chkE h K b y && chkE h K c z
    | _ => false)
  | .chn3 o1 o2 o3 a b c d, x => (match x with
    | .Compare x [p1, p2, p3] [y, z, t] _ => cmEq o1 p1 && cmEq o2 p2 && cmEq o3 p3 && noSet y && noSet z && noSet t && chkE h K a x && chkE h K b y && chkE h K c z && chkE h K d t
    | _ => false)
  | .and es, x => (match x with
    | .BoolOp .And ys _ => !es.isEmpty && chkTs h K es ys
    | _ => false)
  | .or es, x => (match x with
    | .BoolOp .Or ys _ => !es.isEmpty && chkTs h K es ys
    | _ => false)
  | .not a, x => (match x with
    | .UnaryOp .Not x _ => noIte x && chkE h K a x
    | _ => false)
  | .ite c a b, x => (match x with
    | .IfExp z x y _ => noIte z && chkE h K c z && chkE h K a x && chkE h K b y
    | _ => false)
  | .tup es, x => (match x with
    | .Tuple ys _ _ => decide (es.length ≤ 16777216) && chkEs h K es ys
    | _ => false)
  | .lst es, x => (match x with
    | .List ys _ => decide (es.length ≤ 16777216) && chkEs h K es ys
    | _ => false)
  | .idx a i, x => (match x with
    | .Subscript x y _ => noSlc y && chkE h K a x && chkE h K i y
    | _ => false)
  | .slc a lo hi, x => (match x with
    | .Subscript x (.Slice l u Option.none _) _ => chkE h K a x && chkEs h K lo l.toList && chkEs h K hi u.toList
    | _ => false)
  | .call f es, x => (match x with
    | .Call (.Name n _) ys [] _ => !h && decide (K.fnm[f]? = some (some n)) && glB K.sc n && !es.isEmpty && chkEs h K es ys
    | _ => false)
  | .mk c es, x => (match x with
    | .Call (.Name n _) ys [] _ => !h && decide (K.cnm[c]? = some n) && decide (c ∈ K.mks) && glB K.sc n && chkEs h K es ys
    | _ => false)
  | .bif b es, x => (match x with
    | .Call (.Name n _) ys [] _ => (!h || bfHot b) && decide (n = bfNm b) && glB K.sc n && !es.isEmpty && chkEs h K es ys
    | _ => false)
  | .isi a t, x => (match x with
    | .Call (.Name f _) [y, .Name n _] [] _ => decide (f = "isinstance") && glB K.sc f && decide (isaNm K.cnm t = some n) && glB K.sc n && noStar y && chkE h K a y
    | _ => false)
  | .bm o m es, x => (match x with
    | .Call (.Attribute x n ap) ys [] p => decide (n = bmNm m) && noSup x && (ap.endLine == p.line) && decide (ys.length < 30) && bmAr m es.length && chkE h K o x && chkEs h K es ys
    | _ => false)
  | .meth o m es, x => (match x with
    | .Call (.Attribute x n ap) ys [] p => !h && decide (K.mnm[m]? = some n) && noSup x && (ap.endLine == p.line) && decide (ys.length < 30) && chkE h K o x && chkEs h K es ys
    | _ => false)
  | .fld o f, x => (match x with
    | .Attribute y n _ => decide (K.mnm[f]? = some n) && noSup y && chkE h K o y
    | _ => false)
  | .lc elt tg k es ifs, x => (match x with
    | .ListComp pelt [⟨ptg, piter, pifs, 0⟩] scope _ => !h && blkC K.N K.sc scope (ownOf K.N tg) && noSet piter && chkTg (K.blk scope) tg ptg && decide (ifs.length ≤ 1) && (match itArgs K.sc k ptg piter with
      | some args => decide (es.length = args.length) && chkEs h K es args
      | none => false) && chkTs false (K.blk scope) ifs pifs && chkE false (K.blk scope) elt pelt
    | _ => false)
def chkEs (h : Bool) (K : Ck) : List Ex → List Expr → Bool
  | [], ys => ys.isEmpty
  | e :: es, ys => (match ys with
    | y :: ys => chkE h K e y && noStar y && noSet y && chkEs h K es ys
    | [] => false)
def chkTs (h : Bool) (K : Ck) : List Ex → List Expr → Bool
  | [], ys => ys.isEmpty
  | e :: es, ys => (match ys with
    | y :: ys => chkE h K e y && noIte y && chkTs h K es ys
    | [] => false)
end
section
variable {C : Cf} {Γ : Gam} {Wx : WX} {K : Ck} {hot : Bool} {X : Cx} {n : Str} {i : Nat}
theorem vis_ok (G : Good C Γ K hot X) (h : visB K.sc n = true) : Vis X.env.scope n := by
  rw [G.hsc]
  unfold visB at h
  split at h
  · rename_i e; exact .inl e
  · rename_i e; exact .inr (.inl e)
  · rename_i e; exact .inr (.inr e)
  · cases h
theorem okn_ok (h : okName n = true) : (n == ("__debug__" : Str)) = false ∧ (n == ("__classdict__" : Str)) = false := by
  unfold okName at h
  have := ba h
  exact ⟨by simpa using this.1, by simpa using this.2⟩
theorem gl_ok (G : Good C Γ K hot X) (h : glB K.sc n = true) : Gl X n ∧ (n == ("__debug__" : Str)) = false := by
  unfold glB at h
  have h := ba h
  refine ⟨?_, (okn_ok h.2).1⟩
  show X.env.scope.names.lookup n = _
  rw [G.hsc]
  exact of_decide_eq_true h.1
theorem loc_ok (G : Good C Γ K hot X) (h : locB K n = true) : Loc X.env.scope n ∧ (X.fn n = true ∨ X.env.scope.names.lookup n = some .local) := by
  rw [G.hsc]
  unfold locB at h
  split at h
  · rename_i e; exact ⟨.inl e, .inr e⟩
  · rename_i e; exact ⟨.inr e, .inl (G.fnT n h)⟩
  · cases h
theorem nm_ok (G : Good C Γ K hot X) (h : nmB K i n = true) {p : Pos} : L2.PG X (.Name n p) (gName i) := by
  unfold nmB at h
  have h := ba h
  have l := loc_ok G h.2
  exact pg_name G.hnd (by rw [G.hN]; exact of_decide_eq_true h.1) l.1 l.2
theorem tg_ok (G : Good C Γ K false X) {tg : List Nat} {t : Expr} (h : chkTg K tg t = true) : L2.PG X t (gT C.K tg) := by
  unfold chkTg at h
  split at h
  · exact nm_ok G h
  · have h := ba h
    rw [← G.hK]
    exact pg_tup (G.calm rfl) (pgs_cons (nm_ok G h.1) (pgs_cons (nm_ok G h.2) pgs_nil))
  · have h := ba h
    have h1 := ba h.1
    rw [← G.hK]
    exact pg_tup (G.calm rfl) (pgs_cons (nm_ok G h1.1) (pgs_cons (nm_ok G h1.2) (pgs_cons (nm_ok G h.2) pgs_nil)))
  · have h := ba h
    have h1 := ba h.1
    have h2 := ba h1.1
    rw [← G.hK]
    exact pg_tup (G.calm rfl) (pgs_cons (nm_ok G h2.1) (pgs_cons (nm_ok G h2.2) (pgs_cons (nm_ok G h1.2) (pgs_cons (nm_ok G h.2) pgs_nil))))
  · cases h
theorem fold_ok {e : Expr} (h : noSet e = true) : ∀ x, foldedSetIterable e X.env x = pure x := by
  cases e <;> first | (intro _; rfl) | cases h
theorem it_ok {k : Ik} {es : List Ex} {ptg piter : Expr} {args : List Expr} (G : Good C Γ K hot X) (h : itArgs K.sc k ptg piter = some args) (hl : es.length = args.length) (he : PEs C Γ Wx X es args) : PI X ptg piter (rdI C Γ Wx k es) := by
  unfold itArgs at h
  split at h
  · have e := Option.some.inj h
    subst e
    cases he with
    | cons h1 h2 h3 h4 =>
      cases h4
      exact i_val G.hK h1
  · split at h
    · split at h
      · rename_i q
        have e := Option.some.inj h
        subst e
        obtain ⟨q1, q2⟩ := q
        subst q1
        have h0 := he
        cases he with
        | cons h1 h2 h3 h4 =>
          cases h4
          exact i_range1 (gl_ok G q2).1 (G.bn _ (by simp [bnames])) h0
      · cases h
    · cases h
  · split at h
    · split at h
      · rename_i q
        have e := Option.some.inj h
        subst e
        obtain ⟨q1, q2⟩ := q
        subst q1
        have h0 := he
        cases he with
        | cons h1 h2 h3 h4 =>
          cases h4 with
          | cons h1 h2 h3 h4 =>
            cases h4
            exact i_range2 (gl_ok G q2).1 (G.bn _ (by simp [bnames])) h0
      · cases h
    · cases h
  · split at h
    · split at h
      · rename_i q
        have e := Option.some.inj h
        subst e
        obtain ⟨q1, q2⟩ := q
        subst q1
        have h0 := he
        cases he with
        | cons h1 h2 h3 h4 =>
          cases h4
          exact i_enum G.hK (gl_ok G q2).1 (G.bn _ (by simp [bnames])) h0
      · cases h
    · cases h
theorem own_map {N : List Str} (tg : List Nat) : (ownOf N tg).map (·.2) = tg := by
  unfold ownOf
  rw [List.map_map]
  exact List.map_id _
end
theorem ne_of_isEmpty {α : Type} {l : List α} (h : (!l.isEmpty) = true) : l ≠ [] := fun e => by subst e; cases h
theorem ntakes0 {X : Cx} : L2N.Takes X W0 := fun _ _ x => by
  obtain ⟨_, _, _, _, _, _, _, _, _, _, _, _, _, _, _, _, z⟩ := x
  exact z.elim
theorem both {C : Cf} {Γ : Gam} {Wx : WX} {X : Cx} {x : Expr} {e : Ex} (p : PE X x (rdE C Γ Wx e)) (he : ∀ whole, isTrue x X.env whole = (do let v ← whole; standAt x.pos; holding [v] (truthy v))) : PE X x (rdE C Γ Wx e) ∧ (noIte x = true → PT X x (rdT C Γ Wx e)) := ⟨p, fun _ => t_val p he⟩
theorem bfnm_in : ∀ b : Bf, bfNm b ∈ bnames := fun b => by cases b <;> decide +kernel
mutual
theorem okE (C : Cf) (Γ : Gam) : ∀ (e : Ex) (hot : Bool) (K : Ck) (X : Cx) (Wx : WX) (x : Expr), Good C Γ K hot X → (hot = false → L2N.Takes X Wx) → chkE hot K e x = true → PE X x (rdE C Γ Wx e) ∧ (noIte x = true → PT X x (rdT C Γ Wx e))
  | .var i, hot, K, X, Wx, x, G, tk, h => by
    unfold chkE at h
    split at h
    · rename_i n pos
      have h := ba h
      have h1 := ba h.1
      have o := okn_ok h.2
      exact both (s_var (pos := pos) (C := C) (Γ := Γ) (Wx := Wx) (by rw [G.hN]; exact of_decide_eq_true h1.1) (vis_ok G h1.2) o.1 o.2) fun _ => rfl
    · cases h
  | .int i, hot, K, X, Wx, x, G, tk, h => by
    unfold chkE at h
    split at h
    · have e := of_decide_eq_true h
      subst e
      exact ⟨s_int, fun _ => t_val s_int fun _ => rfl⟩
    · cases h
  | .str i, hot, K, X, Wx, x, G, tk, h => by
    unfold chkE at h
    split at h
    · have e := of_decide_eq_true h
      subst e
      exact ⟨s_str, fun _ => t_val s_str fun _ => rfl⟩
    · cases h
  | .bl i, hot, K, X, Wx, x, G, tk, h => by
    unfold chkE at h
    split at h
    · have e := of_decide_eq_true h
      subst e
      exact ⟨s_bl, fun _ => t_val s_bl fun _ => rfl⟩
    · cases h
  | .non, hot, K, X, Wx, x, G, tk, h => by
    unfold chkE at h
    split at h
    · exact ⟨s_non, fun _ => t_val s_non fun _ => rfl⟩
    · cases h
  | .glob g, hot, K, X, Wx, x, G, tk, h => by
    unfold chkE at h
    split at h
    · rename_i n p
      have h := ba h
      have q := gl_ok G h.2
      cases hw : Γ.glob g with
      | none =>
        have pe : PE X (.Name n p) (rdE C Γ Wx (.glob g)) := ⟨fun pins s σ H Q I ⟨m, ρ, S, r, A, h', _⟩ => by
          unfold ev at h'
          rw [hw] at h'
          cases h'⟩
        exact ⟨pe, fun _ => t_val pe fun _ => rfl⟩
      | some w =>
        obtain ⟨u, v, g1, g2, g3⟩ := G.glob g n w (of_decide_eq_true h.1) hw
        have pe := s_glob (C := C) (Wx := Wx) (pos := p) q.1 g1 g2 hw g3 q.2
        exact ⟨pe, fun _ => t_val pe fun _ => rfl⟩
    · cases h
  | .bin op a b, hot, K, X, Wx, x, G, tk, h => by
    unfold chkE at h
    split at h
    · have h := ba h
      have h1 := ba h.1
      have e := op2Eq_ok h1.1
      subst e
      exact both (s_bin G.hK (okE C Γ a hot K X Wx _ G tk h1.2).1 (okE C Γ b hot K X Wx _ G tk h.2).1) fun _ => rfl
    · cases h
  | .neg a, hot, K, X, Wx, x, G, tk, h => by
    unfold chkE at h
    split at h
    · exact both (s_neg (okE C Γ a hot K X Wx _ G tk h).1) fun _ => rfl
    · cases h
  | .cmp op a b, hot, K, X, Wx, x, G, tk, h => by
    unfold chkE at h
    split at h
    · have h := ba h
      have h1 := ba h.1
      have h2 := ba h1.1
      have e := cmEq_ok h2.1
      subst e
      have pa := (okE C Γ a hot K X Wx _ G tk h1.2).1
      have pb := (okE C Γ b hot K X Wx _ G tk h.2).1
      exact ⟨s_cmp G.hK G.hu h2.2 pa pb, fun _ => t_cmp G.hK G.hu h2.2 pa pb⟩
    · cases h
  | .chn o1 o2 a b c, hot, K, X, Wx, x, G, tk, h => by
    unfold chkE at h
    split at h
    · have h := ba h
      have h1 := ba h.1
      have h2 := ba h1.1
      have h3 := ba h2.1
      have h4 := ba h3.1
      have h5 := ba h4.1
      have e := cmEq_ok h5.1
      subst e
      have e := cmEq_ok h5.2
      subst e
      have pa := (okE C Γ a hot K X Wx _ G tk h2.2).1
      have pb := (okE C Γ b hot K X Wx _ G tk h1.2).1
      have pc := (okE C Γ c hot K X Wx _ G tk h.2).1
      exact ⟨s_chn G.hK G.hu h4.2 h3.2 pa pb pc, fun _ => t_chn G.hK G.hu h4.2 h3.2 pa pb pc⟩
    · cases h
  | .chn3 o1 o2 o3 a b c d, hot, K, X, Wx, x, G, tk, h => by
    unfold chkE at h
    split at h
    · have h := ba h
      have h1 := ba h.1
      have h2 := ba h1.1
      have h3 := ba h2.1
      have h4 := ba h3.1
      have h5 := ba h4.1
      have h6 := ba h5.1
      have h7 := ba h6.1
      have h8 := ba h7.1
      have e := cmEq_ok h8.1
      subst e
      have e := cmEq_ok h8.2
      subst e
      have e := cmEq_ok h7.2
      subst e
      have pa := (okE C Γ a hot K X Wx _ G tk h3.2).1
      have pb := (okE C Γ b hot K X Wx _ G tk h2.2).1
      have pc := (okE C Γ c hot K X Wx _ G tk h1.2).1
      have pd := (okE C Γ d hot K X Wx _ G tk h.2).1
      exact ⟨s_chn3 G.hK G.hu h6.2 h5.2 h4.2 pa pb pc pd, fun _ => t_chn3 G.hK G.hu h6.2 h5.2 h4.2 pa pb pc pd⟩
    · cases h
  | .and es, hot, K, X, Wx, x, G, tk, h => by
    unfold chkE at h
    split at h
    · have h := ba h
      have p := okTs C Γ es hot K X Wx _ G tk h.2
      exact ⟨s_and p (ne_of_isEmpty h.1), fun _ => (t_and p (ne_of_isEmpty h.1)).pt⟩
    · cases h
  | .or es, hot, K, X, Wx, x, G, tk, h => by
    unfold chkE at h
    split at h
    · have h := ba h
      have p := okTs C Γ es hot K X Wx _ G tk h.2
      exact ⟨s_or p (ne_of_isEmpty h.1), fun _ => (t_or p (ne_of_isEmpty h.1)).pt⟩
    · cases h
  | .not a, hot, K, X, Wx, x, G, tk, h => by
    unfold chkE at h
    split at h
    · have h := ba h
      have p := okE C Γ a hot K X Wx _ G tk h.2
      exact ⟨s_not p.1, fun _ => t_not (p.2 h.1)⟩
    · cases h
  | .ite c a b, hot, K, X, Wx, x, G, tk, h => by
    unfold chkE at h
    split at h
    · have h := ba h
      have h1 := ba h.1
      have h2 := ba h1.1
      exact ⟨s_ite ((okE C Γ c hot K X Wx _ G tk h2.2).2 h2.1) (okE C Γ a hot K X Wx _ G tk h1.2).1 (okE C Γ b hot K X Wx _ G tk h.2).1, fun z => by cases z⟩
    · cases h
  | .tup es, hot, K, X, Wx, x, G, tk, h => by
    unfold chkE at h
    split at h
    · have h := ba h
      have p := okEs C Γ es hot K X Wx _ G tk h.2
      exact ⟨s_tup p (of_decide_eq_true h.1), fun _ => t_val (s_tup p (of_decide_eq_true h.1)) fun _ => rfl⟩
    · cases h
  | .lst es, hot, K, X, Wx, x, G, tk, h => by
    unfold chkE at h
    split at h
    · have h := ba h
      have p := okEs C Γ es hot K X Wx _ G tk h.2
      exact ⟨s_lst p (of_decide_eq_true h.1), fun _ => t_val (s_lst p (of_decide_eq_true h.1)) fun _ => rfl⟩
    · cases h
  | .idx a i, hot, K, X, Wx, x, G, tk, h => by
    unfold chkE at h
    split at h
    · have h := ba h
      have h1 := ba h.1
      exact both (s_idx G.hK G.hu h1.1 (okE C Γ a hot K X Wx _ G tk h1.2).1 (okE C Γ i hot K X Wx _ G tk h.2).1) fun _ => rfl
    · cases h
  | .slc a lo hi, hot, K, X, Wx, x, G, tk, h => by
    unfold chkE at h
    split at h
    · rename_i x l u p1 p2
      have h := ba h
      have h1 := ba h.1
      have pl := okEs C Γ lo hot K X Wx _ G tk h1.2
      have pu := okEs C Γ hi hot K X Wx _ G tk h.2
      have prt : ∀ {es : List Ex} {o : Option Expr}, PEs C Γ Wx X es o.toList → Prt C Γ Wx X es o := fun {es o} h => by
        cases o with
        | none => cases h; exact .none
        | some y => cases h with
          | cons h1 h2 h3 h4 => cases h4; exact .some h1
      exact both (s_slc (pos := p2) (p2 := p1) G.hK (okE C Γ a hot K X Wx _ G tk h1.1).1 (prt pl) (prt pu)) fun _ => rfl
    · cases h
  | .call f es, hot, K, X, Wx, x, G, tk, h => by
    unfold chkE at h
    split at h
    · have h := ba h
      have h1 := ba h.1
      have h2 := ba h1.1
      have h3 := ba h2.1
      have hh : hot = false := by simpa using h3.1
      subst hh
      have p := okEs C Γ es false K X Wx _ G tk h.2
      have q := gl_ok G h2.2
      cases p with
      | nil => exact absurd rfl (ne_of_isEmpty h1.2)
      | cons p1 p2 p3 p4 =>
        exact both (s_call G (tk rfl) (of_decide_eq_true h3.2) q.1 q.2 (.cons p1 p2 p3 p4)) fun _ => rfl
    · cases h
  | .mk c es, hot, K, X, Wx, x, G, tk, h => by
    unfold chkE at h
    split at h
    · have h := ba h
      have h1 := ba h.1
      have h2 := ba h1.1
      have h3 := ba h2.1
      have hh : hot = false := by simpa using h3.1
      subst hh
      have p := okEs C Γ es false K X Wx _ G tk h.2
      have q := gl_ok G h1.2
      exact both (s_mk G (tk rfl) (of_decide_eq_true h3.2) (of_decide_eq_true h2.2) q.1 q.2 p) fun _ => rfl
    · cases h
  | .bif b es, hot, K, X, Wx, x, G, tk, h => by
    unfold chkE at h
    split at h
    · have h := ba h
      have h1 := ba h.1
      have h2 := ba h1.1
      have h3 := ba h2.1
      have p := okEs C Γ es hot K X Wx _ G tk h.2
      have q := gl_ok G h2.2
      have e := of_decide_eq_true h3.2
      subst e
      cases p with
      | nil => exact absurd rfl (ne_of_isEmpty h1.2)
      | cons p1 p2 p3 p4 =>
        exact both (s_bif (b := b) G.hK (fun z => G.calm (by simpa [z] using h3.1)) G.hh q.1 (G.bn _ (bfnm_in b)) (.cons p1 p2 p3 p4)) fun _ => rfl
    · cases h
  | .isi a t, hot, K, X, Wx, x, G, tk, h => by
    unfold chkE at h
    split at h
    · have h := ba h
      have h1 := ba h.1
      have h2 := ba h1.1
      have h3 := ba h2.1
      have h4 := ba h3.1
      have e := of_decide_eq_true h4.1
      subst e
      have q := gl_ok G h2.2
      exact both (s_isi (t := t) G (of_decide_eq_true h3.2) (gl_ok G h4.2).1 q.1 q.2 h1.2 (okE C Γ a hot K X Wx _ G tk h.2).1) fun _ => rfl
    · cases h
  | .bm o m es, hot, K, X, Wx, x, G, tk, h => by
    unfold chkE at h
    split at h
    · have h := ba h
      have h1 := ba h.1
      have h2 := ba h1.1
      have h3 := ba h2.1
      have h4 := ba h3.1
      have h5 := ba h4.1
      have e := of_decide_eq_true h5.1
      subst e
      have po := (okE C Γ o hot K X Wx _ G tk h1.2).1
      have p := okEs C Γ es hot K X Wx _ G tk h.2
      cases p with
      | nil =>
        have hm : m = .clear := by
          have := h2.2
          cases m <;> first | rfl | cases this
        subst hm
        exact both (s_bm0 G.hK po h5.2 h4.2) fun _ => rfl
      | cons p1 p2 p3 p4 =>
        have hm : m ≠ .get ∧ m ≠ .clear := by
          have := h2.2
          constructor <;> (intro e; subst e; cases this)
        exact both (s_bm (b := m) G.hK po h5.2 h4.2 (of_decide_eq_true h3.2) (.cons p1 p2 p3 p4) hm.1 hm.2) fun _ => rfl
    · cases h
  | .meth o m es, hot, K, X, Wx, x, G, tk, h => by
    unfold chkE at h
    split at h
    · have h := ba h
      have h1 := ba h.1
      have h2 := ba h1.1
      have h3 := ba h2.1
      have h4 := ba h3.1
      have h5 := ba h4.1
      have hh : hot = false := by simpa using h5.1
      subst hh
      have po := (okE C Γ o false K X Wx _ G tk h1.2).1
      have p := okEs C Γ es false K X Wx _ G tk h.2
      exact both (s_meth (mi := m) G (tk rfl) (of_decide_eq_true h5.2) po h4.2 h3.2 (of_decide_eq_true h2.2) p) fun _ => rfl
    · cases h
  | .fld o f, hot, K, X, Wx, x, G, tk, h => by
    unfold chkE at h
    split at h
    · have h := ba h
      have h1 := ba h.1
      exact both (s_fld G (of_decide_eq_true h1.1) h1.2 (okE C Γ o hot K X Wx _ G tk h.2).1) fun _ => rfl
    · cases h
  | .lc elt tg k es ifs, hot, K, X, Wx, x, G, tk, h => by
    unfold chkE at h
    split at h
    · rename_i pelt ptg piter pifs scope pos
      have h := ba h
      have h1 := ba h.1
      have h2 := ba h1.1
      have h3 := ba h2.1
      have h4 := ba h3.1
      have h5 := ba h4.1
      have h6 := ba h5.1
      have hh : hot = false := by simpa using h6.1
      subst hh
      have ok : BlkOk X.N X.env.scope scope (ownOf K.N tg) := by
        rw [G.hN, G.hsc]
        exact blkOk_by h6.2
      have G' := G.blk ok.kind
      have hi : PI X ptg piter (rdI C Γ Wx k es) := by
        have q := h2.2
        split at q
        · rename_i args ha
          have q := ba q
          exact it_ok G ha (of_decide_eq_true q.1) (okEs C Γ es false K X Wx _ G tk q.2)
        · cases q
      have ht : ∀ (s : Shared) (H : Hp) (D : Addr) (cl : List (Str × Addr)) (fp : List Addr), PTs (X.blk s H scope (compEnvC scope cl D X.env) fp) pifs (rdTs C Γ W0 ifs) := fun s H D cl fp => by
        have q := okTs C Γ ifs false (K.blk scope) _ W0 _ (G' s H D cl fp) (fun _ => ntakes0) h1.2
        have hl := of_decide_eq_true h3.2
        cases q with
        | nil => exact ts_nil
        | cons q1 q2 q3 =>
          cases q3 with
          | nil => exact ts_one q2
          | cons _ _ _ => simp at hl
      exact both (s_lc (pos := pos) G hi ok (own_map tg) (fun s H D cl fp => tg_ok (G' s H D cl fp) h4.2) ht
        (fun s H D cl fp => (okE C Γ elt false (K.blk scope) _ W0 _ (G' s H D cl fp) (fun _ => ntakes0) h.2).1) (fold_ok h5.2)) fun _ => rfl
    · cases h
  termination_by structural e => e
theorem okEs (C : Cf) (Γ : Gam) : ∀ (es : List Ex) (hot : Bool) (K : Ck) (X : Cx) (Wx : WX) (ys : List Expr), Good C Γ K hot X → (hot = false → L2N.Takes X Wx) → chkEs hot K es ys = true → PEs C Γ Wx X es ys
  | [], hot, K, X, Wx, ys, G, tk, h => by
    unfold chkEs at h
    cases ys with
    | nil => exact .nil
    | cons y ys => cases h
  | e :: es, hot, K, X, Wx, ys, G, tk, h => by
    unfold chkEs at h
    split at h
    · have h := ba h
      have h1 := ba h.1
      have h2 := ba h1.1
      exact .cons (okE C Γ e hot K X Wx _ G tk h2.1).1 h2.2 h1.2 (okEs C Γ es hot K X Wx _ G tk h.2)
    · cases h
  termination_by structural es => es
theorem okTs (C : Cf) (Γ : Gam) : ∀ (es : List Ex) (hot : Bool) (K : Ck) (X : Cx) (Wx : WX) (ys : List Expr), Good C Γ K hot X → (hot = false → L2N.Takes X Wx) → chkTs hot K es ys = true → PTs2 C Γ Wx X es ys
  | [], hot, K, X, Wx, ys, G, tk, h => by
    unfold chkTs at h
    cases ys with
    | nil => exact .nil
    | cons y ys => cases h
  | e :: es, hot, K, X, Wx, ys, G, tk, h => by
    unfold chkTs at h
    split at h
    · have h := ba h
      have h1 := ba h.1
      have q := okE C Γ e hot K X Wx _ G tk h1.1
      exact .cons q.1 (q.2 h1.2) (okTs C Γ es hot K X Wx _ G tk h.2)
    · cases h
  termination_by structural es => es
end
end Ip

/-! IpSt: statements. Written by an AI agent. -/
namespace Ip
open PySem PySem.Spec PyProof.Rows L2

/-! ### readings -/
def PF (C : Cf) (Wx : WX) (m : List Addr) (S : Store) (H : Hp) (D : Ends) (f : Fl) (ρ' : Env) (S' : Store) : Prop := match f with
  | .nxt => ∀ m' H' σ', RelH C m' S' H' → Ext m S H m' S' H' → Rst C.K m' H' ρ' σ' → D.nx σ' H'
  | .brk => ∀ m' H' σ', RelH C m' S' H' → Ext m S H m' S' H' → Rst C.K m' H' ρ' σ' → D.bk σ' H'
  | .cnt => ∀ m' H' σ', RelH C m' S' H' → Ext m S H m' S' H' → Rst C.K m' H' ρ' σ' → D.ct σ' H'
  | .ret w => ∀ m' H' v, RelH C m' S' H' → Ext m S H m' S' H' → RW C.K m' H' w v → D.rt v H'
  | .ex x => ∀ m' H' σ' cls d, RelH C m' S' H' → Ext m S H m' S' H' → Rst C.K m' H' ρ' σ' → RX C m' H' x cls d → Wx cls d σ' H'
def rdS (C : Cf) (Γ : Gam) (Wx : WX) (s : Sx) : TS := fun D σ H => ∃ m ρ S f ρ' S', At C m S H ρ σ ∧ x1 Γ s ρ S = some (f, ρ', S') ∧ PF C Wx m S H D f ρ' S'
def rdSs (C : Cf) (Γ : Gam) (Wx : WX) (s : List Sx) : TS := fun D σ H => ∃ m ρ S f ρ' S', At C m S H ρ σ ∧ xs Γ s ρ S = some (f, ρ', S') ∧ PF C Wx m S H D f ρ' S'
section
variable {C : Cf} {Γ : Gam} {Wx : WX} {m m' : List Addr} {S S' S2 : Store} {H H' : Hp} {ρ ρ' : Env} {σ : L2.St} {D : Ends} {f : Fl}
theorem PF.go (p : PF C Wx m S H D f ρ' S2) (e : Ext m S H m' S' H') : PF C Wx m' S' H' D f ρ' S2 := by
  cases f with
  | nxt => exact fun m2 H2 s h1 h2 h3 => p m2 H2 s h1 (e.trans h2) h3
  | brk => exact fun m2 H2 s h1 h2 h3 => p m2 H2 s h1 (e.trans h2) h3
  | cnt => exact fun m2 H2 s h1 h2 h3 => p m2 H2 s h1 (e.trans h2) h3
  | ret w => exact fun m2 H2 v h1 h2 h3 => p m2 H2 v h1 (e.trans h2) h3
  | ex x => exact fun m2 H2 s c d h1 h2 h3 h4 => p m2 H2 s c d h1 (e.trans h2) h3 h4
theorem st_step {e : Ex} {k : W → Store → Option (Fl × Env × Store)} {Q' : VK} (A : At C m S H ρ σ) (h : toFl (ev Γ e ρ S) ρ k = some (f, ρ', S')) (p : PF C Wx m S H D f ρ' S')
    (hk : ∀ w S1 m1 H1 v, k w S1 = some (f, ρ', S') → At C m1 S1 H1 ρ σ → Ext m S H m1 S1 H1 → RW C.K m1 H1 w v → PF C Wx m1 S1 H1 D f ρ' S' → Q' v H1) : rdE C Γ Wx e σ H Q' := by
  cases he : ev Γ e ρ S with
  | none => rw [he] at h; cases h
  | some r =>
    obtain ⟨r, S1⟩ := r
    rw [he] at h
    refine ⟨m, ρ, S, _, A, he, ?_⟩
    cases r with
    | ex x =>
      have e := Option.some.inj h
      cases e
      exact fun m1 H1 c d h1 h2 h3 => p m1 H1 σ c d h1 h2 (A.s.mono h2) h3
    | ok w => exact fun m1 H1 v h1 h2 h3 => hk w S1 m1 H1 v h (A.go h1 h2) h2 h3 (p.go h2)
theorem st_stepA {es : List Ex} {k : List W → Store → Option (Fl × Env × Store)} {Q' : List V → Hp → Prop} (A : At C m S H ρ σ) (h : toFls (evs Γ es ρ S) ρ k = some (f, ρ', S')) (p : PF C Wx m S H D f ρ' S')
    (hk : ∀ w S1 m1 H1 v, k w S1 = some (f, ρ', S') → At C m1 S1 H1 ρ σ → Ext m S H m1 S1 H1 → RWs C.K m1 H1 w v → PF C Wx m1 S1 H1 D f ρ' S' → Q' v H1) : rdA C Γ Wx es σ H Q' := by
  cases he : evs Γ es ρ S with
  | none => rw [he] at h; cases h
  | some r =>
    obtain ⟨r, S1⟩ := r
    rw [he] at h
    refine ⟨m, ρ, S, _, A, he, ?_⟩
    cases r with
    | ex x =>
      have e := Option.some.inj h
      cases e
      exact fun m1 H1 c d h1 h2 h3 => p m1 H1 σ c d h1 h2 (A.s.mono h2) h3
    | ok w => exact fun m1 H1 v h1 h2 h3 => hk w S1 m1 H1 v h (A.go h1 h2) h2 h3 (p.go h2)
end
section
variable {X : Cx} {st : Stmt} {sts : List Stmt} {t t' : TS}
theorem ps_imp (h : PS X st t) (i : ∀ D σ H, t' D σ H → t D σ H) : PS X st t' := ⟨fun pins s σ H D I q => h.run pins s σ H D I (i D σ H q)⟩
theorem pss_imp (h : PSs X sts t) (i : ∀ D σ H, t' D σ H → t D σ H) : PSs X sts t' := ⟨fun pins s σ H D I q => h.run pins s σ H D I (i D σ H q)⟩
end

/-! ### the context of statements -/
structure GoodS (C : Cf) (Γ : Gam) (K : Ck) (hot : Bool) (X : Cx) : Prop where
  g : Good C Γ K hot X
  stk : X.stack = X.env :: X.outer
  frm : X.env.frame = some X.env.locals
  pass : PassesOwn (model X.prog X.w) X.A X.env X.xe
  rse : ∀ c x, K.cnm[c]? = some x → c ∈ K.rs → C.xc c ∧ Raises X (.ref (C.cl c)) ∧ PySem.W.keepIn X.K (.ref (C.cl c)) = true ∧ ∃ B newId initId bmB, ExcBaseFacts B newId initId bmB ∧ PySem.W.excIn X.K (C.cl c) bmB newId = true
section
variable {C : Cf} {Γ : Gam} {Wx : WX} {K : Ck} {hot : Bool} {X : Cx} {a b c d : Ex} {x y z t : Expr} {es : List Ex} {ys : List Expr} {pos p ap p2 : Pos} {st : Stmt} {sts : List Stmt} {i j : Nat} {n n2 : Str} {bs cs : List Sx} {ss ts : List Stmt}
theorem S_nil : PSs X [] (rdSs C Γ Wx []) := pss_imp pss_nil fun D σ H ⟨m, ρ, S, f, ρ', S', A, h, p⟩ => by
  unfold xs at h
  cases (Option.some.inj h)
  exact p m H σ A.h Ext.refl A.s
theorem S_cons {s : Sx} (h1 : PS X st (rdS C Γ Wx s)) (h2 : PSs X sts (rdSs C Γ Wx bs)) : PSs X (st :: sts) (rdSs C Γ Wx (s :: bs)) := pss_imp (pss_cons h1 h2) fun D σ H ⟨m, ρ, S, f, ρ', S', A, h, p⟩ => by
  unfold xs at h
  split at h
  · rename_i ρ1 S1 hx
    exact ⟨m, ρ, S, _, _, _, A, hx, fun m1 H1 σ1 R1 e1 r1 => ⟨m1, ρ1, S1, f, ρ', S', ⟨R1, r1⟩, h, p.go e1⟩⟩
  · rename_i o hn
    refine ⟨m, ρ, S, f, ρ', S', A, h, ?_⟩
    cases f with
    | nxt => exact absurd h (hn _ _)
    | brk => exact p
    | cnt => exact p
    | ret w => exact p
    | ex w => exact p
theorem S_asg {e : Ex} (hN : X.N.Nodup) (hi : X.N[i]? = some n) (hx : Loc X.env.scope n) (hf : X.fn n = true ∨ X.env.scope.names.lookup n = some .local) (he : PE X x (rdE C Γ Wx e)) (hs : swapsWith x (some (.Name n p)) pos.line X.env = pure false) :
    PS X (.Assign [.Name n p] x pos) (rdS C Γ Wx (.asg i e)) := ps_imp (ps_set hN hi hx he hs hf) fun D σ H ⟨m, ρ, S, f, ρ', S', A, h, p⟩ => by
  unfold x1 at h
  refine st_step A h p fun w S1 m1 H1 v h1 A1 _ rv p1 => ?_
  cases (Option.some.inj h1)
  exact p1 m1 H1 _ A1.h Ext.refl (A1.s.set i rv)
theorem S_asgLc {tg : List Nat} {k : Ik} {ifs : List Ex} {elt : Ex} {pelt ptg piter : Expr} {pifs : List Expr} {scope : Scope} {own : List (Str × Nat)} (G : Good C Γ K false X) (hy : X.N[i]? = some n) (hyl : X.env.scope.names.lookup n = some .local)
    (hsw : swapsWith (.ListComp pelt [⟨ptg, piter, pifs, 0⟩] scope p2) (some (.Name n p)) pos.line X.env = pure true)
    (hi : PI X ptg piter (rdI C Γ Wx k es)) (ok : BlkOk X.N X.env.scope scope own) (ho : own.map (·.2) = tg)
    (hg : ∀ (s : Shared) (H : Hp) (D : Addr) (cl : List (Str × Addr)) (fp : List Addr), L2.PG (X.blk s H scope (compEnvC scope cl D X.env) fp) ptg (gT C.K tg)) (ht : ∀ (s : Shared) (H : Hp) (D : Addr) (cl : List (Str × Addr)) (fp : List Addr), PTs (X.blk s H scope (compEnvC scope cl D X.env) fp) pifs (rdTs C Γ W0 ifs))
    (he : ∀ (s : Shared) (H : Hp) (D : Addr) (cl : List (Str × Addr)) (fp : List Addr), PE (X.blk s H scope (compEnvC scope cl D X.env) fp) pelt (rdE C Γ W0 elt)) (hs : ∀ x, foldedSetIterable piter X.env x = pure x) :
    PS X (.Assign [.Name n p] (.ListComp pelt [⟨ptg, piter, pifs, 0⟩] scope p2) pos) (rdS C Γ Wx (.asg i (.lc elt tg k es ifs))) := by
  refine ps_imp (ps_setLc (G.calm rfl) G.hnd hy hyl hsw hi ok hg ht he hs) fun D σ H ⟨m, ρ, S, f, ρ', S', A, h, p⟩ => ?_
  unfold x1 at h
  have q : rdE C Γ Wx (.lc elt tg k es ifs) σ H (fun v H1 => D.nx (σ.set i (some v)) H1) := st_step A h p fun w S1 m1 H1 v h1 A1 _ rv p1 => by
    cases (Option.some.inj h1)
    exact p1 m1 H1 _ A1.h Ext.refl (A1.s.set i rv)
  show tLc _ _ _ _ _ σ H (fun v H1 => gName i v σ H1 D.nx)
  rw [ho]
  exact lc_rd q
theorem S_unp {e : Ex} {is : List Nat} {ti : List Expr} {kk : Nat} (he : PE X x (rdE C Γ Wx e)) (hg : L2.PG X (.Tuple ti kk p) (gT C.K is)) (hs : swapsWithSole [.Tuple ti kk p] x pos.line X.env = pure false) (hw : swappedStores [.Tuple ti kk p] x X.env = pure Option.none) :
    PS X (.Assign [.Tuple ti kk p] x pos) (rdS C Γ Wx (.unp is e)) := ps_imp (ps_asg he hg hs hw) fun D σ H ⟨m, ρ, S, f, ρ', S', A, h, p⟩ => by
  unfold x1 at h
  refine st_step A h p fun w S1 m1 H1 v h1 A1 _ rv p1 => ?_
  split at h1
  · rename_i ws
    obtain ⟨ρ1, h2, h3⟩ := Option.map_eq_some_iff.mp h1
    cases h3
    exact gT_set h2 A1.s.x rv fun σ' r' _ _ => p1 m1 H1 σ' A1.h Ext.refl r'
  · cases h1
theorem S_par {e e2 : Ex} {px py pt : Pos} {kt k2 : Nat} {pt2 : Pos} (hc : X.calm = true) (hN : X.N.Nodup) (hi : X.N[i]? = some n) (hj : X.N[j]? = some n2) (hij : i ≠ j) (hx : X.env.scope.names.lookup n = some .local) (hy : X.env.scope.names.lookup n2 = some .local)
    (h : PEs C Γ Wx X [e, e2] [x, y]) (hw : swappedStores [.Tuple [.Name n px, .Name n2 py] kt pt] (.Tuple [x, y] k2 pt2) X.env = pure (some [n, n2])) :
    PS X (.Assign [.Tuple [.Name n px, .Name n2 py] kt pt] (.Tuple [x, y] k2 pt2) pos) (rdS C Γ Wx (.par i j e e2)) := ps_imp (ps_par hc hN hi hj hij hx hy h.pa hw rfl) fun D σ H ⟨m, ρ, S, f, ρ', S', A, h, p⟩ => by
  unfold x1 at h
  have h' : toFls (evs Γ [e, e2] ρ S) ρ (fun ws S1 => match ws with
      | [v, w] => some (Fl.nxt, (ρ.set i (some v)).set j (some w), S1)
      | _ => none) = some (f, ρ', S') := by
    rw [← h]
    unfold evs
    cases ev Γ e ρ S with
    | none => rfl
    | some r =>
      obtain ⟨r, S1⟩ := r
      cases r with
      | ex w => rfl
      | ok w =>
        rw [bnd_ok]
        show toFls (bnd (evs Γ [e2] ρ S1) _) ρ _ = toFl (ev Γ e2 ρ S1) ρ _
        unfold evs
        cases ev Γ e2 ρ S1 with
        | none => rfl
        | some r =>
          obtain ⟨r, S2⟩ := r
          cases r with
          | ex w => rfl
          | ok w => rfl
  refine st_stepA A h' p fun w S1 m1 H1 v h1 A1 _ rv p1 => ?_
  split at h1
  · rename_i u1 u2
    cases (Option.some.inj h1)
    cases rv with
    | cons r1 r2 =>
      cases r2 with
      | cons r2 r3 =>
        cases r3
        exact ⟨_, _, rfl, p1 m1 H1 _ A1.h Ext.refl ((A1.s.set i r1).set j r2)⟩
  · cases h1
theorem S_sub {o k e : Ex} (hsw : swapsWithSole [.Subscript x y p] z pos.line X.env = pure false) (hn : noSlc y = true) (ho : PE X x (rdE C Γ Wx o)) (hk : PE X y (rdE C Γ Wx k)) (he : PE X z (rdE C Γ Wx e)) :
    PS X (.Assign [.Subscript x y p] z pos) (rdS C Γ Wx (.sub o k e)) := by
  refine ps_imp (ps_asg he (pg_sub ho hk set_list (fun v => by cases y <;> first | rfl | cases hn)) hsw rfl (by cases y <;> first | rfl | cases hn)) fun D σ H ⟨m, ρ, S, f, ρ', S', A, h, p⟩ => ?_
  unfold x1 at h
  refine st_step A h p fun w S1 m1 H1 v h1 A1 _ rv p1 => st_step A1 h1 p1 fun w2 S2 m2 H2 v2 h2 A2 e2 rv2 p2 => st_step A2 h2 p2 fun w3 S3 m3 H3 v3 h3 A3 e3 rv3 p3 => ?_
  obtain ⟨S4, h4, h5⟩ := Option.map_eq_some_iff.mp h3
  cases h5
  unfold setIx at h4
  split at h4
  · rename_i k
    split at h4
    · rename_i ws iv hS
      obtain ⟨j, hj, hS4⟩ := Option.map_eq_some_iff.mp h4
      subst hS4
      cases rv3
      have rv2' := rv2.mono e3
      cases rv2' with
      | loc hm =>
        obtain ⟨xs, z1, z2⟩ := A3.h.cell _ _ _ hm hS
        have rvv := rv.mono (e2.trans e3)
        refine ⟨_, xs, iv, j, rfl, rfl, z1, by rw [← z2.length]; exact hj, ?_⟩
        have n1 := A3.h.set (d := .lst (ws.set j w)) (o := .lst (xs.set j v)) hm hS rfl rfl rfl ⟨_, upd_same, (z2.set rvv j).imm (imm_touch z1)⟩
        exact p3 m3 _ σ n1.1 n1.2 (A3.s.mono n1.2)
    · cases h4
  · cases h4
theorem S_aug {op : Op2} {e : Ex} (hN : X.N.Nodup) (hi : X.N[i]? = some n) (hx : Loc X.env.scope n) (hf : X.fn n = true ∨ X.env.scope.names.lookup n = some .local) (hop : op = .add ∨ op = .sub) (he : PE X x (rdE C Γ Wx e)) :
    PS X (.AugAssign (.Name n p) (pyOp op) x pos) (rdS C Γ Wx (.aug i op e)) := by
  have core : ∀ (g : Int → Int → Int), (∀ a b w, augW op a b = some w → ∃ x y, a = .int x ∧ b = .int y ∧ w = .int (g x y)) → ∀ D σ H, rdS C Γ Wx (.aug i op e) D σ H → tAug i (rdE C Γ Wx e) (ipI g) D σ H := fun g hg D σ H ⟨m, ρ, S, f, ρ', S', A, h, p⟩ => by
    unfold x1 at h
    split at h
    · rename_i a ha
      obtain ⟨v, hv, rv⟩ := A.s.2 i a ha
      refine ⟨v, hv, st_step A h p fun w S1 m1 H1 u h1 A1 e1 ru p1 => ?_⟩
      obtain ⟨w2, h2, h3⟩ := Option.map_eq_some_iff.mp h1
      cases h3
      obtain ⟨i1, i2, q1, q2, q3⟩ := hg _ _ _ h2
      subst q1 q2 q3
      cases rv
      cases ru
      exact ⟨i1, i2, rfl, rfl, p1 m1 H1 _ A1.h Ext.refl (A1.s.set i (.int _))⟩
    · cases h
  rcases hop with e1 | e1
  · subst e1
    exact ps_imp (ps_aug hN hi hx he ip_add hf) (core _ fun a b w h => by cases a <;> cases b <;> first | (cases h; exact ⟨_, _, rfl, rfl, rfl⟩) | cases h)
  · subst e1
    exact ps_imp (ps_aug hN hi hx he ip_sub hf) (core _ fun a b w h => by cases a <;> cases b <;> first | (cases h; exact ⟨_, _, rfl, rfl, rfl⟩) | cases h)
theorem S_exp {e : Ex} (hs : swapsWith x Option.none pos.line X.env = pure false) (he : PE X x (rdE C Γ Wx e)) : PS X (.Expr x pos) (rdS C Γ Wx (.exp e)) := ps_imp (ps_expr he hs) fun D σ H ⟨m, ρ, S, f, ρ', S', A, h, p⟩ => by
  unfold x1 at h
  refine st_step A h p fun w S1 m1 H1 v h1 A1 _ rv p1 => ?_
  cases (Option.some.inj h1)
  exact p1 m1 H1 _ A1.h Ext.refl A1.s
theorem S_iff {c : Ex} (hc : PT X z (rdT C Γ Wx c)) (ha : PSs X ss (rdSs C Γ Wx bs)) (hb : PSs X ts (rdSs C Γ Wx cs)) : PS X (.If z ss ts pos) (rdS C Γ Wx (.iff c bs cs)) := ps_imp (ps_if hc ha hb) fun D σ H ⟨m, ρ, S, f, ρ', S', A, h, p⟩ => by
  unfold x1 at h
  split at h
  · rename_i S1 he
    refine ⟨m, ρ, S, _, A, he, fun m1 H1 k R1 e1 ek => ?_⟩
    have ek' : true = k := ek
    subst ek'
    exact iteT ⟨m1, ρ, S1, _, _, _, A.go R1 e1, h, p.go e1⟩
  · rename_i S1 he
    refine ⟨m, ρ, S, _, A, he, fun m1 H1 k R1 e1 ek => ?_⟩
    have ek' : false = k := ek
    subst ek'
    exact iteF ⟨m1, ρ, S1, _, _, _, A.go R1 e1, h, p.go e1⟩
  · rename_i x S1 he
    cases (Option.some.inj h)
    exact ⟨m, ρ, S, _, A, he, fun m1 H1 c d h1 h2 h3 => p m1 H1 σ c d h1 h2 (A.s.mono h2) h3⟩
  · cases h
theorem S_while {c : Ex} (hp : PassesOwn (model X.prog X.w) X.A X.env X.xe) (hc : PT X z (rdT C Γ Wx c)) (ha : PSs X ss (rdSs C Γ Wx bs)) : PS X (.While z ss [] pos) (rdS C Γ Wx (.while c bs)) := ps_imp (ps_while hp hc ha) fun D σ H ⟨m, ρ, S, f, ρ', S', A, h, p⟩ => by
  unfold x1 at h
  refine ⟨fun n σ1 H1 => ∃ m1 ρ1 S1, At C m1 S1 H1 ρ1 σ1 ∧ Ext m S H m1 S1 H1 ∧ whlL (fun ρ1 S1 => truth (ev Γ c ρ1 S1)) (fun ρ1 S1 => xs Γ bs ρ1 S1) n ρ1 S1 = some (f, ρ', S'), ⟨big, m, ρ, S, A, Ext.refl, h⟩, ?_⟩
  rintro n σ1 H1 ⟨m1, ρ1, S1, A1, e1, h1⟩
  cases n with
  | zero => unfold whlL at h1; cases h1
  | succ n =>
    unfold whlL at h1
    split at h1
    · cases h1
    · rename_i x S2 he
      cases (Option.some.inj h1)
      exact ⟨m1, _, S1, _, A1, he, fun m2 H2 c d h1 h2 h3 => p m2 H2 σ1 c d h1 (e1.trans h2) (A1.s.mono h2) h3⟩
    · rename_i S2 he
      cases (Option.some.inj h1)
      refine ⟨m1, _, S1, _, A1, he, fun m2 H2 k R2 e2 ek => ?_⟩
      have ek' : false = k := ek
      subst ek'
      exact iteF (p m2 H2 σ1 R2 (e1.trans e2) (A1.s.mono e2))
    · rename_i S2 he
      refine ⟨m1, ρ1, S1, _, A1, he, fun m2 H2 k R2 e2 ek => ?_⟩
      have ek' : true = k := ek
      subst ek'
      refine iteT ⟨fun σ3 H3 => ∃ m3 ρ3 S3, At C m3 S3 H3 ρ3 σ3 ∧ Ext m S H m3 S3 H3 ∧ whlL (fun ρ1 S1 => truth (ev Γ c ρ1 S1)) (fun ρ1 S1 => xs Γ bs ρ1 S1) n ρ3 S3 = some (f, ρ', S'), fun σ3 H3 q => ⟨n, Nat.lt_succ_self _, q⟩, ?_⟩
      have e12 := e1.trans e2
      split at h1
      · rename_i ρ3 S3 hx
        exact ⟨m2, ρ1, S2, _, _, _, A1.go R2 e2, hx, fun m3 H3 σ3 R3 e3 r3 => ⟨m3, ρ3, S3, ⟨R3, r3⟩, e12.trans e3, h1⟩⟩
      · rename_i ρ3 S3 hx
        exact ⟨m2, ρ1, S2, _, _, _, A1.go R2 e2, hx, fun m3 H3 σ3 R3 e3 r3 => ⟨m3, ρ3, S3, ⟨R3, r3⟩, e12.trans e3, h1⟩⟩
      · rename_i ρ3 S3 hx
        cases (Option.some.inj h1)
        exact ⟨m2, ρ1, S2, _, _, _, A1.go R2 e2, hx, fun m3 H3 σ3 R3 e3 r3 => p m3 H3 σ3 R3 (e12.trans e3) r3⟩
      · rename_i r hn1 hn2 hn3 hx
        cases (Option.some.inj h1)
        refine ⟨m2, ρ1, S2, _, _, _, A1.go R2 e2, hx, ?_⟩
        have p2 := p.go e12
        cases f with
        | nxt => exact absurd rfl (hn1 _ _)
        | cnt => exact absurd rfl (hn2 _ _)
        | brk => exact absurd rfl (hn3 _ _)
        | ret w => exact p2
        | ex w => exact p2
      · cases h1
theorem S_for {tg : List Nat} {k : Ik} {ptg piter : Expr} (hp : PassesOwn (model X.prog X.w) X.A X.env X.xe) (hc : X.calm = true) (hi : PI X ptg piter (rdI C Γ Wx k es)) (hg : L2.PG X ptg (gT C.K tg)) (ha : PSs X ss (rdSs C Γ Wx bs)) (hs : ∀ x, foldedSetIterable piter X.env x = pure x) :
    PS X (.For ptg piter ss [] pos) (rdS C Γ Wx (.for tg k es bs)) := ps_imp (ps_for hp hc hi hg ha hs) fun D σ H ⟨m, ρ, S, f, ρ', S', A, h, p⟩ => by
  unfold x1 at h
  cases he : evs Γ es ρ S with
  | none => rw [he] at h; cases h
  | some r1 =>
    obtain ⟨r1, S1⟩ := r1
    rw [he] at h
    cases r1 with
    | ex x =>
      cases (Option.some.inj h)
      exact ⟨m, ρ, S, _, A, he, fun m1 H1 c d h1 h2 h3 => p m1 H1 σ c d h1 h2 (A.s.mono h2) h3⟩
    | ok ws =>
      refine ⟨m, ρ, S, _, A, he, ?_⟩
      cases hsr : srcOf k S1 ws with
      | none =>
        simp only [toFls, hsr] at h
        cases h
      | some src =>
        refine ⟨src, hsr, fun m1 H1 J R1 e1 wlk => ?_⟩
        simp only [toFls, hsr] at h
        generalize hG : (fun (w : W) (ρ1 : Env) (S2 : Store) => (match setT tg w ρ1 with
          | none => none
          | some ρ2 => xs Γ bs ρ2 S2 : Option (Fl × Env × Store))) = G at h
        refine ⟨fun i n σ2 H2 => ∃ m2 S2 ρ2, At C m2 S2 H2 ρ2 σ2 ∧ Ext m1 S1 H1 m2 S2 H2 ∧ forL G src n i ρ2 S2 = some (f, ρ', S'), ⟨big, m1, S1, ρ, A.go R1 e1, Ext.refl, h⟩, ?_⟩
        rintro i n σ2 H2 ⟨m2, S2, ρ2, A2, e2, h2⟩
        cases n with
        | zero => unfold forL at h2; cases h2
        | succ n =>
          unfold forL at h2
          have wk := wlk m2 S2 H2 A2.h e2 i
          have e12 := e1.trans e2
          split at h2
          · cases h2
          · rename_i hat
            cases (Option.some.inj h2)
            exact .inl ⟨wk.2 hat, p m2 H2 σ2 A2.h e12 A2.s⟩
          · rename_i w hat
            refine .inr ⟨(wk.1 w hat).1, fun σ3 H3 => ∃ m3 S3 ρ3, At C m3 S3 H3 ρ3 σ3 ∧ Ext m1 S1 H1 m3 S3 H3 ∧ forL G src n (i + 1) ρ3 S3 = some (f, ρ', S'), fun σ3 H3 q => ⟨n, Nat.lt_succ_self _, q⟩, fun x H3 y => ?_⟩
            obtain ⟨R3, e3, rx⟩ := (wk.1 w hat).2 x H3 y
            have e13 := e2.trans e3
            have key : ∀ {fl : Fl} {ρ4 : Env} {S4 : Store}, G w ρ2 S2 = some (fl, ρ4, S4) → (PF C Wx m2 S2 H3 { D with nx := fun σ3 H3 => ∃ m3 S3 ρ3, At C m3 S3 H3 ρ3 σ3 ∧ Ext m1 S1 H1 m3 S3 H3 ∧ forL G src n (i + 1) ρ3 S3 = some (f, ρ', S'), ct := fun σ3 H3 => ∃ m3 S3 ρ3, At C m3 S3 H3 ρ3 σ3 ∧ Ext m1 S1 H1 m3 S3 H3 ∧ forL G src n (i + 1) ρ3 S3 = some (f, ρ', S'), bk := D.nx } fl ρ4 S4) →
                gT C.K tg x σ2 H3 fun σ3 H4 => rdSs C Γ Wx bs { D with nx := fun σ3 H3 => ∃ m3 S3 ρ3, At C m3 S3 H3 ρ3 σ3 ∧ Ext m1 S1 H1 m3 S3 H3 ∧ forL G src n (i + 1) ρ3 S3 = some (f, ρ', S'), ct := fun σ3 H3 => ∃ m3 S3 ρ3, At C m3 S3 H3 ρ3 σ3 ∧ Ext m1 S1 H1 m3 S3 H3 ∧ forL G src n (i + 1) ρ3 S3 = some (f, ρ', S'), bk := D.nx } σ3 H4 := fun {fl ρ4 S4} hg pf => by
              rw [← hG] at hg
              dsimp only at hg
              split at hg
              · cases hg
              · rename_i ρ3 ht
                exact gT_set ht ((A2.s.mono e3).x) rx fun σ' r' _ _ => ⟨m2, ρ3, S2, _, _, _, ⟨R3, r'⟩, hg, pf⟩
            split at h2
            · rename_i ρ3 S3 hx
              exact key hx fun m4 H4 σ4 R4 e4 r4 => ⟨m4, S3, ρ3, ⟨R4, r4⟩, e13.trans e4, h2⟩
            · rename_i ρ3 S3 hx
              exact key hx fun m4 H4 σ4 R4 e4 r4 => ⟨m4, S3, ρ3, ⟨R4, r4⟩, e13.trans e4, h2⟩
            · rename_i ρ3 S3 hx
              cases (Option.some.inj h2)
              exact key hx fun m4 H4 σ4 R4 e4 r4 => p m4 H4 σ4 R4 ((e1.trans e13).trans e4) r4
            · rename_i r hn1 hn2 hn3 hx
              cases (Option.some.inj h2)
              refine key hx ?_
              have p2 := p.go (e1.trans e13)
              cases f with
              | nxt => exact absurd rfl (hn1 _ _)
              | cnt => exact absurd rfl (hn2 _ _)
              | brk => exact absurd rfl (hn3 _ _)
              | ret w => exact p2
              | ex w => exact p2
            · cases h2
theorem S_ret {e : Ex} (he : PE X x (rdE C Γ Wx e)) : PS X (.Return (some x) pos) (rdS C Γ Wx (.ret e)) := ps_imp (ps_ret he) fun D σ H ⟨m, ρ, S, f, ρ', S', A, h, p⟩ => by
  unfold x1 at h
  refine st_step A h p fun w S1 m1 H1 v h1 A1 _ rv p1 => ?_
  cases (Option.some.inj h1)
  exact p1 m1 H1 _ A1.h Ext.refl rv
theorem S_retN : PS X (.Return Option.none pos) (rdS C Γ Wx .retN) := ps_imp ps_retN fun D σ H ⟨m, ρ, S, f, ρ', S', A, h, p⟩ => by
  unfold x1 at h
  cases (Option.some.inj h)
  exact p m H _ A.h Ext.refl .non
theorem S_pass : PS X (.Pass pos) (rdS C Γ Wx .pass) := ps_imp ps_pass fun D σ H ⟨m, ρ, S, f, ρ', S', A, h, p⟩ => by
  unfold x1 at h
  cases (Option.some.inj h)
  exact p m H σ A.h Ext.refl A.s
theorem S_doc {s : Str} {k : Nat} : PS X (.Expr (.Constant (.str s) k p) pos) (rdS C Γ Wx .pass) := ps_imp ps_doc fun D σ H ⟨m, ρ, S, f, ρ', S', A, h, p⟩ => by
  unfold x1 at h
  cases (Option.some.inj h)
  exact p m H σ A.h Ext.refl A.s
theorem S_brk : PS X (.Break pos) (rdS C Γ Wx .brk) := ps_imp ps_break fun D σ H ⟨m, ρ, S, f, ρ', S', A, h, p⟩ => by
  unfold x1 at h
  cases (Option.some.inj h)
  exact p m H σ A.h Ext.refl A.s
theorem S_cnt : PS X (.Continue pos) (rdS C Γ Wx .cnt) := ps_imp ps_continue fun D σ H ⟨m, ρ, S, f, ρ', S', A, h, p⟩ => by
  unfold x1 at h
  cases (Option.some.inj h)
  exact p m H σ A.h Ext.refl A.s
theorem S_raise {c : Nat} {n s : Str} {k : Nat} (G : GoodS C Γ K false X) (tk : L2N.Takes X Wx) (hn : K.cnm[c]? = some n) (hr : c ∈ K.rs) (hg : Gl X n) (hd : (n == ("__debug__" : Str)) = false) :
    PS X (.Raise (some (.Call (.Name n p) [.Constant (.str s) k p2] [] ap)) Option.none pos) (rdS C Γ Wx (.raise c [] [])) := by
  obtain ⟨h1, h2, h3, B, newId, initId, bmB, F, q⟩ := G.rse c n hn hr
  refine ps_imp (L2N.ps_raise (G.g.calm rfl) tk (L2N.pmk_own F q (G.g.cls c n hn) h3 h2 hg hd)) fun D σ H ⟨m, ρ, S, f, ρ', S', A, h, p⟩ => ?_
  unfold x1 at h
  unfold evs at h
  cases (Option.some.inj h)
  exact p m H σ _ _ A.h Ext.refl A.s ⟨rfl, h1, .inl ⟨rfl, rfl⟩⟩
theorem S_fset {f : Nat} {o e : Ex} (G : Good C Γ K hot X) (hn : K.mnm[f]? = some n) (hs : swapsWith z (some (.Attribute x n p)) pos.line X.env = pure false) (ho : PE X x (rdE C Γ Wx o)) (he : PE X z (rdE C Γ Wx e)) :
    PS X (.Assign [.Attribute x n p] z pos) (rdS C Γ Wx (.fset o f e)) := by
  refine ps_imp (ps_fld ho he hs) fun D σ H ⟨m, ρ, S, f', ρ', S', A, h, p⟩ => ?_
  unfold x1 at h
  refine st_step A h p fun w S1 m1 H1 v h1 A1 _ rv p1 => st_step A1 h1 p1 fun w2 S2 m2 H2 v2 h2 A2 e2 rv2 p2 => ?_
  obtain ⟨S4, h4, h5⟩ := Option.map_eq_some_iff.mp h2
  cases h5
  unfold setFl at h4
  split at h4
  · rename_i k
    split at h4
    · rename_i c fs hS
      split at h4
      · rename_i hq
        cases (Option.some.inj h4)
        cases rv2 with
        | loc hm =>
          rename_i a2
          obtain ⟨f1, f2, f3⟩ := G.fld c f n hq.1 hn
          obtain ⟨dx, ys, z1, z2⟩ := A2.h.cell _ _ _ hm hS
          have rvv := rv.mono e2
          have len : ∀ {fs : List (Nat × W)} {ys : List (Str × V)}, RF C.K C.fn m2 H2 fs ys → fs.length = ys.length := fun r => by
            induction r with
            | nil => rfl
            | cons _ _ ih => rw [List.length_cons, List.length_cons, ih]
          have put : ∀ {fs : List (Nat × W)} {ys : List (Str × V)}, RF C.K C.fn m2 H2 fs ys → RF C.K C.fn m2 H2 (putW f w fs) (putF n v ys) := fun r => by
            induction r with
            | nil =>
              have q : RF C.K C.fn m2 H2 [(f, w)] [(C.fn f, v)] := .cons rvv .nil
              rw [f1] at q
              exact q
            | cons hw r ih =>
              rename_i k2 w2 v2 fs2 ys2
              unfold putW putF
              by_cases hk : k2 = f
              · subst hk
                rw [if_pos rfl, if_pos f1]
                exact .cons rvv r
              · rw [if_neg hk, if_neg (fun e => hk (G.inj f k2 n hn e))]
                exact .cons hw ih
          refine ⟨_, _, dx, ys, rfl, z1, f2, f3, by rw [← len z2]; exact hq.2, ?_⟩
          have im : Imm H2 (upd H2 a2 (.ins (C.cl c) dx (putF n v ys))) := fun a u hu hmu => by
            have ne : a ≠ a2 := fun z => by
              rw [z, z1] at hu
              have e := Option.some.inj hu
              subst e
              cases hmu
            rw [upd_ne ne]
            exact hu
          have n1 := A2.h.set (d := .ins c (putW f w fs)) (o := .ins (C.cl c) dx (putF n v ys)) hm hS rfl rfl rfl ⟨dx, _, upd_same, (put z2).imm im⟩
          exact p2 m2 _ σ n1.1 n1.2 (A2.s.mono n1.2)
      · cases h4
    · cases h4
  · cases h4
end
end Ip

/-! IpTry: try, except; the check of statements. Written by an AI agent. -/
namespace Ip
open PySem PySem.Spec PyProof.Rows L2

/-! ### the caught exception -/
def Cf.exn (C : Cf) (a : Addr) (cls : Value) (d : Option Addr) (k : Nat) : Cf := { C with xi := fun b c e => b = a ∧ c = cls ∧ e = d, xn := fun n => n = k }
section
variable {C : Cf} {m m' m2 : List Addr} {S S' S2 : Store} {H H' H2 : Hp} {ρ : Env} {σ : L2.St} {a : Addr} {cls : Value} {d : Option Addr} {k : Nat}
theorem RC.into (no : ∀ a c d, ¬ C.xi a c d) {b : Addr} : ∀ {c : Cell}, RC C m H b c → RC (C.exn a cls d k) m H b c
  | .lst _, h => h
  | .fro _, h => h
  | .dct _, h => h
  | .ins _ _, h => h
  | .exn _ _, ⟨_, h, _⟩ => absurd h (no _ _ _)
  | .dead, h => h
theorem RelH.into (no : ∀ a c d, ¬ C.xi a c d) (non : ∀ n, ¬ C.xn n) (R : RelH C m S H) : RelH (C.exn a cls d k) m S H :=
  ⟨R.len, fun n b c h1 h2 => RC.into no (R.cell n b c h1 h2), R.dis, fun n c fs h => absurd (R.exs n c fs h) (non n)⟩
theorem RelH.exn {c : Nat} {fs : List (Nat × W)} (R : RelH (C.exn a cls d S.length) m S H) (e : cls = .ref (C.cl c)) (hc : C.xc c) (hd : RXd C m H d fs) :
    RelH (C.exn a cls d S.length) (m ++ [a]) (S ++ [.exn c fs]) H ∧ Ext m S H (m ++ [a]) (S ++ [.exn c fs]) H ∧ (m ++ [a])[S.length]? = some a := by
  have old : ∀ {n : Nat}, n < S.length → (m ++ [a])[n]? = m[n]? ∧ (S ++ [Cell.exn c fs])[n]? = S[n]? := fun {n} h => ⟨List.getElem?_append_left (by rw [R.len]; exact h), List.getElem?_append_left h⟩
  have last : ∀ {n : Nat} {d : Cell}, ¬ n < S.length → (S ++ [Cell.exn c fs])[n]? = some d → n = S.length ∧ d = .exn c fs := fun {n d} h q => by
    rw [List.getElem?_append_right (by omega)] at q
    have z : n - S.length = 0 := by
      by_cases z : n - S.length = 0
      · exact z
      · rw [List.getElem?_eq_none (by simp; omega)] at q
        cases q
    rw [z] at q
    exact ⟨by omega, (Option.some.inj q).symm⟩
  have lastm : (m ++ [a])[S.length]? = some a := by rw [← R.len]; simp
  have ext : Ext m S H (m ++ [a]) (S ++ [Cell.exn c fs]) H := ⟨⟨[a], rfl⟩, fun b o h k => ⟨h, fun ho z => by
    obtain ⟨n, u, q1, q2, q3⟩ := z
    by_cases hn : n < S.length
    · rw [(old hn).1] at q1
      rw [(old hn).2] at q2
      exact k ho ⟨n, u, q1, q2, q3⟩
    · obtain ⟨_, e⟩ := last hn q2
      subst e
      cases q3⟩⟩
  refine ⟨⟨by rw [List.length_append, List.length_append, R.len]; rfl, fun n b u h1 h2 => ?_, fun n k b u f h1 h2 h3 h4 h5 h6 => ?_, fun n c' fs' h => ?_⟩, ext, lastm⟩
  · by_cases hn : n < S.length
    · rw [(old hn).1] at h1
      rw [(old hn).2] at h2
      exact RC.mono ext (fun _ o h _ => h) (R.cell n b u h1 h2)
    · obtain ⟨en, ed⟩ := last hn h2
      subst ed
      rw [en, lastm] at h1
      have e1 : a = b := Option.some.inj h1
      subst e1
      exact ⟨d, ⟨rfl, e.symm, rfl⟩, hc, hd.mono ext⟩
  · by_cases hn : n < S.length
    · by_cases hk : k < S.length
      · rw [(old hn).1] at h1
        rw [(old hk).1] at h2
        rw [(old hn).2] at h3
        rw [(old hk).2] at h4
        exact R.dis n k b u f h1 h2 h3 h4 h5 h6
      · obtain ⟨_, e⟩ := last hk h4
        subst e
        cases h6
    · obtain ⟨_, e⟩ := last hn h3
      subst e
      cases h5
  · by_cases hn : n < S.length
    · rw [(old hn).2] at h
      exact R.exs n c' fs' h
    · exact (last hn h).1
/-- behind the suite -/
theorem RelH.out (R : RelH (C.exn a cls d k) m S H) : RelH C m (S.set k .dead) H := by
  refine ⟨by rw [List.length_set]; exact R.len, fun n b c h1 h2 => ?_, fun n j b c e h1 h2 h3 h4 h5 h6 => ?_, fun n c fs h => ?_⟩
  · by_cases hk : k = n
    · subst hk
      by_cases hl : k < S.length
      · rw [List.getElem?_set_self hl] at h2
        have e := Option.some.inj h2
        subst e
        exact trivial
      · rw [List.getElem?_eq_none (by rw [List.length_set]; omega)] at h2
        cases h2
    · rw [List.getElem?_set_ne hk] at h2
      have r := R.cell n b c h1 h2
      cases c with
      | exn c fs => exact absurd (R.exs n c fs h2).symm hk
      | _ => exact r
  · have back : ∀ {n : Nat} {c : Cell}, (S.set k .dead)[n]? = some c → c.mut = true → S[n]? = some c := fun {n c} h hm => by
      by_cases hk : k = n
      · subst hk
        by_cases hl : k < S.length
        · rw [List.getElem?_set_self hl] at h
          have e := Option.some.inj h
          subst e
          cases hm
        · rw [List.getElem?_eq_none (by rw [List.length_set]; omega)] at h
          cases h
      · rw [List.getElem?_set_ne hk] at h
        exact h
    exact R.dis n j b c e h1 h2 (back h3 h5) (back h4 h6) h5 h6
  · by_cases hk : k = n
    · subst hk
      by_cases hl : k < S.length
      · rw [List.getElem?_set_self hl] at h
        cases (Option.some.inj h)
      · rw [List.getElem?_eq_none (by rw [List.length_set]; omega)] at h
        cases h
    · rw [List.getElem?_set_ne hk] at h
      exact absurd (R.exs n c fs h).symm hk
theorem ext_out (e : Ext m S H m2 S2 H2) : Ext m S H m2 (S2.set k .dead) H2 := ⟨e.pre, fun b o h q => by
  obtain ⟨h1, h2⟩ := e.keep b o h q
  refine ⟨h1, fun ho z => h2 ho ?_⟩
  obtain ⟨n, c, q1, q2, q3⟩ := z
  by_cases hk : k = n
  · subst hk
    by_cases hl : k < S2.length
    · rw [List.getElem?_set_self hl] at q2
      have e := Option.some.inj q2
      subst e
      cases q3
    · rw [List.getElem?_eq_none (by rw [List.length_set]; omega)] at q2
      cases q2
  · rw [List.getElem?_set_ne hk] at q2
    exact ⟨n, c, q1, q2, q3⟩⟩
theorem Rst.unset (r : Rst C.K m H ρ σ) (i : Nat) : Rst C.K m H (ρ.set i none) (σ.set i none) := by
  refine ⟨by rw [List.length_set, List.length_set]; exact r.1, fun j w hw => ?_⟩
  by_cases hj : i = j
  · subst hj
    by_cases hl : i < ρ.length
    · rw [List.getElem?_set_self hl] at hw
      cases (Option.some.inj hw)
    · rw [List.getElem?_eq_none (by rw [List.length_set]; omega)] at hw
      cases hw
  · rw [List.getElem?_set_ne hj] at hw
    obtain ⟨v, h1, h2⟩ := r.2 j w hw
    exact ⟨v, by rw [List.getElem?_set_ne hj]; exact h1, h2⟩
end

/-! ### the contexts of a try -/
section
variable {C : Cf} {Γ : Gam} {K : Ck} {X : Cx} {a : Addr} {oe : Obj} {cls : Value} {d : Option Addr} {pn : List (Addr × Obj)} {k : Nat} {xe : Value → Shared → Prop}
theorem Good.tr (G : Good C Γ K false X) : Good C Γ K false (X.tr pn xe) := by
  have no : ∀ a c d, ¬ C.xi a c d := G.xno rfl
  refine ⟨G.hK, G.hN, G.hsc, G.hnd, G.hu, G.calm, .inl (G.calm rfl), G.kind, G.bn, G.glob, ?_, G.cls, G.inj, G.kt, G.xk, G.call, G.meth, G.make, G.xno, G.xnn, G.fld, G.xcc, G.flx, G.xup, G.fnT, fun Wx y e n p x hp hb hn => ?_⟩
  · intro pins s' σ H' xs us Q I r h
    rcases h with h | ⟨a, c, t, b, _, z, _, _⟩
    · rw [← G.hK] at h
      exact call_isi (X := X.tr pn xe) pins s' σ H' xs us Q I r h
    · exact absurd z (no _ _ _)
  · refine pe_imp (pe_fld hp (sup_base hb)) fun σ H Q ⟨m, ρ, S, r, A, h, p⟩ => ⟨m, ρ, S, r, A, h, ?_⟩
    obtain ⟨r, S'⟩ := r
    cases r with
    | ex x => exact p
    | ok w =>
      intro m' H' v R e rv
      obtain ⟨a, c, d, _, _, _, _, z, _⟩ := p m' H' v R e rv
      exact absurd z (no _ _ _)
theorem GoodS.tr (G : GoodS C Γ K false X) (hp : PassesOwn (model X.prog X.w) X.A X.env xe) : GoodS C Γ K false (X.tr pn xe) := ⟨G.g.tr, G.stk, G.frm, hp, G.rse⟩
theorem Good.suite (G : Good C Γ K false X) (hz : L2N.Zn cls d oe) (hf : ∃ vs, oe.data = .fields vs) : Good (C.exn a cls d k) Γ K true (X.suite a ((a, oe) :: pn)) := by
  refine ⟨G.hK, G.hN, G.hsc, G.hnd, G.hu, (fun z => by cases z), .inr ?_, G.kind, G.bn, G.glob, ?_, G.cls, G.inj, G.kt, G.xk, (fun z => by cases z), (fun z => by cases z), (fun z => by cases z), (fun z => by cases z), (fun z => by cases z), G.fld, G.xcc, G.flx, G.xup, G.fnT, fun Wx y e n p x hp hb hn => ?_⟩
  · obtain ⟨vs, hv⟩ := hf
    exact ⟨(a, oe), ⟨rfl, vs, hv, hz.2.2 vs hv⟩, List.mem_cons_self⟩
  · intro pins s' σ H' xs us Q I r h
    rcases h with h | ⟨a', c, t, b, e1, z, zc, e, q⟩
    · have hK' : (C.exn a cls d k).K = (X.suite a ((a, oe) :: pn)).K := G.hK.symm
      rw [hK'] at h
      exact call_isi (X := X.suite a ((a, oe) :: pn)) pins s' σ H' xs us Q I r h
    · obtain ⟨z1, z2, z3⟩ := z
      change Value.ref (C.cl c) = cls at z2
      change C.xc c at zc
      change PySem.W.kitOne C.K (.ref (C.cl c)) (isaU C t) = some b at e
      change xs = [_, isaV C t] at e1
      subst z1
      subst z2
      subst z3
      have xc := (G.xcc c zc).1
      rw [← G.hK] at xc
      refine call_isE (X := X) (D := C.cl c) xc hz.zc hf pins s' σ H' xs us Q I r ⟨isaV C t, isaU C t, b, e1, fun u ru => (isa_cls C t).eq ru, ?_, q⟩
      rw [G.hK]
      exact e
  · by_cases hh : ∃ c, C.xc c ∧ cls = .ref (C.cl c) ∧ PySem.W.findIn C.K (.ref (C.cl c)) n = some Option.none
    · obtain ⟨c, hc, ec, hno⟩ := hh
      have xf := (G.xcc c hc).2
      rw [← G.hK] at xf hno
      refine pe_imp (pe_xf (X := X) (d := d) xf hno hz.zc hf hp (sup_base hb)) fun σ H Q ⟨m, ρ, S, r, A, h, p⟩ => ⟨m, ρ, S, r, A, h, ?_⟩
      obtain ⟨r, S'⟩ := r
      cases r with
      | ex x => exact p
      | ok w =>
        intro m' H' v R e1 rv
        obtain ⟨a', c', d', dd, fs, u, ev, ⟨z1, z2, z3⟩, zc, hfo, ed, hdd, hl, q⟩ := p m' H' v R e1 rv
        subst z1
        exact ⟨ev, ec, dd, fs, u, by rw [← z3]; exact ed, hdd, hl, q⟩
    · refine ⟨fun pins s σ H Q I q => ?_⟩
      refine (pe_imp (pe_fld (X := X.suite a ((a, oe) :: pn)) (f := n) (pos := p) hp (sup_base hb)) fun σ H Q (h : rdX (C.exn a cls d k) Γ Wx e x n σ H Q) => ?_).run pins s σ H Q I q
      obtain ⟨m, ρ, S, r, A, h, p⟩ := h
      refine ⟨m, ρ, S, r, A, h, ?_⟩
      obtain ⟨r, S'⟩ := r
      cases r with
      | ex x => exact p
      | ok w =>
        intro m' H' v R e1 rv
        obtain ⟨a', c', d', dd, fs, u, ev, ⟨z1, z2, z3⟩, zc, hfo, ed, hdd, hl, q⟩ := p m' H' v R e1 rv
        exact absurd ⟨c', zc, z2.symm, (G.flx c' x n zc hfo hn).2⟩ hh
theorem GoodS.suite (G : GoodS C Γ K false X) (hz : L2N.Zn cls d oe) (hf : ∃ vs, oe.data = .fields vs) : GoodS (C.exn a cls d k) Γ K true (X.suite a ((a, oe) :: pn)) := ⟨G.g.suite hz hf, G.stk, G.frm, PassesOwn.never, G.rse⟩
end
section
variable {C : Cf} {Γ : Gam} {Wx : WX} {K : Ck} {X : Cx} {pos p ap p2 : Pos} {i c : Nat} {n n2 : Str} {bs cs : List Sx} {ss ts : List Stmt} {s0 : Stmt}
theorem S_tryAs (G : GoodS C Γ K false X) (tk : L2N.Takes X Wx) (hi : X.N[i]? = some n) (hl : X.env.scope.names.lookup n = some .local) (hn : K.cnm[c]? = some n2) (hc : c ∈ K.cts) (hg : Gl X n2) (hd : (n2 == ("__debug__" : Str)) = false)
    (hb : ∀ (W : WX) (pn : List (Addr × Obj)) (xe : Value → Shared → Prop), GoodS C Γ K false (X.tr pn xe) → L2N.Takes (X.tr pn xe) W → PSs (X.tr pn xe) ss (rdSs C Γ W bs))
    (hs : ∀ (a : Addr) (oe : Obj) (cls : Value) (d : Option Addr) (pn : List (Addr × Obj)) (k : Nat), GoodS (C.exn a cls d k) Γ K true (X.suite a ((a, oe) :: pn)) → PSs (X.suite a ((a, oe) :: pn)) (s0 :: ts) (rdSs (C.exn a cls d k) Γ W0 cs)) :
    PS X (.Try ss [.ExceptHandler (some (.Name n2 p)) (some n) (s0 :: ts) p2] [] [] pos) (rdS C Γ Wx (.tryAs bs c i cs)) := by
  refine ps_imp (L2N.ps_try_as (tb := fun W => rdSs C Γ W bs) (ts := fun a cls d D σ H => ∃ k, rdSs (C.exn a cls d k) Γ W0 cs D σ H) G.stk G.frm G.g.hnd hi hl ⟨hg, hd, .inl (G.g.cls c n2 hn)⟩ tk
    (fun W pn xe tk' hp => hb W pn xe (G.tr hp) tk')
    (fun a oe cls d pn hz hf => ⟨fun pins s σ H D I ⟨k, q⟩ => (hs a oe cls d pn k (G.suite hz hf)).run pins s σ H D I q⟩)) fun D σ H ⟨m, ρ, S, f, ρ', S', A, h, pf⟩ => ?_
  unfold x1 at h
  have no := G.g.xno rfl
  have non := G.g.xnn rfl
  split at h
  · rename_i e ρ1 S1 hx
    refine ⟨m, ρ, S, _, _, _, A, hx, fun m1 H1 σ1 cls d R1 e1 r1 rx => ?_⟩
    obtain ⟨ecls, hxc, hxd⟩ := rx
    refine ⟨Γ.up e.cls c, ?_, fun hup a ha => ?_, fun hup => ?_⟩
    · rw [G.g.hK, ecls]
      exact G.g.xup e.cls c hxc hc
    · rw [if_pos hup] at h
      obtain ⟨R2, e2, hm2⟩ := (R1.into (a := a) (cls := cls) (d := d) (k := S1.length) no non).exn ecls hxc hxd
      have fin : ∀ {f : Fl} {ρ2 : Env} {S2 : Store}, xs Γ cs (ρ1.set i (some (.loc S1.length))) (S1 ++ [.exn e.cls e.fs]) = some (f, ρ2, S2) →
          PF (C.exn a cls d S1.length) W0 (m1 ++ [a]) (S1 ++ [.exn e.cls e.fs]) H1 { nx := fun σ' H' => D.nx (σ'.set i none) H', rt := D.rt, bk := fun σ' H' => D.bk (σ'.set i none) H', ct := fun σ' H' => D.ct (σ'.set i none) H' } f ρ2 S2 →
          ∃ k, rdSs (C.exn a cls d k) Γ W0 cs { nx := fun σ' H' => D.nx (σ'.set i none) H', rt := D.rt, bk := fun σ' H' => D.bk (σ'.set i none) H', ct := fun σ' H' => D.ct (σ'.set i none) H' } (σ1.set i (some (.ref a))) H1 := fun {f ρ2 S2} hs2 pf2 =>
        ⟨S1.length, m1 ++ [a], _, _, f, ρ2, S2, ⟨R2, (r1.mono e2).set i (.loc hm2)⟩, hs2, pf2⟩
      have e12 := e1.trans e2
      split at h
      · cases h
      · rename_i f2 ρ2 S2 hne hs2
        cases (Option.some.inj h)
        refine fin hs2 ?_
        cases f with
        | nxt => exact fun m3 H3 σ3 R3 e3 r3 => pf m3 H3 _ R3.out (ext_out (e12.trans e3)) (r3.unset i)
        | brk => exact fun m3 H3 σ3 R3 e3 r3 => pf m3 H3 _ R3.out (ext_out (e12.trans e3)) (r3.unset i)
        | cnt => exact fun m3 H3 σ3 R3 e3 r3 => pf m3 H3 _ R3.out (ext_out (e12.trans e3)) (r3.unset i)
        | ret w => exact fun m3 H3 v R3 e3 r3 => pf m3 H3 v R3.out (ext_out (e12.trans e3)) r3
        | ex x => exact (hne _ rfl).elim
      · cases h
    · rw [if_neg (by rw [hup]; exact Bool.false_ne_true)] at h
      cases (Option.some.inj h)
      exact pf m1 H1 σ1 cls d R1 e1 r1 ⟨ecls, hxc, hxd⟩
  · rename_i o hne
    refine ⟨m, ρ, S, f, ρ', S', A, h, ?_⟩
    cases f with
    | nxt => exact pf
    | brk => exact pf
    | cnt => exact pf
    | ret w => exact pf
    | ex x => exact absurd h (hne _ _ _)
theorem S_tryOnly (G : GoodS C Γ K false X) (tk : L2N.Takes X Wx) (hn : K.cnm[c]? = some n2) (hc : c ∈ K.cts) (hg : Gl X n2) (hd : (n2 == ("__debug__" : Str)) = false)
    (hb : ∀ (W : WX) (pn : List (Addr × Obj)) (xe : Value → Shared → Prop), GoodS C Γ K false (X.tr pn xe) → L2N.Takes (X.tr pn xe) W → PSs (X.tr pn xe) ss (rdSs C Γ W bs))
    (hs : ∀ (a : Addr) (oe : Obj) (cls : Value) (d : Option Addr) (pn : List (Addr × Obj)) (k : Nat), GoodS (C.exn a cls d k) Γ K true (X.suite a ((a, oe) :: pn)) → PSs (X.suite a ((a, oe) :: pn)) (s0 :: ts) (rdSs (C.exn a cls d k) Γ W0 cs)) :
    PS X (.Try ss [.ExceptHandler (some (.Name n2 p)) Option.none (s0 :: ts) p2] [] [] pos) (rdS C Γ Wx (.tryOnly bs c cs)) := by
  refine ps_imp (L2N.ps_try_many (tb := fun W => rdSs C Γ W bs) (l := [(Value.ref (C.cl c), fun a cls d D σ H => ∃ k, rdSs (C.exn a cls d k) Γ W0 cs D σ H)]) G.stk G.frm tk
    (fun W pn xe tk' hp => hb W pn xe (G.tr hp) tk')
    (.cons ⟨hg, hd, .inl (G.g.cls c n2 hn)⟩ (fun a oe cls d pn hz hf => ⟨fun pins s σ H D I ⟨k, q⟩ => (hs a oe cls d pn k (G.suite hz hf)).run pins s σ H D I q⟩) .nil)) fun D σ H ⟨m, ρ, S, f, ρ', S', A, h, pf⟩ => ?_
  unfold x1 at h
  have no := G.g.xno rfl
  have non := G.g.xnn rfl
  split at h
  · rename_i e ρ1 S1 hx
    refine ⟨m, ρ, S, _, _, _, A, hx, fun m1 H1 σ1 cls d R1 e1 r1 rx => ?_⟩
    obtain ⟨ecls, hxc, hxd⟩ := rx
    refine ⟨Γ.up e.cls c, ?_, fun hup a ha => ?_, fun hup => ?_⟩
    · rw [G.g.hK, ecls]
      exact G.g.xup e.cls c hxc hc
    · rw [if_pos hup] at h
      have R2 := R1.into (a := a) (cls := cls) (d := d) (k := S1.length) no non
      have outN : ∀ {m3 : List Addr} {S3 : Store} {H3 : Hp}, RelH (C.exn a cls d (S1.length + S3.length)) m3 S3 H3 → RelH C m3 S3 H3 := fun {m3 S3 H3} R3 => by
        have r := R3.out
        rw [List.set_eq_of_length_le (by omega)] at r
        exact r
      split at h
      · cases h
      · rename_i hne
        have R2' := R1.into (a := a) (cls := cls) (d := d) (k := S1.length + S'.length) no non
        refine ⟨S1.length + S'.length, m1, ρ1, S1, f, ρ', S', ⟨R2', r1⟩, h, ?_⟩
        cases f with
        | nxt => exact fun m3 H3 σ3 R3 e3 r3 => pf m3 H3 _ (outN R3) (e1.trans e3) r3
        | brk => exact fun m3 H3 σ3 R3 e3 r3 => pf m3 H3 _ (outN R3) (e1.trans e3) r3
        | cnt => exact fun m3 H3 σ3 R3 e3 r3 => pf m3 H3 _ (outN R3) (e1.trans e3) r3
        | ret w => exact fun m3 H3 v R3 e3 r3 => pf m3 H3 v (outN R3) (e1.trans e3) r3
        | ex x => exact absurd h (hne _ _ _)
    · rw [if_neg (by rw [hup]; exact Bool.false_ne_true)] at h
      cases (Option.some.inj h)
      exact pf m1 H1 σ1 cls d R1 e1 r1 ⟨ecls, hxc, hxd⟩
  · rename_i o hne
    refine ⟨m, ρ, S, f, ρ', S', A, h, ?_⟩
    cases f with
    | nxt => exact pf
    | brk => exact pf
    | cnt => exact pf
    | ret w => exact pf
    | ex x => exact absurd h (hne _ _ _)
end
end Ip

/-! IpChkS: the check of statements, and that it is enough. Written by an AI agent. -/
namespace Ip
open PySem PySem.Spec PyProof.Rows L2
def noComp : Expr → Bool
  | .ListComp _ _ _ _ => false
  | .SetComp _ _ _ _ => false
  | .DictComp _ _ _ _ _ => false
  | _ => true
def noTup : Expr → Bool
  | .Tuple _ _ _ => false
  | _ => true
def locL (K : Ck) (n : Str) : Bool := decide (K.sc.names.lookup n = some .local)
/-- name = value: no comprehension but a list's -/
def asgB : Expr → Bool
  | .ListComp _ _ _ _ => true
  | x => noComp x
def isAS : Op2 → Bool
  | .add => true
  | .sub => true
  | _ => false
mutual
def chkS (h : Bool) (K : Ck) : Sx → Stmt → Bool
  | .asg i e, s => (match s with
    | .Assign [.Name n _] x _ => nmB K i n && asgB x && chkE h K e x
    | _ => false)
  | .unp is e, s => (match s with
    | .Assign [.Tuple ti kk p] x _ => !h && chkTg K is (.Tuple ti kk p) && noComp x && noTup x && chkE h K e x
    | _ => false)
  | .par i j a b, s => (match s with
    | .Assign [.Tuple [.Name n px, .Name n2 py] _ _] (.Tuple [x, y] _ _) _ => !h && decide (K.N[i]? = some n) && decide (K.N[j]? = some n2) && decide (i ≠ j) && decide (n ≠ n2) && locL K n && locL K n2 && (py.line == px.line) && !([x, y].all (foldedForSure 8)) && !([x, y].all (constantsAlone 8)) && chkEs h K [a, b] [x, y]
    | _ => false)
  | .sub o i e, s => (match s with
    | .Assign [.Subscript x y _] z _ => noSlc y && noComp z && chkE h K o x && chkE h K i y && chkE h K e z
    | _ => false)
  | .fset o f e, s => (match s with
    | .Assign [.Attribute x n _] z _ => decide (K.mnm[f]? = some n) && noComp z && chkE h K o x && chkE h K e z
    | _ => false)
  | .aug i op e, s => (match s with
    | .AugAssign (.Name n _) o x _ => op2Eq op o && isAS op && nmB K i n && chkE h K e x
    | _ => false)
  | .augs _ _ _ _, _ => false
  | .exp e, s => (match s with
    | .Expr x _ => noComp x && chkE h K e x
    | _ => false)
  | .iff c a b, s => (match s with
    | .If z ss ts _ => noIte z && chkE h K c z && chkSs h K a ss && chkSs h K b ts
    | _ => false)
  | .for tg k es b, s => (match s with
    | .For ptg piter ss [] _ => !h && chkTg K tg ptg && noSet piter && (match itArgs K.sc k ptg piter with
      | some args => decide (es.length = args.length) && chkEs h K es args
      | none => false) && chkSs h K b ss
    | _ => false)
  | .while c b, s => (match s with
    | .While z ss [] _ => noIte z && chkE h K c z && chkSs h K b ss
    | _ => false)
  | .ret e, s => (match s with
    | .Return (some x) _ => chkE h K e x
    | _ => false)
  | .retN, s => (match s with
    | .Return none _ => true
    | _ => false)
  | .raise c fs es, s => (match s with
    | .Raise (some (.Call (.Name n _) [.Constant (.str _) _ _] [] _)) none _ => !h && fs.isEmpty && es.isEmpty && decide (K.cnm[c]? = some n) && decide (c ∈ K.rs) && glB K.sc n
    | _ => false)
  | .tryAs b c i su, s => (match s with
    | .Try ss [.ExceptHandler (some (.Name n2 _)) (some n) (s0 :: ts) _] [] [] _ => !h && decide (K.N[i]? = some n) && locL K n && decide (K.cnm[c]? = some n2) && decide (c ∈ K.cts) && glB K.sc n2 && chkSs false K b ss && chkSs true K su (s0 :: ts)
    | _ => false)
  | .tryOnly b c su, s => (match s with
    | .Try ss [.ExceptHandler (some (.Name n2 _)) none (s0 :: ts) _] [] [] _ => !h && decide (K.cnm[c]? = some n2) && decide (c ∈ K.cts) && glB K.sc n2 && chkSs false K b ss && chkSs true K su (s0 :: ts)
    | _ => false)
  | .pass, s => (match s with
    | .Pass _ => true
    | .Expr (.Constant (.str _) _ _) _ => true
    | _ => false)
  | .brk, s => (match s with
    | .Break _ => true
    | _ => false)
  | .cnt, s => (match s with
    | .Continue _ => true
    | _ => false)
def chkSs (h : Bool) (K : Ck) : List Sx → List Stmt → Bool
  | [], ss => ss.isEmpty
  | s :: r, ss => (match ss with
    | st :: ss => chkS h K s st && chkSs h K r ss
    | [] => false)
end
section
variable {C : Cf} {Γ : Gam} {Wx : WX} {K : Ck} {hot : Bool} {X : Cx} {x y : Expr} {n n2 : Str} {l : Nat} {pos p : Pos}
theorem sw_none (h : noComp x = true) (t : Option Expr) : swapsWith x t l X.env = pure false := by
  cases x <;> first | rfl | cases h
theorem sw_sole (h : noComp x = true) {t : Expr} : swapsWithSole [t] x l X.env = pure false := sw_none h _
theorem sst_none (h : noTup x = true) {t : Expr} : swappedStores [t] x X.env = pure Option.none := by
  cases x <;> first | rfl | (cases t <;> rfl) | cases h
theorem sst_par {px py pt pt2 : Pos} {kt k2 : Nat} (hk : X.env.scope.kind = .function) (h1 : X.env.scope.names.lookup n = some .local) (h2 : X.env.scope.names.lookup n2 = some .local) (hne : n ≠ n2) (hl : (py.line == px.line) = true)
    (hx : noStar x = true) (hy : noStar y = true) (hf : (!([x, y].all (foldedForSure 8))) = true) (hc : (!([x, y].all (constantsAlone 8))) = true) :
    swappedStores [.Tuple [.Name n px, .Name n2 py] kt pt] (.Tuple [x, y] k2 pt2) X.env = pure (some [n, n2]) := by
  have hb : X.env.blockKind = .function := by unfold Env.blockKind; rw [hk]; rfl
  have k1 : X.env.kindOf n = some .local := h1
  have k2 : X.env.kindOf n2 = some .local := h2
  have hf' : [x, y].all (foldedForSure 8) = false := by
    cases h : [x, y].all (foldedForSure 8) with
    | false => rfl
    | true => rw [h] at hf; cases hf
  have hc' : [x, y].all (constantsAlone 8) = false := by
    cases h : [x, y].all (constantsAlone 8) with
    | false => rfl
    | true => rw [h] at hc; cases hc
  have st : ∀ {e : Expr}, noStar e = true → (match (generalizing := false) e with | .Starred _ _ => true | _ => false) = false := fun {e} h => by
    cases e <;> first | rfl | cases h
  have hs : ([x, y].any fun | .Starred _ _ => true | _ => false) = false := by
    show ((match (generalizing := false) x with | .Starred _ _ => true | _ => false) || ((match (generalizing := false) y with | .Starred _ _ => true | _ => false) || false)) = false
    rw [st hx, st hy]
    rfl
  have ed : [n, n2].eraseDups.length = 2 := by
    have e3 : (n2 == n) = false := by simpa using (Ne.symm hne)
    simp [List.eraseDups_cons, e3]
  have e1 : (X.env.blockKind != .function) = false := by rw [hb]; rfl
  have g1 : (some NameKind.local == some NameKind.local) = true := rfl
  have g2 : (px.line == px.line) = true := by simp
  unfold swappedStores
  show (if (!([Expr.Name n px, Expr.Name n2 py].length == 2 || [Expr.Name n px, Expr.Name n2 py].length == 3) || [x, y].length != [Expr.Name n px, Expr.Name n2 py].length || X.env.blockKind != .function) = true then (pure Option.none : Sem (Option (List Str))) else _) = _
  rw [if_neg (by rw [e1]; exact Bool.false_ne_true)]
  show (if ([x, y].any fun | .Starred _ _ => true | _ => false) = true then (pure Option.none : Sem (Option (List Str))) else _) = _
  rw [hs, if_neg Bool.false_ne_true]
  have hfm : ([Expr.Name n px, Expr.Name n2 py].filterMap fun
      | .Name id pos => if (X.env.kindOf id == some .local && pos.line == px.line) = true then some id else Option.none
      | _ => Option.none) = [n, n2] := by
    simp only [List.filterMap_cons, List.filterMap_nil, k1, k2, g1, g2, hl, Bool.and_self, if_true]
  have goal : ∀ (nl : List Str), nl = [n, n2] → (if (nl.length != 2 || nl.eraseDups.length != nl.length) = true then (pure Option.none : Sem (Option (List Str))) else if [x, y].all (foldedForSure 8) = true then pure Option.none else
      if [x, y].all (constantsAlone 8) = true then (do let _ ← (unsupported "assign.tuple-of-constant-expressions:order-of-the-stores" : Sem PUnit); pure (some nl)) else pure (some nl)) = pure (some [n, n2]) := fun nl e => by
    subst e
    rw [if_neg (by rw [ed]; exact Bool.false_ne_true), hf', if_neg Bool.false_ne_true, hc', if_neg Bool.false_ne_true]
  exact goal _ hfm
theorem sw_lc {elt : Expr} {gs : List Comprehension} {scope : Scope} {p2 : Pos} : swapsWith (.ListComp elt gs scope p2) (some (.Name n p)) l X.env = pure (X.env.blockKind == .function && X.env.kindOf n == some .local && p.line == p2.line && !(scope.names.any fun (m, k) => m == n && (k == .local || k == .cell))) := rfl
end
mutual
theorem okS (Γ : Gam) : ∀ (s : Sx) (C : Cf) (hot : Bool) (K : Ck) (X : Cx) (Wx : WX) (st : Stmt), GoodS C Γ K hot X → (hot = false → L2N.Takes X Wx) → chkS hot K s st = true → PS X st (rdS C Γ Wx s)
  | .asg i e, C, hot, K, X, Wx, st, G, tk, h => by
    unfold chkS at h
    split at h
    · rename_i n p x pos
      have h := ba h
      have h1 := ba h.1
      have hnm := h1.1
      unfold nmB at hnm
      have hnm := ba hnm
      have hi : X.N[i]? = some n := by rw [G.g.hN]; exact of_decide_eq_true hnm.1
      have l := loc_ok G.g hnm.2
      have he := (okE C Γ e hot K X Wx x G.g tk h.2).1
      by_cases hc : noComp x = true
      · exact S_asg G.g.hnd hi l.1 l.2 he (sw_none hc _)
      · have ha := h1.2
        cases x <;> try (first | exact absurd rfl hc | exact absurd (show false = true from ha) Bool.false_ne_true)
        rename_i elt gs scope p2 _
        cases hb : (X.env.blockKind == .function && X.env.kindOf n == some .local && p.line == p2.line && !(scope.names.any fun (m, k) => m == n && (k == .local || k == .cell))) with
        | false => exact S_asg G.g.hnd hi l.1 l.2 he (by rw [sw_lc, hb])
        | true =>
          cases e with
          | lc elt' tg k es ifs =>
            have q := h.2
            unfold chkE at q
            split at q
            · rename_i pelt ptg piter pifs scope' p3 heq
              cases heq
              have h := ba q
              have h1 := ba h.1
              have h2 := ba h1.1
              have h3 := ba h2.1
              have h4 := ba h3.1
              have h5 := ba h4.1
              have h6 := ba h5.1
              have hh : hot = false := by simpa using h6.1
              subst hh
              have ok : BlkOk X.N X.env.scope scope (ownOf K.N tg) := by
                rw [G.g.hN, G.g.hsc]
                exact blkOk_by h6.2
              have G' := G.g.blk ok.kind
              have hi' : PI X ptg piter (rdI C Γ Wx k es) := by
                have q := h2.2
                split at q
                · rename_i args ha
                  have q := ba q
                  exact it_ok G.g ha (of_decide_eq_true q.1) (okEs C Γ es false K X Wx _ G.g tk q.2)
                · cases q
              have ht : ∀ (s : Shared) (H : Hp) (D : Addr) (cl : List (Str × Addr)) (fp : List Addr), PTs (X.blk s H scope (compEnvC scope cl D X.env) fp) pifs (rdTs C Γ W0 ifs) := fun s H D cl fp => by
                have q := okTs C Γ ifs false (K.blk scope) _ W0 _ (G' s H D cl fp) (fun _ => ntakes0) h1.2
                have hl := of_decide_eq_true h3.2
                cases q with
                | nil => exact ts_nil
                | cons q1 q2 q3 =>
                  cases q3 with
                  | nil => exact ts_one q2
                  | cons _ _ _ => simp at hl
              have hloc : X.env.scope.names.lookup n = some .local := by
                have z := ba (ba (ba hb).1).1
                have z2 : (X.env.kindOf n == some .local) = true := z.2
                exact beq_iff_eq.mp z2
              exact S_asgLc G.g hi hloc (by rw [sw_lc, hb]) hi' ok (own_map tg) (fun s H D cl fp => tg_ok (G' s H D cl fp) h4.2) ht
                (fun s H D cl fp => (okE C Γ elt' false (K.blk scope) _ W0 _ (G' s H D cl fp) (fun _ => ntakes0) h.2).1) (fold_ok h5.2)
            · cases q
          | _ =>
            have q := h.2
            unfold chkE at q
            cases q
    · cases h
  | .unp is e, C, hot, K, X, Wx, st, G, tk, h => by
    unfold chkS at h
    split at h
    · have h := ba h
      have h1 := ba h.1
      have h2 := ba h1.1
      have h3 := ba h2.1
      have hh : hot = false := by simpa using h3.1
      subst hh
      exact S_unp (okE C Γ e false K X Wx _ G.g tk h.2).1 (tg_ok G.g h3.2) (sw_sole h2.2) (sst_none h1.2)
    · cases h
  | .par i j a b, C, hot, K, X, Wx, st, G, tk, h => by
    unfold chkS at h
    split at h
    · rename_i n px n2 py kt pt x y k2 pt2 pos
      have h := ba h
      have h1 := ba h.1
      have h2 := ba h1.1
      have h3 := ba h2.1
      have h4 := ba h3.1
      have h5 := ba h4.1
      have h6 := ba h5.1
      have h7 := ba h6.1
      have h8 := ba h7.1
      have h9 := ba h8.1
      have hh : hot = false := by simpa using h9.1
      subst hh
      have p := okEs C Γ [a, b] false K X Wx _ G.g tk h.2
      have hs := p.noStar
      rw [List.all_cons, List.all_cons, Bool.and_eq_true, Bool.and_eq_true] at hs
      have l1 : X.env.scope.names.lookup n = some .local := by rw [G.g.hsc]; exact of_decide_eq_true h5.2
      have l2 : X.env.scope.names.lookup n2 = some .local := by rw [G.g.hsc]; exact of_decide_eq_true h4.2
      exact S_par (G.g.calm rfl) G.g.hnd (by rw [G.g.hN]; exact of_decide_eq_true h9.2) (by rw [G.g.hN]; exact of_decide_eq_true h8.2) (of_decide_eq_true h7.2) l1 l2 p
        (sst_par G.g.kind l1 l2 (of_decide_eq_true h6.2) h3.2 hs.1 hs.2.1 h2.2 h1.2)
    · cases h
  | .sub o i e, C, hot, K, X, Wx, st, G, tk, h => by
    unfold chkS at h
    split at h
    · have h := ba h
      have h1 := ba h.1
      have h2 := ba h1.1
      have h3 := ba h2.1
      exact S_sub (sw_sole h3.2) h3.1 (okE C Γ o hot K X Wx _ G.g tk h2.2).1 (okE C Γ i hot K X Wx _ G.g tk h1.2).1 (okE C Γ e hot K X Wx _ G.g tk h.2).1
    · cases h
  | .fset o f e, C, hot, K, X, Wx, st, G, tk, h => by
    unfold chkS at h
    split at h
    · have h := ba h
      have h1 := ba h.1
      have h2 := ba h1.1
      exact S_fset G.g (of_decide_eq_true h2.1) (sw_none h2.2 _) (okE C Γ o hot K X Wx _ G.g tk h1.2).1 (okE C Γ e hot K X Wx _ G.g tk h.2).1
    · cases h
  | .aug i op e, C, hot, K, X, Wx, st, G, tk, h => by
    unfold chkS at h
    split at h
    · have h := ba h
      have h1 := ba h.1
      have h2 := ba h1.1
      have e := op2Eq_ok h2.1
      subst e
      have hnm := h1.2
      unfold nmB at hnm
      have hnm := ba hnm
      have l := loc_ok G.g hnm.2
      have ho : op = .add ∨ op = .sub := by
        have q := h2.2
        cases op <;> first | exact .inl rfl | exact .inr rfl | cases q
      exact S_aug G.g.hnd (by rw [G.g.hN]; exact of_decide_eq_true hnm.1) l.1 l.2 ho (okE C Γ _ hot K X Wx _ G.g tk h.2).1
    · cases h
  | .augs _ _ _ _, C, hot, K, X, Wx, st, G, tk, h => by
    unfold chkS at h
    cases h
  | .exp e, C, hot, K, X, Wx, st, G, tk, h => by
    unfold chkS at h
    split at h
    · have h := ba h
      exact S_exp (sw_none h.1 _) (okE C Γ e hot K X Wx _ G.g tk h.2).1
    · cases h
  | .iff c a b, C, hot, K, X, Wx, st, G, tk, h => by
    unfold chkS at h
    split at h
    · have h := ba h
      have h1 := ba h.1
      have h2 := ba h1.1
      exact S_iff ((okE C Γ c hot K X Wx _ G.g tk h2.2).2 h2.1) (okSs Γ a C hot K X Wx _ G tk h1.2) (okSs Γ b C hot K X Wx _ G tk h.2)
    · cases h
  | .for tg k es b, C, hot, K, X, Wx, st, G, tk, h => by
    unfold chkS at h
    split at h
    · rename_i ptg piter ss pos
      have h := ba h
      have h1 := ba h.1
      have h2 := ba h1.1
      have h3 := ba h2.1
      have hh : hot = false := by simpa using h3.1
      subst hh
      have hi : PI X ptg piter (rdI C Γ Wx k es) := by
        have q := h1.2
        split at q
        · rename_i args ha
          have q := ba q
          exact it_ok G.g ha (of_decide_eq_true q.1) (okEs C Γ es false K X Wx _ G.g tk q.2)
        · cases q
      exact S_for G.pass (G.g.calm rfl) hi (tg_ok G.g h3.2) (okSs Γ b C false K X Wx _ G tk h.2) (fold_ok h2.2)
    · cases h
  | .while c b, C, hot, K, X, Wx, st, G, tk, h => by
    unfold chkS at h
    split at h
    · have h := ba h
      have h1 := ba h.1
      exact S_while G.pass ((okE C Γ c hot K X Wx _ G.g tk h1.2).2 h1.1) (okSs Γ b C hot K X Wx _ G tk h.2)
    · cases h
  | .ret e, C, hot, K, X, Wx, st, G, tk, h => by
    unfold chkS at h
    split at h
    · exact S_ret (okE C Γ e hot K X Wx _ G.g tk h).1
    · cases h
  | .retN, C, hot, K, X, Wx, st, G, tk, h => by
    unfold chkS at h
    split at h
    · exact S_retN
    · cases h
  | .raise c fs es, C, hot, K, X, Wx, st, G, tk, h => by
    unfold chkS at h
    split at h
    · have h := ba h
      have h1 := ba h.1
      have h2 := ba h1.1
      have h3 := ba h2.1
      have h4 := ba h3.1
      have hh : hot = false := by simpa using h4.1
      subst hh
      have e1 : fs = [] := List.isEmpty_iff.mp h4.2
      have e2 : es = [] := List.isEmpty_iff.mp h3.2
      subst e1 e2
      have q := gl_ok G.g h.2
      exact S_raise G (tk rfl) (of_decide_eq_true h2.2) (of_decide_eq_true h1.2) q.1 q.2
    · cases h
  | .tryAs b c i su, C, hot, K, X, Wx, st, G, tk, h => by
    unfold chkS at h
    split at h
    · have h := ba h
      have h1 := ba h.1
      have h2 := ba h1.1
      have h3 := ba h2.1
      have h4 := ba h3.1
      have h5 := ba h4.1
      have h6 := ba h5.1
      have hh : hot = false := by simpa using h6.1
      subst hh
      have q := gl_ok G.g h2.2
      exact S_tryAs G (tk rfl) (by rw [G.g.hN]; exact of_decide_eq_true h6.2) (by rw [G.g.hsc]; exact of_decide_eq_true h5.2) (of_decide_eq_true h4.2) (of_decide_eq_true h3.2) q.1 q.2
        (fun W pn xe G' tk' => okSs Γ b C false K _ W _ G' (fun _ => tk') h1.2)
        (fun a oe cls d pn k G' => okSs Γ su (C.exn a cls d k) true K _ W0 _ G' (fun z => by cases z) h.2)
    · cases h
  | .tryOnly b c su, C, hot, K, X, Wx, st, G, tk, h => by
    unfold chkS at h
    split at h
    · have h := ba h
      have h1 := ba h.1
      have h2 := ba h1.1
      have h3 := ba h2.1
      have h4 := ba h3.1
      have hh : hot = false := by simpa using h4.1
      subst hh
      have q := gl_ok G.g h2.2
      exact S_tryOnly G (tk rfl) (of_decide_eq_true h4.2) (of_decide_eq_true h3.2) q.1 q.2
        (fun W pn xe G' tk' => okSs Γ b C false K _ W _ G' (fun _ => tk') h1.2)
        (fun a oe cls d pn k G' => okSs Γ su (C.exn a cls d k) true K _ W0 _ G' (fun z => by cases z) h.2)
    · cases h
  | .pass, C, hot, K, X, Wx, st, G, tk, h => by
    unfold chkS at h
    split at h
    · exact S_pass
    · exact S_doc
    · cases h
  | .brk, C, hot, K, X, Wx, st, G, tk, h => by
    unfold chkS at h
    split at h
    · exact S_brk
    · cases h
  | .cnt, C, hot, K, X, Wx, st, G, tk, h => by
    unfold chkS at h
    split at h
    · exact S_cnt
    · cases h
  termination_by structural s => s
theorem okSs (Γ : Gam) : ∀ (s : List Sx) (C : Cf) (hot : Bool) (K : Ck) (X : Cx) (Wx : WX) (st : List Stmt), GoodS C Γ K hot X → (hot = false → L2N.Takes X Wx) → chkSs hot K s st = true → PSs X st (rdSs C Γ Wx s)
  | [], C, hot, K, X, Wx, st, G, tk, h => by
    unfold chkSs at h
    cases st with
    | nil => exact S_nil
    | cons y ys => cases h
  | s :: r, C, hot, K, X, Wx, st, G, tk, h => by
    unfold chkSs at h
    split at h
    · have h := ba h
      exact S_cons (okS Γ s C hot K X Wx _ G tk h.1) (okSs Γ r C hot K X Wx _ G tk h.2)
    · cases h
  termination_by structural s => s
end
end Ip

/-! IpTab: the table of defs: what each def computes is the interpreter's call. Written by an AI agent. -/
namespace Ip
open PySem PySem.Spec PyProof.Rows L2
structure DI where
  d : He.DefD
  N : List Str
  ps : List Str
structure Mo where
  T : Tab
  dd : List DI
  fnm : List (Option Str) := []
  cnm : List Str := []
  gnm : List Str := []
  mnm : List Str := []
  mks : List Nat := []
  cts : List Nat := []
  rs : List Nat := []
def Mo.ck (M : Mo) (i : DI) : Ck := { sc := i.d.scope, N := i.N, fnm := M.fnm, cnm := M.cnm, gnm := M.gnm, mnm := M.mnm, mks := M.mks, cts := M.cts, rs := M.rs }
def BA (params : Arguments) (ps : List Str) : Prop := ∀ (x qual : Str) (body : List Stmt) (scope : Scope) (kV doc pm : Value) (an : Option Addr) (cdv ct : Value) (us : List Value), us.length = ps.length → bindArgs (PySem.W.fnOf x qual params body scope .none kV doc pm an cdv ct) ⟨us, []⟩ = pure (ps.zip us)
/-- what stands without the heap -/
structure MoOk (M : Mo) : Prop where
  len : M.dd.length = M.T.fns.length
  sc : ∀ (f : Nat) (i : DI), M.dd[f]? = some i → FnScope i.N i.ps i.d.scope
  ba : ∀ (f : Nat) (i : DI), M.dd[f]? = some i → BA i.d.params i.ps
  dfl : ∀ (f : Nat) (i : DI), M.dd[f]? = some i → i.d.dfl = [] ∧ i.d.kwd = []
  ck : ∀ (f : Nat) (i : DI) (d : FnI), M.dd[f]? = some i → M.T.fns[f]? = some d → d.ps = i.ps.length ∧ d.n = i.N.length ∧ chkSs false (M.ck i) d.body i.d.body = true
  glo : ∀ (f : Nat) (x : Str), M.fnm[f]? = some (some x) → ∃ i : DI, M.dd[f]? = some i ∧ i.d.at_ = (x, none)
/-- what the heap behind the top says -/
structure Stands (M : Mo) (C : Cf) (mg : Str → Option Value) : Prop where
  def_ : ∀ (f : Nat) (i : DI), M.dd[f]? = some i → ∃ fd, FunD C.K i.d.name i.d.qual i.d.params i.d.body i.d.scope [] [] (He.fAd C.K i.d.at_) fd
  gl : ∀ (f : Nat) (x : Str), M.fnm[f]? = some (some x) → mg x = some (.ref (He.ga C.K x))
  bn : ∀ x ∈ bnames, mg x = none
  glob : ∀ (g : Nat) (x : Str) (w : W), M.gnm[g]? = some x → M.T.globs[g]? = some w → ∃ u v, mg x = some u ∧ RelV v u ∧ ∀ m H, RW C.K m H w v
  cls : ∀ (c : Nat) (x : Str), M.cnm[c]? = some x → mg x = some (.ref (C.cl c))
  inj : ∀ (x k : Nat) (n : Str), M.mnm[x]? = some n → C.fn k = n → k = x
  kt : ∀ (t : Ty) (c : Nat) (x : Str), M.cnm[c]? = some x → PySem.W.kitOne C.K (.type (tyN t)) (.ref (C.cl c)) = some false
  xk : ∀ (c : Nat) (t : Isa) (x : Str), isaNm M.cnm t = some x → C.xc c → PySem.W.kitOne C.K (.ref (C.cl c)) (isaU C t) = some (isaX (M.T.gam (fun _ _ _ => none) (fun _ _ _ => none)) c t)
  no : ∀ a c d, ¬ C.xi a c d
  non : ∀ n, ¬ C.xn n
  fld : ∀ (c x : Nat) (n : Str), (M.T.gam (fun _ _ _ => none) (fun _ _ _ => none)).fok c x = true → M.mnm[x]? = some n → C.fn x = n ∧ Cls C.K (C.cl c) ∧ NoAttr C.K (C.cl c) n
  xcc : ∀ c, C.xc c → ExcC C.K (C.cl c) ∧ XfC C.K (C.cl c)
  flx : ∀ (c x : Nat) (n : Str), C.xc c → (M.T.gam (fun _ _ _ => none) (fun _ _ _ => none)).fox c x = true → M.mnm[x]? = some n → C.fn x = n ∧ PySem.W.findIn C.K (.ref (C.cl c)) n = some none
  xup : ∀ (c d : Nat), C.xc c → d ∈ M.cts → PySem.W.exmOne C.K (.ref (C.cl c)) (.ref (C.cl d)) = some ((M.T.gam (fun _ _ _ => none) (fun _ _ _ => none)).up c d)
  rse : ∀ (c : Nat) (x : Str), M.cnm[c]? = some x → c ∈ M.rs → C.xc c ∧ PySem.W.subIn C.K (.ref (C.cl c)) (.type "BaseException") = some true ∧ PySem.W.typeIn C.K (.ref (C.cl c)) = some (.type "type") ∧ PySem.W.keepIn C.K (.ref (C.cl c)) = true ∧ ∃ B newId initId bmB, ExcBaseFacts B newId initId bmB ∧ PySem.W.excIn C.K (C.cl c) bmB newId = true
  meth : ∀ (c m f : Nat) (n : Str), (M.T.gam (fun _ _ _ => none) (fun _ _ _ => none)).mt c m = some f → M.mnm[m]? = some n → ∃ i : DI, M.dd[f]? = some i ∧ Cls C.K (C.cl c) ∧ Meth C.K (C.cl c) n (He.fAd C.K i.d.at_)
  make : ∀ (c : Nat) (x : Str), M.cnm[c]? = some x → c ∈ M.mks → ∃ (cl : ClI) (fI : Nat) (i : DI), M.T.cls[c]? = some cl ∧ cl.init = some fI ∧ M.dd[fI]? = some i ∧ Mk C.K (C.cl c) (He.fAd C.K i.d.at_)
section
variable {M : Mo} {C : Cf} {mg : Str → Option Value} {P : Program} {w : World} {base : Heap}
theorem spG_len {g : List W → Store → R W} {vs : List V} {H : Hp} {Q : VK} {E : XK} (h : spG C g vs H Q E) : ∃ ws S r, ws.length = vs.length ∧ g ws S = some r := by
  obtain ⟨m, ws, S, r, _, h1, h2, _⟩ := h
  exact ⟨ws, S, r, h1.length, h2⟩
theorem fn_none {g : List W → Store → R W} (hg : ∀ ws S, g ws S = none) {k : Nat} {f : Addr} {fd : FuncData} {ps : List Str} : FnOk P w C.K mg base (L2N.CX P w) k f fd ps (spG C g) :=
  ⟨(fun vs H Q E h => by
      obtain ⟨ws, S, r, _, e⟩ := spG_len h
      rw [hg] at e
      cases e),
    (fun A outer s H args us vs Q E hr e0 hb r h => by
      obtain ⟨ws, S, r, _, e⟩ := spG_len h
      rw [hg] at e
      cases e)⟩
/-- the context of a def's body is a good one -/
theorem good_of (O : MoOk M) (S : Stands M C mg) {i : DI} {f : Nat} (hi : M.dd[f]? = some i) {k : Nat}
    (ih1 : ∀ (f : Nat) (i : DI) (fd : FuncData), M.dd[f]? = some i → FunD C.K i.d.name i.d.qual i.d.params i.d.body i.d.scope [] [] (He.fAd C.K i.d.at_) fd → FnOk P w C.K mg base (L2N.CX P w) (k + 1) (He.fAd C.K i.d.at_) fd i.ps (spG C (M.T.callF (k + 1) f)))
    (ih0 : ∀ (f : Nat) (i : DI) (fd : FuncData), M.dd[f]? = some i → FunD C.K i.d.name i.d.qual i.d.params i.d.body i.d.scope [] [] (He.fAd C.K i.d.at_) fd → FnOk P w C.K mg base (L2N.CX P w) k (He.fAd C.K i.d.at_) fd i.ps (spG C (M.T.callF k f)))
    {qual : Str} {fa : Addr} {cd : Value} {A : Around} {outer : List PySem.Env} {s : Shared} {H : Hp} {E : XK} (hr : Room (k + 1) (A.deeper (envOfC qual i.d.scope s.heap.objs.size fa cd))) :
    GoodS C (M.T.gam (M.T.callF (k + 1)) (M.T.callF k)) (M.ck i) false (cxOf (L2N.CX P w) P w C.K mg base i.N qual i.d.scope fa cd A outer s H E) := by
  have sc := O.sc f i hi
  have bnd : ∀ {f : Nat} {i : DI} {fd : FuncData}, M.dd[f]? = some i → FunD C.K i.d.name i.d.qual i.d.params i.d.body i.d.scope [] [] (He.fAd C.K i.d.at_) fd → Binds C.K fd i.ps [] := fun {f i fd} h F => F.bindsN (O.ba f i h _ _ _ _)
  refine ⟨⟨rfl, rfl, rfl, sc.nd, ?_, fun _ => rfl, .inl rfl, sc.kind, S.bn, S.glob, ?_, S.cls, S.inj, S.kt, S.xk, fun _ g x hx => ?_, fun _ c m g n hg hn => ?_, fun _ c x hx hm => ?_, fun _ => S.no, fun _ => S.non, S.fld, S.xcc, S.flx, S.xup, fun _ _ => rfl, fun Wx y e n p x hp hb hn => ?_⟩, rfl, rfl, passes_of rfl, fun c x hx hc => ?_⟩
  · have := hr.un
    show (A.deeper _).units + 64 < cLine
    omega
  · intro pins s' σ H' xs us Q I r h
    rcases h with h | ⟨a, c, t, b, _, z, _, _⟩
    · exact call_isi (X := cxOf (L2N.CX P w) P w C.K mg base i.N qual i.d.scope fa cd A outer s H E) pins s' σ H' xs us Q I r h
    · exact absurd z (S.no _ _ _)
  · obtain ⟨j, hj, ha⟩ := O.glo g x hx
    obtain ⟨fd, F⟩ := S.def_ g j hj
    have e : He.fAd C.K j.d.at_ = He.ga C.K x := by rw [ha]; rfl
    refine ⟨_, fd, j.ps, k + 1, ?_, F.kp, bnd hj F, hr, ih1 g j fd hj F⟩
    rw [e]
    exact S.gl g x hx
  · obtain ⟨j, hj, h1, h2⟩ := S.meth c m g n hg hn
    obtain ⟨fd, F⟩ := S.def_ g j hj
    exact ⟨_, fd, j.ps, k + 1, h1, h2, bnd hj F, hr, ih1 g j fd hj F⟩
  · obtain ⟨cl, fI, j, h1, h2, hj, hM⟩ := S.make c x hx hm
    obtain ⟨fd, F⟩ := S.def_ fI j hj
    refine ⟨_, fd, j.ps, k, M.T.callF k fI, hM, bnd hj F, hr, ih0 fI j fd hj F, fun ws S' => ?_⟩
    show (match M.T.cls[c]? with
      | some d => match d.init with
        | some f => _
        | none => none
      | none => none) = _
    rw [h1]
    dsimp only
    rw [h2]
    all_goals rfl
  · refine pe_imp (pe_fld hp (sup_base hb)) fun σ H Q ⟨m, ρ, S', r, A, h, p⟩ => ⟨m, ρ, S', r, A, h, ?_⟩
    obtain ⟨r, S2⟩ := r
    cases r with
    | ex x => exact p
    | ok w =>
      intro m' H' v R e rv
      obtain ⟨a, c, d, _, _, _, _, z, _⟩ := p m' H' v R e rv
      exact absurd z (S.no _ _ _)
  · obtain ⟨h1, h2, h3, h4, h5⟩ := S.rse c x hx hc
    exact ⟨h1, raises_own h2 h3, h4, h5⟩
theorem Rst.start {K : PySem.W.Frag} {m : List Addr} {H : Hp} {N : List Str} {n : Nat} (hn : n = N.length) : ∀ {ws : List W} {vs : List V}, RWs K m H ws vs → Rst K m H (ws.map some ++ List.replicate (n - ws.length) none) (start N vs) := fun {ws vs} r => by
  have hl := r.length
  refine ⟨?_, fun i w h => ?_⟩
  · unfold L2.start
    simp [hl, hn]
  · by_cases hi : i < ws.length
    · rw [List.getElem?_append_left (by simpa using hi), List.getElem?_map] at h
      obtain ⟨w', h1, h2⟩ := Option.map_eq_some_iff.mp h
      cases h2
      obtain ⟨v, h3, h4⟩ := r.get h1
      refine ⟨v, ?_, h4⟩
      unfold L2.start
      rw [List.getElem?_append_left (by simpa [← hl] using hi), List.getElem?_map, h3]
      rfl
    · rw [List.getElem?_append_right (by simpa using hi), List.getElem?_replicate] at h
      split at h <;> cases h
theorem fn_ok (O : MoOk M) (S : Stands M C mg) : ∀ (k f : Nat) (i : DI) (fd : FuncData), M.dd[f]? = some i → FunD C.K i.d.name i.d.qual i.d.params i.d.body i.d.scope [] [] (He.fAd C.K i.d.at_) fd → FnOk P w C.K mg base (L2N.CX P w) k (He.fAd C.K i.d.at_) fd i.ps (spG C (M.T.callF k f))
  | 0, f, i, fd, _, _ => fn_none fun _ _ => by unfold Tab.callF; rfl
  | 1, f, i, fd, _, _ => fn_none fun _ _ => by unfold Tab.callF; rfl
  | k + 2, f, i, fd, hi, F => by
    have ih1 := fn_ok O S (k + 1)
    have ih0 := fn_ok O S k
    have hlt : f < M.T.fns.length := by rw [← O.len]; exact (List.getElem?_eq_some_iff.mp hi).1
    obtain ⟨d, hd⟩ : ∃ d, M.T.fns[f]? = some d := ⟨_, List.getElem?_eq_getElem hlt⟩
    obtain ⟨c1, c2, c3⟩ := O.ck f i d hi hd
    have sc := O.sc f i hi
    have ev : ∀ ws S', M.T.callF (k + 2) f ws S' = if ws.length = d.ps then fin (xs (M.T.gam (M.T.callF (k + 1)) (M.T.callF k)) d.body (ws.map some ++ List.replicate (d.n - d.ps) none) S') else none := fun ws S' => by
      rw [Tab.callF, hd]
    refine F.ok sc (fun vs H Q E h => ?_) fun cdv A outer s H vs Q E hr h => ?_
    · obtain ⟨ws, S', r, hl, e⟩ := spG_len h
      rw [ev] at e
      split at e
      · rename_i hq
        rw [← hl, hq, c1]
      · cases e
    · obtain ⟨m, ws, S', r, hR, hw, e, p⟩ := h
      rw [ev] at e
      split at e
      case isFalse => cases e
      rename_i hq
      have G := good_of (P := P) (w := w) (base := base) O S hi (k := k) ih1 ih0 (qual := i.d.qual) (fa := He.fAd C.K i.d.at_) (cd := cdv) (A := A) (outer := outer) (s := s) (H := H) (E := E) hr
      have tk : L2N.Takes (cxOf (L2N.CX P w) P w C.K mg base i.N i.d.qual i.d.scope (He.fAd C.K i.d.at_) cdv A outer s H E) (fun cls d _ H => E cls d H) := L2N.takes_of rfl rfl rfl rfl
      refine ⟨_, okSs _ d.body C false (M.ck i) _ _ i.d.body G (fun _ => tk) c3, ?_⟩
      unfold fin at e
      rw [← hq] at e
      split at e
      · rename_i v ρ' S2 hx
        cases (Option.some.inj e)
        exact ⟨m, _, S', _, _, _, ⟨hR, Rst.start c2 hw⟩, hx, fun m1 H1 v R1 e1 rv => p m1 H1 v R1 e1 rv⟩
      · rename_i ρ' S2 hx
        cases (Option.some.inj e)
        exact ⟨m, _, S', _, _, _, ⟨hR, Rst.start c2 hw⟩, hx, fun m1 H1 σ1 R1 e1 _ => p m1 H1 .non R1 e1 .non⟩
      · rename_i x ρ' S2 hx
        cases (Option.some.inj e)
        exact ⟨m, _, S', _, _, _, ⟨hR, Rst.start c2 hw⟩, hx, fun m1 H1 σ1 cls dd R1 e1 _ rx => p m1 H1 cls dd R1 e1 rx⟩
      · cases e
end
/-! ### the law's call -/
theorem rel_script {C : Cf} {H : Hp} {a : Addr} {ns : List Int} (hO : Only H) (hS : SqL C.K H a (ns.map V.int)) : RelH C [a] [.fro (ns.map W.int)] H := by
  have scriptW : ∀ {m : List Addr} (l : List Int), RWs C.K m H (l.map W.int) (l.map V.int) := fun {m} l => by
    induction l with
    | nil => exact .nil
    | cons i r ih => exact .cons (.int i) ih
  refine ⟨rfl, fun n b c h1 h2 => ?_, fun n k b c e h1 h2 h3 h4 h5 h6 => ?_, fun n c fs h => ?_⟩
  · cases n with
    | zero =>
      simp at h1 h2
      subst h1 h2
      refine ⟨_, ?_, scriptW ns⟩
      rcases hS with (h | h) | h
      · rcases hO a with z | ⟨o, xs, z⟩
        · rw [z] at h; cases h
        · rw [z] at h; cases h
      · exact .inl h
      · exact .inr h
    | succ n => simp at h1
  · cases n with
    | zero =>
      simp at h3
      subst h3
      cases h5
    | succ n => simp at h1
  · cases n with
    | zero => simp at h
    | succ n => simp at h
/-- the law holds if the interpreter's call gives True -/
theorem walk_EB {l : PySem.W.OpenLaw} {n k : Nat} {q : Program} {loose : List Str} {XP : (Str → Option Value) → Heap → Prop} {YP : World → Heap → Prop} {d : DefRec} {x : Str} {M : Mo} {fL : Nat} {i : DI}
    (hn : l.most = some n) (hn2 : n ≤ sizeLine) (hdf : d.params.defaults = []) (hr : Room k callerA) (O : MoOk M) (hi : M.dd[fL]? = some i) (hps : i.ps = [x]) (hat : i.d.at_ = (d.name, none))
    (S : ∀ (w : World) (mg : Str → Option Value) (h : Heap), YP w h → h.Ns mainGlobals mg → ∃ C : Cf, C.K.In h ∧ mg d.name = some (.ref (He.ga C.K d.name)) ∧ ∀ base : Heap, C.K.In base → base.Ns mainGlobals mg → Stands M C mg)
    (pure_ : ∀ ns : List Int, ns.length ≤ n → (∀ z ∈ ns, Builtin.Int.intBits z ≤ 1048576) → ∃ S', M.T.callF k fL [.loc 0] [.fro (ns.map W.int)] = some (.ok (.bl true), S')) :
    PySem.W.WalkO q loose XP YP l.row.toRowW d [] (fun f vs => PySem.call f vs) := by
  refine Att.attach_callB hn hdf fun w s₀ s₁ mg mb fa o pm cd doc a vs ns G Y ho hd hcd hmg hobj hints hlen hbits hg => ?_
  obtain ⟨C, KX, hname, hS⟩ := S w mg _ Y G.T.g
  have e : fa = He.fAd C.K i.d.at_ := by
    rw [hname] at hmg
    rw [hat]
    exact (Value.ref.inj (Option.some.inj hmg)).symm
  have S0 := hS _ KX G.T.g
  obtain ⟨fd, F⟩ := S0.def_ fL i hi
  have hb : ∀ (s : Shared) (u : Value), BindsTo s fd ⟨[u], []⟩ [(x, u)] := fun s u => by
    have b := FunD.bindsA F (O.ba fL i hi _ _ _ _) s [u] (by rw [hps]; rfl)
    rw [hps] at b
    exact b
  subst e
  have hF : ∀ base : Heap, C.K.In base → base.Ns mainGlobals mg → FnOk l.prog w C.K mg base (L2N.CX l.prog w) k (He.fAd C.K i.d.at_) fd [x] (spG C (M.T.callF k fL)) := fun base hb1 hb2 => by
    have := fn_ok (P := l.prog) (w := w) (base := base) O (hS base hb1 hb2) k fL i fd hi F
    rw [hps] at this
    exact this
  refine law_call KX G.T.g G.T.b G.T.builtins G.T.nolimit hg hobj hints (Nat.le_trans hlen hn2) hr hF hb (fun H hO hSq => ?_) fun H e s' z => ?_
  · obtain ⟨S', hp⟩ := pure_ ns hlen hbits
    exact ⟨[a], [.loc 0], [.fro (ns.map W.int)], _, rel_script hO hSq, .cons (.loc rfl) .nil, hp, fun m' H' v _ _ rv => by cases rv; rfl⟩
  · obtain ⟨_, _, _, _, _, _, _, _, _, _, _, _, z⟩ := z
    exact z
end Ip

/-! IpHead: the checks without the heap, the facts of the heap. Written by an AI agent. -/
namespace Ip
open PySem PySem.Spec PyProof.Rows L2
theorem zip_look : ∀ {ps : List Str} {us : List Value} (l : List (Str × Value)), ps.Nodup → us.length = ps.length → (∀ x ∈ ps, ∀ v, (ps.zip us).lookup x = some v → l.lookup x = some v) → (ps.filterMap fun n => (l.lookup n).map (n, ·)) = ps.zip us ∧ (ps.filter fun n => (l.lookup n).isNone) = []
  | [], us, l, _, h, _ => by simp
  | p :: ps, [], l, _, h, _ => by simp at h
  | p :: ps, u :: us, l, nd, h, hl => by
    have h0 : l.lookup p = some u := hl p (by simp) u (by simp [List.lookup])
    rw [List.filterMap_cons, h0]
    have nd' := List.nodup_cons.mp nd
    have := zip_look (ps := ps) (us := us) l nd'.2 (by simpa using h) fun x hx v hv => hl x (List.mem_cons_of_mem _ hx) v (by
      have ne : x ≠ p := fun e => nd'.1 (e ▸ hx)
      have : (x == p) = false := by simpa using ne
      simp [List.lookup, this, hv])
    refine ⟨by simp [this.1], ?_⟩
    rw [List.filter_cons, h0, this.2]
    rfl
theorem ba_plain (args : List Arg) (ps : List Str) (e : args.map (·.arg) = ps) (nd : ps.Nodup) : BA ⟨[], args, none, [], [], none, []⟩ ps := fun x qual body scope kV doc pm an cdv ct us hl => by
  obtain ⟨hz, hm⟩ := zip_look (ps := ps) (us := us) _ nd hl (fun x _ v h => h)
  have h0 : seqItems? Value.none = pure none := rfl
  have hg : ¬ us.length > ps.length := by omega
  unfold bindArgs
  simp only [PySem.W.fnOf, h0, e, List.map_nil, List.nil_append, List.append_nil, List.forIn_nil, pure_bind, Option.getD_none, List.drop_nil, List.length_nil, Nat.sub_zero, Nat.zero_sub, List.take_length, hm, List.drop_length, List.zip_nil_left, hz]
  simp [hg, hm, hz]

/-! ### without the heap -/
def argB (p : Arguments) (ps : List Str) : Bool := p.posonlyargs.isEmpty && p.vararg.isNone && p.kwonlyargs.isEmpty && p.kw_defaults.isEmpty && p.kwarg.isNone && p.defaults.isEmpty && decide (p.args.map (·.arg) = ps) && decide ps.Nodup
theorem argB_ok {p : Arguments} {ps : List Str} (h : argB p ps = true) : BA p ps := by
  obtain ⟨a1, a2, a3, a4, a5, a6, a7⟩ := p
  have h := ba h
  have h1 := ba h.1
  have h2 := ba h1.1
  have h3 := ba h2.1
  have h4 := ba h3.1
  have h5 := ba h4.1
  have h6 := ba h5.1
  have e1 : a1 = [] := List.isEmpty_iff.mp h6.1
  have e3 : a3 = none := Option.isNone_iff_eq_none.mp h6.2
  have e4 : a4 = [] := List.isEmpty_iff.mp h5.2
  have e5 : a5 = [] := List.isEmpty_iff.mp h4.2
  have e6 : a6 = none := Option.isNone_iff_eq_none.mp h3.2
  have e7 : a7 = [] := List.isEmpty_iff.mp h2.2
  subst e1 e3 e4 e5 e6 e7
  exact ba_plain a2 ps (of_decide_eq_true h1.2) (of_decide_eq_true h.2)
def scB (i : DI) : Bool := (match i.d.scope.kind with | .function => true | _ => false) && !i.d.scope.isCoroutine && !i.d.scope.isGenerator && decide i.N.Nodup && decide (i.N.take i.ps.length = i.ps) &&
  (i.ps.all fun x => decide (i.d.scope.names.lookup x = some .local) || decide (i.d.scope.names.lookup x = some .cell)) && (i.d.scope.names.all fun y => decide (y.2 ≠ .free))
theorem scB_ok {i : DI} (h : scB i = true) : FnScope i.N i.ps i.d.scope := by
  have h := ba h
  have h1 := ba h.1
  have h2 := ba h1.1
  have h3 := ba h2.1
  have h4 := ba h3.1
  have h5 := ba h4.1
  refine ⟨?_, by simpa using h5.2, by simpa using h4.2, of_decide_eq_true h3.2, of_decide_eq_true h2.2, fun x hx => ?_, fun y hy => ?_⟩
  · have q := h5.1
    split at q
    · assumption
    · cases q
  · have q := List.all_eq_true.mp h1.2 x hx
    rcases Bool.or_eq_true_iff.mp q with q | q
    · exact .inl (of_decide_eq_true q)
    · exact .inr (of_decide_eq_true q)
  · exact of_decide_eq_true (List.all_eq_true.mp h.2 y hy)
def gloB : List (Option Str) → List DI → Bool
  | [], _ => true
  | none :: r, _ :: l => gloB r l
  | some x :: r, i :: l => decide (i.d.at_ = (x, none)) && gloB r l
  | _, [] => false
theorem gloB_ok : ∀ {fs : List (Option Str)} {l : List DI}, gloB fs l = true → ∀ (f : Nat) (x : Str), fs[f]? = some (some x) → ∃ i : DI, l[f]? = some i ∧ i.d.at_ = (x, none)
  | [], _, _, f, x, e => by simp at e
  | none :: r, [], h, _, _, _ => by cases h
  | none :: r, _ :: l, h, 0, x, e => by simp at e
  | none :: r, _ :: l, h, f + 1, x, e => by
    obtain ⟨i, h1, h2⟩ := gloB_ok (fs := r) (l := l) h f x (by simpa using e)
    exact ⟨i, by simpa using h1, h2⟩
  | some y :: r, [], h, _, _, _ => by cases h
  | some y :: r, i :: l, h, 0, x, e => by
    have h := ba h
    have e : y = x := by simpa using e
    subst e
    exact ⟨i, rfl, of_decide_eq_true h.1⟩
  | some y :: r, i :: l, h, f + 1, x, e => by
    have h := ba h
    obtain ⟨i, h1, h2⟩ := gloB_ok (fs := r) (l := l) h.2 f x (by simpa using e)
    exact ⟨i, by simpa using h1, h2⟩
def ckB (M : Mo) : List DI → List FnI → Bool
  | [], [] => true
  | i :: l, d :: ds => (d.ps == i.ps.length) && (d.n == i.N.length) && chkSs false (M.ck i) d.body i.d.body && ckB M l ds
  | _, _ => false
theorem ckB_ok {M : Mo} : ∀ {l : List DI} {ds : List FnI}, ckB M l ds = true → l.length = ds.length ∧ ∀ (f : Nat) (i : DI) (d : FnI), l[f]? = some i → ds[f]? = some d → d.ps = i.ps.length ∧ d.n = i.N.length ∧ chkSs false (M.ck i) d.body i.d.body = true
  | [], [], _ => ⟨rfl, fun f i d h => by simp at h⟩
  | [], _ :: _, h => by cases h
  | _ :: _, [], h => by cases h
  | i :: l, d :: ds, h => by
    have h := ba h
    have h1 := ba h.1
    have h2 := ba h1.1
    obtain ⟨q1, q2⟩ := ckB_ok (l := l) (ds := ds) h.2
    refine ⟨by rw [List.length_cons, List.length_cons, q1], fun f i' d' e1 e2 => ?_⟩
    cases f with
    | zero =>
      simp at e1 e2
      subst e1 e2
      exact ⟨beq_iff_eq.mp h2.1, beq_iff_eq.mp h2.2, h1.2⟩
    | succ f => exact q2 f i' d' (by simpa using e1) (by simpa using e2)
def dflB (i : DI) : Bool := i.d.dfl.isEmpty && i.d.kwd.isEmpty
def moB (M : Mo) : Bool := ckB M M.dd M.T.fns && M.dd.all scB && (M.dd.all fun i => argB i.d.params i.ps) && M.dd.all dflB && gloB M.fnm M.dd
theorem moB_ok {M : Mo} (h : moB M = true) : MoOk M := by
  have h := ba h
  have h1 := ba h.1
  have h2 := ba h1.1
  have h3 := ba h2.1
  obtain ⟨q1, q2⟩ := ckB_ok h3.1
  have all : ∀ {p : DI → Bool}, M.dd.all p = true → ∀ (f : Nat) (i : DI), M.dd[f]? = some i → p i = true := fun h f i e => List.all_eq_true.mp h i (List.mem_of_getElem? e)
  exact ⟨q1, fun f i e => scB_ok (all h3.2 f i e), fun f i e => argB_ok (all h2.2 f i e), fun f i e => by
    have q := ba (all h1.2 f i e)
    exact ⟨List.isEmpty_iff.mp q.1, List.isEmpty_iff.mp q.2⟩, q2, gloB_ok h.2⟩

/-! ### by the heap -/
def gam0 (M : Mo) : Gam := M.T.gam (fun _ _ _ => none) (fun _ _ _ => none)
/-- the exception classes -/
structure Mx where
  m : Mo
  xcs : List Nat := []
def cfOf (M : Mx) (K : PySem.W.Frag) : Cf := { K := K, cl := fun c => He.ga K (M.m.cnm.getD c ""), fn := fun k => M.m.mnm.getD k "", xi := fun _ _ _ => False, xc := fun c => c ∈ M.xcs, xn := fun _ => False }
def globFa : List Str → List W → List He.Fa
  | x :: xs, .str z :: ws => .str x z :: globFa xs ws
  | x :: xs, .int i :: ws => .int x i :: globFa xs ws
  | _, _ => []
def globB : List Str → List W → Bool
  | [], [] => true
  | _ :: xs, .str _ :: ws => globB xs ws
  | _ :: xs, .int _ :: ws => globB xs ws
  | _, _ => false
def clsFa (M : Mo) : List Str → List ClI → Nat → List He.Fa
  | x :: xs, d :: ds, c => (if d.flds.isEmpty && d.mets.isEmpty then [] else [He.Fa.cls x]) ++ d.flds.map (fun k => He.Fa.noat x (M.mnm.getD k "")) ++ d.mets.map (fun p => He.Fa.meth x (M.mnm.getD p.1 "")) ++ (if c ∈ M.mks then [He.Fa.mkr x] else []) ++ clsFa M xs ds (c + 1)
  | _, _, _ => []
def Mx.fa (M : Mx) : List He.Fa := (M.m.fnm.filterMap (·.map He.Fa.glo)) ++ bnames.map He.Fa.free ++ M.m.cnm.map He.Fa.glo ++ globFa M.m.gnm M.m.T.globs ++ M.m.rs.map (fun c => He.Fa.exc (M.m.cnm.getD c "")) ++
  (M.xcs.flatMap fun c => M.m.cts.map fun d => He.Fa.exm (M.m.cnm.getD c "") (M.m.cnm.getD d "") ((gam0 M.m).up c d)) ++ clsFa M.m M.m.cnm M.m.T.cls 0
def Mx.fn (M : Mx) : List He.DefD := M.m.dd.map (·.d)
def tys : List Ty := [.non, .bl, .int, .str, .tup, .lst, .dct]
def isas (n : Nat) : List Isa := [.int, .bool, .str, .tuple, .list, .dict, .ve] ++ (List.range n).map Isa.own
def exccB (K : PySem.W.Frag) (D : Addr) : Bool :=
  decide (PySem.W.findIn K (.ref D) "__getattribute__" = some (some (.builtin "BaseException.__getattribute__"))) && (decide (PySem.W.findIn K (.ref D) "__getattr__" = some none) && (decide (PySem.W.subIn K (.ref D) (.type "BaseException") = some true) && (PySem.W.hasDictIn K D &&
  (decide (PySem.W.findIn K (.ref D) "__class__" = some (some (.builtin "object.__class__"))) && (decide (PySem.W.specialIn K (.builtin "object.__class__") "__get__" = some (some (.builtin "getset_descriptor.__get__"))) &&
  (decide (PySem.W.takesIn K (.builtin "object.__class__") = some true) && decide (PySem.W.mroIn K D (.type "object") = some true)))))))
theorem exccB_ok {K : PySem.W.Frag} {D : Addr} (h : exccB K D = true) : ExcC K D := by
  obtain ⟨h1, h⟩ := ba h
  obtain ⟨h2, h⟩ := ba h
  obtain ⟨h3, h⟩ := ba h
  obtain ⟨h4, h⟩ := ba h
  obtain ⟨h5, h⟩ := ba h
  obtain ⟨h6, h⟩ := ba h
  obtain ⟨h7, h8⟩ := ba h
  exact ⟨of_decide_eq_true h1, of_decide_eq_true h2, of_decide_eq_true h3, h4, of_decide_eq_true h5, of_decide_eq_true h6, of_decide_eq_true h7, of_decide_eq_true h8⟩
def flxB (M : Mx) (K : PySem.W.Frag) (c : Nat) : Bool := match M.m.T.cls[c]? with
  | some d => d.xfl.all fun k => decide (PySem.W.findIn K (.ref ((cfOf M K).cl c)) (M.m.mnm.getD k "") = some none)
  | none => true
def exB (M : Mx) (K : PySem.W.Frag) : Bool :=
  (M.m.cnm.all fun x => tys.all fun t => decide (PySem.W.kitOne K (.type (tyN t)) (.ref (He.ga K x)) = some false)) && ((M.xcs.all fun c => (isas M.m.cnm.length).all fun t => decide (PySem.W.kitOne K (.ref ((cfOf M K).cl c)) (isaU (cfOf M K) t) = some (isaX (gam0 M.m) c t))) &&
  ((M.xcs.all fun c => exccB K ((cfOf M K).cl c) && xfB K ((cfOf M K).cl c)) && (M.xcs.all fun c => flxB M K c)))
/-- the names without the heap -/
def clsB (M : Mo) : Bool := (M.cnm.length == M.T.cls.length) && decide M.mnm.Nodup && decide (("" : Str) ∉ M.mnm) && (M.rs.all fun c => decide (c < M.cnm.length))
def metsB (M : Mo) : Nat → List ClI → Bool
  | _, [] => true
  | c, d :: ds => (d.mets.all fun p => (match M.dd[p.2]? with
      | some i => decide (i.d.at_ = (M.cnm.getD c "", some (M.mnm.getD p.1 ""))) && decide (p.1 < M.mnm.length)
      | none => false)) && (decide (c ∉ M.mks) || (match d.init with
      | some f => (match M.dd[f]? with
        | some i => decide (i.d.at_ = (M.cnm.getD c "", some ("__init__" : Str)))
        | none => false)
      | none => false)) && (d.flds.all fun k => decide (k < M.mnm.length)) && metsB M (c + 1) ds
def headB (M : Mx) : Bool := clsB M.m && globB M.m.gnm M.m.T.globs && metsB M.m 0 M.m.T.cls && (M.xcs.all fun c => decide (c < M.m.cnm.length)) && (M.m.rs.all fun c => decide (c ∈ M.xcs)) && (M.m.dd.all dflB)
theorem glob_fa {K : PySem.W.Frag} {h : Heap} {mg : Str → Option Value} (X : K.In h) (G : h.Ns mainGlobals mg) : ∀ {xs : List Str} {ws : List W}, globB xs ws = true → (∀ f ∈ globFa xs ws, f.ok K = true) → ∀ (g : Nat) (x : Str) (w : W), xs[g]? = some x → ws[g]? = some w → ∃ u v, mg x = some u ∧ RelV v u ∧ ∀ m H, RW K m H w v
  | [], [], _, _, g, x, w, e, _ => by simp at e
  | [], _ :: _, h, _, _, _, _, _, _ => by cases h
  | _ :: _, [], h, _, _, _, _, _, _ => by cases h
  | y :: xs, u :: ws, h, hf, g, x, w, e1, e2 => by
    cases u with
    | str z =>
      cases g with
      | zero =>
        simp at e1 e2
        subst e1 e2
        obtain ⟨t, q⟩ := He.str_ok X G (hf (.str y z) (by simp [globFa]))
        exact ⟨_, .str z, q, ⟨t, rfl⟩, fun m H => .str z⟩
      | succ g => exact glob_fa X G (xs := xs) (ws := ws) h (fun f hm => hf f (by simp [globFa, hm])) g x w (by simpa using e1) (by simpa using e2)
    | int z =>
      cases g with
      | zero =>
        simp at e1 e2
        subst e1 e2
        obtain ⟨t, q⟩ := He.int_ok X G (hf (.int y z) (by simp [globFa]))
        exact ⟨_, .int z, q, ⟨t, rfl⟩, fun m H => .int z⟩
      | succ g => exact glob_fa X G (xs := xs) (ws := ws) h (fun f hm => hf f (by simp [globFa, hm])) g x w (by simpa using e1) (by simpa using e2)
    | _ => cases h
theorem cls_fa {M : Mo} {K : PySem.W.Frag} : ∀ {xs : List Str} {ds : List ClI} {c0 : Nat}, (∀ f ∈ clsFa M xs ds c0, f.ok K = true) → ∀ (j : Nat) (x : Str) (d : ClI), xs[j]? = some x → ds[j]? = some d →
    ((d.flds.isEmpty && d.mets.isEmpty) = false → Cls K (He.ga K x)) ∧ (∀ k ∈ d.flds, NoAttr K (He.ga K x) (M.mnm.getD k "")) ∧ (∀ p ∈ d.mets, Meth K (He.ga K x) (M.mnm.getD p.1 "") (He.ma K (He.ga K x) (M.mnm.getD p.1 ""))) ∧ (c0 + j ∈ M.mks → Mk K (He.ga K x) (He.ma K (He.ga K x) "__init__"))
  | [], _, _, _, j, x, d, e, _ => by simp at e
  | _ :: _, [], _, _, j, x, d, _, e => by simp at e
  | y :: xs, u :: ds, c0, hf, 0, x, d, e1, e2 => by
    simp at e1 e2
    subst e1 e2
    unfold clsFa at hf
    simp only [List.mem_append] at hf
    refine ⟨fun h => He.cls_ok (hf (.cls y) ?_), fun k hk => He.noat_ok (hf (.noat y (M.mnm.getD k "")) ?_), fun p hp => He.meth_ok (hf (.meth y (M.mnm.getD p.1 "")) ?_), fun hm => He.mkr_ok (hf (.mkr y) ?_)⟩
    · refine .inl (.inl (.inl (.inl ?_)))
      rw [h]
      simp
    · exact .inl (.inl (.inl (.inr (List.mem_map.mpr ⟨k, hk, rfl⟩))))
    · exact .inl (.inl (.inr (List.mem_map.mpr ⟨p, hp, rfl⟩)))
    · refine .inl (.inr ?_)
      rw [if_pos (by simpa using hm)]
      simp
  | y :: xs, u :: ds, c0, hf, j + 1, x, d, e1, e2 => by
    unfold clsFa at hf
    have r := cls_fa (M := M) (K := K) (xs := xs) (ds := ds) (c0 := c0 + 1) (fun f hm => hf f (by simp only [List.mem_append]; exact .inr hm)) j x d (by simpa using e1) (by simpa using e2)
    have e : c0 + 1 + j = c0 + (j + 1) := by omega
    rw [e] at r
    exact r
theorem mets_ok {M : Mo} : ∀ {ds : List ClI} {c0 : Nat}, metsB M c0 ds = true → ∀ (j : Nat) (d : ClI), ds[j]? = some d →
    (∀ p ∈ d.mets, p.1 < M.mnm.length ∧ ∃ i : DI, M.dd[p.2]? = some i ∧ i.d.at_ = (M.cnm.getD (c0 + j) "", some (M.mnm.getD p.1 ""))) ∧ (c0 + j ∈ M.mks → ∃ (f : Nat) (i : DI), d.init = some f ∧ M.dd[f]? = some i ∧ i.d.at_ = (M.cnm.getD (c0 + j) "", some ("__init__" : Str))) ∧ ∀ k ∈ d.flds, k < M.mnm.length
  | [], _, _, j, d, e => by simp at e
  | u :: ds, c0, h, 0, d, e => by
    simp at e
    subst e
    unfold metsB at h
    have h := ba h
    have h1 := ba h.1
    have h2 := ba h1.1
    refine ⟨fun p hp => ?_, fun hm => ?_, fun k hk => of_decide_eq_true (List.all_eq_true.mp h1.2 k hk)⟩
    · have q := List.all_eq_true.mp h2.1 p hp
      split at q
      · rename_i i hi
        have q := ba q
        exact ⟨of_decide_eq_true q.2, i, hi, of_decide_eq_true q.1⟩
      · cases q
    · rcases Bool.or_eq_true_iff.mp h2.2 with q | q
      · exact absurd (by simpa using hm) (of_decide_eq_true q)
      · split at q
        · rename_i f hf
          split at q
          · rename_i i hi
            exact ⟨f, i, hf, hi, of_decide_eq_true q⟩
          · cases q
        · cases q
  | u :: ds, c0, h, j + 1, d, e => by
    unfold metsB at h
    have h := ba h
    have r := mets_ok (M := M) (ds := ds) (c0 := c0 + 1) h.2 j d (by simpa using e)
    have e : c0 + 1 + j = c0 + (j + 1) := by omega
    rw [e] at r
    exact r
theorem look_fst {β : Type} {a : Nat} {b : β} : ∀ {l : List (Nat × β)}, l.lookup a = some b → (a, b) ∈ l
  | [], h => by cases h
  | (k, v) :: r, h => by
    by_cases hk : a = k
    · subst hk
      simp [List.lookup] at h
      subst h
      simp
    · have q : (a == k) = false := by simpa using hk
      simp only [List.lookup, q] at h
      exact List.mem_cons_of_mem _ (look_fst h)
theorem stands_of {M : Mx} {K : PySem.W.Frag} {h0 : Heap} {mg : Str → Option Value} {base : Heap} {w : World} (hB : headB M = true) (c : He.SaysX M.fa M.fn [] [] (exB M) w h0 K) (X : K.In base) (G : base.Ns mainGlobals mg) : Stands M.m (cfOf M K) mg := by
  have hB := ba hB
  have b1 := ba hB.1
  have b2 := ba b1.1
  have b3 := ba b2.1
  have b4 := ba b3.1
  have c1 := ba b4.1
  have c2 := ba c1.1
  have c3 := ba c2.1
  have lenC : M.m.cnm.length = M.m.T.cls.length := beq_iff_eq.mp c3.1
  have nd : M.m.mnm.Nodup := of_decide_eq_true c3.2
  have ne0 : ("" : Str) ∉ M.m.mnm := of_decide_eq_true c2.2
  have sd : He.SaysD M.fa M.fn K := c.t.d
  have fact : ∀ {f : He.Fa}, f ∈ M.fa → f.ok K = true := fun h => He.SaysD.facts sd h
  obtain ⟨e1, e⟩ := ba c.more
  obtain ⟨e2, e⟩ := ba e
  obtain ⟨e3, e4⟩ := ba e
  have gD : ∀ {l : List Str} {k : Nat} {n : Str}, l[k]? = some n → l.getD k "" = n := fun h => by rw [List.getD_eq_getElem?_getD, h]; rfl
  have inFa : ∀ {f : He.Fa}, (f ∈ M.m.fnm.filterMap (·.map He.Fa.glo) ∨ f ∈ bnames.map He.Fa.free ∨ f ∈ M.m.cnm.map He.Fa.glo ∨ f ∈ globFa M.m.gnm M.m.T.globs ∨ f ∈ M.m.rs.map (fun c => He.Fa.exc (M.m.cnm.getD c "")) ∨ f ∈ (M.xcs.flatMap fun c => M.m.cts.map fun d => He.Fa.exm (M.m.cnm.getD c "") (M.m.cnm.getD d "") ((gam0 M.m).up c d)) ∨ f ∈ clsFa M.m M.m.cnm M.m.T.cls 0) → f.ok K = true := fun {f} h => fact (by
    unfold Mx.fa
    simp only [List.mem_append]
    rcases h with h | h | h | h | h | h | h
    · exact .inl (.inl (.inl (.inl (.inl (.inl h)))))
    · exact .inl (.inl (.inl (.inl (.inl (.inr h)))))
    · exact .inl (.inl (.inl (.inl (.inr h))))
    · exact .inl (.inl (.inl (.inr h)))
    · exact .inl (.inl (.inr h))
    · exact .inl (.inr h)
    · exact .inr h)
  have clF := cls_fa (M := M.m) (K := K) (xs := M.m.cnm) (ds := M.m.T.cls) (c0 := 0) (fun f hf => inFa (.inr (.inr (.inr (.inr (.inr (.inr hf)))))))
  have mtF := mets_ok (M := M.m) (ds := M.m.T.cls) (c0 := 0) b3.2
  have cnmOf : ∀ {c : Nat} {d : ClI}, M.m.T.cls[c]? = some d → ∃ x, M.m.cnm[c]? = some x := fun {c d} h => by
    have hl : c < M.m.cnm.length := by rw [lenC]; exact (List.getElem?_eq_some_iff.mp h).1
    exact ⟨_, List.getElem?_eq_getElem hl⟩
  refine ⟨fun f i hi => ?_, fun f x hf => ?_, fun x hx => ?_, fun g x w h1 h2 => ?_, fun c x hx => ?_, fun x k n hx hk => ?_, fun t c x hx => ?_, fun c t x hx hc => ?_, fun _ _ _ z => z, fun _ z => z, fun c x n hf hn => ?_, fun c hc => ?_, fun c x n hc hf hn => ?_, fun c d hc hd => ?_, fun c x hx hc => ?_, fun c m f n hf hn => ?_, fun c x hx hm => ?_⟩
  · obtain ⟨fd, F⟩ := He.SaysD.defs sd (d := i.d) (List.mem_map.mpr ⟨i, List.mem_of_getElem? hi, rfl⟩)
    have q := ba (List.all_eq_true.mp hB.2 i (List.mem_of_getElem? hi))
    have q1 : i.d.dfl = [] := List.isEmpty_iff.mp q.1
    have q2 : i.d.kwd = [] := List.isEmpty_iff.mp q.2
    have z1 : i.d.dvs K = [] := by unfold He.DefD.dvs; rw [q1]; rfl
    have z2 : i.d.kws K = [] := by unfold He.DefD.kws; rw [q2]; rfl
    rw [z1, z2] at F
    exact ⟨fd, F⟩
  · exact He.glo_ok X G (inFa (.inl (List.mem_filterMap.mpr ⟨some x, List.mem_of_getElem? hf, rfl⟩)))
  · exact He.free_ok X G (inFa (.inr (.inl (List.mem_map.mpr ⟨x, hx, rfl⟩))))
  · exact glob_fa X G b4.2 (fun f hf => inFa (.inr (.inr (.inr (.inl hf))))) g x w h1 h2
  · have q := He.glo_ok X G (inFa (.inr (.inr (.inl (List.mem_map.mpr ⟨x, List.mem_of_getElem? hx, rfl⟩)))))
    show mg x = some (.ref (He.ga K (M.m.cnm.getD c "")))
    rw [gD hx]
    exact q
  · have hk : M.m.mnm.getD k "" = n := hk
    have hl : k < M.m.mnm.length := by
      by_cases hl : k < M.m.mnm.length
      · exact hl
      · rw [List.getD_eq_getElem?_getD, List.getElem?_eq_none (by omega)] at hk
        have hk : "" = n := hk
        subst hk
        exact absurd (List.mem_of_getElem? hx) ne0
    have h2 : M.m.mnm[k]? = some n := by
      rw [List.getD_eq_getElem?_getD, List.getElem?_eq_getElem hl] at hk
      rw [List.getElem?_eq_getElem hl]
      exact congrArg some hk
    exact nodup_ix nd h2 hx
  · have q := of_decide_eq_true (List.all_eq_true.mp (List.all_eq_true.mp e1 x (List.mem_of_getElem? hx)) t (by cases t <;> simp [tys]))
    show PySem.W.kitOne K _ (.ref (He.ga K (M.m.cnm.getD c ""))) = _
    rw [gD hx]
    exact q
  · have ht : t ∈ isas M.m.cnm.length := by
      unfold isas
      cases t with
      | own d =>
        have hl : d < M.m.cnm.length := (List.getElem?_eq_some_iff.mp hx).1
        exact List.mem_append_right _ (List.mem_map.mpr ⟨d, List.mem_range.mpr hl, rfl⟩)
      | _ => simp
    exact of_decide_eq_true (List.all_eq_true.mp (List.all_eq_true.mp e2 c hc) t ht)
  · have hf : (match M.m.T.cls[c]? with
      | some k => k.flds.contains x
      | none => false) = true := hf
    split at hf
    · rename_i d hd
      have hm : x ∈ d.flds := by simpa using hf
      obtain ⟨y, hy⟩ := cnmOf hd
      obtain ⟨q1, q2, q3, q4⟩ := clF c y d hy hd
      have ec : (cfOf M K).cl c = He.ga K y := congrArg (He.ga K) (gD hy)
      rw [ec]
      have hne : (d.flds.isEmpty && d.mets.isEmpty) = false := by
        cases hd2 : d.flds with
        | nil => rw [hd2] at hm; cases hm
        | cons _ _ => rfl
      have q := q2 x hm
      rw [gD hn] at q
      exact ⟨gD hn, q1 hne, q⟩
    · cases hf
  · have q := ba (List.all_eq_true.mp e3 c hc)
    exact ⟨exccB_ok q.1, xfB_ok q.2⟩
  · have hf : (match M.m.T.cls[c]? with
      | some k => k.xfl.contains x
      | none => false) = true := hf
    have q := List.all_eq_true.mp e4 c hc
    unfold flxB at q
    split at hf
    · rename_i d hd
      rw [hd] at q
      have hm : x ∈ d.xfl := by simpa using hf
      have q2 := of_decide_eq_true (List.all_eq_true.mp q x hm)
      rw [gD hn] at q2
      exact ⟨gD hn, q2⟩
    · cases hf
  · exact He.exm_ok (inFa (.inr (.inr (.inr (.inr (.inr (.inl (List.mem_flatMap.mpr ⟨c, hc, List.mem_map.mpr ⟨d, hd, rfl⟩⟩))))))))
  · obtain ⟨h1, h2, h3, h4⟩ := He.exc_ok (inFa (.inr (.inr (.inr (.inr (.inl (List.mem_map.mpr ⟨c, hc, rfl⟩)))))))
    exact ⟨(show c ∈ M.xcs from of_decide_eq_true (List.all_eq_true.mp b1.2 c hc)), h3, h4, h2, _, _, _, _, PySem.F.excBase_ValueError, h1⟩
  · have hf : (match M.m.T.cls[c]? with
      | some d => d.mets.lookup m
      | none => none) = some f := hf
    split at hf
    · rename_i d hd
      have hm := look_fst hf
      obtain ⟨y, hy⟩ := cnmOf hd
      obtain ⟨q1, q2, q3, q4⟩ := clF c y d hy hd
      obtain ⟨r1, r2, r3⟩ := mtF c d hd
      obtain ⟨_, i, hi, hat⟩ := r1 _ hm
      have ec : (cfOf M K).cl c = He.ga K y := congrArg (He.ga K) (gD hy)
      have hne : (d.flds.isEmpty && d.mets.isEmpty) = false := by
        cases hd2 : d.mets with
        | nil => rw [hd2] at hm; cases hm
        | cons _ _ => simp
      refine ⟨i, hi, by rw [ec]; exact q1 hne, ?_⟩
      have q := q3 _ hm
      have ea : He.fAd K i.d.at_ = He.ma K (He.ga K y) n := by
        rw [hat]
        show He.ma K (He.ga K (M.m.cnm.getD (0 + c) "")) (M.m.mnm.getD m "") = _
        rw [Nat.zero_add, gD hy, gD hn]
      rw [ec]
      show Meth K (He.ga K y) n (He.fAd K i.d.at_)
      rw [ea]
      have gn := gD hn
      simp only [gn] at q
      exact q
    · cases hf
  · have hl : c < M.m.T.cls.length := by rw [← lenC]; exact (List.getElem?_eq_some_iff.mp hx).1
    have hd : M.m.T.cls[c]? = some M.m.T.cls[c] := List.getElem?_eq_getElem hl
    obtain ⟨q1, q2, q3, q4⟩ := clF c x _ hx hd
    obtain ⟨r1, r2, r3⟩ := mtF c _ hd
    rw [Nat.zero_add] at q4 r2
    obtain ⟨f, i, h1, h2, hat⟩ := r2 hm
    refine ⟨_, f, i, hd, h1, h2, ?_⟩
    have ea : He.fAd K i.d.at_ = He.ma K (He.ga K x) "__init__" := by
      rw [hat]
      show He.ma K (He.ga K (M.m.cnm.getD c "")) "__init__" = _
      rw [gD hx]
    have ec : (cfOf M K).cl c = He.ga K x := congrArg (He.ga K) (gD hx)
    show Mk K ((cfOf M K).cl c) (He.fAd K i.d.at_)
    rw [ec, ea]
    exact q4 hm
end Ip

/-! IpPure: how the interpreter's calls are computed. Written by an AI agent. -/
namespace Ip
open PySem (Str)
theorem big_eq : big = 1000000000 := by unfold big; rfl
section
variable {T : Tab} {c i : Nat → List W → Store → R W}
@[simp] theorem gam_call : (T.gam c i).call = c := rfl
@[simp] theorem gam_glob {g : Nat} : (T.gam c i).glob g = T.globs[g]? := rfl
theorem callF_eq {k f : Nat} {d : FnI} {ws : List W} {S : Store} (h : T.fns[f]? = some d) (hl : ws.length = d.ps) :
    T.callF (k + 2) f ws S = fin (xs (T.gam (T.callF (k + 1)) (T.callF k)) d.body (ws.map some ++ List.replicate (d.n - d.ps) none) S) := by
  rw [Tab.callF, h]
  dsimp only
  rw [if_pos hl]
end
@[simp] theorem toFl_ok (w : W) (S : Store) (ρ : Env) (k : W → Store → Option (Fl × Env × Store)) : toFl (some (.ok w, S)) ρ k = k w S := rfl
@[simp] theorem toFl_ex (e : Exn) (S : Store) (ρ : Env) (k : W → Store → Option (Fl × Env × Store)) : toFl (some (.ex e, S)) ρ k = some (.ex e, ρ, S) := rfl
@[simp] theorem toFl_rok (w : W) (S : Store) (ρ : Env) (k : W → Store → Option (Fl × Env × Store)) : toFl (rok w S) ρ k = k w S := rfl
@[simp] theorem toFls_ok (w : List W) (S : Store) (ρ : Env) (k : List W → Store → Option (Fl × Env × Store)) : toFls (some (.ok w, S)) ρ k = k w S := rfl
@[simp] theorem toFls_rok (w : List W) (S : Store) (ρ : Env) (k : List W → Store → Option (Fl × Env × Store)) : toFls (rok w S) ρ k = k w S := rfl
@[simp] theorem truth_ok (b : Bool) (S : Store) : truth (some (.ok (.bl b), S)) = some (.ok b, S) := rfl
@[simp] theorem truth_rok (b : Bool) (S : Store) : truth (rok (.bl b) S) = some (.ok b, S) := rfl
@[simp] theorem rok_eq {α : Type} (a : α) (S : Store) : rok a S = some (.ok a, S) := rfl
@[simp] theorem lift_some (w : W) (S : Store) : lift (some (w, S)) = some (.ok w, S) := rfl
@[simp] theorem lift_none : lift none = none := rfl
@[simp] theorem fin_ret (w : W) (ρ : Env) (S : Store) : fin (some (.ret w, ρ, S)) = some (.ok w, S) := rfl
@[simp] theorem fin_nxt (ρ : Env) (S : Store) : fin (some (.nxt, ρ, S)) = some (.ok .non, S) := rfl
@[simp] theorem fin_ex (e : Exn) (ρ : Env) (S : Store) : fin (some (.ex e, ρ, S)) = some (.ex e, S) := rfl

/-! ### loops -/
theorem for_inv {step : W → Env → Store → Option (Fl × Env × Store)} {ws : List W} (P : Nat → Env → Store → Prop)
    (h : ∀ i w ρ S, ws[i]? = some w → P i ρ S → ∃ ρ' S', (step w ρ S = some (.nxt, ρ', S') ∨ step w ρ S = some (.cnt, ρ', S')) ∧ P (i + 1) ρ' S') :
    ∀ (k i : Nat) (ρ : Env) (S : Store), i ≤ ws.length → ws.length - i < k → P i ρ S → ∃ ρ' S', forL step (.fixed ws) k i ρ S = some (.nxt, ρ', S') ∧ P ws.length ρ' S'
  | 0, i, ρ, S, _, hk, _ => by omega
  | k + 1, i, ρ, S, hi, hk, p => by
    unfold forL
    by_cases hl : i < ws.length
    · have e : ws[i]? = some ws[i] := List.getElem?_eq_getElem hl
      obtain ⟨ρ1, S1, h1, p1⟩ := h i ws[i] ρ S e p
      have r := for_inv P h k (i + 1) ρ1 S1 hl (by omega) p1
      simp only [srcAt, e]
      rcases h1 with h1 | h1
      · rw [h1]
        exact r
      · rw [h1]
        exact r
    · have e : ws[i]? = none := List.getElem?_eq_none (by omega)
      simp only [srcAt, e]
      have : i = ws.length := by omega
      subst this
      exact ⟨ρ, S, rfl, p⟩
/-- a loop over a fixed source, entered -/
theorem for_fixed {step : W → Env → Store → Option (Fl × Env × Store)} {ws : List W} {ρ : Env} {S : Store} (P : Nat → Env → Store → Prop) (hb : ws.length < 1000000000) (h0 : P 0 ρ S)
    (h : ∀ i w ρ S, ws[i]? = some w → P i ρ S → ∃ ρ' S', (step w ρ S = some (.nxt, ρ', S') ∨ step w ρ S = some (.cnt, ρ', S')) ∧ P (i + 1) ρ' S') :
    ∃ ρ' S', forL step (.fixed ws) big 0 ρ S = some (.nxt, ρ', S') ∧ P ws.length ρ' S' :=
  for_inv P h big 0 ρ S (Nat.zero_le _) (by rw [big_eq]; omega) h0
theorem whl_inv {c : Env → Store → R Bool} {b : Env → Store → Option (Fl × Env × Store)} (P : Nat → Env → Store → Prop) (Q : Env → Store → Prop)
    (h : ∀ n ρ S, P n ρ S → (∃ S', c ρ S = some (.ok false, S') ∧ Q ρ S') ∨ (∃ S1 ρ' S' n', c ρ S = some (.ok true, S1) ∧ b ρ S1 = some (.nxt, ρ', S') ∧ n' < n ∧ P n' ρ' S')) :
    ∀ (k n : Nat) (ρ : Env) (S : Store), n < k → P n ρ S → ∃ ρ' S', whlL c b k ρ S = some (.nxt, ρ', S') ∧ Q ρ' S'
  | 0, n, ρ, S, hk, _ => by omega
  | k + 1, n, ρ, S, hk, p => by
    unfold whlL
    rcases h n ρ S p with ⟨S', h1, q⟩ | ⟨S1, ρ', S', n', h1, h2, h3, h4⟩
    · rw [h1]
      exact ⟨ρ, S', rfl, q⟩
    · rw [h1]
      dsimp only
      rw [h2]
      exact whl_inv P Q h k n' ρ' S' (by omega) h4
theorem whl_big {c : Env → Store → R Bool} {b : Env → Store → Option (Fl × Env × Store)} (P : Nat → Env → Store → Prop) (Q : Env → Store → Prop) {n : Nat} {ρ : Env} {S : Store} (hn : n < 1000000000) (h0 : P n ρ S)
    (h : ∀ n ρ S, P n ρ S → (∃ S', c ρ S = some (.ok false, S') ∧ Q ρ S') ∨ (∃ S1 ρ' S' n', c ρ S = some (.ok true, S1) ∧ b ρ S1 = some (.nxt, ρ', S') ∧ n' < n ∧ P n' ρ' S')) :
    ∃ ρ' S', whlL c b big ρ S = some (.nxt, ρ', S') ∧ Q ρ' S' := whl_inv P Q h big n ρ S (by rw [big_eq]; exact hn) h0

/-! ### lists by their places -/
theorem len_at {S : Store} {n : Nat} {ws : List W} (h : listAt S n = some ws) : bfn .len S [.loc n] = some (.int ws.length, S) := by
  unfold listAt at h
  unfold bfn
  split at h
  · cases h; rename_i e; simp only [e]
  · cases h; rename_i e; simp only [e]
  · cases h
theorem idx_at {S : Store} {n : Nat} {ws : List W} {i : Int} (h : listAt S n = some ws) : idx2 S (.loc n) (.int i) = L2.atI ws i := by
  unfold listAt at h
  unfold idx2
  split at h
  · cases h; rename_i e; simp only [e]
  · cases h; rename_i e; simp only [e]
  · cases h
theorem atI_nat {α : Type} {ws : List α} {i : Int} (h0 : 0 ≤ i) (h1 : i < ws.length) : L2.atI ws i = ws[i.toNat]? := by
  unfold L2.atI L2.ixN
  rw [if_pos h0, if_pos (by omega)]
  rfl

/-! ### operators on ints -/
@[simp] theorem op_add {S : Store} {i j : Int} : op2 .add S (.int i) (.int j) = some (.int (i + j), S) := rfl
@[simp] theorem op_sub {S : Store} {i j : Int} : op2 .sub S (.int i) (.int j) = some (.int (i - j), S) := rfl
theorem log2_lt {n k : Nat} (h : n < 2 ^ k) (hk : 0 < k) : n.log2 < k := by
  by_cases h0 : n = 0
  · subst h0; simpa using hk
  · exact (Nat.log2_lt h0).mpr h
theorem op_mul {S : Store} {i j : Int} (hi : i.natAbs < 2 ^ 450000) (hj : j.natAbs < 2 ^ 450000) : op2 .mul S (.int i) (.int j) = some (.int (i * j), S) := by
  have h1 := log2_lt hi (by decide)
  have h2 := log2_lt hj (by decide)
  show (if i.natAbs.log2 + j.natAbs.log2 < 1000000 then some (W.int (i * j), S) else none) = _
  rw [if_pos (by omega)]
theorem op_pow {S : Store} {i : Int} {n : Nat} (h1 : n ≤ 1000000) (h2 : i.natAbs < 2 ^ 64) : op2 .pow S (.int i) (.int n) = some (.int (i ^ n), S) := by
  show (if 0 ≤ (n : Int) ∧ (n : Int) ≤ 1000000 ∧ i.natAbs < 2 ^ 64 then some (W.int (i ^ (n : Int).toNat), S) else none) = _
  rw [if_pos ⟨by omega, by omega, h2⟩]
  simp
theorem op_fdiv {S : Store} {i j : Int} (h0 : j ≠ 0) (h : j.natAbs.log2 < 9000) : op2 .fdiv S (.int i) (.int j) = some (.int (i.fdiv j), S) := by
  show (if j ≠ 0 ∧ j.natAbs.log2 < 9000 then some (W.int (i.fdiv j), S) else none) = _
  rw [if_pos ⟨h0, h⟩]
theorem op_mod {S : Store} {i j : Int} (h0 : j ≠ 0) : op2 .mod S (.int i) (.int j) = some (.int (i.fmod j), S) := by
  show (if j ≠ 0 then some (W.int (i.fmod j), S) else none) = _
  rw [if_pos h0]
/-- by a positive number that is not too long -/
theorem op_fdiv_pos {S : Store} {i j : Int} (h0 : 0 < j) (h : j < 2 ^ 8000) : op2 .fdiv S (.int i) (.int j) = some (.int (i / j), S) := by
  have hj : j.natAbs < 2 ^ 8000 := by
    generalize hP : (2 : Int) ^ 8000 = P at h
    have e : ((2 ^ 8000 : Nat) : Int) = P := by rw [← hP]; exact Int.natCast_pow 2 8000
    have : (j.natAbs : Int) < ((2 ^ 8000 : Nat) : Int) := by rw [e]; omega
    exact Int.ofNat_lt.mp this
  rw [op_fdiv (by omega) (by have := log2_lt hj (by decide); omega), Int.fdiv_eq_ediv_of_nonneg _ (by omega)]
theorem op_mod_pos {S : Store} {i j : Int} (h0 : 0 < j) : op2 .mod S (.int i) (.int j) = some (.int (i % j), S) := by
  rw [op_mod (by omega), Int.fmod_eq_emod_of_nonneg _ (by omega)]
theorem lt_pow {n : Nat} (h : n ≤ 10 ^ 130) : n < 2 ^ 450000 := Nat.lt_of_le_of_lt h (Nat.lt_of_lt_of_le (by decide +kernel : 10 ^ 130 < 2 ^ 500) (Nat.pow_le_pow_right (by decide) (by decide)))
@[simp] theorem cm_eq {S : Store} {i j : Int} : cm2 .eq S (.int i) (.int j) = some (decide (i = j)) := rfl
@[simp] theorem cm_ne {S : Store} {i j : Int} : cm2 .ne S (.int i) (.int j) = some (!decide (i = j)) := rfl
@[simp] theorem cm_lt {S : Store} {i j : Int} : cm2 .lt S (.int i) (.int j) = some (decide (i < j)) := rfl
@[simp] theorem cm_le {S : Store} {i j : Int} : cm2 .le S (.int i) (.int j) = some (decide (i ≤ j)) := rfl
@[simp] theorem cm_gt {S : Store} {i j : Int} : cm2 .gt S (.int i) (.int j) = some (decide (j < i)) := rfl
@[simp] theorem cm_ge {S : Store} {i j : Int} : cm2 .ge S (.int i) (.int j) = some (decide (j ≤ i)) := rfl

@[simp] theorem op_mul' {S : Store} {i j : Int} (hi : i.natAbs ≤ 10 ^ 130) (hj : j.natAbs ≤ 10 ^ 130) : op2 .mul S (.int i) (.int j) = some (.int (i * j), S) := op_mul (lt_pow hi) (lt_pow hj)
theorem p130 : (10 : Int) ^ 130 < 2 ^ 8000 := by decide +kernel
@[simp] theorem op_fdiv' {S : Store} {i j : Int} (h0 : 0 < j) (h : j ≤ 10 ^ 130) : op2 .fdiv S (.int i) (.int j) = some (.int (i / j), S) := op_fdiv_pos h0 (Int.lt_of_le_of_lt h p130)
@[simp] theorem op_mod' {S : Store} {i j : Int} (h0 : 0 < j) : op2 .mod S (.int i) (.int j) = some (.int (i % j), S) := op_mod_pos h0
@[simp] theorem op_pow' {S : Store} {i j : Int} (h1 : 0 ≤ j) (h2 : j ≤ 1000000) (h3 : i.natAbs ≤ 1000000) : op2 .pow S (.int i) (.int j) = some (.int (i ^ j.toNat), S) := by
  have := op_pow (S := S) (i := i) (n := j.toNat) (by omega) (by omega)
  have e : ((j.toNat : Nat) : Int) = j := Int.toNat_of_nonneg h1
  rw [e] at this
  exact this

/-! ### one statement after another -/
section
variable {Γ : Gam} {s : Sx} {r : List Sx} {ρ ρ1 : Env} {S S1 : Store} {c : Ex} {a b : List Sx}
theorem xs_nxt (h : x1 Γ s ρ S = some (.nxt, ρ1, S1)) : xs Γ (s :: r) ρ S = xs Γ r ρ1 S1 := by
  rw [xs, h]
theorem xs_ret {w : W} (h : x1 Γ s ρ S = some (.ret w, ρ1, S1)) : xs Γ (s :: r) ρ S = some (.ret w, ρ1, S1) := by
  rw [xs, h]
theorem xs_ex {e : Exn} (h : x1 Γ s ρ S = some (.ex e, ρ1, S1)) : xs Γ (s :: r) ρ S = some (.ex e, ρ1, S1) := by
  rw [xs, h]
theorem iff_t (h : truth (ev Γ c ρ S) = some (.ok true, S1)) : x1 Γ (.iff c a b) ρ S = xs Γ a ρ S1 := by
  rw [x1, h]
theorem iff_f (h : truth (ev Γ c ρ S) = some (.ok false, S1)) : x1 Γ (.iff c a b) ρ S = xs Γ b ρ S1 := by
  rw [x1, h]
/-- a test that is a proposition -/
theorem tr_t {x : R Bool} {P : Prop} [Decidable P] (h : x = some (.ok (decide P), S1)) (p : P) : x = some (.ok true, S1) := by
  rw [h, decide_eq_true p]
theorem tr_f {x : R Bool} {P : Prop} [Decidable P] (h : x = some (.ok (decide P), S1)) (p : ¬ P) : x = some (.ok false, S1) := by
  rw [h, decide_eq_false p]
theorem xs_nil : xs Γ [] ρ S = some (.nxt, ρ, S) := by rw [xs]
theorem asg_eq {i : Nat} {e : Ex} {w : W} (h : ev Γ e ρ S = some (.ok w, S1)) : x1 Γ (.asg i e) ρ S = some (.nxt, ρ.set i (some w), S1) := by rw [x1, h]; rfl
theorem par_eq {i j : Nat} {e e2 : Ex} {v w : W} {S2 : Store} (h : ev Γ e ρ S = some (.ok v, S1)) (h2 : ev Γ e2 ρ S1 = some (.ok w, S2)) : x1 Γ (.par i j e e2) ρ S = some (.nxt, (ρ.set i (some v)).set j (some w), S2) := by rw [x1, h, toFl_ok, h2]; rfl
theorem ret_eq {e : Ex} {w : W} (h : ev Γ e ρ S = some (.ok w, S1)) : x1 Γ (.ret e) ρ S = some (.ret w, ρ, S1) := by rw [x1, h]; rfl
theorem exp_eq {e : Ex} {w : W} (h : ev Γ e ρ S = some (.ok w, S1)) : x1 Γ (.exp e) ρ S = some (.nxt, ρ, S1) := by rw [x1, h]; rfl
theorem exp_ex {e : Ex} {x : Exn} (h : ev Γ e ρ S = some (.ex x, S1)) : x1 Γ (.exp e) ρ S = some (.ex x, ρ, S1) := by rw [x1, h]; rfl
theorem unp_eq {is : List Nat} {e : Ex} {ws : List W} {ρ2 : Env} (h : ev Γ e ρ S = some (.ok (.tup ws), S1)) (h2 : setT is (.tup ws) ρ = some ρ2) : x1 Γ (.unp is e) ρ S = some (.nxt, ρ2, S1) := by rw [x1, h, toFl_ok]; simp only [h2]; rfl
theorem fin_xs_ret {w : W} (h : x1 Γ s ρ S = some (.ret w, ρ1, S1)) : fin (xs Γ (s :: r) ρ S) = some (.ok w, S1) := by rw [xs_ret h]; rfl
theorem fin_xs_ex {e : Exn} (h : x1 Γ s ρ S = some (.ex e, ρ1, S1)) : fin (xs Γ (s :: r) ρ S) = some (.ex e, S1) := by rw [xs_ex h]; rfl
theorem bin_eq {op : Op2} {e e2 : Ex} {v w u : W} {S2 S3 : Store} (h : ev Γ e ρ S = some (.ok v, S1)) (h2 : ev Γ e2 ρ S1 = some (.ok w, S2)) (h3 : op2 op S2 v w = some (u, S3)) : ev Γ (.bin op e e2) ρ S = some (.ok u, S3) := by rw [ev, h, bnd_ok, h2, bnd_ok, h3]; rfl
theorem cmp_eq {op : Cm} {e e2 : Ex} {v w : W} {S2 : Store} {q : Bool} (h : ev Γ e ρ S = some (.ok v, S1)) (h2 : ev Γ e2 ρ S1 = some (.ok w, S2)) (h3 : cm2 op S2 v w = some q) : ev Γ (.cmp op e e2) ρ S = some (.ok (.bl q), S2) := by rw [ev, h, bnd_ok, h2, bnd_ok, h3]; rfl
theorem call_eq {f : Nat} {es : List Ex} {ws : List W} (h : evs Γ es ρ S = some (.ok ws, S1)) : ev Γ (.call f es) ρ S = Γ.call f ws S1 := by rw [ev, h, bnd_ok]
theorem bif_eq {f : Bf} {es : List Ex} {ws : List W} {u : W} {S2 : Store} (h : evs Γ es ρ S = some (.ok ws, S1)) (h2 : bfn f S1 ws = some (u, S2)) : ev Γ (.bif f es) ρ S = some (.ok u, S2) := by rw [ev, h, bnd_ok, h2]; rfl
theorem not_eq {e : Ex} {q : Bool} (h : ev Γ e ρ S = some (.ok (.bl q), S1)) : ev Γ (.not e) ρ S = some (.ok (.bl (!q)), S1) := by rw [ev, h]; rfl
theorem tr_eq {e : Ex} {q : Bool} (h : ev Γ e ρ S = some (.ok (.bl q), S1)) : truth (ev Γ e ρ S) = some (.ok q, S1) := by rw [h]; rfl
theorem tup_eq {es : List Ex} {ws : List W} (h : evs Γ es ρ S = some (.ok ws, S1)) : ev Γ (.tup es) ρ S = some (.ok (.tup ws), S1) := by rw [ev, h]; rfl
theorem evs_nil : evs Γ [] ρ S = some (.ok [], S) := by rw [evs]; rfl
theorem evs_cons {e : Ex} {es : List Ex} {w : W} {ws : List W} {S2 : Store} (h : ev Γ e ρ S = some (.ok w, S1)) (h2 : evs Γ es ρ S1 = some (.ok ws, S2)) : evs Γ (e :: es) ρ S = some (.ok (w :: ws), S2) := by rw [evs, h, bnd_ok, h2]; rfl
end
section
variable {Γ : Gam} {ρ : Env} {S S1 : Store} {tg : List Nat} {b : List Sx} {es : List Ex}
theorem for_eq {k : Ik} {ws : List W} {src : Src} (h : evs Γ es ρ S = some (.ok ws, S1)) (h2 : srcOf k S1 ws = some src) : x1 Γ (.for tg k es b) ρ S = forL (fun w ρ1 S2 => match setT tg w ρ1 with
    | none => none
    | some ρ2 => xs Γ b ρ2 S2) src big 0 ρ S1 := by
  rw [x1, h, toFls_ok]
  simp only [h2]
  all_goals rfl
theorem src_range1 {S : Store} {j : Int} (h1 : -(2 ^ 62) ≤ j) (h2 : j < 2 ^ 62) : srcOf .range1 S [.int j] = some (.fixed ((List.range j.toNat).map fun (i : Nat) => .int (0 + (i : Int)))) := by
  show (if -(2 ^ 62) ≤ j ∧ j < 2 ^ 62 then some (Src.fixed ((List.range j.toNat).map fun (i : Nat) => W.int (0 + (i : Int)))) else none) = _
  rw [if_pos ⟨h1, h2⟩]
/-- for i in range(j): the turns go on -/
theorem for_range1 {e : Ex} {j : Int} (h : ev Γ e ρ S = some (.ok (.int j), S1)) (h1 : -1000000 ≤ j) (h2 : j < 100000000) (P : Nat → Env → Store → Prop) (h0 : P 0 ρ S1)
    (ht : ∀ (i : Nat) ρ S, (i : Int) < j → P i ρ S → ∃ ρ1 ρ' S', setT tg (.int i) ρ = some ρ1 ∧ (xs Γ b ρ1 S = some (.nxt, ρ', S') ∨ xs Γ b ρ1 S = some (.cnt, ρ', S')) ∧ P (i + 1) ρ' S') :
    ∃ ρ' S', x1 Γ (.for tg .range1 [e] b) ρ S = some (.nxt, ρ', S') ∧ P j.toNat ρ' S' := by
  rw [for_eq (evs_cons h evs_nil) (src_range1 (by omega) (by omega))]
  have key := for_fixed (step := fun w ρ1 S2 => match setT tg w ρ1 with
    | none => none
    | some ρ2 => xs Γ b ρ2 S2) (ws := (List.range j.toNat).map fun (i : Nat) => W.int (0 + (i : Int))) (ρ := ρ) (S := S1) P (by simp; omega) h0 (fun i w ρ S hw p => by
      rw [List.getElem?_map] at hw
      obtain ⟨c, h3, h4⟩ := Option.map_eq_some_iff.mp hw
      obtain ⟨h5, h6⟩ := List.getElem?_eq_some_iff.mp h3
      rw [List.length_range] at h5
      rw [List.getElem_range] at h6
      subst h6 h4
      obtain ⟨ρ1, ρ', S', q1, q2, q3⟩ := ht i ρ S (by omega) p
      refine ⟨ρ', S', ?_, q3⟩
      rw [Int.zero_add, q1]
      exact q2)
  simpa using key
end
/-- pairs of ints -/
theorem eq_pair {S : Store} {a b c d : Int} : eqW S (.tup [.int a, .int b]) (.tup [.int c, .int d]) = some (decide (a = c) && decide (b = d)) := by
  show eqDeep S (.tup [.int a, .int b]) (.tup [.int c, .int d]) = _
  simp [eqDeep, dat, datAll, PySem.PyData.canLay0, PySem.PyData.canLayAll0, PySem.PyData.eqv, PySem.PyData.eqvAll]
  by_cases h1 : a = c <;> by_cases h2 : b = d <;> simp [h1, h2]
section
variable {Γ : Gam} {ρ ρ1 ρ2 : Env} {S S1 S2 : Store} {bs su : List Sx} {c : Nat} {x : Exn}
theorem only_nxt (h : xs Γ bs ρ S = some (.nxt, ρ1, S1)) : x1 Γ (.tryOnly bs c su) ρ S = some (.nxt, ρ1, S1) := by rw [x1, h]
theorem only_ex (h : xs Γ bs ρ S = some (.ex x, ρ1, S1)) (hu : Γ.up x.cls c = true) (h2 : xs Γ su ρ1 S1 = some (.nxt, ρ2, S2)) : x1 Γ (.tryOnly bs c su) ρ S = some (.nxt, ρ2, S2) := by
  rw [x1, h]
  simp only [hu, if_true, h2]
theorem lcL_map {g : W → Store → R (Option W)} {ws : List W} {vals : Nat → W} (h : ∀ i w, ws[i]? = some w → g w S = some (.ok (some (vals i)), S)) : ∀ (n i : Nat), i ≤ ws.length → ws.length - i < n → lcL g (.fixed ws) n i S = some (((List.range ws.length).drop i).map vals, S)
  | 0, i, _, hn => by omega
  | n + 1, i, hi, hn => by
    unfold lcL
    by_cases hl : i < ws.length
    · have e : ws[i]? = some ws[i] := List.getElem?_eq_getElem hl
      simp only [srcAt, e, h i _ e, lcL_map h n (i + 1) hl (by omega)]
      have : (List.range ws.length).drop i = i :: (List.range ws.length).drop (i + 1) := by
        rw [List.drop_eq_getElem_cons (by simpa using hl), List.getElem_range]
      rw [this, List.map_cons]
      rfl
    · have e : ws[i]? = none := List.getElem?_eq_none (by omega)
      simp only [srcAt, e]
      rw [List.drop_eq_nil_of_le (by simp; omega)]
      rfl
/-- [elt for t in range(j)], nothing else changed -/
theorem lc_range {elt e : Ex} {t : Nat} {j : Int} {vals : Nat → W} (h : ev Γ e ρ S = some (.ok (.int j), S)) (h1 : -1000000 ≤ j) (h2 : j ≤ 10000000)
    (he : ∀ i : Nat, (i : Int) < j → ev Γ elt (ρ.set t (some (.int i))) S = some (.ok (vals i), S)) : ev Γ (.lc elt [t] .range1 [e] []) ρ S = some (.ok (.loc S.length), S ++ [.lst ((List.range j.toNat).map vals)]) := by
  rw [ev, evs_cons h evs_nil, bnd_ok]
  simp only [src_range1 (S := S) (j := j) (by omega) (by omega)]
  rw [lcL_map (vals := vals) (ws := (List.range j.toNat).map fun (i : Nat) => W.int (0 + (i : Int))) (S := S) (fun i w hw => by
    rw [List.getElem?_map] at hw
    obtain ⟨c, h3, h4⟩ := Option.map_eq_some_iff.mp hw
    obtain ⟨h5, h6⟩ := List.getElem?_eq_some_iff.mp h3
    rw [List.length_range] at h5
    rw [List.getElem_range] at h6
    subst h6 h4
    simp only [setT, evAll, rok_eq, bnd_ok, Int.zero_add, he i (by omega)]) big 0 (Nat.zero_le _) (by rw [big_eq]; simp; omega)]
  simp
  omega
end
theorem eq_pairB {S : Store} {a b : Bool} : eqW S (.tup [.bl a, .bl b]) (.tup [.bl a, .bl b]) = some true := by
  show eqDeep S (.tup [.bl a, .bl b]) (.tup [.bl a, .bl b]) = _
  simp [eqDeep, dat, datAll, PySem.PyData.canLay0, PySem.PyData.canLayAll0, PySem.PyData.eqv, PySem.PyData.eqvAll]
theorem at_app {S T : Store} {n : Nat} {ws : List W} (h : listAt S n = some ws) : listAt (S ++ T) n = some ws := by
  unfold listAt at h ⊢
  have : n < S.length := by
    by_cases q : n < S.length
    · exact q
    · rw [List.getElem?_eq_none (by omega)] at h
      cases h
  rw [List.getElem?_append_left this]
  exact h
theorem at_new {S T : Store} {ws : List W} : listAt (S ++ .lst ws :: T) S.length = some ws := by
  unfold listAt
  rw [List.getElem?_append_right (Nat.le_refl _), Nat.sub_self]
  rfl
section
variable {Γ : Gam} {ρ : Env} {S S1 S2 : Store}
theorem var_eq {i : Nat} {w : W} (h : ρ[i]? = some (some w)) : ev Γ (.var i) ρ S = some (.ok w, S) := by
  unfold ev
  simp only [h]
  all_goals rfl
theorem int_eq {i : Int} : ev Γ (.int i) ρ S = some (.ok (.int i), S) := by
  unfold ev
  all_goals rfl
theorem idx_eq {A I : Ex} {n : Nat} {j : Int} {ws : List W} {w : W} (hA : ev Γ A ρ S = some (.ok (.loc n), S1)) (hI : ev Γ I ρ S1 = some (.ok (.int j), S2)) (h : listAt S2 n = some ws) (h2 : L2.atI ws j = some w) : ev Γ (.idx A I) ρ S = some (.ok w, S2) := by
  unfold ev
  rw [hA, bnd_ok, hI, bnd_ok, idx_at h, h2]
  all_goals rfl
end
end Ip

/-! IpLib: the program's parts, and the laws' own: what they compute. Written by an AI agent. -/
namespace Ip
open PySem (Str)
theorem fm {i j : Int} (h : 0 < j) : i.fmod j = i % j := Int.fmod_eq_emod_of_nonneg _ (by omega)
theorem fd {i j : Int} (h : 0 < j) : i.fdiv j = i / j := Int.fdiv_eq_ediv_of_nonneg _ (by omega)
theorem gcd_step (a b : Int) : Int.gcd b (a % b) = Int.gcd a b := by
  rw [Int.emod_def, Int.gcd_sub_mul_left_right, Int.gcd_comm]
theorem abs_ok {S : Store} {i : Int} : bfn .abs S [.int i] = some (.int i.natAbs, S) := by
  show some (W.int (if i < 0 then -i else i), S) = _
  by_cases h : i < 0
  · rw [if_pos h]
    have : (i.natAbs : Int) = -i := by omega
    rw [this]
  · rw [if_neg h]
    have : (i.natAbs : Int) = i := by omega
    rw [this]
/-! ### Euclid -/
/-- the measure's step -/
theorem euclid_step {a b : Int} {n : Nat} (hb : 0 < b) (hab : b ≤ a) (h : a * b < 2 ^ (n + 1)) : b * (a % b) < 2 ^ n := by
  have h1 := Int.emod_lt_of_pos a hb
  have h0 := Int.emod_nonneg a (by omega : b ≠ 0)
  have h2 : b + a % b ≤ a := by
    have := Int.emod_add_mul_ediv a b
    have q : 1 ≤ a / b := by
      have := Int.le_ediv_of_mul_le hb (show 1 * b ≤ a by omega)
      omega
    have : b * 1 ≤ b * (a / b) := Int.mul_le_mul_of_nonneg_left q (by omega)
    omega
  have h3 : b * (b + a % b) ≤ b * a := Int.mul_le_mul_of_nonneg_left h2 (by omega)
  have h4 : b * (a % b + a % b) ≤ b * (b + a % b) := Int.mul_le_mul_of_nonneg_left (by omega) (by omega)
  have h5 : b * a = a * b := Int.mul_comm b a
  have h6 : b * (a % b + a % b) = b * (a % b) + b * (a % b) := Int.mul_add _ _ _
  have h7 : (2 : Int) ^ (n + 1) = 2 ^ n * 2 := Int.pow_succ 2 n
  generalize (2 : Int) ^ (n + 1) = P at *
  generalize (2 : Int) ^ n = R at *
  omega
/-- the loop's part of Euclid: c the test, b the turn -/
theorem euclid {c : Env → Store → R Bool} {bd : Env → Store → Option (Fl × Env × Store)} {E : Int → Int → Env} {S : Store} {L : Nat} {a b : Int} (hl : L ≤ 400000000) (hb0 : 0 ≤ b) (hb : b < 2 ^ L)
    (hc : ∀ a b, 0 ≤ b → c (E a b) S = some (.ok (!decide (b = 0)), S)) (hbd : ∀ a b, 0 < b → bd (E a b) S = some (.nxt, E b (a % b), S)) :
    ∃ g : Int, whlL c bd big (E a b) S = some (.nxt, E g 0, S) ∧ g.natAbs = Int.gcd a b ∧ (0 ≤ a ∨ 0 < b → 0 ≤ g) := by
  have key := whl_big (c := c) (b := bd) (S := S) (ρ := E a b) (n := 2 * L + 1)
    (fun n ρ S' => S' = S ∧ ∃ x y, ρ = E x y ∧ 0 ≤ y ∧ Int.gcd x y = Int.gcd a b ∧ (0 ≤ a ∨ 0 < b → 0 ≤ x ∨ 0 < y) ∧ ((y ≤ x ∧ x * y < 2 ^ n) ∨ (n = 2 * L + 1 ∧ y < 2 ^ L)))
    (fun ρ S' => S' = S ∧ ∃ g : Int, ρ = E g 0 ∧ g.natAbs = Int.gcd a b ∧ (0 ≤ a ∨ 0 < b → 0 ≤ g)) (by omega) ⟨rfl, a, b, rfl, hb0, rfl, id, .inr ⟨rfl, hb⟩⟩ (fun n ρ S' ⟨eS, x, y, eρ, hy, hg, hs, hm⟩ => by
      subst eS eρ
      by_cases h0 : y = 0
      · subst h0
        refine .inl ⟨S', by rw [hc x 0 hy]; rfl, rfl, x, rfl, ?_, fun h => ?_⟩
        · rw [← hg, Int.gcd_zero]
        · have := hs h; omega
      · have hy' : 0 < y := by omega
        have hr := Int.emod_lt_of_pos x hy'
        have hr0 := Int.emod_nonneg x h0
        have fin : ∀ n', n' < n → y * (x % y) < 2 ^ n' → (∃ S1 ρ' S2 n', c (E x y) S' = some (.ok true, S1) ∧ bd (E x y) S1 = some (.nxt, ρ', S2) ∧ n' < n ∧ S2 = S' ∧ ∃ x' y', ρ' = E x' y' ∧ 0 ≤ y' ∧ Int.gcd x' y' = Int.gcd a b ∧ (0 ≤ a ∨ 0 < b → 0 ≤ x' ∨ 0 < y') ∧ ((y' ≤ x' ∧ x' * y' < 2 ^ n') ∨ (n' = 2 * L + 1 ∧ y' < 2 ^ L))) := fun n' hn' hlt =>
          ⟨S', E y (x % y), S', n', by rw [hc x y hy, decide_eq_false h0]; rfl, hbd x y hy', hn', rfl, y, x % y, rfl, hr0, by rw [gcd_step, hg], fun _ => .inl hy, .inl ⟨by omega, hlt⟩⟩
        refine .inr ?_
        rcases hm with ⟨h1, h2⟩ | ⟨h1, h2⟩
        · cases n with
          | zero =>
            have : x * y < 1 := h2
            have : 1 * 1 ≤ x * y := Int.mul_le_mul (by omega) (by omega) (by omega) (by omega)
            omega
          | succ n => exact fin n (Nat.lt_succ_self n) (euclid_step hy' h1 h2)
        · subst h1
          refine fin (2 * L) (by omega) ?_
          have e : (2 : Int) ^ (2 * L) = 2 ^ L * 2 ^ L := by rw [← Int.pow_add]; congr 1; omega
          rw [e]
          have hp : (0 : Int) < 2 ^ L := by omega
          have a1 : y * (x % y) ≤ y * 2 ^ L := Int.mul_le_mul_of_nonneg_left (by omega) (by omega)
          have a2 : y * 2 ^ L < 2 ^ L * 2 ^ L := Int.mul_lt_mul_of_pos_right h2 hp
          omega)
  obtain ⟨ρ', S', h1, h2, g, h3, h4, h5⟩ := key
  subst h2 h3
  exact ⟨g, h1, h4, h5⟩
def irDivisor : List Sx := [.while (.cmp .ne (.var 1) (.int 0)) [.par 0 1 (.var 1) (.bin .mod (.var 0) (.var 1))], .ret (.bif .abs [.var 0])]
section
variable {T : Tab} {k f : Nat} {S : Store}
theorem divisor_ok (hf : T.fns[f]? = some ⟨2, 2, irDivisor⟩) {L : Nat} {a b : Int} (hl : L ≤ 400000000) (hb0 : 0 ≤ b) (hb : b < 2 ^ L) : T.callF (k + 2) f [.int a, .int b] S = some (.ok (.int (Int.gcd a b)), S) := by
  rw [callF_eq hf rfl]
  generalize T.gam (T.callF (k + 1)) (T.callF k) = Γ
  show fin (xs Γ irDivisor [some (.int a), some (.int b)] S) = _
  unfold irDivisor
  obtain ⟨g, h1, h2, _⟩ := euclid (E := fun x y => [some (.int x), some (.int y)]) (c := fun ρ1 S1 => truth (ev Γ (.cmp .ne (.var 1) (.int 0)) ρ1 S1)) (bd := fun ρ1 S1 => xs Γ [.par 0 1 (.var 1) (.bin .mod (.var 0) (.var 1))] ρ1 S1) (S := S) (a := a) hl hb0 hb (fun a b _ => by kernel_rfl) (fun a b h => by
    have : x1 Γ (.par 0 1 (.var 1) (.bin .mod (.var 0) (.var 1))) [some (.int a), some (.int b)] S = some (.nxt, [some (.int b), some (.int (a % b))], S) := by
      have e : ev Γ (.bin .mod (.var 0) (.var 1)) [some (.int a), some (.int b)] S = lift (op2 .mod S (.int a) (.int b)) := by kernel_rfl
      rw [op_mod_pos h] at e
      exact par_eq (by kernel_rfl) e
    rw [xs_nxt this, xs_nil])
  have e : x1 Γ (.while (.cmp .ne (.var 1) (.int 0)) [.par 0 1 (.var 1) (.bin .mod (.var 0) (.var 1))]) [some (.int a), some (.int b)] S = some (.nxt, [some (.int g), some (.int 0)], S) := by
    rw [x1]
    exact h1
  rw [xs_nxt e, ← h2]
  have e2 : ev Γ (.bif .abs [.var 0]) [some (.int g), some (.int 0)] S = lift (bfn .abs S [.int g]) := by kernel_rfl
  rw [xs, x1, e2, abs_ok]
  rfl
def irFraction (x d : Nat) : List Sx := [.iff (.cmp .eq (.var 1) (.int 0)) [.raise x [] []] [], .iff (.cmp .lt (.var 1) (.int 0)) [.asg 0 (.bin .sub (.int 0) (.var 0)), .asg 1 (.bin .sub (.int 0) (.var 1))] [], .asg 2 (.call d [.var 0, .var 1]), .ret (.tup [.bin .fdiv (.var 0) (.var 2), .bin .fdiv (.var 1) (.var 2)])]
/-- lowest terms -/
def frac (a b : Int) : Int × Int := if b < 0 then (-a / Int.gcd a b, -b / Int.gcd a b) else (a / Int.gcd a b, b / Int.gcd a b)
variable {x d : Nat}
theorem fraction_nought (hf : T.fns[f]? = some ⟨2, 3, irFraction x d⟩) {a : Int} : T.callF (k + 2) f [.int a, .int 0] S = some (.ex ⟨x, []⟩, S) := by
  rw [callF_eq hf rfl]
  generalize T.gam (T.callF (k + 1)) (T.callF k) = Γ
  show fin (xs Γ (irFraction x d) [some (.int a), some (.int 0), none] S) = _
  unfold irFraction
  kernel_rfl
theorem fraction_ok (hf : T.fns[f]? = some ⟨2, 3, irFraction x d⟩) (hd : T.fns[d]? = some ⟨2, 2, irDivisor⟩) {L : Nat} {a b : Int} (hl : L ≤ 7000) (hb0 : b ≠ 0) (hb : b.natAbs < 2 ^ L) :
    T.callF (k + 3) f [.int a, .int b] S = some (.ok (.tup [.int (frac a b).1, .int (frac a b).2]), S) := by
  rw [callF_eq hf rfl]
  have hdiv : ∀ a b : Int, 0 ≤ b → b.natAbs < 2 ^ L → (T.gam (T.callF (k + 2)) (T.callF (k + 1))).call d [.int a, .int b] S = some (.ok (.int (Int.gcd a b)), S) := fun a b h0 h => by
    refine divisor_ok hd (L := L) (by omega) h0 ?_
    have e : ((2 ^ L : Nat) : Int) = 2 ^ L := Int.natCast_pow 2 L
    rw [← e]
    omega
  generalize T.gam (T.callF (k + 2)) (T.callF (k + 1)) = Γ at hdiv ⊢
  show fin (xs Γ (irFraction x d) [some (.int a), some (.int b), none] S) = _
  unfold irFraction
  rw [xs_nxt (ρ1 := [some (.int a), some (.int b), none]) (S1 := S) (by
    rw [iff_f (tr_f (P := b = 0) (by kernel_rfl) hb0), xs_nil])]
  have hg : 0 < Int.gcd a b := Int.gcd_pos_of_ne_zero_right a hb0
  have hgb : Int.gcd a b ≤ b.natAbs := Int.gcd_le_natAbs_right a hb0
  have fin2 : ∀ p q : Int, 0 < q → Int.gcd p q = Int.gcd a b → q.natAbs = b.natAbs → fin (xs Γ [.asg 2 (.call d [.var 0, .var 1]), .ret (.tup [.bin .fdiv (.var 0) (.var 2), .bin .fdiv (.var 1) (.var 2)])] [some (.int p), some (.int q), none] S) = some (.ok (.tup [.int (p / Int.gcd a b), .int (q / Int.gcd a b)]), S) := fun p q hq e en => by
    have e1 : ev Γ (.call d [.var 0, .var 1]) [some (.int p), some (.int q), none] S = some (.ok (.int (Int.gcd a b)), S) := by
      rw [call_eq (ws := [.int p, .int q]) (S1 := S) (by kernel_rfl), hdiv p q (by omega) (by omega), e]
    rw [xs_nxt (asg_eq e1)]
    have dv : ∀ i : Int, op2 .fdiv S (.int i) (.int (Int.gcd a b)) = some (.int (i / Int.gcd a b), S) := fun i => by
      rw [op_fdiv (by omega) ?_, fd (by omega)]
      have h1 : Int.gcd a b < 2 ^ L := by omega
      have h2 : (Int.gcd a b).log2 < L := log2_lt h1 (by
        by_cases h : L = 0
        · subst h; omega
        · omega)
      show (Int.natAbs (Int.gcd a b)).log2 < 9000
      rw [Int.natAbs_natCast]
      omega
    refine fin_xs_ret (ret_eq (tup_eq (evs_cons (bin_eq (S1 := S) (by kernel_rfl) (by kernel_rfl) (dv p)) (evs_cons (bin_eq (S1 := S) (by kernel_rfl) (by kernel_rfl) (dv q)) evs_nil))))
  unfold frac
  by_cases hn : b < 0
  · rw [if_pos hn, xs_nxt (ρ1 := [some (.int (0 - a)), some (.int (0 - b)), none]) (S1 := S) (by
      rw [iff_t (S1 := S) (tr_t (P := b < 0) (by kernel_rfl) hn)]
      kernel_rfl)]
    have e1 : 0 - a = -a := by omega
    have e2 : 0 - b = -b := by omega
    rw [e1, e2]
    exact fin2 (-a) (-b) (by omega) (by rw [Int.neg_gcd, Int.gcd_neg]) (by omega)
  · rw [if_neg hn, xs_nxt (ρ1 := [some (.int a), some (.int b), none]) (S1 := S) (by
      rw [iff_f (tr_f (P := b < 0) (by kernel_rfl) hn), xs_nil])]
    exact fin2 a b (by omega) rfl rfl
/-- the laws' own -/
def irGcd : List Sx := [.asg 2 (.bif .abs [.var 0]), .asg 3 (.bif .abs [.var 1]), .while (.cmp .gt (.var 3) (.int 0)) [.par 2 3 (.var 3) (.bin .mod (.var 2) (.var 3))], .ret (.var 2)]
theorem gcd_ok (hf : T.fns[f]? = some ⟨2, 4, irGcd⟩) {L : Nat} {a b : Int} (hl : L ≤ 400000000) (hb : b.natAbs < 2 ^ L) : T.callF (k + 2) f [.int a, .int b] S = some (.ok (.int (Int.gcd a b)), S) := by
  rw [callF_eq hf rfl]
  generalize T.gam (T.callF (k + 1)) (T.callF k) = Γ
  show fin (xs Γ irGcd [some (.int a), some (.int b), none, none] S) = _
  unfold irGcd
  have e2 : ev Γ (.bif .abs [.var 0]) [some (.int a), some (.int b), none, none] S = some (.ok (.int a.natAbs), S) := bif_eq (by kernel_rfl) abs_ok
  have e3 : ev Γ (.bif .abs [.var 1]) [some (.int a), some (.int b), some (.int a.natAbs), none] S = some (.ok (.int b.natAbs), S) := bif_eq (by kernel_rfl) abs_ok
  have e3' : x1 Γ (.asg 3 (.bif .abs [.var 1])) [some (.int a), some (.int b), some (.int a.natAbs), none] S = some (.nxt, [some (.int a), some (.int b), some (.int a.natAbs), some (.int b.natAbs)], S) := asg_eq e3
  have e2' : x1 Γ (.asg 2 (.bif .abs [.var 0])) [some (.int a), some (.int b), none, none] S = some (.nxt, [some (.int a), some (.int b), some (.int a.natAbs), none], S) := asg_eq e2
  rw [xs_nxt e2', xs_nxt e3']
  obtain ⟨g, h1, h2, h3⟩ := euclid (E := fun x y => [some (.int a), some (.int b), some (.int x), some (.int y)]) (c := fun ρ1 S1 => truth (ev Γ (.cmp .gt (.var 3) (.int 0)) ρ1 S1)) (bd := fun ρ1 S1 => xs Γ [.par 2 3 (.var 3) (.bin .mod (.var 2) (.var 3))] ρ1 S1) (S := S) (a := a.natAbs) (b := b.natAbs) hl (by omega) (by
      have e : ((2 ^ L : Nat) : Int) = 2 ^ L := Int.natCast_pow 2 L
      rw [← e]
      omega) (fun x y hy => by
    have : truth (ev Γ (.cmp .gt (.var 3) (.int 0)) [some (.int a), some (.int b), some (.int x), some (.int y)] S) = some (.ok (decide (0 < y)), S) := by kernel_rfl
    show truth (ev Γ (.cmp .gt (.var 3) (.int 0)) [some (.int a), some (.int b), some (.int x), some (.int y)] S) = _
    rw [this]
    by_cases h : y = 0
    · subst h; rfl
    · rw [decide_eq_true (show 0 < y by omega), decide_eq_false h]; rfl) (fun x y h => by
    have : x1 Γ (.par 2 3 (.var 3) (.bin .mod (.var 2) (.var 3))) [some (.int a), some (.int b), some (.int x), some (.int y)] S = some (.nxt, [some (.int a), some (.int b), some (.int y), some (.int (x % y))], S) := by
      have e : ev Γ (.bin .mod (.var 2) (.var 3)) [some (.int a), some (.int b), some (.int x), some (.int y)] S = lift (op2 .mod S (.int x) (.int y)) := by kernel_rfl
      rw [op_mod_pos h] at e
      exact par_eq (by kernel_rfl) e
    show xs Γ _ _ _ = _
    rw [xs_nxt this, xs_nil])
  have e : x1 Γ (.while (.cmp .gt (.var 3) (.int 0)) [.par 2 3 (.var 3) (.bin .mod (.var 2) (.var 3))]) [some (.int a), some (.int b), some (.int a.natAbs), some (.int b.natAbs)] S = some (.nxt, [some (.int a), some (.int b), some (.int g), some (.int 0)], S) := by
    rw [x1]
    exact h1
  rw [xs_nxt e]
  have hg : g = Int.gcd a b := by
    have q := h3 (.inl (by omega))
    have e : Int.gcd a.natAbs b.natAbs = Int.gcd a b := by simp [Int.gcd]
    omega
  rw [hg]
  kernel_rfl
end
theorem frac_pos {a b : Int} (hb : b ≠ 0) : 1 ≤ (frac a b).2 ∧ Int.gcd (frac a b).1 (frac a b).2 = 1 ∧ a * (frac a b).2 = b * (frac a b).1 ∧ (frac a b).1.natAbs ≤ a.natAbs ∧ (frac a b).2.natAbs ≤ b.natAbs := by
  have core : ∀ {p q : Int}, 0 < q → 1 ≤ q / Int.gcd p q ∧ Int.gcd (p / Int.gcd p q) (q / Int.gcd p q) = 1 ∧ p * (q / Int.gcd p q) = q * (p / Int.gcd p q) ∧ (p / Int.gcd p q).natAbs ≤ p.natAbs ∧ (q / Int.gcd p q).natAbs ≤ q.natAbs := fun {p q} hq => by
    have hg : 0 < Int.gcd p q := Int.gcd_pos_of_ne_zero_right p (by omega)
    obtain ⟨u, hu⟩ := Int.gcd_dvd_left p q
    obtain ⟨v, hv⟩ := Int.gcd_dvd_right p q
    have h1 := Int.gcd_ediv_gcd_ediv_gcd hg
    generalize hG : Int.gcd p q = g at *
    have g0 : (g : Int) ≠ 0 := by omega
    have e1 : p / (g : Int) = u := by rw [hu]; exact Int.mul_ediv_cancel_left u g0
    have e2 : q / (g : Int) = v := by rw [hv]; exact Int.mul_ediv_cancel_left v g0
    rw [e1, e2] at h1 ⊢
    have hv1 : 1 ≤ v := by
      by_cases h : v ≤ 0
      · have : (g : Int) * v ≤ 0 := Int.mul_nonpos_of_nonneg_of_nonpos (by omega) h
        omega
      · omega
    refine ⟨hv1, h1, ?_, ?_, ?_⟩
    · rw [hu, hv, Int.mul_assoc, Int.mul_assoc, Int.mul_comm u v]
    · rw [hu, Int.natAbs_mul, Int.natAbs_natCast]
      exact Nat.le_mul_of_pos_left _ hg
    · rw [hv, Int.natAbs_mul, Int.natAbs_natCast]
      exact Nat.le_mul_of_pos_left _ hg
  unfold frac
  by_cases h : b < 0
  · rw [if_pos h]
    have c := core (p := -a) (q := -b) (by omega)
    rw [Int.neg_gcd, Int.gcd_neg] at c
    obtain ⟨c1, c2, c3, c4, c5⟩ := c
    refine ⟨c1, c2, ?_, by omega, by omega⟩
    dsimp only
    rw [Int.neg_mul, Int.neg_mul] at c3
    omega
  · rw [if_neg h]
    exact core (by omega)
theorem frac_neg {a b : Int} (hb : b ≠ 0) : frac (0 - a) (0 - b) = frac a b := by
  have e1 : 0 - a = -a := by omega
  have e2 : 0 - b = -b := by omega
  unfold frac
  rw [e1, e2, Int.neg_gcd, Int.gcd_neg, Int.neg_neg, Int.neg_neg]
  by_cases h : b < 0
  · rw [if_pos h, if_neg (by omega)]
  · rw [if_neg h, if_pos (by omega)]
theorem up {n m : Nat} (h : n < 2 ^ m) (hm : m ≤ 450000) : n < 2 ^ 450000 := Nat.lt_of_lt_of_le h (Nat.pow_le_pow_right (by decide) hm)
theorem mul_lt {a b : Int} {m n : Nat} (ha : a.natAbs < 2 ^ m) (hb : b.natAbs < 2 ^ n) : (a * b).natAbs < 2 ^ (m + n) := by
  rw [Int.natAbs_mul, Nat.pow_add]
  exact Nat.mul_lt_mul'' ha hb
theorem add_lt {a b : Int} {m : Nat} (ha : a.natAbs < 2 ^ m) (hb : b.natAbs < 2 ^ m) : (a + b).natAbs < 2 ^ (m + 1) := by
  rw [Nat.pow_succ]
  omega
theorem sub_lt {a b : Int} {m : Nat} (ha : a.natAbs < 2 ^ m) (hb : b.natAbs < 2 ^ m) : (a - b).natAbs < 2 ^ (m + 1) := by
  rw [Nat.pow_succ]
  omega
section
variable {Γ : Gam} {ρ : Env} {S : Store} {A B : Ex} {a b : Int}
theorem mul_ev (hA : ev Γ A ρ S = some (.ok (.int a), S)) (hB : ev Γ B ρ S = some (.ok (.int b), S)) {m n : Nat} (ha : a.natAbs < 2 ^ m) (hb : b.natAbs < 2 ^ n) (hm : m ≤ 450000 := by decide) (hn : n ≤ 450000 := by decide) :
    ev Γ (.bin .mul A B) ρ S = some (.ok (.int (a * b)), S) := bin_eq hA hB (op_mul (up ha hm) (up hb hn))
theorem add_ev (hA : ev Γ A ρ S = some (.ok (.int a), S)) (hB : ev Γ B ρ S = some (.ok (.int b), S)) : ev Γ (.bin .add A B) ρ S = some (.ok (.int (a + b)), S) := bin_eq hA hB op_add
theorem sub_ev (hA : ev Γ A ρ S = some (.ok (.int a), S)) (hB : ev Γ B ρ S = some (.ok (.int b), S)) : ev Γ (.bin .sub A B) ρ S = some (.ok (.int (a - b)), S) := bin_eq hA hB op_sub
end
theorem or_f {Γ : Gam} {ρ : Env} {S S1 S2 : Store} {e e2 : Ex} {es : List Ex} (h : truth (ev Γ e ρ S) = some (.ok false, S1)) (h2 : evOr Γ (e2 :: es) ρ S1 = some (.ok (.bl false), S2)) : evOr Γ (e :: e2 :: es) ρ S = some (.ok (.bl false), S2) := by
  rw [evOr, h, bnd_ok]
  · exact h2
  · simp
theorem and_t {Γ : Gam} {ρ : Env} {S S1 : Store} {e e2 : Ex} {es : List Ex} (h : truth (ev Γ e ρ S) = some (.ok true, S1)) : evAnd Γ (e :: e2 :: es) ρ S = evAnd Γ (e2 :: es) ρ S1 := by
  rw [evAnd, h, bnd_ok]
  simp
section
variable {T : Tab} {k f : Nat} {S : Store}
def irNth : List Sx := [.ret (.ite (.cmp .lt (.var 1) (.bif .len [.var 0])) (.idx (.var 0) (.var 1)) (.int 0))]
def nthI (ns : List Int) (i : Int) : Int := if i < ns.length then ns.getD i.toNat 0 else 0
theorem nth_ok {n : Nat} {ns : List Int} {i : Int} (hf : T.fns[f]? = some ⟨2, 2, irNth⟩) (h : listAt S n = some (ns.map W.int)) (h0 : 0 ≤ i) : T.callF (k + 2) f [.loc n, .int i] S = some (.ok (.int (nthI ns i)), S) := by
  rw [callF_eq hf rfl]
  unfold nthI
  by_cases hi : i < ns.length
  · have e : L2.atI (ns.map W.int) i = some (.int (ns.getD i.toNat 0)) := by
      rw [atI_nat h0 (by simpa using hi), List.getElem?_map]
      have : i.toNat < ns.length := by omega
      simp [this]
    simp [irNth, xs, x1, ev, evs, cm2, len_at h, idx_at h, hi, e]
  · simp [irNth, xs, x1, ev, evs, cm2, len_at h, hi]
def irWhole : List Sx := [.ret (.and [.isi (.var 0) .int, .not (.isi (.var 0) .bool)])]
theorem whole_ok (hf : T.fns[f]? = some ⟨1, 1, irWhole⟩) {i : Int} : T.callF (k + 2) f [.int i] S = some (.ok (.bl true), S) := by
  rw [callF_eq hf rfl]
  generalize T.gam (T.callF (k + 1)) (T.callF k) = Γ
  show fin (xs Γ irWhole [some (.int i)] S) = _
  unfold irWhole
  kernel_rfl
def irLowest (g : Nat) : List Sx := [.iff (.cmp .lt (.var 1) (.int 0)) [.asg 0 (.bin .sub (.int 0) (.var 0)), .asg 1 (.bin .sub (.int 0) (.var 1))] [], .asg 2 (.call g [.var 0, .var 1]), .ret (.tup [.bin .fdiv (.var 0) (.var 2), .bin .fdiv (.var 1) (.var 2)])]
theorem lowest_ok {g : Nat} (hf : T.fns[f]? = some ⟨2, 3, irLowest g⟩) (hd : T.fns[g]? = some ⟨2, 4, irGcd⟩) {L : Nat} {a b : Int} (hl : L ≤ 7000) (hb0 : b ≠ 0) (hb : b.natAbs < 2 ^ L) :
    T.callF (k + 3) f [.int a, .int b] S = some (.ok (.tup [.int (frac a b).1, .int (frac a b).2]), S) := by
  rw [callF_eq hf rfl]
  have hdiv : ∀ a b : Int, b.natAbs < 2 ^ L → (T.gam (T.callF (k + 2)) (T.callF (k + 1))).call g [.int a, .int b] S = some (.ok (.int (Int.gcd a b)), S) := fun a b h => gcd_ok hd (L := L) (by omega) h
  generalize T.gam (T.callF (k + 2)) (T.callF (k + 1)) = Γ at hdiv ⊢
  show fin (xs Γ (irLowest g) [some (.int a), some (.int b), none] S) = _
  unfold irLowest
  have hg : 0 < Int.gcd a b := Int.gcd_pos_of_ne_zero_right a hb0
  have hgb : Int.gcd a b ≤ b.natAbs := Int.gcd_le_natAbs_right a hb0
  have fin2 : ∀ p q : Int, 0 < q → Int.gcd p q = Int.gcd a b → q.natAbs = b.natAbs → fin (xs Γ [.asg 2 (.call g [.var 0, .var 1]), .ret (.tup [.bin .fdiv (.var 0) (.var 2), .bin .fdiv (.var 1) (.var 2)])] [some (.int p), some (.int q), none] S) = some (.ok (.tup [.int (p / Int.gcd a b), .int (q / Int.gcd a b)]), S) := fun p q hq e en => by
    have e1 : ev Γ (.call g [.var 0, .var 1]) [some (.int p), some (.int q), none] S = some (.ok (.int (Int.gcd a b)), S) := by
      rw [call_eq (ws := [.int p, .int q]) (S1 := S) (by kernel_rfl), hdiv p q (by omega), e]
    rw [xs_nxt (asg_eq e1)]
    have dv : ∀ i : Int, op2 .fdiv S (.int i) (.int (Int.gcd a b)) = some (.int (i / Int.gcd a b), S) := fun i => by
      rw [op_fdiv (by omega) ?_, fd (by omega)]
      have h1 : Int.gcd a b < 2 ^ L := by omega
      have h2 : (Int.gcd a b).log2 < L := log2_lt h1 (by
        by_cases h : L = 0
        · subst h; omega
        · omega)
      show (Int.natAbs (Int.gcd a b)).log2 < 9000
      rw [Int.natAbs_natCast]
      omega
    refine fin_xs_ret (ret_eq (tup_eq (evs_cons (bin_eq (S1 := S) (by kernel_rfl) (by kernel_rfl) (dv p)) (evs_cons (bin_eq (S1 := S) (by kernel_rfl) (by kernel_rfl) (dv q)) evs_nil))))
  unfold frac
  by_cases hn : b < 0
  · rw [if_pos hn, xs_nxt (ρ1 := [some (.int (0 - a)), some (.int (0 - b)), none]) (S1 := S) (by
      rw [iff_t (S1 := S) (tr_t (P := b < 0) (by kernel_rfl) hn)]
      kernel_rfl)]
    have e1 : 0 - a = -a := by omega
    have e2 : 0 - b = -b := by omega
    rw [e1, e2]
    exact fin2 (-a) (-b) (by omega) (by rw [Int.neg_gcd, Int.gcd_neg]) (by omega)
  · rw [if_neg hn, xs_nxt (ρ1 := [some (.int a), some (.int b), none]) (S1 := S) (by
      rw [iff_f (tr_f (P := b < 0) (by kernel_rfl) hn), xs_nil])]
    exact fin2 a b (by omega) rfl rfl
/-- found == due, two wholes -/
def irIs (h : Nat) : List Sx := [.iff (.or [.not (.isi (.var 0) .tuple), .cmp .ne (.bif .len [.var 0]) (.int 2)]) [.ret (.bl false)] [], .ret (.and [.call h [.idx (.var 0) (.int 0)], .call h [.idx (.var 0) (.int 1)], .cmp .eq (.var 0) (.var 1)])]
theorem is_ok {h : Nat} (hf : T.fns[f]? = some ⟨2, 2, irIs h⟩) (hw : T.fns[h]? = some ⟨1, 1, irWhole⟩) {p q : Int} : T.callF (k + 3) f [.tup [.int p, .int q], .tup [.int p, .int q]] S = some (.ok (.bl true), S) := by
  rw [callF_eq hf rfl]
  have hw : ∀ i : Int, (T.gam (T.callF (k + 2)) (T.callF (k + 1))).call h [.int i] S = some (.ok (.bl true), S) := fun i => whole_ok hw
  generalize T.gam (T.callF (k + 2)) (T.callF (k + 1)) = Γ at hw ⊢
  show fin (xs Γ (irIs h) [some (.tup [.int p, .int q]), some (.tup [.int p, .int q])] S) = _
  unfold irIs
  rw [xs_nxt (ρ1 := [some (.tup [.int p, .int q]), some (.tup [.int p, .int q])]) (S1 := S) (by
    rw [iff_f (S1 := S) (by kernel_rfl), xs_nil])]
  refine fin_xs_ret (ret_eq (w := .bl true) (S1 := S) ?_)
  rw [ev, and_t (tr_eq (q := true) (S1 := S) (by rw [call_eq (ws := [.int p]) (S1 := S) (by kernel_rfl), hw])), and_t (tr_eq (q := true) (S1 := S) (by rw [call_eq (ws := [.int q]) (S1 := S) (by kernel_rfl), hw])), evAnd]
  refine cmp_eq (v := .tup [.int p, .int q]) (w := .tup [.int p, .int q]) (S1 := S) (by kernel_rfl) (by kernel_rfl) ?_
  show eqW S (.tup [.int p, .int q]) (.tup [.int p, .int q]) = _
  rw [eq_pair, decide_eq_true rfl, decide_eq_true rfl]
  rfl
/-! ### sums, quotients -/
def eA : Ex := .idx (.var 0) (.int 0)
def eB : Ex := .idx (.var 0) (.int 1)
def eC : Ex := .idx (.var 1) (.int 0)
def eD : Ex := .idx (.var 1) (.int 1)
abbrev Pr (a b : Int) : W := .tup [.int a, .int b]
section
variable {Γ : Gam} {a b c d : Int} {r : Env}
theorem evA : ev Γ eA (some (Pr a b) :: some (Pr c d) :: r) S = some (.ok (.int a), S) := by unfold eA; kernel_rfl
theorem evB : ev Γ eB (some (Pr a b) :: some (Pr c d) :: r) S = some (.ok (.int b), S) := by unfold eB; kernel_rfl
theorem evC : ev Γ eC (some (Pr a b) :: some (Pr c d) :: r) S = some (.ok (.int c), S) := by unfold eC; kernel_rfl
theorem evD : ev Γ eD (some (Pr a b) :: some (Pr c d) :: r) S = some (.ok (.int d), S) := by unfold eD; kernel_rfl
end
def irPlus (f : Nat) : List Sx := [.ret (.call f [.bin .add (.bin .mul eA eD) (.bin .mul eC eB), .bin .mul eB eD])]
def irMinus (f : Nat) : List Sx := [.ret (.call f [.bin .sub (.bin .mul eA eD) (.bin .mul eC eB), .bin .mul eB eD])]
def irTimes (f : Nat) : List Sx := [.ret (.call f [.bin .mul eA eC, .bin .mul eB eD])]
def irOver (f : Nat) : List Sx := [.ret (.call f [.bin .mul eA eD, .bin .mul eB eC])]
def irUnder : List Sx := [.ret (.cmp .lt (.bin .mul eA eD) (.bin .mul eC eB))]
variable {fr x dv m : Nat} {a b c d : Int}
theorem plus_ok (hf : T.fns[f]? = some ⟨2, 2, irPlus fr⟩) (h1 : T.fns[fr]? = some ⟨2, 3, irFraction x dv⟩) (h2 : T.fns[dv]? = some ⟨2, 2, irDivisor⟩) (hm : m ≤ 3000) (ha : a.natAbs < 2 ^ m) (hb : b.natAbs < 2 ^ m) (hc : c.natAbs < 2 ^ m) (hd : d.natAbs < 2 ^ m) (hb0 : b ≠ 0) (hd0 : d ≠ 0) :
    T.callF (k + 4) f [Pr a b, Pr c d] S = some (.ok (Pr (frac (a * d + c * b) (b * d)).1 (frac (a * d + c * b) (b * d)).2), S) := by
  rw [callF_eq hf rfl]
  have q : (T.gam (T.callF (k + 3)) (T.callF (k + 2))).call fr [.int (a * d + c * b), .int (b * d)] S = _ := fraction_ok h1 h2 (L := m + m) (by omega) (Int.mul_ne_zero hb0 hd0) (mul_lt hb hd)
  generalize T.gam (T.callF (k + 3)) (T.callF (k + 2)) = Γ at q ⊢
  show fin (xs Γ (irPlus fr) [some (Pr a b), some (Pr c d)] S) = _
  unfold irPlus
  refine fin_xs_ret (ret_eq ?_)
  rw [call_eq (evs_cons (add_ev (mul_ev evA evD ha hd (by omega) (by omega)) (mul_ev evC evB hc hb (by omega) (by omega))) (evs_cons (mul_ev evB evD hb hd (by omega) (by omega)) evs_nil)), q]
theorem minus_ok (hf : T.fns[f]? = some ⟨2, 2, irMinus fr⟩) (h1 : T.fns[fr]? = some ⟨2, 3, irFraction x dv⟩) (h2 : T.fns[dv]? = some ⟨2, 2, irDivisor⟩) (hm : m ≤ 3000) (ha : a.natAbs < 2 ^ m) (hb : b.natAbs < 2 ^ m) (hc : c.natAbs < 2 ^ m) (hd : d.natAbs < 2 ^ m) (hb0 : b ≠ 0) (hd0 : d ≠ 0) :
    T.callF (k + 4) f [Pr a b, Pr c d] S = some (.ok (Pr (frac (a * d - c * b) (b * d)).1 (frac (a * d - c * b) (b * d)).2), S) := by
  rw [callF_eq hf rfl]
  have q : (T.gam (T.callF (k + 3)) (T.callF (k + 2))).call fr [.int (a * d - c * b), .int (b * d)] S = _ := fraction_ok h1 h2 (L := m + m) (by omega) (Int.mul_ne_zero hb0 hd0) (mul_lt hb hd)
  generalize T.gam (T.callF (k + 3)) (T.callF (k + 2)) = Γ at q ⊢
  show fin (xs Γ (irMinus fr) [some (Pr a b), some (Pr c d)] S) = _
  unfold irMinus
  refine fin_xs_ret (ret_eq ?_)
  rw [call_eq (evs_cons (sub_ev (mul_ev evA evD ha hd (by omega) (by omega)) (mul_ev evC evB hc hb (by omega) (by omega))) (evs_cons (mul_ev evB evD hb hd (by omega) (by omega)) evs_nil)), q]
theorem times_ok (hf : T.fns[f]? = some ⟨2, 2, irTimes fr⟩) (h1 : T.fns[fr]? = some ⟨2, 3, irFraction x dv⟩) (h2 : T.fns[dv]? = some ⟨2, 2, irDivisor⟩) (hm : m ≤ 3000) (ha : a.natAbs < 2 ^ m) (hb : b.natAbs < 2 ^ m) (hc : c.natAbs < 2 ^ m) (hd : d.natAbs < 2 ^ m) (hb0 : b ≠ 0) (hd0 : d ≠ 0) :
    T.callF (k + 4) f [Pr a b, Pr c d] S = some (.ok (Pr (frac (a * c) (b * d)).1 (frac (a * c) (b * d)).2), S) := by
  rw [callF_eq hf rfl]
  have q : (T.gam (T.callF (k + 3)) (T.callF (k + 2))).call fr [.int (a * c), .int (b * d)] S = _ := fraction_ok h1 h2 (L := m + m) (by omega) (Int.mul_ne_zero hb0 hd0) (mul_lt hb hd)
  generalize T.gam (T.callF (k + 3)) (T.callF (k + 2)) = Γ at q ⊢
  show fin (xs Γ (irTimes fr) [some (Pr a b), some (Pr c d)] S) = _
  unfold irTimes
  refine fin_xs_ret (ret_eq ?_)
  rw [call_eq (evs_cons (mul_ev evA evC ha hc (by omega) (by omega)) (evs_cons (mul_ev evB evD hb hd (by omega) (by omega)) evs_nil)), q]
theorem over_ok (hf : T.fns[f]? = some ⟨2, 2, irOver fr⟩) (h1 : T.fns[fr]? = some ⟨2, 3, irFraction x dv⟩) (h2 : T.fns[dv]? = some ⟨2, 2, irDivisor⟩) (hm : m ≤ 3000) (ha : a.natAbs < 2 ^ m) (hb : b.natAbs < 2 ^ m) (hc : c.natAbs < 2 ^ m) (hd : d.natAbs < 2 ^ m) (hb0 : b ≠ 0) (hc0 : c ≠ 0) :
    T.callF (k + 4) f [Pr a b, Pr c d] S = some (.ok (Pr (frac (a * d) (b * c)).1 (frac (a * d) (b * c)).2), S) := by
  rw [callF_eq hf rfl]
  have q : (T.gam (T.callF (k + 3)) (T.callF (k + 2))).call fr [.int (a * d), .int (b * c)] S = _ := fraction_ok h1 h2 (L := m + m) (by omega) (Int.mul_ne_zero hb0 hc0) (mul_lt hb hc)
  generalize T.gam (T.callF (k + 3)) (T.callF (k + 2)) = Γ at q ⊢
  show fin (xs Γ (irOver fr) [some (Pr a b), some (Pr c d)] S) = _
  unfold irOver
  refine fin_xs_ret (ret_eq ?_)
  rw [call_eq (evs_cons (mul_ev evA evD ha hd (by omega) (by omega)) (evs_cons (mul_ev evB evC hb hc (by omega) (by omega)) evs_nil)), q]
theorem over_nought (hf : T.fns[f]? = some ⟨2, 2, irOver fr⟩) (h1 : T.fns[fr]? = some ⟨2, 3, irFraction x dv⟩) (hm : m ≤ 3000) (ha : a.natAbs < 2 ^ m) (hb : b.natAbs < 2 ^ m) (hd : d.natAbs < 2 ^ m) :
    T.callF (k + 4) f [Pr a b, Pr 0 d] S = some (.ex ⟨x, []⟩, S) := by
  rw [callF_eq hf rfl]
  have q : (T.gam (T.callF (k + 3)) (T.callF (k + 2))).call fr [.int (a * d), .int (b * 0)] S = some (.ex ⟨x, []⟩, S) := by
    rw [Int.mul_zero]
    exact fraction_nought (k := k + 1) h1
  generalize T.gam (T.callF (k + 3)) (T.callF (k + 2)) = Γ at q ⊢
  show fin (xs Γ (irOver fr) [some (Pr a b), some (Pr 0 d)] S) = _
  unfold irOver
  have e : ev Γ (.call fr [.bin .mul eA eD, .bin .mul eB eC]) [some (Pr a b), some (Pr 0 d)] S = some (.ex ⟨x, []⟩, S) := by
    rw [call_eq (evs_cons (mul_ev evA evD ha hd (by omega) (by omega)) (evs_cons (mul_ev evB evC hb (m := m) (n := 0) (by decide) (by omega) (by omega)) evs_nil)), q]
  refine fin_xs_ex (ρ1 := [some (Pr a b), some (Pr 0 d)]) ?_
  rw [x1, e]
  rfl
theorem under_ok (hf : T.fns[f]? = some ⟨2, 2, irUnder⟩) (hm : m ≤ 3000) (ha : a.natAbs < 2 ^ m) (hb : b.natAbs < 2 ^ m) (hc : c.natAbs < 2 ^ m) (hd : d.natAbs < 2 ^ m) :
    T.callF (k + 2) f [Pr a b, Pr c d] S = some (.ok (.bl (decide (a * d < c * b))), S) := by
  rw [callF_eq hf rfl]
  generalize T.gam (T.callF (k + 1)) (T.callF k) = Γ
  show fin (xs Γ irUnder [some (Pr a b), some (Pr c d)] S) = _
  unfold irUnder
  exact fin_xs_ret (ret_eq (cmp_eq (mul_ev evA evD ha hd (by omega) (by omega)) (mul_ev evC evB hc hb (by omega) (by omega)) rfl))
end
end Ip

/-! IpText: texts of numbers. Written by an AI agent. -/
namespace Ip
open PySem (Str)
/-- a text by its signs -/
def sg (l : List Nat) : Str := ⟨l.toArray⟩
theorem sg_tl (x : Str) : sg x.cps.toList = x := TL.mk_tl x
theorem tl_sg (l : List Nat) : (sg l).cps.toList = l := by simp [sg]
theorem sg_app (a b : List Nat) : sg a ++ sg b = sg (a ++ b) := TL.ext_tl (by rw [TL.tl_append]; show (sg a).cps.toList ++ (sg b).cps.toList = (sg (a ++ b)).cps.toList; rw [tl_sg, tl_sg, tl_sg])
theorem sg_len (l : List Nat) : (sg l).length = l.length := by rw [TL.len_tl]; show (sg l).cps.toList.length = _; rw [tl_sg]
theorem sg_inj {a b : List Nat} (h : sg a = sg b) : a = b := by
  have := congrArg (fun x : Str => x.cps.toList) h
  simpa [tl_sg] using this
theorem sg_num (n : Nat) : Str.ofString (toString (n : Int)) = sg (TL.numL n) := TL.ext_tl (by rw [TL.tl_num]; exact (tl_sg _).symm)
theorem p100 : (10 : Nat) ^ 100 < 2 ^ 400 := by decide +kernel
theorem str_nat {S : Store} {n : Nat} (h : n < 10 ^ 100) : bfn .str S [.int n] = some (.str (sg (TL.numL n)), S) := by
  show (if (n : Int).natAbs.log2 < 1920 then some (W.str (Str.ofString (toString (n : Int))), S) else none) = _
  have h1 : n.log2 < 400 := log2_lt (Nat.lt_trans h p100) (by decide)
  rw [if_pos (by rw [Int.natAbs_natCast]; omega), sg_num]
theorem neg_text (n : Nat) (h : 1 ≤ n) : Str.ofString (toString (-(n : Int))) = sg (45 :: TL.numL n) := by
  obtain ⟨m, rfl⟩ : ∃ m, n = m + 1 := ⟨n - 1, by omega⟩
  have e : toString (-((m + 1 : Nat) : Int)) = "-" ++ toString (((m + 1 : Nat) : Int)) := rfl
  rw [e]
  apply TL.ext_tl
  show (Str.ofString ("-" ++ toString (((m + 1 : Nat) : Int)))).cps.toList = (sg (45 :: TL.numL (m + 1))).cps.toList
  rw [tl_sg, ← TL.tl_num]
  show _ = 45 :: (Str.ofString (toString (((m + 1 : Nat) : Int)))).cps.toList
  rw [Str.ofString_eq_toList, Str.ofString_eq_toList]
  simp
theorem str_neg {S : Store} {n : Nat} (h0 : 1 ≤ n) (h : n < 10 ^ 100) : bfn .str S [.int (-(n : Int))] = some (.str (sg (45 :: TL.numL n)), S) := by
  show (if (-(n : Int)).natAbs.log2 < 1920 then some (W.str (Str.ofString (toString (-(n : Int)))), S) else none) = _
  have h1 : n.log2 < 400 := log2_lt (Nat.lt_trans h p100) (by decide)
  rw [if_pos (by rw [Int.natAbs_neg, Int.natAbs_natCast]; omega), neg_text n h0]
def sgn (p : Int) : List Nat := if p < 0 then [45] else []
def dg (p : Int) : List Nat := TL.numL p.natAbs
theorem str_int {S : Store} {p : Int} (h : p.natAbs < 10 ^ 100) : bfn .str S [.int p] = some (.str (sg (sgn p ++ dg p)), S) := by
  unfold sgn dg
  by_cases h0 : p < 0
  · rw [if_pos h0]
    have e : p = -((p.natAbs : Nat) : Int) := by omega
    have := str_neg (S := S) (n := p.natAbs) (by omega) h
    rw [← e] at this
    exact this
  · rw [if_neg h0]
    have e : ((p.natAbs : Nat) : Int) = p := by omega
    have := str_nat (S := S) (n := p.natAbs) h
    rw [e] at this
    exact this
theorem op_cat {S : Store} {a b : List Nat} (h : a.length + b.length ≤ 16777216) : op2 .add S (.str (sg a)) (.str (sg b)) = some (.str (sg (a ++ b)), S) := by
  show (if (sg a).length + (sg b).length ≤ 16777216 then some (W.str (sg a ++ sg b), S) else none) = _
  rw [sg_len, sg_len, if_pos h, sg_app]
theorem cm_str {S : Store} {x y : Str} : cm2 .eq S (.str x) (.str y) = some (decide (x = y)) := rfl
theorem cm_nestr {S : Store} {x y : Str} : cm2 .ne S (.str x) (.str y) = some (!decide (x = y)) := rfl
theorem slash : ("/" : Str) = sg [47] := by decide +kernel
theorem minus1 : ("-" : Str) = sg [45] := by decide +kernel
theorem nought : ("0" : Str) = sg [48] := by decide +kernel
theorem minus0 : ("-0" : Str) = sg [45, 48] := by decide +kernel
theorem empty0 : ("" : Str) = sg [] := by decide +kernel
theorem figs : ("0123456789" : Str) = sg [48, 49, 50, 51, 52, 53, 54, 55, 56, 57] := by decide +kernel
theorem num_head : ∀ n : Nat, 1 ≤ n → ∃ c r, TL.numL n = c :: r ∧ c ≠ 48 := fun n => by
  induction n using Nat.strongRecOn with
  | _ n ih =>
    intro h1
    by_cases h : n < 10
    · exact ⟨48 + n, [], TL.numL_lt h, by omega⟩
    · obtain ⟨c, r, e, hc⟩ := ih (n / 10) (by omega) (by omega)
      exact ⟨c, r ++ [48 + n % 10], by rw [TL.numL_step (by omega), e]; rfl, hc⟩
section
variable {T : Tab} {k f x : Nat} {S : Store}
def irFigures : List Sx := [.iff (.or [.cmp .eq (.var 0) (.str ""), .cmp .gt (.bif .len [.var 0]) (.int 60)]) [.ret (.bl false)] [], .for [1] .val [.var 0] [.iff (.cmp .notin (.var 1) (.glob 0)) [.ret (.bl false)] []], .ret (.or [.cmp .eq (.var 0) (.str "0"), .cmp .ne (.idx (.var 0) (.int 0)) (.str "0")])]
theorem figures_ok (hf : T.fns[f]? = some ⟨1, 2, irFigures⟩) (hg : T.globs[0]? = some (.str "0123456789")) {n : Nat} (hn : n < 10 ^ 60) : T.callF (k + 2) f [.str (sg (TL.numL n))] S = some (.ok (.bl true), S) := by
  rw [callF_eq hf rfl]
  have hg : (T.gam (T.callF (k + 1)) (T.callF k)).glob 0 = some (.str "0123456789") := hg
  generalize T.gam (T.callF (k + 1)) (T.callF k) = Γ at hg ⊢
  have hl : (TL.numL n).length ≤ 60 := TL.numL_len (by decide) hn
  have hd := TL.numL_digits n
  have hne := TL.numL_ne n
  generalize hX : TL.numL n = l at *
  show fin (xs Γ irFigures [some (.str (sg l)), none] S) = _
  unfold irFigures
  have c1 : ev Γ (.cmp .eq (.var 0) (.str "")) [some (.str (sg l)), none] S = some (.ok (.bl false), S) := by
    have : ev Γ (.cmp .eq (.var 0) (.str "")) [some (.str (sg l)), none] S = some (.ok (.bl (decide (sg l = ""))), S) := by kernel_rfl
    rw [this, decide_eq_false (fun e => hne (by rw [empty0] at e; exact sg_inj e))]
  have hlen : ∀ S : Store, bfn .len S [.str (sg l)] = some (.int l.length, S) := fun S => by
    show (if (sg l).length ≤ 16777216 then some (W.int (sg l).length, S) else none) = _
    rw [sg_len, if_pos (by omega)]
  have c2 : ev Γ (.cmp .gt (.bif .len [.var 0]) (.int 60)) [some (.str (sg l)), none] S = some (.ok (.bl false), S) :=
    cmp_eq (bif_eq (evs_cons (var_eq rfl) evs_nil) (hlen S)) int_eq (by
      show some (decide ((60 : Int) < l.length)) = _
      rw [decide_eq_false (by omega)])
  rw [xs_nxt (ρ1 := [some (.str (sg l)), none]) (S1 := S) (by
    rw [iff_f (S1 := S) (tr_eq (q := false) (by rw [ev]; exact or_f (tr_eq c1) (by rw [evOr]; exact c2))), xs_nil])]
  have hsrc : srcOf .val S [.str (sg l)] = some (.fixed (l.map fun c => .str ⟨#[c]⟩)) := by
    show some (Src.fixed ((sg l).cps.toList.map fun c => W.str ⟨#[c]⟩)) = _
    rw [tl_sg]
  obtain ⟨ρ', S', h1, h2, u, h3⟩ := for_fixed (S := S) (ρ := [some (.str (sg l)), none]) (ws := l.map fun c => W.str ⟨#[c]⟩) (step := fun w ρ1 S2 => match setT [1] w ρ1 with
      | none => none
      | some ρ2 => xs Γ [.iff (.cmp .notin (.var 1) (.glob 0)) [.ret (.bl false)] []] ρ2 S2) (fun _ ρ S' => S' = S ∧ ∃ u, ρ = [some (.str (sg l)), u]) (by rw [List.length_map]; omega) ⟨rfl, _, rfl⟩ (fun i w ρ S' hw ⟨eS, u, eρ⟩ => by
    subst eS eρ
    rw [List.getElem?_map] at hw
    obtain ⟨c, h3, h4⟩ := Option.map_eq_some_iff.mp hw
    subst h4
    have hc := hd c (List.mem_of_getElem? h3)
    refine ⟨[some (.str (sg l)), some (.str ⟨#[c]⟩)], S', .inl ?_, rfl, _, rfl⟩
    show xs Γ [.iff (.cmp .notin (.var 1) (.glob 0)) [.ret (.bl false)] []] [some (.str (sg l)), some (.str ⟨#[c]⟩)] S' = _
    have eg : ev Γ (.glob 0) [some (.str (sg l)), some (.str ⟨#[c]⟩)] S' = some (.ok (.str "0123456789"), S') := by
      unfold ev
      rw [hg]
      rfl
    have ec : ev Γ (.cmp .notin (.var 1) (.glob 0)) [some (.str (sg l)), some (.str ⟨#[c]⟩)] S' = some (.ok (.bl false), S') :=
      cmp_eq (var_eq rfl) eg (by
        show some (!(decide (c ∈ ("0123456789" : Str).cps.toList))) = _
        rw [figs, tl_sg, decide_eq_true (by simp; omega)]
        rfl)
    rw [xs_nxt (ρ1 := [some (.str (sg l)), some (.str ⟨#[c]⟩)]) (S1 := S') (by rw [iff_f (tr_eq ec), xs_nil]), xs_nil])
  subst h2 h3
  have e : x1 Γ (.for [1] .val [.var 0] [.iff (.cmp .notin (.var 1) (.glob 0)) [.ret (.bl false)] []]) [some (.str (sg l)), none] S' = some (.nxt, [some (.str (sg l)), u], S') := by
    rw [for_eq (evs_cons (var_eq rfl) evs_nil) hsrc]
    exact h1
  rw [xs_nxt e]
  refine fin_xs_ret (ret_eq (w := .bl true) (S1 := S') ?_)
  have d1 : truth (ev Γ (.cmp .eq (.var 0) (.str "0")) [some (.str (sg l)), u] S') = some (.ok (decide (sg l = "0")), S') := by kernel_rfl
  rw [ev]
  by_cases h0 : sg l = "0"
  · rw [evOr, d1, decide_eq_true h0, bnd_ok]
    · rfl
    · simp
  · refine (show evOr Γ (_ :: _ :: []) _ S' = _ from ?_)
    rw [evOr, d1, decide_eq_false h0, bnd_ok]
    · dsimp only
      rw [evOr]
      have n1 : 1 ≤ n := by
        by_cases q : n = 0
        · subst q
          rw [TL.numL_lt (by decide)] at hX
          rw [nought, ← hX] at h0
          exact absurd rfl h0
        · omega
      obtain ⟨c, r, hc, hc0⟩ := num_head n n1
      rw [hX] at hc
      subst hc
      have hi : ev Γ (.idx (.var 0) (.int 0)) [some (.str (sg (c :: r))), u] S' = some (.ok (.str ⟨#[c]⟩), S') := by
        unfold ev
        rw [var_eq (w := .str (sg (c :: r))) rfl, bnd_ok, int_eq, bnd_ok]
        show (match (if (sg (c :: r)).length ≤ 16777216 then (L2.atI (sg (c :: r)).cps.toList 0).map fun c => W.str ⟨#[c]⟩ else none) with
          | some w => rok w S'
          | none => none) = _
        rw [sg_len, if_pos (by omega), tl_sg, atI_nat (by decide) (by simp)]
        rfl
      refine cmp_eq hi (by kernel_rfl : ev Γ (.str "0") _ S' = some (.ok (.str "0"), S')) ?_
      show some (!decide ((⟨#[c]⟩ : Str) = "0")) = _
      rw [decide_eq_false (fun e => hc0 (by
        rw [nought] at e
        have := sg_inj (a := [c]) (b := [48]) e
        simpa using this))]
      rfl
    · simp
def irCount (x g : Nat) : List Sx := [.iff (.not (.call g [.var 0])) [.raise x [] []] [], .ret (.bif .int [.var 0])]
theorem count_ok {g : Nat} (hf : T.fns[f]? = some ⟨1, 1, irCount x g⟩) (h1 : T.fns[g]? = some ⟨1, 2, irFigures⟩) (hg : T.globs[0]? = some (.str "0123456789")) {n : Nat} (hn : n < 10 ^ 60) : T.callF (k + 3) f [.str (sg (TL.numL n))] S = some (.ok (.int n), S) := by
  rw [callF_eq hf rfl]
  have q : (T.gam (T.callF (k + 2)) (T.callF (k + 1))).call g [.str (sg (TL.numL n))] S = some (.ok (.bl true), S) := figures_ok h1 hg hn
  generalize T.gam (T.callF (k + 2)) (T.callF (k + 1)) = Γ at q ⊢
  show fin (xs Γ (irCount x g) [some (.str (sg (TL.numL n)))] S) = _
  unfold irCount
  have hl : (TL.numL n).length ≤ 60 := TL.numL_len (by decide) hn
  rw [xs_nxt (ρ1 := [some (.str (sg (TL.numL n)))]) (S1 := S) (by
    rw [iff_f (S1 := S) (tr_eq (not_eq (q := true) (by rw [call_eq (evs_cons (var_eq rfl) evs_nil), q]))), xs_nil])]
  refine fin_xs_ret (ret_eq (bif_eq (evs_cons (var_eq rfl) evs_nil) ?_))
  show (if (sg (TL.numL n)).length ≤ 640 then (PySem.intText? (sg (TL.numL n))).map fun n => (W.int n, S) else none) = _
  rw [sg_len, if_pos (by omega), ← sg_num, TL.int_num (by omega)]
  rfl
theorem cut1 {l : List Nat} : L2.cutS (sg l) none (some 1) = sg (l.take 1) := by
  apply TL.ext_tl
  show (L2.cutS (sg l) none (some 1)).cps.toList = (sg (l.take 1)).cps.toList
  rw [tl_sg]
  unfold L2.cutS
  simp [HT.sIx, tl_sg, sg_len]
  try (cases l <;> simp)
  try omega
theorem cutTail {c : Nat} {l : List Nat} : L2.cutS (sg (c :: l)) (some 1) none = sg l := by
  apply TL.ext_tl
  show (L2.cutS (sg (c :: l)) (some 1) none).cps.toList = (sg l).cps.toList
  rw [tl_sg]
  unfold L2.cutS
  simp [HT.sIx, tl_sg, sg_len]
  try omega
def irTop (x g : Nat) : List Sx := [.iff (.cmp .ne (.slc (.var 0) [] [.int 1]) (.str "-")) [.ret (.call g [.var 0])] [], .iff (.cmp .eq (.var 0) (.str "-0")) [.raise x [] []] [], .ret (.bin .sub (.int 0) (.call g [.slc (.var 0) [.int 1] []]))]
theorem top_ok {g h : Nat} (hf : T.fns[f]? = some ⟨1, 1, irTop x g⟩) (h0 : T.fns[g]? = some ⟨1, 1, irCount x h⟩) (h1 : T.fns[h]? = some ⟨1, 2, irFigures⟩) (hg : T.globs[0]? = some (.str "0123456789")) {p : Int} (hp : p.natAbs < 10 ^ 60) :
    T.callF (k + 4) f [.str (sg (sgn p ++ dg p))] S = some (.ok (.int p), S) := by
  rw [callF_eq hf rfl]
  have q : (T.gam (T.callF (k + 3)) (T.callF (k + 2))).call g [.str (sg (dg p))] S = some (.ok (.int p.natAbs), S) := count_ok h0 h1 hg hp
  generalize T.gam (T.callF (k + 3)) (T.callF (k + 2)) = Γ at q ⊢
  have hl : (dg p).length ≤ 60 := TL.numL_len (by decide) hp
  have slc1 : ∀ l : List Nat, l.length ≤ 61 → ev Γ (.slc (.var 0) [] [.int 1]) [some (.str (sg l))] S = some (.ok (.str (sg (l.take 1))), S) := fun l h => by
    have z : ev Γ (.slc (.var 0) [] [.int 1]) [some (.str (sg l))] S = lift (if (sg l).length ≤ 16777216 then some (W.str (L2.cutS (sg l) none (some 1)), S) else none) := by kernel_rfl
    rw [z, sg_len, if_pos (by omega), cut1]
    rfl
  show fin (xs Γ (irTop x g) [some (.str (sg (sgn p ++ dg p)))] S) = _
  unfold irTop
  have hd : ∀ c ∈ dg p, 48 ≤ c ∧ c ≤ 57 := TL.numL_digits p.natAbs
  have hne : dg p ≠ [] := TL.numL_ne p.natAbs
  by_cases hn : p < 0
  · have e : sgn p = [45] := if_pos hn
    rw [e]
    have c1 : truth (ev Γ (.cmp .ne (.slc (.var 0) [] [.int 1]) (.str "-")) [some (.str (sg ([45] ++ dg p)))] S) = some (.ok false, S) :=
      tr_eq (cmp_eq (slc1 _ (by simp; omega)) (by kernel_rfl : ev Γ (.str "-") _ S = some (.ok (.str "-"), S)) (by
        show some (!decide (sg (([45] ++ dg p).take 1) = ("-" : Str))) = _
        rw [minus1, decide_eq_true (by rfl)]
        rfl))
    rw [xs_nxt (ρ1 := [some (.str (sg ([45] ++ dg p)))]) (S1 := S) (by rw [iff_f c1, xs_nil])]
    have c2 : truth (ev Γ (.cmp .eq (.var 0) (.str "-0")) [some (.str (sg ([45] ++ dg p)))] S) = some (.ok false, S) := by
      have : truth (ev Γ (.cmp .eq (.var 0) (.str "-0")) [some (.str (sg ([45] ++ dg p)))] S) = some (.ok (decide (sg ([45] ++ dg p) = "-0")), S) := by kernel_rfl
      rw [this, decide_eq_false (fun z => by
        rw [minus0] at z
        have z := sg_inj z
        have z2 : dg p = [48] := by simpa using z
        obtain ⟨c, r, hc, hc0⟩ := num_head p.natAbs (by omega)
        have z3 : TL.numL p.natAbs = [48] := z2
        rw [hc] at z3
        injection z3 with z4
        exact hc0 z4)]
    rw [xs_nxt (ρ1 := [some (.str (sg ([45] ++ dg p)))]) (S1 := S) (by rw [iff_f c2, xs_nil])]
    have s2 : ev Γ (.slc (.var 0) [.int 1] []) [some (.str (sg ([45] ++ dg p)))] S = some (.ok (.str (sg (dg p))), S) := by
      have z : ev Γ (.slc (.var 0) [.int 1] []) [some (.str (sg ([45] ++ dg p)))] S = lift (if (sg ([45] ++ dg p)).length ≤ 16777216 then some (W.str (L2.cutS (sg ([45] ++ dg p)) (some 1) none), S) else none) := by kernel_rfl
      rw [z, sg_len, if_pos (by simp; omega)]
      show lift (some (W.str (L2.cutS (sg (45 :: dg p)) (some 1) none), S)) = _
      rw [cutTail]
      rfl
    have r : ev Γ (.bin .sub (.int 0) (.call g [.slc (.var 0) [.int 1] []])) [some (.str (sg ([45] ++ dg p)))] S = some (.ok (.int (0 - p.natAbs)), S) :=
      sub_ev int_eq (by rw [call_eq (evs_cons s2 evs_nil), q])
    have e2 : (0 : Int) - p.natAbs = p := by omega
    rw [e2] at r
    exact fin_xs_ret (ret_eq r)
  · have e : sgn p = [] := if_neg hn
    rw [e, List.nil_append]
    have c1 : truth (ev Γ (.cmp .ne (.slc (.var 0) [] [.int 1]) (.str "-")) [some (.str (sg (dg p)))] S) = some (.ok true, S) :=
      tr_eq (cmp_eq (slc1 _ (by omega)) (by kernel_rfl : ev Γ (.str "-") _ S = some (.ok (.str "-"), S)) (by
        show some (!decide (sg ((dg p).take 1) = ("-" : Str))) = _
        rw [minus1, decide_eq_false (fun z => by
          have z := sg_inj z
          cases hX : dg p with
          | nil => exact hne hX
          | cons c r =>
            rw [hX] at z
            have z2 : c = 45 := by simpa using z
            have := hd c (by rw [hX]; simp)
            omega)]
        rfl))
    refine fin_xs_ret (ρ1 := [some (.str (sg (dg p)))]) ?_
    rw [iff_t c1]
    have e2 : ((p.natAbs : Nat) : Int) = p := by omega
    rw [e2] at q
    exact xs_ret (ret_eq (by rw [call_eq (evs_cons (var_eq rfl) evs_nil), q]))
/-- as it is written -/
def wr (p q : Int) : List Nat := (sgn p ++ dg p) ++ (if q = 1 then [] else 47 :: dg q)
theorem dg_len {p : Int} (h : p.natAbs < 10 ^ 60) : (dg p).length ≤ 60 := TL.numL_len (by decide) h
theorem sgn_len (p : Int) : (sgn p).length ≤ 1 := by unfold sgn; split <;> simp
theorem no47 (p : Int) : 47 ∉ sgn p ++ dg p := fun h => by
  rcases List.mem_append.mp h with h | h
  · unfold sgn at h
    split at h <;> simp at h
  · exact TL.numL_free (by decide) h
theorem dg_pos {q : Int} (h : 0 ≤ q) : sgn q = [] := if_neg (by omega)
def irShow : List Sx := [.iff (.cmp .eq (.idx (.var 0) (.int 1)) (.int 1)) [.ret (.bif .str [.idx (.var 0) (.int 0)])] [], .ret (.bin .add (.bin .add (.bif .str [.idx (.var 0) (.int 0)]) (.str "/")) (.bif .str [.idx (.var 0) (.int 1)]))]
theorem p60_100 {n : Nat} (h : n < 10 ^ 60) : n < 10 ^ 100 := Nat.lt_trans h (by decide)
theorem show_ok (hf : T.fns[f]? = some ⟨1, 1, irShow⟩) {p q : Int} (hp : p.natAbs < 10 ^ 60) (hq : q.natAbs < 10 ^ 60) (hq0 : 1 ≤ q) : T.callF (k + 2) f [Pr p q] S = some (.ok (.str (sg (wr p q))), S) := by
  rw [callF_eq hf rfl]
  generalize T.gam (T.callF (k + 1)) (T.callF k) = Γ
  show fin (xs Γ irShow [some (Pr p q)] S) = _
  unfold irShow
  have e0 : evs Γ [.idx (.var 0) (.int 0)] [some (Pr p q)] S = some (.ok [.int p], S) := by kernel_rfl
  have e1 : evs Γ [.idx (.var 0) (.int 1)] [some (Pr p q)] S = some (.ok [.int q], S) := by kernel_rfl
  have s0 := bif_eq (f := .str) e0 (str_int (S := S) (p60_100 hp))
  have s1 := bif_eq (f := .str) e1 (str_int (S := S) (p60_100 hq))
  rw [dg_pos (by omega : 0 ≤ q), List.nil_append] at s1
  have hc : truth (ev Γ (.cmp .eq (.idx (.var 0) (.int 1)) (.int 1)) [some (Pr p q)] S) = some (.ok (decide (q = 1)), S) := by kernel_rfl
  have l1 := dg_len hp
  have l2 := dg_len hq
  have l3 := sgn_len p
  unfold wr
  by_cases h : q = 1
  · rw [if_pos h, List.append_nil]
    refine fin_xs_ret (ρ1 := [some (Pr p q)]) ?_
    rw [iff_t (tr_t hc h)]
    exact xs_ret (ret_eq s0)
  · rw [if_neg h, xs_nxt (ρ1 := [some (Pr p q)]) (S1 := S) (by rw [iff_f (tr_f hc h), xs_nil])]
    refine fin_xs_ret (ret_eq ?_)
    have a1 : ev Γ (.bin .add (.bif .str [.idx (.var 0) (.int 0)]) (.str "/")) [some (Pr p q)] S = some (.ok (.str (sg ((sgn p ++ dg p) ++ [47]))), S) :=
      bin_eq s0 (by kernel_rfl : ev Γ (.str "/") _ S = some (.ok (.str "/"), S)) (by rw [slash]; exact op_cat (by simp; omega))
    have a2 := bin_eq a1 s1 (op_cat (by simp; omega))
    rw [List.append_assoc (sgn p ++ dg p)] at a2
    exact a2
def irWritten : List Sx := [.asg 1 (.bif .str [.bif .abs [.idx (.var 0) (.int 0)]]), .iff (.cmp .lt (.idx (.var 0) (.int 0)) (.int 0)) [.asg 1 (.bin .add (.str "-") (.var 1))] [], .iff (.cmp .ne (.idx (.var 0) (.int 1)) (.int 1)) [.asg 1 (.bin .add (.bin .add (.var 1) (.str "/")) (.bif .str [.idx (.var 0) (.int 1)]))] [], .ret (.var 1)]
theorem written_ok (hf : T.fns[f]? = some ⟨1, 2, irWritten⟩) {p q : Int} (hp : p.natAbs < 10 ^ 60) (hq : q.natAbs < 10 ^ 60) (hq0 : 1 ≤ q) : T.callF (k + 2) f [Pr p q] S = some (.ok (.str (sg (wr p q))), S) := by
  rw [callF_eq hf rfl]
  generalize T.gam (T.callF (k + 1)) (T.callF k) = Γ
  show fin (xs Γ irWritten [some (Pr p q), none] S) = _
  unfold irWritten
  have l1 := dg_len hp
  have l2 := dg_len hq
  have e0 : ev Γ (.bif .str [.bif .abs [.idx (.var 0) (.int 0)]]) [some (Pr p q), none] S = some (.ok (.str (sg (dg p))), S) :=
    bif_eq (evs_cons (bif_eq (evs_cons (by kernel_rfl : ev Γ (.idx (.var 0) (.int 0)) _ S = some (.ok (.int p), S)) evs_nil) abs_ok) evs_nil) (str_nat (p60_100 hp))
  have e0' : x1 Γ (.asg 1 (.bif .str [.bif .abs [.idx (.var 0) (.int 0)]])) [some (Pr p q), none] S = some (.nxt, [some (Pr p q), some (.str (sg (dg p)))], S) := asg_eq e0
  rw [xs_nxt e0']
  have hc : truth (ev Γ (.cmp .lt (.idx (.var 0) (.int 0)) (.int 0)) [some (Pr p q), some (.str (sg (dg p)))] S) = some (.ok (decide (p < 0)), S) := by kernel_rfl
  have e1 : x1 Γ (.iff (.cmp .lt (.idx (.var 0) (.int 0)) (.int 0)) [.asg 1 (.bin .add (.str "-") (.var 1))] []) [some (Pr p q), some (.str (sg (dg p)))] S = some (.nxt, [some (Pr p q), some (.str (sg (sgn p ++ dg p)))], S) := by
    unfold sgn
    by_cases h : p < 0
    · rw [iff_t (tr_t hc h), if_pos h]
      have a : x1 Γ (.asg 1 (.bin .add (.str "-") (.var 1))) [some (Pr p q), some (.str (sg (dg p)))] S = some (.nxt, [some (Pr p q), some (.str (sg ([45] ++ dg p)))], S) :=
        asg_eq (bin_eq (by kernel_rfl : ev Γ (.str "-") _ S = some (.ok (.str "-"), S)) (var_eq rfl) (by rw [minus1]; exact op_cat (by simp; omega)))
      rw [xs_nxt a, xs_nil]
    · rw [iff_f (tr_f hc h), if_neg h, xs_nil]
      rfl
  rw [xs_nxt e1]
  have l3 := sgn_len p
  have hc2 : truth (ev Γ (.cmp .ne (.idx (.var 0) (.int 1)) (.int 1)) [some (Pr p q), some (.str (sg (sgn p ++ dg p)))] S) = some (.ok (!decide (q = 1)), S) := by kernel_rfl
  unfold wr
  by_cases h : q = 1
  · rw [decide_eq_true h] at hc2
    rw [if_pos h, List.append_nil, xs_nxt (ρ1 := [some (Pr p q), some (.str (sg (sgn p ++ dg p)))]) (S1 := S) (by rw [iff_f hc2, xs_nil])]
    kernel_rfl
  · rw [decide_eq_false h] at hc2
    rw [if_neg h]
    have s1 := bif_eq (f := .str) (by kernel_rfl : evs Γ [.idx (.var 0) (.int 1)] [some (Pr p q), some (.str (sg (sgn p ++ dg p)))] S = some (.ok [.int q], S)) (str_int (S := S) (p60_100 hq))
    rw [dg_pos (by omega : 0 ≤ q), List.nil_append] at s1
    have a1 : ev Γ (.bin .add (.var 1) (.str "/")) [some (Pr p q), some (.str (sg (sgn p ++ dg p)))] S = some (.ok (.str (sg ((sgn p ++ dg p) ++ [47]))), S) :=
      bin_eq (var_eq rfl) (by kernel_rfl : ev Γ (.str "/") _ S = some (.ok (.str "/"), S)) (by rw [slash]; exact op_cat (by simp; omega))
    have a2 := bin_eq a1 s1 (op_cat (by simp; omega))
    rw [List.append_assoc (sgn p ++ dg p)] at a2
    have a3 : x1 Γ (.asg 1 (.bin .add (.bin .add (.var 1) (.str "/")) (.bif .str [.idx (.var 0) (.int 1)]))) [some (Pr p q), some (.str (sg (sgn p ++ dg p)))] S = some (.nxt, [some (Pr p q), some (.str (sg ((sgn p ++ dg p) ++ ([47] ++ dg q))))], S) := asg_eq a2
    rw [xs_nxt (ρ1 := [some (Pr p q), some (.str (sg ((sgn p ++ dg p) ++ ([47] ++ dg q))))]) (S1 := S) (by rw [iff_t hc2, xs_nxt a3, xs_nil])]
    kernel_rfl
def irRead (x t c d : Nat) : List Sx := [.unp [1, 2, 3] (.bm (.var 0) .partition [.str "/"]), .asg 4 (.call t [.var 1]), .iff (.cmp .eq (.var 2) (.str "")) [.ret (.tup [.var 4, .int 1])] [], .asg 5 (.call c [.var 3]), .iff (.or [.cmp .lt (.var 5) (.int 2), .cmp .ne (.call d [.var 4, .var 5]) (.int 1)]) [.raise x [] []] [], .ret (.tup [.var 4, .var 5])]
theorem read_ok {t c d g : Nat} (hf : T.fns[f]? = some ⟨1, 6, irRead x t c d⟩) (ht : T.fns[t]? = some ⟨1, 1, irTop x c⟩) (hc : T.fns[c]? = some ⟨1, 1, irCount x g⟩) (hg : T.fns[g]? = some ⟨1, 2, irFigures⟩) (hG : T.globs[0]? = some (.str "0123456789")) (hd : T.fns[d]? = some ⟨2, 2, irDivisor⟩)
    {p q : Int} (hp : p.natAbs < 10 ^ 60) (hq : q.natAbs < 10 ^ 60) (hq0 : 1 ≤ q) (hpq : Int.gcd p q = 1) : T.callF (k + 5) f [.str (sg (wr p q))] S = some (.ok (Pr p q), S) := by
  rw [callF_eq hf rfl]
  have q1 : (T.gam (T.callF (k + 4)) (T.callF (k + 3))).call t [.str (sg (sgn p ++ dg p))] S = some (.ok (.int p), S) := top_ok ht hc hg hG hp
  have q2 : (T.gam (T.callF (k + 4)) (T.callF (k + 3))).call c [.str (sg (dg q))] S = some (.ok (.int q), S) := by
    have := count_ok (k := k + 1) (S := S) hc hg hG hq
    have e : ((q.natAbs : Nat) : Int) = q := by omega
    rw [e] at this
    exact this
  have q3 : (T.gam (T.callF (k + 4)) (T.callF (k + 3))).call d [.int p, .int q] S = some (.ok (.int 1), S) := by
    have := divisor_ok (k := k + 2) (S := S) hd (L := 210) (a := p) (b := q) (by decide) (by omega) (by
      have h1 : q < 10 ^ 60 := by omega
      exact Int.lt_trans h1 (by decide +kernel))
    rw [hpq] at this
    exact this
  generalize T.gam (T.callF (k + 4)) (T.callF (k + 3)) = Γ at q1 q2 q3 ⊢
  have l1 := dg_len hp
  have l2 := dg_len hq
  have l3 := sgn_len p
  have lw : (wr p q).length ≤ 200 := by unfold wr; split <;> simp <;> omega
  show fin (xs Γ (irRead x t c d) [some (.str (sg (wr p q))), none, none, none, none, none] S) = _
  unfold irRead
  have part : ∀ P : Str × Str × Str, PySem.Txt.partition (sg (wr p q)) "/" = P → x1 Γ (.unp [1, 2, 3] (.bm (.var 0) .partition [.str "/"])) [some (.str (sg (wr p q))), none, none, none, none, none] S = some (.nxt, [some (.str (sg (wr p q))), some (.str P.1), some (.str P.2.1), some (.str P.2.2), none, none], S) := fun P hP => by
    have e : ev Γ (.bm (.var 0) .partition [.str "/"]) [some (.str (sg (wr p q))), none, none, none, none, none] S = some (.ok (.tup [.str P.1, .str P.2.1, .str P.2.2]), S) := by
      have z : ev Γ (.bm (.var 0) .partition [.str "/"]) [some (.str (sg (wr p q))), none, none, none, none, none] S = lift (if ((("/" : Str).length == 0) = false ∧ (sg (wr p q)).length ≤ 16777216) then some (.tup [.str (PySem.Txt.partition (sg (wr p q)) "/").1, .str (PySem.Txt.partition (sg (wr p q)) "/").2.1, .str (PySem.Txt.partition (sg (wr p q)) "/").2.2], S) else none) := by kernel_rfl
      rw [z, hP, sg_len, if_pos ⟨by decide +kernel, by omega⟩]
      rfl
    exact unp_eq e rfl
  have ey : TL.tl ("/" : Str) = 47 :: [] := by rw [slash]; exact tl_sg _
  by_cases h : q = 1
  · have hP : PySem.Txt.partition (sg (wr p q)) "/" = (sg (sgn p ++ dg p), Str.empty, Str.empty) := by
      have e : wr p q = sgn p ++ dg p := by unfold wr; rw [if_pos h, List.append_nil]
      rw [e]
      exact TL.partition_none ey (by show 47 ∉ (sg (sgn p ++ dg p)).cps.toList; rw [tl_sg]; exact no47 p)
    rw [xs_nxt (part _ hP)]
    generalize sg (wr p q) = w
    have a1 : x1 Γ (.asg 4 (.call t [.var 1])) [some (.str w), some (.str (sg (sgn p ++ dg p))), some (.str Str.empty), some (.str Str.empty), none, none] S = some (.nxt, [some (.str w), some (.str (sg (sgn p ++ dg p))), some (.str Str.empty), some (.str Str.empty), some (.int p), none], S) :=
      asg_eq (by rw [call_eq (evs_cons (var_eq rfl) evs_nil), q1])
    rw [xs_nxt a1]
    have hc : truth (ev Γ (.cmp .eq (.var 2) (.str "")) [some (.str w), some (.str (sg (sgn p ++ dg p))), some (.str Str.empty), some (.str Str.empty), some (.int p), none] S) = some (.ok true, S) := by
      have z : truth (ev Γ (.cmp .eq (.var 2) (.str "")) [some (.str w), some (.str (sg (sgn p ++ dg p))), some (.str Str.empty), some (.str Str.empty), some (.int p), none] S) = some (.ok (decide (Str.empty = "")), S) := by kernel_rfl
      rw [z, decide_eq_true (by decide +kernel)]
    refine fin_xs_ret (ρ1 := [some (.str w), some (.str (sg (sgn p ++ dg p))), some (.str Str.empty), some (.str Str.empty), some (.int p), none]) ?_
    rw [iff_t hc, h]
    kernel_rfl
  · have hP : PySem.Txt.partition (sg (wr p q)) "/" = (sg (sgn p ++ dg p), ("/" : Str), sg (dg q)) := by
      have e : sg (wr p q) = sg (sgn p ++ dg p) ++ "/" ++ sg (dg q) := by
        unfold wr
        rw [if_neg h, slash, sg_app, sg_app, List.append_assoc (sgn p ++ dg p)]
        rfl
      rw [e]
      exact TL.partition_app ey (by show 47 ∉ (sg (sgn p ++ dg p)).cps.toList; rw [tl_sg]; exact no47 p)
    rw [xs_nxt (part _ hP)]
    generalize sg (wr p q) = w
    have a1 : x1 Γ (.asg 4 (.call t [.var 1])) [some (.str w), some (.str (sg (sgn p ++ dg p))), some (.str "/"), some (.str (sg (dg q))), none, none] S = some (.nxt, [some (.str w), some (.str (sg (sgn p ++ dg p))), some (.str "/"), some (.str (sg (dg q))), some (.int p), none], S) :=
      asg_eq (by rw [call_eq (evs_cons (var_eq rfl) evs_nil), q1])
    rw [xs_nxt a1]
    have hc : truth (ev Γ (.cmp .eq (.var 2) (.str "")) [some (.str w), some (.str (sg (sgn p ++ dg p))), some (.str "/"), some (.str (sg (dg q))), some (.int p), none] S) = some (.ok false, S) := by
      have z : truth (ev Γ (.cmp .eq (.var 2) (.str "")) [some (.str w), some (.str (sg (sgn p ++ dg p))), some (.str "/"), some (.str (sg (dg q))), some (.int p), none] S) = some (.ok (decide (("/" : Str) = "")), S) := by kernel_rfl
      rw [z, decide_eq_false (by decide +kernel)]
    rw [xs_nxt (ρ1 := [some (.str w), some (.str (sg (sgn p ++ dg p))), some (.str "/"), some (.str (sg (dg q))), some (.int p), none]) (S1 := S) (by rw [iff_f hc, xs_nil])]
    have a2 : x1 Γ (.asg 5 (.call c [.var 3])) [some (.str w), some (.str (sg (sgn p ++ dg p))), some (.str "/"), some (.str (sg (dg q))), some (.int p), none] S = some (.nxt, [some (.str w), some (.str (sg (sgn p ++ dg p))), some (.str "/"), some (.str (sg (dg q))), some (.int p), some (.int q)], S) :=
      asg_eq (by rw [call_eq (evs_cons (var_eq rfl) evs_nil), q2])
    rw [xs_nxt a2]
    have c1 : truth (ev Γ (.cmp .lt (.var 5) (.int 2)) [some (.str w), some (.str (sg (sgn p ++ dg p))), some (.str "/"), some (.str (sg (dg q))), some (.int p), some (.int q)] S) = some (.ok false, S) := by
      have z : truth (ev Γ (.cmp .lt (.var 5) (.int 2)) [some (.str w), some (.str (sg (sgn p ++ dg p))), some (.str "/"), some (.str (sg (dg q))), some (.int p), some (.int q)] S) = some (.ok (decide (q < 2)), S) := by kernel_rfl
      rw [z, decide_eq_false (by omega)]
    have c2 : ev Γ (.cmp .ne (.call d [.var 4, .var 5]) (.int 1)) [some (.str w), some (.str (sg (sgn p ++ dg p))), some (.str "/"), some (.str (sg (dg q))), some (.int p), some (.int q)] S = some (.ok (.bl false), S) :=
      cmp_eq (by rw [call_eq (evs_cons (var_eq rfl) (evs_cons (var_eq rfl) evs_nil)), q3]) int_eq rfl
    rw [xs_nxt (ρ1 := [some (.str w), some (.str (sg (sgn p ++ dg p))), some (.str "/"), some (.str (sg (dg q))), some (.int p), some (.int q)]) (S1 := S) (by
      rw [iff_f (S1 := S) (tr_eq (q := false) (by rw [ev]; exact or_f c1 (by rw [evOr]; exact c2))), xs_nil])]
    kernel_rfl
end
end Ip

/-! IpText2: any text read. Written by an AI agent. -/
namespace Ip
open PySem (Str)
/-- a walk that returns at the first item that is not good -/
theorem for_all {step : W → Env → Store → Option (Fl × Env × Store)} {ws : List W} {good : W → Bool} {r : W} {S : Store} (Inv : Env → Prop)
    (h : ∀ w ρ, w ∈ ws → Inv ρ → ∃ ρ', Inv ρ' ∧ step w ρ S = some (if good w then .nxt else .ret r, ρ', S)) : ∀ (k i : Nat) (ρ : Env), Inv ρ → i ≤ ws.length → ws.length - i < k → ∃ ρ', Inv ρ' ∧ forL step (.fixed ws) k i ρ S = some (if (ws.drop i).all good then .nxt else .ret r, ρ', S)
  | 0, i, ρ, _, _, hk => by omega
  | k + 1, i, ρ, hi, hl, hk => by
    unfold forL
    by_cases hlt : i < ws.length
    · have e : ws[i]? = some ws[i] := List.getElem?_eq_getElem hlt
      obtain ⟨ρ1, i1, h1⟩ := h ws[i] ρ (List.getElem_mem hlt) hi
      simp only [srcAt, e]
      rw [h1, List.drop_eq_getElem_cons hlt, List.all_cons]
      cases hg : good ws[i] with
      | true =>
        obtain ⟨ρ2, i2, h2⟩ := for_all Inv h k (i + 1) ρ1 i1 hlt (by omega)
        refine ⟨ρ2, i2, ?_⟩
        simp only [if_true, Bool.true_and]
        exact h2
      | false => exact ⟨ρ1, i1, by simp⟩
    · have e : ws[i]? = none := List.getElem?_eq_none (by omega)
      simp only [srcAt, e]
      exact ⟨ρ, hi, by rw [List.drop_eq_nil_of_le (by omega)]; rfl⟩
def isD (c : Nat) : Bool := decide (48 ≤ c ∧ c ≤ 57)
/-- figures as the program takes them -/
def figB (l : List Nat) : Bool := !l.isEmpty && decide (l.length ≤ 60) && l.all isD && (decide (l = [48]) || decide (l.head? ≠ some 48))
theorem figs_mem {c : Nat} : (c ∈ [48, 49, 50, 51, 52, 53, 54, 55, 56, 57]) ↔ (48 ≤ c ∧ c ≤ 57) := by
  simp
  omega
section
variable {T : Tab} {k f x : Nat} {S : Store}
theorem figures_gen (hf : T.fns[f]? = some ⟨1, 2, irFigures⟩) (hg : T.globs[0]? = some (.str "0123456789")) {l : List Nat} (hl : l.length ≤ 1000000) : T.callF (k + 2) f [.str (sg l)] S = some (.ok (.bl (figB l)), S) := by
  rw [callF_eq hf rfl]
  have hg : (T.gam (T.callF (k + 1)) (T.callF k)).glob 0 = some (.str "0123456789") := hg
  generalize T.gam (T.callF (k + 1)) (T.callF k) = Γ at hg ⊢
  show fin (xs Γ irFigures [some (.str (sg l)), none] S) = _
  unfold irFigures
  have c1 : truth (ev Γ (.cmp .eq (.var 0) (.str "")) [some (.str (sg l)), none] S) = some (.ok (decide (sg l = "")), S) := by kernel_rfl
  have ee : (sg l = "") ↔ l = [] := ⟨fun e => by rw [empty0] at e; exact sg_inj e, fun e => by subst e; exact empty0.symm⟩
  have hlen : ∀ S : Store, bfn .len S [.str (sg l)] = some (.int l.length, S) := fun S => by
    show (if (sg l).length ≤ 16777216 then some (W.int (sg l).length, S) else none) = _
    rw [sg_len, if_pos (by omega)]
  have c2 : ev Γ (.cmp .gt (.bif .len [.var 0]) (.int 60)) [some (.str (sg l)), none] S = some (.ok (.bl (decide ((60 : Int) < l.length))), S) :=
    cmp_eq (bif_eq (evs_cons (var_eq rfl) evs_nil) (hlen S)) int_eq rfl
  by_cases h0 : l = []
  · subst h0
    refine fin_xs_ret (ρ1 := [some (.str (sg [])), none]) ?_
    rw [iff_t (S1 := S) (tr_eq (q := true) (by
      rw [ev, evOr, c1, decide_eq_true (ee.mpr rfl), bnd_ok]
      · rfl
      · simp))]
    kernel_rfl
  have hc1 : truth (ev Γ (.cmp .eq (.var 0) (.str "")) [some (.str (sg l)), none] S) = some (.ok false, S) := by rw [c1, decide_eq_false (fun e => h0 (ee.mp e))]
  by_cases h60 : l.length ≤ 60
  · rw [decide_eq_false (by omega)] at c2
    rw [xs_nxt (ρ1 := [some (.str (sg l)), none]) (S1 := S) (by
      rw [iff_f (S1 := S) (tr_eq (q := false) (by rw [ev]; exact or_f hc1 (by rw [evOr]; exact c2))), xs_nil])]
    have hsrc : srcOf .val S [.str (sg l)] = some (.fixed (l.map fun c => .str ⟨#[c]⟩)) := by
      show some (Src.fixed ((sg l).cps.toList.map fun c => W.str ⟨#[c]⟩)) = _
      rw [tl_sg]
    obtain ⟨ρ', ⟨u, eu⟩, h1⟩ := for_all (S := S) (ws := l.map fun c => W.str ⟨#[c]⟩) (r := .bl false) (good := fun w => match w with
        | .str x => isD (x.cps.toList.headD 0)
        | _ => false) (step := fun w ρ1 S2 => match setT [1] w ρ1 with
        | none => none
        | some ρ2 => xs Γ [.iff (.cmp .notin (.var 1) (.glob 0)) [.ret (.bl false)] []] ρ2 S2) (fun ρ => ∃ u, ρ = [some (.str (sg l)), u]) (fun w ρ hw ⟨u, eρ⟩ => by
      subst eρ
      obtain ⟨c, hc, ec⟩ := List.mem_map.mp hw
      subst ec
      refine ⟨[some (.str (sg l)), some (.str ⟨#[c]⟩)], ⟨_, rfl⟩, ?_⟩
      show xs Γ [.iff (.cmp .notin (.var 1) (.glob 0)) [.ret (.bl false)] []] [some (.str (sg l)), some (.str ⟨#[c]⟩)] S = _
      have eg : ev Γ (.glob 0) [some (.str (sg l)), some (.str ⟨#[c]⟩)] S = some (.ok (.str "0123456789"), S) := by
        unfold ev
        rw [hg]
        rfl
      have ec : ev Γ (.cmp .notin (.var 1) (.glob 0)) [some (.str (sg l)), some (.str ⟨#[c]⟩)] S = some (.ok (.bl (!decide (c ∈ ("0123456789" : Str).cps.toList))), S) :=
        cmp_eq (var_eq rfl) eg rfl
      rw [figs, tl_sg] at ec
      show _ = some (if isD c then Fl.nxt else Fl.ret (.bl false), _, S)
      unfold isD
      by_cases hd : 48 ≤ c ∧ c ≤ 57
      · rw [decide_eq_true (figs_mem.mpr hd)] at ec
        rw [decide_eq_true hd, xs_nxt (ρ1 := [some (.str (sg l)), some (.str ⟨#[c]⟩)]) (S1 := S) (by rw [iff_f (tr_eq ec), xs_nil]), xs_nil]
        rfl
      · rw [decide_eq_false (fun z => hd (figs_mem.mp z))] at ec
        rw [decide_eq_false hd]
        refine xs_ret ?_
        rw [iff_t (tr_eq ec)]
        kernel_rfl) big 0 [some (.str (sg l)), none] ⟨_, rfl⟩ (Nat.zero_le _) (by rw [big_eq, List.length_map]; omega)
    subst eu
    have hall : ((l.map fun c => W.str ⟨#[c]⟩).drop 0).all (fun w => match w with
        | .str x => isD (x.cps.toList.headD 0)
        | _ => false) = l.all isD := by
      rw [List.drop_zero, List.all_map]
      rfl
    rw [hall] at h1
    have e : x1 Γ (.for [1] .val [.var 0] [.iff (.cmp .notin (.var 1) (.glob 0)) [.ret (.bl false)] []]) [some (.str (sg l)), none] S = some (if l.all isD then .nxt else .ret (.bl false), [some (.str (sg l)), u], S) := by
      rw [for_eq (evs_cons (var_eq rfl) evs_nil) hsrc]
      exact h1
    have hE : l.isEmpty = false := by cases l with | nil => exact absurd rfl h0 | cons _ _ => rfl
    unfold figB
    rw [hE, decide_eq_true h60]
    cases hall2 : l.all isD with
    | false =>
      rw [hall2] at e
      exact fin_xs_ret e
    | true =>
      rw [hall2] at e
      simp only [if_true] at e
      rw [xs_nxt e]
      have d1 : truth (ev Γ (.cmp .eq (.var 0) (.str "0")) [some (.str (sg l)), u] S) = some (.ok (decide (sg l = "0")), S) := by kernel_rfl
      have e48 : (sg l = "0") ↔ l = [48] := ⟨fun e => by rw [nought] at e; exact sg_inj e, fun e => by subst e; exact nought.symm⟩
      simp only [Bool.not_false, Bool.true_and]
      refine fin_xs_ret (ret_eq (S1 := S) ?_)
      rw [ev]
      by_cases q0 : l = [48]
      · rw [decide_eq_true q0, evOr, d1, decide_eq_true (e48.mpr q0), bnd_ok]
        · rfl
        · simp
      · rw [decide_eq_false q0]
        refine (show evOr Γ (_ :: _ :: []) _ S = _ from ?_)
        rw [evOr, d1, decide_eq_false (fun z => q0 (e48.mp z)), bnd_ok]
        · dsimp only
          rw [evOr]
          cases l with
          | nil => exact absurd rfl h0
          | cons c r =>
            have hi : ev Γ (.idx (.var 0) (.int 0)) [some (.str (sg (c :: r))), u] S = some (.ok (.str ⟨#[c]⟩), S) := by
              unfold ev
              rw [var_eq (w := .str (sg (c :: r))) rfl, bnd_ok, int_eq, bnd_ok]
              show (match (if (sg (c :: r)).length ≤ 16777216 then (L2.atI (sg (c :: r)).cps.toList 0).map fun c => W.str ⟨#[c]⟩ else none) with
                | some w => rok w S
                | none => none) = _
              rw [sg_len, if_pos (by omega), tl_sg, atI_nat (by decide) (by simp)]
              rfl
            refine cmp_eq hi (by kernel_rfl : ev Γ (.str "0") _ S = some (.ok (.str "0"), S)) ?_
            show some (!decide ((⟨#[c]⟩ : Str) = "0")) = _
            have e3 : ((⟨#[c]⟩ : Str) = "0") ↔ c = 48 := ⟨fun e => by
              rw [nought] at e
              have := sg_inj (a := [c]) (b := [48]) e
              simpa using this, fun e => by subst e; exact nought.symm⟩
            by_cases q : c = 48
            · rw [decide_eq_true (e3.mpr q)]
              simp [q]
            · rw [decide_eq_false (fun z => q (e3.mp z))]
              simp [q]
        · simp
  · rw [decide_eq_true (by omega)] at c2
    refine fin_xs_ret (ρ1 := [some (.str (sg l)), none]) ?_
    rw [iff_t (S1 := S) (tr_eq (q := true) (by
      rw [ev]
      refine (show evOr Γ (_ :: _ :: []) _ S = _ from ?_)
      rw [evOr, hc1, bnd_ok]
      · dsimp only
        rw [evOr]
        exact c2
      · simp))]
    unfold figB
    rw [decide_eq_false h60, Bool.and_false, Bool.false_and, Bool.false_and]
    kernel_rfl
/-- the number of figures -/
def numB (l : List Nat) : Nat := PySem.NumText.digitsVal l
theorem count_gen {g : Nat} (hf : T.fns[f]? = some ⟨1, 1, irCount x g⟩) (h1 : T.fns[g]? = some ⟨1, 2, irFigures⟩) (hg : T.globs[0]? = some (.str "0123456789")) {l : List Nat} (hl : l.length ≤ 1000000) :
    T.callF (k + 3) f [.str (sg l)] S = if figB l then some (.ok (.int (numB l)), S) else some (.ex ⟨x, []⟩, S) := by
  rw [callF_eq hf rfl]
  have q : (T.gam (T.callF (k + 2)) (T.callF (k + 1))).call g [.str (sg l)] S = some (.ok (.bl (figB l)), S) := figures_gen h1 hg hl
  generalize T.gam (T.callF (k + 2)) (T.callF (k + 1)) = Γ at q ⊢
  show fin (xs Γ (irCount x g) [some (.str (sg l))] S) = _
  unfold irCount
  have hc : truth (ev Γ (.not (.call g [.var 0])) [some (.str (sg l))] S) = some (.ok (!figB l), S) := tr_eq (not_eq (by rw [call_eq (evs_cons (var_eq rfl) evs_nil), q]))
  cases hfb : figB l with
  | false =>
    rw [hfb] at hc
    refine fin_xs_ex (ρ1 := [some (.str (sg l))]) ?_
    rw [iff_t hc]
    kernel_rfl
  | true =>
    rw [hfb] at hc
    rw [xs_nxt (ρ1 := [some (.str (sg l))]) (S1 := S) (by rw [iff_f hc, xs_nil])]
    unfold figB at hfb
    have b := Bool.and_eq_true_iff.mp hfb
    have b1 := Bool.and_eq_true_iff.mp b.1
    have b2 := Bool.and_eq_true_iff.mp b1.1
    have l60 : l.length ≤ 60 := of_decide_eq_true b2.2
    have hne : l ≠ [] := by
      intro e
      subst e
      cases b2.1
    have hd : PySem.NumText.AllDigits l := fun c hc => of_decide_eq_true (List.all_eq_true.mp b1.2 c hc)
    refine fin_xs_ret (ret_eq (bif_eq (evs_cons (var_eq rfl) evs_nil) ?_))
    show (if (sg l).length ≤ 640 then (PySem.intText? (sg l)).map fun n => (W.int n, S) else none) = _
    rw [sg_len, if_pos (by omega), PySem.intText_digits (by rw [tl_sg]; exact hd) (by rw [tl_sg]; exact hne) (by rw [sg_len]; omega), tl_sg]
    rfl
def topv (l : List Nat) : Option Int := if l.take 1 = [45] then (if l = [45, 48] then none else if figB (l.drop 1) then some (-(numB (l.drop 1) : Int)) else none) else if figB l then some (numB l : Int) else none
/-- a value, or the refusal -/
def orX (x : Nat) (o : Option W) (S : Store) : R W := match o with
  | some w => some (.ok w, S)
  | none => some (.ex ⟨x, []⟩, S)
theorem top_gen {g h : Nat} (hf : T.fns[f]? = some ⟨1, 1, irTop x g⟩) (h0 : T.fns[g]? = some ⟨1, 1, irCount x h⟩) (h1 : T.fns[h]? = some ⟨1, 2, irFigures⟩) (hg : T.globs[0]? = some (.str "0123456789")) {l : List Nat} (hl : l.length ≤ 1000000) :
    T.callF (k + 4) f [.str (sg l)] S = orX x ((topv l).map W.int) S := by
  rw [callF_eq hf rfl]
  have q : ∀ l : List Nat, l.length ≤ 1000000 → (T.gam (T.callF (k + 3)) (T.callF (k + 2))).call g [.str (sg l)] S = if figB l then some (.ok (.int (numB l)), S) else some (.ex ⟨x, []⟩, S) := fun l hl => count_gen h0 h1 hg hl
  generalize T.gam (T.callF (k + 3)) (T.callF (k + 2)) = Γ at q ⊢
  show fin (xs Γ (irTop x g) [some (.str (sg l))] S) = _
  unfold irTop
  have slc1 : ev Γ (.slc (.var 0) [] [.int 1]) [some (.str (sg l))] S = some (.ok (.str (sg (l.take 1))), S) := by
    have z : ev Γ (.slc (.var 0) [] [.int 1]) [some (.str (sg l))] S = lift (if (sg l).length ≤ 16777216 then some (W.str (L2.cutS (sg l) none (some 1)), S) else none) := by kernel_rfl
    rw [z, sg_len, if_pos (by omega), cut1]
    rfl
  have c1 : truth (ev Γ (.cmp .ne (.slc (.var 0) [] [.int 1]) (.str "-")) [some (.str (sg l))] S) = some (.ok (!decide (sg (l.take 1) = ("-" : Str))), S) :=
    tr_eq (cmp_eq slc1 (by kernel_rfl : ev Γ (.str "-") _ S = some (.ok (.str "-"), S)) rfl)
  have e45 : (sg (l.take 1) = ("-" : Str)) ↔ l.take 1 = [45] := ⟨fun e => by rw [minus1] at e; exact sg_inj e, fun e => by rw [e]; exact minus1.symm⟩
  unfold topv
  by_cases h45 : l.take 1 = [45]
  · rw [decide_eq_true (e45.mpr h45)] at c1
    rw [if_pos h45, xs_nxt (ρ1 := [some (.str (sg l))]) (S1 := S) (by rw [iff_f c1, xs_nil])]
    have c2 : truth (ev Γ (.cmp .eq (.var 0) (.str "-0")) [some (.str (sg l))] S) = some (.ok (decide (sg l = "-0")), S) := by kernel_rfl
    have e48 : (sg l = ("-0" : Str)) ↔ l = [45, 48] := ⟨fun e => by rw [minus0] at e; exact sg_inj e, fun e => by rw [e]; exact minus0.symm⟩
    by_cases h48 : l = [45, 48]
    · rw [if_pos h48]
      refine fin_xs_ex (ρ1 := [some (.str (sg l))]) ?_
      rw [iff_t (tr_t c2 (e48.mpr h48))]
      kernel_rfl
    · rw [if_neg h48, xs_nxt (ρ1 := [some (.str (sg l))]) (S1 := S) (by rw [iff_f (tr_f c2 (fun z => h48 (e48.mp z))), xs_nil])]
      cases l with
      | nil => cases h45
      | cons c r =>
        have s2 : ev Γ (.slc (.var 0) [.int 1] []) [some (.str (sg (c :: r)))] S = some (.ok (.str (sg r)), S) := by
          have z : ev Γ (.slc (.var 0) [.int 1] []) [some (.str (sg (c :: r)))] S = lift (if (sg (c :: r)).length ≤ 16777216 then some (W.str (L2.cutS (sg (c :: r)) (some 1) none), S) else none) := by kernel_rfl
          rw [z, sg_len, if_pos (by omega), cutTail]
          rfl
        have qr := q r (by simp at hl; omega)
        show _ = orX x ((if figB r then some (-(numB r : Int)) else none).map W.int) S
        cases hb : figB r with
        | true =>
          rw [hb] at qr
          have r1 : ev Γ (.bin .sub (.int 0) (.call g [.slc (.var 0) [.int 1] []])) [some (.str (sg (c :: r)))] S = some (.ok (.int (0 - numB r)), S) :=
            sub_ev int_eq (by rw [call_eq (evs_cons s2 evs_nil), qr]; rfl)
          have e2 : (0 : Int) - numB r = -(numB r : Int) := by omega
          rw [e2] at r1
          exact fin_xs_ret (ret_eq r1)
        | false =>
          rw [hb] at qr
          have r1 : ev Γ (.bin .sub (.int 0) (.call g [.slc (.var 0) [.int 1] []])) [some (.str (sg (c :: r)))] S = some (.ex ⟨x, []⟩, S) := by
            have e3 : ev Γ (.call g [.slc (.var 0) [.int 1] []]) [some (.str (sg (c :: r)))] S = some (.ex ⟨x, []⟩, S) := by
              rw [call_eq (evs_cons s2 evs_nil), qr]
              rfl
            unfold ev
            rw [int_eq, bnd_ok, e3]
            rfl
          refine fin_xs_ex (ρ1 := [some (.str (sg (c :: r)))]) ?_
          rw [x1, r1]
          rfl
  · rw [decide_eq_false (fun z => h45 (e45.mp z))] at c1
    rw [if_neg h45]
    have qr := q l hl
    cases hb : figB l with
    | true =>
      rw [hb] at qr
      refine fin_xs_ret (ρ1 := [some (.str (sg l))]) ?_
      rw [iff_t c1]
      exact xs_ret (ret_eq (by rw [call_eq (evs_cons (var_eq rfl) evs_nil), qr]; rfl))
    | false =>
      rw [hb] at qr
      refine fin_xs_ex (ρ1 := [some (.str (sg l))]) ?_
      rw [iff_t c1]
      refine xs_ex ?_
      have e3 : ev Γ (.call g [.var 0]) [some (.str (sg l))] S = some (.ex ⟨x, []⟩, S) := by
        rw [call_eq (evs_cons (var_eq rfl) evs_nil), qr]
        rfl
      rw [x1, e3]
      rfl
def rdv (a : List Nat) (b : Option (List Nat)) : Option (Int × Int) := match topv a with
  | none => none
  | some p => match b with
    | none => some (p, 1)
    | some b => if figB b = true ∧ 2 ≤ numB b ∧ Int.gcd p (numB b) = 1 then some (p, numB b) else none
def prW : Int × Int → W := fun p => Pr p.1 p.2
/-- a text, cut at its first stroke -/
def Cut (l a : List Nat) (b : Option (List Nat)) : Prop := 47 ∉ a ∧ match b with
  | none => l = a
  | some b => l = a ++ 47 :: b
theorem cut_ex : ∀ l : List Nat, ∃ a b, Cut l a b
  | [] => ⟨[], none, by simp, rfl⟩
  | c :: r => by
    by_cases h : c = 47
    · subst h
      exact ⟨[], some r, by simp, rfl⟩
    · obtain ⟨a, b, h1, h2⟩ := cut_ex r
      refine ⟨c :: a, b, by simp [h1]; omega, ?_⟩
      cases b with
      | none =>
        have h2 : r = a := h2
        rw [h2]
      | some b =>
        have h2 : r = a ++ 47 :: b := h2
        show c :: r = _
        rw [h2]
        rfl
def bst : Option (List Nat) → Str
  | none => Str.empty
  | some _ => "/"
def btl : Option (List Nat) → Str
  | none => Str.empty
  | some b => sg b
theorem cut_part {l a : List Nat} {b : Option (List Nat)} (h : Cut l a b) : PySem.Txt.partition (sg l) "/" = (sg a, bst b, btl b) := by
  have ey : TL.tl ("/" : Str) = 47 :: [] := by rw [slash]; exact tl_sg _
  obtain ⟨h1, h2⟩ := h
  have n47 : 47 ∉ TL.tl (sg a) := by show 47 ∉ (sg a).cps.toList; rw [tl_sg]; exact h1
  cases b with
  | none =>
    have h2 : l = a := h2
    rw [h2]
    exact TL.partition_none ey n47
  | some b =>
    have h2 : l = a ++ 47 :: b := h2
    have e : sg l = sg a ++ "/" ++ sg b := by
      rw [h2, slash, sg_app, sg_app, List.append_assoc]
      rfl
    rw [e]
    exact TL.partition_app ey n47
theorem digits_lt : ∀ {l : List Nat}, l.all isD = true → PySem.NumText.digitsVal l < 10 ^ l.length := fun {l} h => by
  have key : ∀ (l : List Nat) (a : Nat), l.all isD = true → l.foldl (fun acc c => acc * 10 + (c - 48)) a < (a + 1) * 10 ^ l.length := fun l => by
    induction l with
    | nil => intro a _; simp
    | cons c r ih =>
      intro a h
      rw [List.all_cons] at h
      have h := Bool.and_eq_true_iff.mp h
      have hc : 48 ≤ c ∧ c ≤ 57 := of_decide_eq_true h.1
      have := ih (a * 10 + (c - 48)) h.2
      rw [List.foldl_cons, List.length_cons, Nat.pow_succ]
      have h2 : (a * 10 + (c - 48) + 1) * 10 ^ r.length ≤ ((a + 1) * 10) * 10 ^ r.length := Nat.mul_le_mul_right _ (by omega)
      have h3 : (a + 1) * (10 ^ r.length * 10) = ((a + 1) * 10) * 10 ^ r.length := by rw [Nat.mul_assoc, Nat.mul_comm 10]
      omega
  have := key l 0 h
  rw [Nat.zero_add, Nat.one_mul] at this
  exact this
theorem fig_lt {l : List Nat} (h : figB l = true) : numB l < 10 ^ 60 := by
  unfold figB at h
  have b := Bool.and_eq_true_iff.mp h
  have b1 := Bool.and_eq_true_iff.mp b.1
  have b2 := Bool.and_eq_true_iff.mp b1.1
  exact Nat.lt_of_lt_of_le (digits_lt b1.2) (Nat.pow_le_pow_right (by decide) (of_decide_eq_true b2.2))
theorem topv_lt {l : List Nat} {p : Int} (h : topv l = some p) : p.natAbs < 10 ^ 60 := by
  unfold topv at h
  split at h
  · split at h
    · cases h
    · split at h
      · rename_i hf
        have := fig_lt hf
        cases h
        omega
      · cases h
  · split at h
    · rename_i hf
      have := fig_lt hf
      cases h
      omega
    · cases h
theorem read_gen {t c d g : Nat} (hf : T.fns[f]? = some ⟨1, 6, irRead x t c d⟩) (ht : T.fns[t]? = some ⟨1, 1, irTop x c⟩) (hc : T.fns[c]? = some ⟨1, 1, irCount x g⟩) (hg : T.fns[g]? = some ⟨1, 2, irFigures⟩) (hG : T.globs[0]? = some (.str "0123456789")) (hd : T.fns[d]? = some ⟨2, 2, irDivisor⟩)
    {l a : List Nat} {b : Option (List Nat)} (hcut : Cut l a b) (hl : l.length ≤ 1000000) : T.callF (k + 5) f [.str (sg l)] S = orX x ((rdv a b).map prW) S := by
  rw [callF_eq hf rfl]
  have la : a.length ≤ 1000000 := by
    obtain ⟨_, h2⟩ := hcut
    cases b with
    | none => have h2 : l = a := h2; rw [← h2]; exact hl
    | some b => have h2 : l = a ++ 47 :: b := h2; rw [h2, List.length_append] at hl; omega
  have q1 : (T.gam (T.callF (k + 4)) (T.callF (k + 3))).call t [.str (sg a)] S = orX x ((topv a).map W.int) S := top_gen ht hc hg hG la
  have q2 : ∀ b : List Nat, b.length ≤ 1000000 → (T.gam (T.callF (k + 4)) (T.callF (k + 3))).call c [.str (sg b)] S = if figB b then some (.ok (.int (numB b)), S) else some (.ex ⟨x, []⟩, S) := fun b h => count_gen (k := k + 1) hc hg hG h
  have q3 : ∀ (p q : Int), 0 ≤ q → q < 10 ^ 60 → (T.gam (T.callF (k + 4)) (T.callF (k + 3))).call d [.int p, .int q] S = some (.ok (.int (Int.gcd p q)), S) := fun p q h0 h => divisor_ok (k := k + 2) hd (L := 210) (by decide) h0 (Int.lt_trans h (by decide +kernel))
  generalize T.gam (T.callF (k + 4)) (T.callF (k + 3)) = Γ at q1 q2 q3 ⊢
  show fin (xs Γ (irRead x t c d) [some (.str (sg l)), none, none, none, none, none] S) = _
  unfold irRead
  have e0 : x1 Γ (.unp [1, 2, 3] (.bm (.var 0) .partition [.str "/"])) [some (.str (sg l)), none, none, none, none, none] S = some (.nxt, [some (.str (sg l)), some (.str (sg a)), some (.str (bst b)), some (.str (btl b)), none, none], S) := by
    have e : ev Γ (.bm (.var 0) .partition [.str "/"]) [some (.str (sg l)), none, none, none, none, none] S = some (.ok (.tup [.str (sg a), .str (bst b), .str (btl b)]), S) := by
      have z : ev Γ (.bm (.var 0) .partition [.str "/"]) [some (.str (sg l)), none, none, none, none, none] S = lift (if ((("/" : Str).length == 0) = false ∧ (sg l).length ≤ 16777216) then some (.tup [.str (PySem.Txt.partition (sg l) "/").1, .str (PySem.Txt.partition (sg l) "/").2.1, .str (PySem.Txt.partition (sg l) "/").2.2], S) else none) := by kernel_rfl
      rw [z, cut_part hcut, sg_len, if_pos ⟨by decide +kernel, by omega⟩]
      rfl
    exact unp_eq e rfl
  rw [xs_nxt e0]
  generalize sg l = w
  unfold rdv
  cases hp : topv a with
  | none =>
    rw [hp] at q1
    have e1 : ev Γ (.call t [.var 1]) [some (.str w), some (.str (sg a)), some (.str (bst b)), some (.str (btl b)), none, none] S = some (.ex ⟨x, []⟩, S) := by
      rw [call_eq (evs_cons (var_eq rfl) evs_nil), q1]
      rfl
    refine fin_xs_ex (ρ1 := [some (.str w), some (.str (sg a)), some (.str (bst b)), some (.str (btl b)), none, none]) ?_
    rw [x1, e1]
    rfl
  | some p =>
    rw [hp] at q1
    have e1 : x1 Γ (.asg 4 (.call t [.var 1])) [some (.str w), some (.str (sg a)), some (.str (bst b)), some (.str (btl b)), none, none] S = some (.nxt, [some (.str w), some (.str (sg a)), some (.str (bst b)), some (.str (btl b)), some (.int p), none], S) :=
      asg_eq (by rw [call_eq (evs_cons (var_eq rfl) evs_nil), q1]; rfl)
    rw [xs_nxt e1]
    have hcc : truth (ev Γ (.cmp .eq (.var 2) (.str "")) [some (.str w), some (.str (sg a)), some (.str (bst b)), some (.str (btl b)), some (.int p), none] S) = some (.ok (decide (bst b = "")), S) := by kernel_rfl
    cases b with
    | none =>
      rw [show decide (bst none = "") = true by decide +kernel] at hcc
      refine fin_xs_ret (ρ1 := [some (.str w), some (.str (sg a)), some (.str (bst none)), some (.str (btl none)), some (.int p), none]) ?_
      rw [iff_t hcc]
      kernel_rfl
    | some b =>
      rw [show decide (bst (some b) = "") = false from (by decide +kernel : decide (("/" : Str) = "") = false)] at hcc
      have lb : b.length ≤ 1000000 := by
        obtain ⟨_, h2⟩ := hcut
        have h2 : l = a ++ 47 :: b := h2
        rw [h2, List.length_append, List.length_cons] at hl
        omega
      rw [xs_nxt (ρ1 := [some (.str w), some (.str (sg a)), some (.str (bst (some b))), some (.str (btl (some b))), some (.int p), none]) (S1 := S) (by rw [iff_f hcc, xs_nil])]
      have qb := q2 b lb
      cases hb : figB b with
      | false =>
        rw [hb] at qb
        have e2 : ev Γ (.call c [.var 3]) [some (.str w), some (.str (sg a)), some (.str (bst (some b))), some (.str (btl (some b))), some (.int p), none] S = some (.ex ⟨x, []⟩, S) := by
          rw [call_eq (ws := [.str (sg b)]) (S1 := S) (by kernel_rfl), qb]
          rfl
        refine (fin_xs_ex (e := ⟨x, []⟩) (S1 := S) (ρ1 := [some (.str w), some (.str (sg a)), some (.str (bst (some b))), some (.str (btl (some b))), some (.int p), none]) ?_).trans ?_
        · rw [x1, e2]
          rfl
        · simp [orX, hb]
      | true =>
        rw [hb] at qb
        have e2 : x1 Γ (.asg 5 (.call c [.var 3])) [some (.str w), some (.str (sg a)), some (.str (bst (some b))), some (.str (btl (some b))), some (.int p), none] S = some (.nxt, [some (.str w), some (.str (sg a)), some (.str (bst (some b))), some (.str (btl (some b))), some (.int p), some (.int (numB b))], S) :=
          asg_eq (by rw [call_eq (ws := [.str (sg b)]) (S1 := S) (by kernel_rfl), qb]; rfl)
        rw [xs_nxt e2]
        have c1 : truth (ev Γ (.cmp .lt (.var 5) (.int 2)) [some (.str w), some (.str (sg a)), some (.str (bst (some b))), some (.str (btl (some b))), some (.int p), some (.int (numB b))] S) = some (.ok (decide ((numB b : Int) < 2)), S) := by kernel_rfl
        have lt := fig_lt hb
        have c2 : ev Γ (.cmp .ne (.call d [.var 4, .var 5]) (.int 1)) [some (.str w), some (.str (sg a)), some (.str (bst (some b))), some (.str (btl (some b))), some (.int p), some (.int (numB b))] S = some (.ok (.bl (!decide ((Int.gcd p (numB b) : Int) = 1))), S) :=
          cmp_eq (by rw [call_eq (evs_cons (var_eq rfl) (evs_cons (var_eq rfl) evs_nil)), q3 p (numB b) (by omega) (by omega)]) int_eq rfl
        have ors : ∀ r : Bool, evOr Γ [.cmp .lt (.var 5) (.int 2), .cmp .ne (.call d [.var 4, .var 5]) (.int 1)] [some (.str w), some (.str (sg a)), some (.str (bst (some b))), some (.str (btl (some b))), some (.int p), some (.int (numB b))] S = some (.ok (.bl r), S) →
            truth (ev Γ (.or [.cmp .lt (.var 5) (.int 2), .cmp .ne (.call d [.var 4, .var 5]) (.int 1)]) [some (.str w), some (.str (sg a)), some (.str (bst (some b))), some (.str (btl (some b))), some (.int p), some (.int (numB b))] S) = some (.ok r, S) := fun r h => tr_eq (by rw [ev]; exact h)
        by_cases hh : 2 ≤ numB b ∧ Int.gcd p (numB b) = 1
        · have o := ors false (or_f (by rw [c1, decide_eq_false (by omega)]) (by rw [evOr, c2, decide_eq_true (by omega)]; rfl))
          rw [xs_nxt (ρ1 := [some (.str w), some (.str (sg a)), some (.str (bst (some b))), some (.str (btl (some b))), some (.int p), some (.int (numB b))]) (S1 := S) (by rw [iff_f o, xs_nil])]
          refine Eq.trans (b := some (.ok (Pr p (numB b)), S)) (by kernel_rfl) (by simp [orX, prW, hh, hb])
        · have o : truth (ev Γ (.or [.cmp .lt (.var 5) (.int 2), .cmp .ne (.call d [.var 4, .var 5]) (.int 1)]) [some (.str w), some (.str (sg a)), some (.str (bst (some b))), some (.str (btl (some b))), some (.int p), some (.int (numB b))] S) = some (.ok true, S) := ors true (by
            refine (show evOr Γ (_ :: _ :: []) _ S = _ from ?_)
            by_cases h2 : (numB b : Int) < 2
            · rw [evOr, c1, decide_eq_true h2, bnd_ok]
              · rfl
              · simp
            · rw [evOr, c1, decide_eq_false h2, bnd_ok]
              · dsimp only
                rw [evOr, c2, decide_eq_false (fun z => hh ⟨by omega, by omega⟩)]
                rfl
              · simp)
          refine (fin_xs_ex (e := ⟨x, []⟩) (S1 := S) (ρ1 := [some (.str w), some (.str (sg a)), some (.str (bst (some b))), some (.str (btl (some b))), some (.int p), some (.int (numB b))]) ?_).trans ?_
          · rw [iff_t o]
            kernel_rfl
          · simp [orX, hh]
end
end Ip

namespace K04
open PySem PySem.Spec PyProof.Rows L2 Ip
abbrev R : PySem.W.OpenRow := PySem.W.OpenLaw.row PySem.Challenge.rw_chanceduel_k04_fractions_read
def top (i : Nat) : Stmt := PySem.Challenge.pw_chanceduel_k04_fractions_read.main.body.getD i (.Pass ⟨0, 0, 0, 0⟩)
/-- law('_law_script', '_law_k', '_law_text_here', '_law_j') -/
def b_law : List Sx := [.for [1] .range1 [.bif .max2 [.int 1, .bif .min2 [.bif .len [.var 0], .int 20]]] [.asg 2 (.call 1 [.lc (.call 2 [.var 0, .bin .add (.var 1) (.var 3)]) [3] .range1 [.int 3] []]), .iff (.not (.call 3 [.var 2])) [.ret (.bl false)] []], .ret (.bl true)]
/-- _law_text('_law_cells', '_law_head', '_law_stroke', '_law_tail', '_law_text_here') -/
def b__law_text : List Sx := [.asg 1 (.idx (.lst [.str "", .str "", .str "", .str "-", .str "-", .str "--", .str "+", .str " "]) (.bin .mod (.idx (.var 0) (.int 0)) (.int 8))), .asg 2 (.idx (.lst [.str "", .str "/", .str "/", .str "/", .str "/", .str "//", .str "/-", .str " /"]) (.bin .mod (.idx (.var 0) (.int 1)) (.int 8))), .asg 3 (.idx (.lst [.str "", .str "", .str "", .str "", .str "", .str " ", .str "a", .str "\n"]) (.bin .mod (.idx (.var 0) (.int 2)) (.int 8))), .asg 4 (.bin .add (.bin .add (.var 1) (.call 4 [.bin .fdiv (.idx (.var 0) (.int 0)) (.int 8), .int 0])) (.var 2)), .iff (.cmp .ne (.var 2) (.str "")) [.asg 4 (.bin .add (.var 4) (.call 4 [.bin .fdiv (.idx (.var 0) (.int 1)) (.int 8), .bin .fdiv (.idx (.var 0) (.int 0)) (.int 8)]))] [], .ret (.bin .add (.var 4) (.var 3))]
/-- _law_nth('_law_script', '_law_k') -/
def b__law_nth : List Sx := [.ret (.ite (.cmp .lt (.var 1) (.bif .len [.var 0])) (.idx (.var 0) (.var 1)) (.int 0))]
/-- _law_right('_law_text_here', '_law_due_here', '_law_seen', '_law_found', 'e', '_law_others') -/
def b__law_right : List Sx := [.asg 1 (.call 5 [.var 0]), .asg 2 .non, .asg 3 .non, .tryAs [.asg 3 (.call 6 [.var 0])] 0 4 [.asg 5 (.lst [.isi (.var 4) (.own 1), .isi (.var 4) (.own 2), .isi (.var 4) (.own 3), .isi (.var 4) (.own 4)]), .asg 5 (.bin .add (.var 5) (.lst [.isi (.var 4) (.own 5), .isi (.var 4) (.own 6), .isi (.var 4) (.own 7)])), .asg 5 (.bin .add (.var 5) (.lst [.isi (.var 4) (.own 8), .isi (.var 4) (.own 9)])), .asg 2 (.tup [.isi (.var 4) (.own 10), .bif .any [.var 5]])], .iff (.cmp .isN (.var 1) .non) [.ret (.cmp .eq (.var 2) (.tup [.bl true, .bl false]))] [], .iff (.or [.cmp .notN (.var 2) .non, .not (.isi (.var 3) .tuple), .cmp .ne (.bif .len [.var 3]) (.int 2)]) [.ret (.bl false)] [], .ret (.and [.call 7 [.idx (.var 3) (.int 0)], .call 7 [.idx (.var 3) (.int 1)], .cmp .eq (.var 3) (.var 1)])]
/-- _law_figures('_law_cell', '_law_ahead', '_law_way', '_law_number', '_law_text_here', '_law_at') -/
def b__law_figures : List Sx := [.asg 2 (.bin .mod (.var 0) (.int 8)), .asg 3 (.bin .mod (.bin .fdiv (.var 0) (.int 24)) (.int 100)), .iff (.cmp .eq (.var 2) (.int 1)) [.asg 3 (.bin .add (.idx (.lst [.bin .pow (.int 10) (.int 58), .bin .pow (.int 10) (.int 59), .bin .pow (.int 10) (.int 60)]) (.bin .mod (.bin .fdiv (.var 0) (.int 24)) (.int 3))) (.bin .mod (.bin .fdiv (.var 0) (.int 72)) (.bin .pow (.int 10) (.int 50))))] [], .iff (.cmp .eq (.var 2) (.int 2)) [.asg 3 (.bin .mul (.int 2) (.bin .mod (.bin .fdiv (.var 1) (.int 24)) (.int 100)))] [], .iff (.and [.cmp .eq (.var 2) (.int 3), .cmp .eq (.bin .mod (.bin .fdiv (.var 0) (.int 24)) (.int 4)) (.int 0)]) [.ret (.str "")] [], .iff (.cmp .eq (.var 2) (.int 5)) [.asg 4 (.bif .str [.var 3]), .asg 5 (.bin .mod (.bin .fdiv (.var 0) (.int 2400)) (.bin .add (.bif .len [.var 4]) (.int 1))), .ret (.bin .add (.bin .add (.slc (.var 4) [] [.var 5]) (.idx (.str "_.,e+-x ") (.bin .mod (.bin .fdiv (.var 0) (.int 9600)) (.int 8)))) (.slc (.var 4) [.var 5] []))] [], .ret (.bin .add (.bin .add (.idx (.lst [.str "", .str "", .str "0"]) (.bin .mod (.bin .fdiv (.var 0) (.int 8)) (.int 3))) (.idx (.lst [.str "", .str "0"]) (.bif .int [.cmp .eq (.var 2) (.int 4)]))) (.bif .str [.var 3]))]
/-- _law_due('_law_text_here', '_law_head', '_law_stroke', '_law_tail', '_law_plain') -/
def b__law_due : List Sx := [.unp [1, 2, 3] (.bm (.var 0) .partition [.str "/"]), .asg 4 (.var 1), .iff (.cmp .eq (.slc (.var 1) [] [.int 1]) (.str "-")) [.asg 4 (.slc (.var 1) [.int 1] [])] [], .iff (.or [.not (.call 8 [.var 4]), .cmp .eq (.var 1) (.str "-0")]) [.ret .non] [], .iff (.cmp .eq (.var 2) (.str "")) [.ret (.tup [.bif .int [.var 1], .int 1])] [], .iff (.or [.not (.call 8 [.var 3]), .cmp .lt (.bif .int [.var 3]) (.int 2), .cmp .ne (.call 9 [.bif .int [.var 1], .bif .int [.var 3]]) (.int 1)]) [.ret .non] [], .ret (.tup [.bif .int [.var 1], .bif .int [.var 3]])]
/-- read_fraction('text', 'first', 'stroke', 'last', 'top', 'bottom') -/
def b_read_fraction : List Sx := [.unp [1, 2, 3] (.bm (.var 0) .partition [.str "/"]), .asg 4 (.call 10 [.var 1]), .iff (.cmp .eq (.var 2) (.str "")) [.ret (.tup [.var 4, .int 1])] [], .asg 5 (.call 11 [.var 3]), .iff (.or [.cmp .lt (.var 5) (.int 2), .cmp .ne (.call 12 [.var 4, .var 5]) (.int 1)]) [.raise 10 [] []] [], .ret (.tup [.var 4, .var 5])]
/-- _law_whole('_law_found',) -/
def b__law_whole : List Sx := [.ret (.and [.isi (.var 0) .int, .not (.isi (.var 0) .bool)])]
/-- _law_are_figures('_law_text_here', '_law_sign') -/
def b__law_are_figures : List Sx := [.iff (.or [.cmp .eq (.var 0) (.str ""), .cmp .gt (.bif .len [.var 0]) (.int 60), .and [.cmp .eq (.idx (.var 0) (.int 0)) (.str "0"), .cmp .ne (.var 0) (.str "0")]]) [.ret (.bl false)] [], .ret (.bif .all [.lc (.cmp .isin (.var 1) (.str "0123456789")) [1] .val [.var 0] []])]
/-- _law_gcd('_law_one', '_law_other', '_law_found', '_law_rest') -/
def b__law_gcd : List Sx := [.asg 2 (.bif .abs [.var 0]), .asg 3 (.bif .abs [.var 1]), .while (.cmp .gt (.var 3) (.int 0)) [.par 2 3 (.var 3) (.bin .mod (.var 2) (.var 3))], .ret (.var 2)]
/-- read_top('text',) -/
def b_read_top : List Sx := [.iff (.cmp .ne (.slc (.var 0) [] [.int 1]) (.str "-")) [.ret (.call 11 [.var 0])] [], .iff (.cmp .eq (.var 0) (.str "-0")) [.raise 10 [] []] [], .ret (.bin .sub (.int 0) (.call 11 [.slc (.var 0) [.int 1] []]))]
/-- read_count('text',) -/
def b_read_count : List Sx := [.iff (.not (.call 13 [.var 0])) [.raise 10 [] []] [], .ret (.bif .int [.var 0])]
/-- divisor('one', 'other') -/
def b_divisor : List Sx := [.while (.cmp .ne (.var 1) (.int 0)) [.par 0 1 (.var 1) (.bin .mod (.var 0) (.var 1))], .ret (.bif .abs [.var 0])]
/-- is_figures('text', 'sign') -/
def b_is_figures : List Sx := [.iff (.or [.cmp .eq (.var 0) (.str ""), .cmp .gt (.bif .len [.var 0]) (.int 60)]) [.ret (.bl false)] [], .for [1] .val [.var 0] [.iff (.cmp .notin (.var 1) (.glob 0)) [.ret (.bl false)] []], .ret (.or [.cmp .eq (.var 0) (.str "0"), .cmp .ne (.idx (.var 0) (.int 0)) (.str "0")])]
def T : Tab where
  fns := [⟨1, 4, b_law⟩, ⟨1, 5, b__law_text⟩, ⟨2, 2, b__law_nth⟩, ⟨1, 6, b__law_right⟩, ⟨2, 6, b__law_figures⟩, ⟨1, 5, b__law_due⟩, ⟨1, 6, b_read_fraction⟩, ⟨1, 1, b__law_whole⟩, ⟨1, 2, b__law_are_figures⟩, ⟨2, 4, b__law_gcd⟩, ⟨1, 1, b_read_top⟩, ⟨1, 1, b_read_count⟩, ⟨2, 2, b_divisor⟩, ⟨1, 2, b_is_figures⟩]
  cls := [{ ups := [0] }, { ups := [1, 0] }, { ups := [2, 0] }, { ups := [3, 0] }, { ups := [4, 0] }, { ups := [5, 0] }, { ups := [6, 0] }, { ups := [7, 0] }, { ups := [8, 0] }, { ups := [9, 0] }, { ups := [10, 0] }]
  globs := [.str "0123456789"]
def dd : List DI := [⟨⟨("law", none), "law", "law", defArgs (top 29), defBody (top 29), defScope (top 29), [], []⟩, ["_law_script", "_law_k", "_law_text_here", "_law_j"], ["_law_script"]⟩,
  ⟨⟨("_law_text", none), "_law_text", "_law_text", defArgs (top 23), defBody (top 23), defScope (top 23), [], []⟩, ["_law_cells", "_law_head", "_law_stroke", "_law_tail", "_law_text_here"], ["_law_cells"]⟩,
  ⟨⟨("_law_nth", none), "_law_nth", "_law_nth", defArgs (top 21), defBody (top 21), defScope (top 21), [], []⟩, ["_law_script", "_law_k"], ["_law_script", "_law_k"]⟩,
  ⟨⟨("_law_right", none), "_law_right", "_law_right", defArgs (top 28), defBody (top 28), defScope (top 28), [], []⟩, ["_law_text_here", "_law_due_here", "_law_seen", "_law_found", "e", "_law_others"], ["_law_text_here"]⟩,
  ⟨⟨("_law_figures", none), "_law_figures", "_law_figures", defArgs (top 22), defBody (top 22), defScope (top 22), [], []⟩, ["_law_cell", "_law_ahead", "_law_way", "_law_number", "_law_text_here", "_law_at"], ["_law_cell", "_law_ahead"]⟩,
  ⟨⟨("_law_due", none), "_law_due", "_law_due", defArgs (top 26), defBody (top 26), defScope (top 26), [], []⟩, ["_law_text_here", "_law_head", "_law_stroke", "_law_tail", "_law_plain"], ["_law_text_here"]⟩,
  ⟨⟨("read_fraction", none), "read_fraction", "read_fraction", defArgs (top 19), defBody (top 19), defScope (top 19), [], []⟩, ["text", "first", "stroke", "last", "top", "bottom"], ["text"]⟩,
  ⟨⟨("_law_whole", none), "_law_whole", "_law_whole", defArgs (top 27), defBody (top 27), defScope (top 27), [], []⟩, ["_law_found"], ["_law_found"]⟩,
  ⟨⟨("_law_are_figures", none), "_law_are_figures", "_law_are_figures", defArgs (top 25), defBody (top 25), defScope (top 25), [], []⟩, ["_law_text_here", "_law_sign"], ["_law_text_here"]⟩,
  ⟨⟨("_law_gcd", none), "_law_gcd", "_law_gcd", defArgs (top 24), defBody (top 24), defScope (top 24), [], []⟩, ["_law_one", "_law_other", "_law_found", "_law_rest"], ["_law_one", "_law_other"]⟩,
  ⟨⟨("read_top", none), "read_top", "read_top", defArgs (top 18), defBody (top 18), defScope (top 18), [], []⟩, ["text"], ["text"]⟩,
  ⟨⟨("read_count", none), "read_count", "read_count", defArgs (top 17), defBody (top 17), defScope (top 17), [], []⟩, ["text"], ["text"]⟩,
  ⟨⟨("divisor", none), "divisor", "divisor", defArgs (top 13), defBody (top 13), defScope (top 13), [], []⟩, ["one", "other"], ["one", "other"]⟩,
  ⟨⟨("is_figures", none), "is_figures", "is_figures", defArgs (top 16), defBody (top 16), defScope (top 16), [], []⟩, ["text", "sign"], ["text"]⟩]
def i0 : DI := match dd with
  | i :: _ => i
  | [] => ⟨⟨("law", none), "law", "law", defArgs (top 0), [], defScope (top 0), [], []⟩, [], []⟩
def M : Mx where
  m := { T := T, dd := dd, fnm := [some "law", some "_law_text", some "_law_nth", some "_law_right", some "_law_figures", some "_law_due", some "read_fraction", some "_law_whole", some "_law_are_figures", some "_law_gcd", some "read_top", some "read_count", some "divisor", some "is_figures"], cnm := ["DuelError", "NoNumber", "NoName", "NoFloor", "NoRow", "NoPlace", "NoPlan", "NoGoal", "NoAnswer", "ManyAnswers", "NoText"], gnm := ["FIGURES"], mnm := [], mks := [], cts := [0], rs := [10] }
  xcs := [10]
theorem mo : MoOk M.m := moB_ok (by decide +kernel)
theorem hd : headB M = true := by decide +kernel
abbrev hk : PySem.W.Hook := He.hookX 4 M.fa M.fn [] [] (exB M)
def ob (s : PySem.W.SharedT) : He.AlX := He.obsX 4 M.fa M.fn [] [] (exB M) (HandSHeadRun.getT s)
theorem ob_eq (s : PySem.W.SharedT) : ob s = hk.obs s.abs := He.obsX_eq (HandSHeadRun.getT_eq s)
def loose : List Str := (["DuelError", "NoNumber", "NoText", "NoName", "NoFloor", "NoPlace", "NoAnswer", "ManyAnswers", "NoPlan", "NoGoal", "NoRow", "divisor", "FIGURES", "is_figures", "read_count", "read_top", "read_fraction", "_law_nth", "_law_figures", "_law_text", "_law_gcd", "_law_are_figures", "_law_due", "_law_whole", "_law_right"] : List Str)
def lawIx : Nat := 29
theorem run (w : World) : HandSHeadRun.RunEq R (PySem.W.view R.prog [29]) hk ob 15000 loose w := by
  intro os
  kernel_rfl
end K04
namespace K04
open Ip
open PySem (Str)
/-! PURE -/
theorem g0 : T.fns[0]? = some ⟨1, 4, b_law⟩ := rfl
theorem g1 : T.fns[1]? = some ⟨1, 5, b__law_text⟩ := rfl
theorem g2 : T.fns[2]? = some ⟨2, 2, irNth⟩ := rfl
theorem g3 : T.fns[3]? = some ⟨1, 6, b__law_right⟩ := rfl
theorem g4 : T.fns[4]? = some ⟨2, 6, b__law_figures⟩ := rfl
theorem g5 : T.fns[5]? = some ⟨1, 5, b__law_due⟩ := rfl
theorem g7 : T.fns[7]? = some ⟨1, 1, irWhole⟩ := rfl
theorem g8 : T.fns[8]? = some ⟨1, 2, b__law_are_figures⟩ := rfl
theorem g9 : T.fns[9]? = some ⟨2, 4, irGcd⟩ := rfl
theorem gG : T.globs[0]? = some (.str "0123456789") := rfl
/-- [elt for t in a text] -/
theorem lc_text {Γ : Gam} {ρ : Env} {S : Store} {elt e : Ex} {t : Nat} {l : List Nat} {vals : Nat → W} (h : ev Γ e ρ S = some (.ok (.str (sg l)), S)) (hl : l.length ≤ 1000000)
    (he : ∀ (i c : Nat), l[i]? = some c → ev Γ elt (ρ.set t (some (.str ⟨#[c]⟩))) S = some (.ok (vals i), S)) : ev Γ (.lc elt [t] .val [e] []) ρ S = some (.ok (.loc S.length), S ++ [.lst ((List.range l.length).map vals)]) := by
  have hsrc : srcOf .val S [.str (sg l)] = some (.fixed (l.map fun c => .str ⟨#[c]⟩)) := by
    show some (Src.fixed ((sg l).cps.toList.map fun c => W.str ⟨#[c]⟩)) = _
    rw [tl_sg]
  rw [ev, evs_cons h evs_nil, bnd_ok]
  simp only [hsrc]
  rw [lcL_map (vals := vals) (ws := l.map fun c => W.str ⟨#[c]⟩) (S := S) (fun i w hw => by
    rw [List.getElem?_map] at hw
    obtain ⟨c, h3, h4⟩ := Option.map_eq_some_iff.mp hw
    subst h4
    simp only [setT, evAll, rok_eq, bnd_ok, he i c h3]) big 0 (Nat.zero_le _) (by rw [big_eq]; simp; omega)]
  simp
  omega
theorem range_map {l : List Nat} {f : Nat → W} : ((List.range l.length).map fun i => f (l.getD i 0)) = l.map f := by
  apply List.ext_getElem
  · simp
  · intro i h1 h2
    simp at h1
    simp [h1]
theorem bls_map {l : List Nat} {p : Nat → Bool} : blsOf (l.map fun c => W.bl (p c)) = some (l.map p) := by
  induction l with
  | nil => rfl
  | cons c r ih =>
    show (blsOf (r.map fun c => W.bl (p c))).map (p c :: ·) = _
    rw [ih]
    rfl
theorem are_ok {k : Nat} {S : Store} {l : List Nat} (hl : l.length ≤ 1000000) : ∃ S', T.callF (k + 2) 8 [.str (sg l)] S = some (.ok (.bl (figB l)), S ++ S') := by
  rw [callF_eq g8 rfl]
  generalize T.gam (T.callF (k + 1)) (T.callF k) = Γ
  show ∃ S', fin (xs Γ b__law_are_figures [some (.str (sg l)), none] S) = _
  unfold b__law_are_figures
  have c1 : truth (ev Γ (.cmp .eq (.var 0) (.str "")) [some (.str (sg l)), none] S) = some (.ok (decide (sg l = "")), S) := by kernel_rfl
  have ee : (sg l = "") ↔ l = [] := ⟨fun e => by rw [empty0] at e; exact sg_inj e, fun e => by subst e; exact empty0.symm⟩
  have e48 : (sg l = "0") ↔ l = [48] := ⟨fun e => by rw [nought] at e; exact sg_inj e, fun e => by subst e; exact nought.symm⟩
  have hlen : ∀ S : Store, bfn .len S [.str (sg l)] = some (.int l.length, S) := fun S => by
    show (if (sg l).length ≤ 16777216 then some (W.int (sg l).length, S) else none) = _
    rw [sg_len, if_pos (by omega)]
  have c2 : truth (ev Γ (.cmp .gt (.bif .len [.var 0]) (.int 60)) [some (.str (sg l)), none] S) = some (.ok (decide ((60 : Int) < l.length)), S) :=
    tr_eq (cmp_eq (bif_eq (evs_cons (var_eq rfl) evs_nil) (hlen S)) int_eq rfl)
  have bad : truth (ev Γ (.or [.cmp .eq (.var 0) (.str ""), .cmp .gt (.bif .len [.var 0]) (.int 60), .and [.cmp .eq (.idx (.var 0) (.int 0)) (.str "0"), .cmp .ne (.var 0) (.str "0")]]) [some (.str (sg l)), none] S) = some (.ok (!(!l.isEmpty && decide (l.length ≤ 60) && (decide (l = [48]) || decide (l.head? ≠ some 48)))), S) := by
    refine tr_eq ?_
    rw [ev]
    refine (show evOr Γ (_ :: _ :: _ :: []) _ S = _ from ?_)
    cases l with
    | nil =>
      rw [evOr, c1, decide_eq_true (ee.mpr rfl), bnd_ok]
      · rfl
      · simp
    | cons c r =>
      rw [evOr, c1, decide_eq_false (fun z => by cases ee.mp z), bnd_ok]
      · dsimp only
        by_cases h60 : (c :: r).length ≤ 60
        · rw [evOr, c2, decide_eq_false (by omega), bnd_ok]
          · dsimp only
            have hi : ev Γ (.idx (.var 0) (.int 0)) [some (.str (sg (c :: r))), none] S = some (.ok (.str ⟨#[c]⟩), S) := by
              unfold ev
              rw [var_eq (w := .str (sg (c :: r))) rfl, bnd_ok, int_eq, bnd_ok]
              show (match (if (sg (c :: r)).length ≤ 16777216 then (L2.atI (sg (c :: r)).cps.toList 0).map fun c => W.str ⟨#[c]⟩ else none) with
                | some w => rok w S
                | none => none) = _
              rw [sg_len, if_pos (by omega), tl_sg, atI_nat (by decide) (by simp)]
              rfl
            have e3 : ((⟨#[c]⟩ : Str) = "0") ↔ c = 48 := ⟨fun e => by
              rw [nought] at e
              have := sg_inj (a := [c]) (b := [48]) e
              simpa using this, fun e => by subst e; exact nought.symm⟩
            have t1 : truth (ev Γ (.cmp .eq (.idx (.var 0) (.int 0)) (.str "0")) [some (.str (sg (c :: r))), none] S) = some (.ok (decide ((⟨#[c]⟩ : Str) = "0")), S) :=
              tr_eq (cmp_eq hi (by kernel_rfl : ev Γ (.str "0") _ S = some (.ok (.str "0"), S)) rfl)
            have t2 : ev Γ (.cmp .ne (.var 0) (.str "0")) [some (.str (sg (c :: r))), none] S = some (.ok (.bl (!decide (sg (c :: r) = "0"))), S) := by kernel_rfl
            rw [evOr, ev]
            refine (show evAnd Γ (_ :: _ :: []) _ S = _ from ?_)
            by_cases hc : c = 48
            · rw [and_t (by rw [t1, decide_eq_true (e3.mpr hc)]), evAnd, t2]
              by_cases h48 : c :: r = [48]
              · rw [decide_eq_true (e48.mpr h48)]
                simp [h48]
              · rw [decide_eq_false (fun z => h48 (e48.mp z))]
                have : ¬ (c = 48 ∧ r = []) := fun z => h48 (by rw [z.1, z.2])
                simp [hc] at this ⊢
                simp [this]
            · rw [evAnd, t1, decide_eq_false (fun z => hc (e3.mp z)), bnd_ok]
              · simp [hc]
                simp at h60
                exact h60
              · simp
          · simp
        · rw [evOr, c2, decide_eq_true (by omega), bnd_ok]
          · simp
            simp at h60
            exact .inl h60
          · simp
      · simp
  unfold figB
  generalize hG : (!l.isEmpty && decide (l.length ≤ 60) && (decide (l = [48]) || decide (l.head? ≠ some 48))) = gd at bad
  have hcomb : (!l.isEmpty && decide (l.length ≤ 60) && l.all isD && (decide (l = [48]) || decide (l.head? ≠ some 48))) = (gd && l.all isD) := by
    rw [← hG]
    cases (!l.isEmpty && decide (l.length ≤ 60)) <;> cases l.all isD <;> cases (decide (l = [48]) || decide (l.head? ≠ some 48)) <;> rfl
  rw [hcomb]
  cases gd with
  | false =>
    refine ⟨[], ?_⟩
    rw [List.append_nil]
    refine fin_xs_ret (ρ1 := [some (.str (sg l)), none]) ?_
    rw [iff_t bad]
    kernel_rfl
  | true =>
    refine ⟨[.lst (l.map fun c => .bl (isD c))], ?_⟩
    rw [xs_nxt (ρ1 := [some (.str (sg l)), none]) (S1 := S) (by rw [iff_f bad, xs_nil])]
    have el : ev Γ (.lc (.cmp .isin (.var 1) (.str "0123456789")) [1] .val [.var 0] []) [some (.str (sg l)), none] S = some (.ok (.loc S.length), S ++ [.lst ((List.range l.length).map fun i => .bl (isD (l.getD i 0)))]) :=
      lc_text (var_eq rfl) hl fun i c hc => by
        show ev Γ _ [some (.str (sg l)), some (.str ⟨#[c]⟩)] S = _
        have e : l.getD i 0 = c := by rw [List.getD_eq_getElem?_getD, hc]; rfl
        rw [e]
        refine cmp_eq (var_eq rfl) (by kernel_rfl : ev Γ (.str "0123456789") _ S = some (.ok (.str "0123456789"), S)) ?_
        show some (decide (c ∈ ("0123456789" : Str).cps.toList)) = _
        rw [figs, tl_sg]
        unfold isD
        congr 1
        exact decide_eq_decide.mpr figs_mem
    rw [range_map (f := fun c => W.bl (isD c))] at el
    refine fin_xs_ret (ret_eq (bif_eq (evs_cons el evs_nil) ?_))
    show (match (listAt (S ++ [Cell.lst (l.map fun c => .bl (isD c))]) S.length).bind blsOf with
      | some bs => some (W.bl (bs.all id), S ++ [Cell.lst (l.map fun c => .bl (isD c))])
      | none => none) = _
    rw [at_new, Option.bind_some, bls_map]
    simp [List.all_map]
theorem digitsOf {l : List Nat} (h : figB l = true) : PySem.NumText.AllDigits l ∧ l ≠ [] ∧ l.length ≤ 60 := by
  unfold figB at h
  have b := Bool.and_eq_true_iff.mp h
  have b1 := Bool.and_eq_true_iff.mp b.1
  have b2 := Bool.and_eq_true_iff.mp b1.1
  refine ⟨fun c hc => of_decide_eq_true (List.all_eq_true.mp b1.2 c hc), fun e => ?_, of_decide_eq_true b2.2⟩
  subst e
  cases b2.1
theorem int_fig {S : Store} {l : List Nat} (h : figB l = true) : bfn .int S [.str (sg l)] = some (.int (numB l), S) := by
  obtain ⟨h1, h2, h3⟩ := digitsOf h
  show (if (sg l).length ≤ 640 then (PySem.intText? (sg l)).map fun n => (W.int n, S) else none) = _
  rw [sg_len, if_pos (by omega), PySem.intText_digits (by rw [tl_sg]; exact h1) (by rw [tl_sg]; exact h2) (by rw [sg_len]; omega), tl_sg]
  rfl
theorem int_top {S : Store} {a : List Nat} {p : Int} (h : topv a = some p) : bfn .int S [.str (sg a)] = some (.int p, S) := by
  unfold topv at h
  split at h
  · rename_i h45
    split at h
    · cases h
    · split at h
      · rename_i hf
        cases h
        cases a with
        | nil => cases h45
        | cons c r =>
          have ec : c = 45 := by simpa using h45
          subst ec
          obtain ⟨h1, h2, h3⟩ := digitsOf (l := r) hf
          show (if (sg (45 :: r)).length ≤ 640 then (PySem.intText? (sg (45 :: r))).map fun n => (W.int n, S) else none) = _
          rw [sg_len, if_pos (by simp; omega), PySem.intText_neg (cs := r) (tl_sg _) h1 h2 (by rw [sg_len]; simp; omega)]
          rfl
      · cases h
  · split at h
    · rename_i hf
      cases h
      exact int_fig hf
    · cases h
def plain (a : List Nat) : List Nat := if a.take 1 = [45] then a.drop 1 else a
theorem top_none {a : List Nat} : (figB (plain a) = false ∨ a = [45, 48]) ↔ topv a = none := by
  unfold plain topv
  by_cases h : a.take 1 = [45]
  · rw [if_pos h, if_pos h]
    by_cases h2 : a = [45, 48]
    · simp [h2]
    · rw [if_neg h2]
      cases figB (a.drop 1) <;> simp [h2]
  · rw [if_neg h, if_neg h]
    have : a ≠ [45, 48] := fun e => h (by rw [e]; rfl)
    cases figB a <;> simp [this]
def dueW (a : List Nat) (b : Option (List Nat)) : W := match rdv a b with
  | some p => prW p
  | none => .non
theorem due_ok {k : Nat} {S : Store} {l a : List Nat} {b : Option (List Nat)} (hcut : Cut l a b) (hl : l.length ≤ 1000000) : ∃ S', T.callF (k + 4) 5 [.str (sg l)] S = some (.ok (dueW a b), S ++ S') := by
  rw [callF_eq g5 rfl]
  have la : a.length ≤ 1000000 := by
    obtain ⟨_, h2⟩ := hcut
    cases b with
    | none => have h2 : l = a := h2; rw [← h2]; exact hl
    | some b => have h2 : l = a ++ 47 :: b := h2; rw [h2, List.length_append] at hl; omega
  have q8 : ∀ (S : Store) (l : List Nat), l.length ≤ 1000000 → ∃ S', (T.gam (T.callF (k + 3)) (T.callF (k + 2))).call 8 [.str (sg l)] S = some (.ok (.bl (figB l)), S ++ S') := fun S l h => are_ok (k := k + 1) h
  have q9 : ∀ (S : Store) (p q : Int), q.natAbs < 2 ^ 210 → (T.gam (T.callF (k + 3)) (T.callF (k + 2))).call 9 [.int p, .int q] S = some (.ok (.int (Int.gcd p q)), S) := fun S p q h => gcd_ok (k := k + 1) g9 (L := 210) (by decide) h
  generalize T.gam (T.callF (k + 3)) (T.callF (k + 2)) = Γ at q8 q9 ⊢
  show ∃ S', fin (xs Γ b__law_due [some (.str (sg l)), none, none, none, none] S) = _
  unfold b__law_due
  have e0 : x1 Γ (.unp [1, 2, 3] (.bm (.var 0) .partition [.str "/"])) [some (.str (sg l)), none, none, none, none] S = some (.nxt, [some (.str (sg l)), some (.str (sg a)), some (.str (bst b)), some (.str (btl b)), none], S) := by
    have e : ev Γ (.bm (.var 0) .partition [.str "/"]) [some (.str (sg l)), none, none, none, none] S = some (.ok (.tup [.str (sg a), .str (bst b), .str (btl b)]), S) := by
      have z : ev Γ (.bm (.var 0) .partition [.str "/"]) [some (.str (sg l)), none, none, none, none] S = lift (if ((("/" : Str).length == 0) = false ∧ (sg l).length ≤ 16777216) then some (.tup [.str (PySem.Txt.partition (sg l) "/").1, .str (PySem.Txt.partition (sg l) "/").2.1, .str (PySem.Txt.partition (sg l) "/").2.2], S) else none) := by kernel_rfl
      rw [z, cut_part hcut, sg_len, if_pos ⟨by decide +kernel, by omega⟩]
      rfl
    exact unp_eq e rfl
  rw [xs_nxt e0]
  generalize sg l = w
  rw [xs_nxt (ρ1 := [some (.str w), some (.str (sg a)), some (.str (bst b)), some (.str (btl b)), some (.str (sg a))]) (S1 := S) (by kernel_rfl)]
  have s2 : x1 Γ (.iff (.cmp .eq (.slc (.var 1) [] [.int 1]) (.str "-")) [.asg 4 (.slc (.var 1) [.int 1] [])] []) [some (.str w), some (.str (sg a)), some (.str (bst b)), some (.str (btl b)), some (.str (sg a))] S = some (.nxt, [some (.str w), some (.str (sg a)), some (.str (bst b)), some (.str (btl b)), some (.str (sg (plain a)))], S) := by
    have slc1 : ev Γ (.slc (.var 1) [] [.int 1]) [some (.str w), some (.str (sg a)), some (.str (bst b)), some (.str (btl b)), some (.str (sg a))] S = some (.ok (.str (sg (a.take 1))), S) := by
      have z : ev Γ (.slc (.var 1) [] [.int 1]) [some (.str w), some (.str (sg a)), some (.str (bst b)), some (.str (btl b)), some (.str (sg a))] S = lift (if (sg a).length ≤ 16777216 then some (W.str (L2.cutS (sg a) none (some 1)), S) else none) := by kernel_rfl
      rw [z, sg_len, if_pos (by omega), cut1]
      rfl
    have c1 : truth (ev Γ (.cmp .eq (.slc (.var 1) [] [.int 1]) (.str "-")) [some (.str w), some (.str (sg a)), some (.str (bst b)), some (.str (btl b)), some (.str (sg a))] S) = some (.ok (decide (sg (a.take 1) = ("-" : Str))), S) :=
      tr_eq (cmp_eq slc1 (by kernel_rfl : ev Γ (.str "-") _ S = some (.ok (.str "-"), S)) rfl)
    have e45 : (sg (a.take 1) = ("-" : Str)) ↔ a.take 1 = [45] := ⟨fun e => by rw [minus1] at e; exact sg_inj e, fun e => by rw [e]; exact minus1.symm⟩
    unfold plain
    by_cases h45 : a.take 1 = [45]
    · rw [iff_t (tr_t c1 (e45.mpr h45)), if_pos h45]
      cases a with
      | nil => cases h45
      | cons c r =>
        have z : ev Γ (.slc (.var 1) [.int 1] []) [some (.str w), some (.str (sg (c :: r))), some (.str (bst b)), some (.str (btl b)), some (.str (sg (c :: r)))] S = lift (if (sg (c :: r)).length ≤ 16777216 then some (W.str (L2.cutS (sg (c :: r)) (some 1) none), S) else none) := by kernel_rfl
        rw [sg_len, if_pos (by omega), cutTail] at z
        rw [xs_nxt (asg_eq z), xs_nil]
        rfl
    · rw [iff_f (tr_f c1 (fun z => h45 (e45.mp z))), if_neg h45, xs_nil]
  rw [xs_nxt s2]
  have lp : (plain a).length ≤ 1000000 := by
    unfold plain
    split
    · rw [List.length_drop]; omega
    · exact la
  obtain ⟨S1, h8⟩ := q8 S (plain a) lp
  have n8 : truth (ev Γ (.not (.call 8 [.var 4])) [some (.str w), some (.str (sg a)), some (.str (bst b)), some (.str (btl b)), some (.str (sg (plain a)))] S) = some (.ok (!figB (plain a)), S ++ S1) :=
    tr_eq (not_eq (by rw [call_eq (evs_cons (var_eq rfl) evs_nil), h8]))
  have c48 : truth (ev Γ (.cmp .eq (.var 1) (.str "-0")) [some (.str w), some (.str (sg a)), some (.str (bst b)), some (.str (btl b)), some (.str (sg (plain a)))] (S ++ S1)) = some (.ok (decide (sg a = "-0")), S ++ S1) := by kernel_rfl
  have e48 : (sg a = ("-0" : Str)) ↔ a = [45, 48] := ⟨fun e => by rw [minus0] at e; exact sg_inj e, fun e => by rw [e]; exact minus0.symm⟩
  have cond : truth (ev Γ (.or [.not (.call 8 [.var 4]), .cmp .eq (.var 1) (.str "-0")]) [some (.str w), some (.str (sg a)), some (.str (bst b)), some (.str (btl b)), some (.str (sg (plain a)))] S) = some (.ok (decide (topv a = none)), S ++ S1) := by
    refine tr_eq ?_
    rw [ev]
    refine (show evOr Γ (_ :: _ :: []) _ S = _ from ?_)
    cases hf : figB (plain a) with
    | false =>
      rw [hf] at n8
      rw [evOr, n8, bnd_ok, decide_eq_true (top_none.mp (.inl hf))]
      · rfl
      · simp
    | true =>
      rw [hf] at n8
      rw [evOr, n8, bnd_ok]
      · try dsimp only
        rw [evOr]
        have : decide (sg a = "-0") = decide (topv a = none) := decide_eq_decide.mpr (e48.trans ⟨fun e => top_none.mp (.inr e), fun e => (top_none.mpr e).elim (fun z => by rw [hf] at z; cases z) id⟩)
        rw [← this]
        kernel_rfl
      · simp
  unfold dueW rdv
  cases hp : topv a with
  | none =>
    refine ⟨S1, ?_⟩
    rw [hp] at cond
    refine fin_xs_ret (ρ1 := [some (.str w), some (.str (sg a)), some (.str (bst b)), some (.str (btl b)), some (.str (sg (plain a)))]) ?_
    rw [iff_t (tr_t cond rfl)]
    kernel_rfl
  | some p =>
    rw [hp] at cond
    rw [xs_nxt (ρ1 := [some (.str w), some (.str (sg a)), some (.str (bst b)), some (.str (btl b)), some (.str (sg (plain a)))]) (S1 := S ++ S1) (by rw [iff_f (tr_f cond (by simp)), xs_nil])]
    have ip : ∀ S : Store, ev Γ (.bif .int [.var 1]) [some (.str w), some (.str (sg a)), some (.str (bst b)), some (.str (btl b)), some (.str (sg (plain a)))] S = some (.ok (.int p), S) := fun S => bif_eq (evs_cons (var_eq rfl) evs_nil) (int_top hp)
    have hcc : truth (ev Γ (.cmp .eq (.var 2) (.str "")) [some (.str w), some (.str (sg a)), some (.str (bst b)), some (.str (btl b)), some (.str (sg (plain a)))] (S ++ S1)) = some (.ok (decide (bst b = "")), S ++ S1) := by kernel_rfl
    cases b with
    | none =>
      refine ⟨S1, ?_⟩
      rw [show decide (bst none = "") = true by decide +kernel] at hcc
      refine fin_xs_ret (ρ1 := [some (.str w), some (.str (sg a)), some (.str (bst none)), some (.str (btl none)), some (.str (sg (plain a)))]) ?_
      rw [iff_t hcc]
      exact xs_ret (ret_eq (tup_eq (evs_cons (ip _) (evs_cons int_eq evs_nil))))
    | some b =>
      rw [show decide (bst (some b) = "") = false from (by decide +kernel : decide (("/" : Str) = "") = false)] at hcc
      have lb : b.length ≤ 1000000 := by
        obtain ⟨_, h2⟩ := hcut
        have h2 : l = a ++ 47 :: b := h2
        rw [h2, List.length_append, List.length_cons] at hl
        omega
      rw [xs_nxt (ρ1 := [some (.str w), some (.str (sg a)), some (.str (bst (some b))), some (.str (btl (some b))), some (.str (sg (plain a)))]) (S1 := S ++ S1) (by rw [iff_f hcc, xs_nil])]
      obtain ⟨S2, h82⟩ := q8 (S ++ S1) b lb
      have n82 : truth (ev Γ (.not (.call 8 [.var 3])) [some (.str w), some (.str (sg a)), some (.str (bst (some b))), some (.str (btl (some b))), some (.str (sg (plain a)))] (S ++ S1)) = some (.ok (!figB b), S ++ S1 ++ S2) :=
        tr_eq (not_eq (by rw [call_eq (ws := [.str (sg b)]) (S1 := S ++ S1) (by kernel_rfl), h82]))
      refine ⟨S1 ++ S2, ?_⟩
      rw [← List.append_assoc]
      have ors : ∀ r : Bool, evOr Γ [.not (.call 8 [.var 3]), .cmp .lt (.bif .int [.var 3]) (.int 2), .cmp .ne (.call 9 [.bif .int [.var 1], .bif .int [.var 3]]) (.int 1)] [some (.str w), some (.str (sg a)), some (.str (bst (some b))), some (.str (btl (some b))), some (.str (sg (plain a)))] (S ++ S1) = some (.ok (.bl r), S ++ S1 ++ S2) →
          truth (ev Γ (.or [.not (.call 8 [.var 3]), .cmp .lt (.bif .int [.var 3]) (.int 2), .cmp .ne (.call 9 [.bif .int [.var 1], .bif .int [.var 3]]) (.int 1)]) [some (.str w), some (.str (sg a)), some (.str (bst (some b))), some (.str (btl (some b))), some (.str (sg (plain a)))] (S ++ S1)) = some (.ok r, S ++ S1 ++ S2) := fun r h => tr_eq (by rw [ev]; exact h)
      have none_ : ∀ {r : Bool}, r = true → evOr Γ [.not (.call 8 [.var 3]), .cmp .lt (.bif .int [.var 3]) (.int 2), .cmp .ne (.call 9 [.bif .int [.var 1], .bif .int [.var 3]]) (.int 1)] [some (.str w), some (.str (sg a)), some (.str (bst (some b))), some (.str (btl (some b))), some (.str (sg (plain a)))] (S ++ S1) = some (.ok (.bl r), S ++ S1 ++ S2) →
          fin (xs Γ [.iff (.or [.not (.call 8 [.var 3]), .cmp .lt (.bif .int [.var 3]) (.int 2), .cmp .ne (.call 9 [.bif .int [.var 1], .bif .int [.var 3]]) (.int 1)]) [.ret .non] [], .ret (.tup [.bif .int [.var 1], .bif .int [.var 3]])] [some (.str w), some (.str (sg a)), some (.str (bst (some b))), some (.str (btl (some b))), some (.str (sg (plain a)))] (S ++ S1)) = some (.ok .non, S ++ S1 ++ S2) := fun {r} hr h => by
        subst hr
        refine fin_xs_ret (ρ1 := [some (.str w), some (.str (sg a)), some (.str (bst (some b))), some (.str (btl (some b))), some (.str (sg (plain a)))]) ?_
        rw [iff_t (ors true h)]
        kernel_rfl
      cases hb : figB b with
      | false =>
        rw [hb] at n82
        refine (none_ rfl (r := true) ?_).trans ?_
        · refine (show evOr Γ (_ :: _ :: _ :: []) _ (S ++ S1) = _ from ?_)
          rw [evOr, n82, bnd_ok]
          · rfl
          · simp
        · simp [hb]
      | true =>
        rw [hb] at n82
        have iq : ∀ S : Store, ev Γ (.bif .int [.var 3]) [some (.str w), some (.str (sg a)), some (.str (bst (some b))), some (.str (btl (some b))), some (.str (sg (plain a)))] S = some (.ok (.int (numB b)), S) := fun S => bif_eq (ws := [.str (sg b)]) (S1 := S) (by kernel_rfl) (int_fig hb)
        have lt := fig_lt hb
        have c1 : truth (ev Γ (.cmp .lt (.bif .int [.var 3]) (.int 2)) [some (.str w), some (.str (sg a)), some (.str (bst (some b))), some (.str (btl (some b))), some (.str (sg (plain a)))] (S ++ S1 ++ S2)) = some (.ok (decide ((numB b : Int) < 2)), S ++ S1 ++ S2) := tr_eq (cmp_eq (iq _) int_eq rfl)
        have c2 : ev Γ (.cmp .ne (.call 9 [.bif .int [.var 1], .bif .int [.var 3]]) (.int 1)) [some (.str w), some (.str (sg a)), some (.str (bst (some b))), some (.str (btl (some b))), some (.str (sg (plain a)))] (S ++ S1 ++ S2) = some (.ok (.bl (!decide ((Int.gcd p (numB b) : Int) = 1))), S ++ S1 ++ S2) :=
          cmp_eq (by rw [call_eq (evs_cons (ip _) (evs_cons (iq _) evs_nil)), q9 _ p (numB b) (by rw [Int.natAbs_natCast]; exact Nat.lt_trans lt (by decide +kernel))]) int_eq rfl
        by_cases hh : 2 ≤ numB b ∧ Int.gcd p (numB b) = 1
        · have o := ors false (or_f n82 (or_f (by rw [c1, decide_eq_false (by omega)]) (by rw [evOr, c2, decide_eq_true (by omega)]; rfl)))
          rw [xs_nxt (ρ1 := [some (.str w), some (.str (sg a)), some (.str (bst (some b))), some (.str (btl (some b))), some (.str (sg (plain a)))]) (S1 := S ++ S1 ++ S2) (by rw [iff_f o, xs_nil])]
          refine (fin_xs_ret (ret_eq (tup_eq (evs_cons (ip _) (evs_cons (iq _) evs_nil))))).trans ?_
          simp [hb, hh, prW]
        · refine (none_ rfl (r := true) ?_).trans ?_
          · refine (show evOr Γ (_ :: _ :: _ :: []) _ (S ++ S1) = _ from ?_)
            rw [evOr, n82, bnd_ok]
            · try dsimp only
              by_cases h2 : (numB b : Int) < 2
              · rw [evOr, c1, decide_eq_true h2, bnd_ok]
                · rfl
                · simp
              · rw [evOr, c1, decide_eq_false h2, bnd_ok]
                · dsimp only
                  rw [evOr, c2, decide_eq_false (fun z => hh ⟨by omega, by omega⟩)]
                  rfl
                · simp
            · simp
          · simp [hb, hh]
theorem g6 : T.fns[6]? = some ⟨1, 6, irRead 10 10 11 12⟩ := rfl
theorem g10 : T.fns[10]? = some ⟨1, 1, irTop 10 11⟩ := rfl
theorem g11 : T.fns[11]? = some ⟨1, 1, irCount 10 13⟩ := rfl
theorem g12 : T.fns[12]? = some ⟨2, 2, irDivisor⟩ := rfl
theorem g13 : T.fns[13]? = some ⟨1, 2, irFigures⟩ := rfl
def suite : List Sx := [.asg 5 (.lst [.isi (.var 4) (.own 1), .isi (.var 4) (.own 2), .isi (.var 4) (.own 3), .isi (.var 4) (.own 4)]), .asg 5 (.bin .add (.var 5) (.lst [.isi (.var 4) (.own 5), .isi (.var 4) (.own 6), .isi (.var 4) (.own 7)])), .asg 5 (.bin .add (.var 5) (.lst [.isi (.var 4) (.own 8), .isi (.var 4) (.own 9)])), .asg 2 (.tup [.isi (.var 4) (.own 10), .bif .any [.var 5]])]
theorem right_ok {k : Nat} {S : Store} {l : List Nat} (hl : l.length ≤ 1000000) : ∃ S', T.callF (k + 6) 3 [.str (sg l)] S = some (.ok (.bl true), S ++ S') := by
  obtain ⟨a, b, hcut⟩ := cut_ex l
  rw [callF_eq g3 rfl]
  obtain ⟨S1, hd⟩ := due_ok (k := k + 1) (S := S) hcut hl
  have hd : (T.gam (T.callF (k + 5)) (T.callF (k + 4))).call 5 [.str (sg l)] S = some (.ok (dueW a b), S ++ S1) := hd
  have hr : (T.gam (T.callF (k + 5)) (T.callF (k + 4))).call 6 [.str (sg l)] (S ++ S1) = orX 10 ((rdv a b).map prW) (S ++ S1) := read_gen g6 g10 g11 g13 gG g12 hcut hl
  have h7 : ∀ (i : Int) (S : Store), (T.gam (T.callF (k + 5)) (T.callF (k + 4))).call 7 [.int i] S = some (.ok (.bl true), S) := fun i S => whole_ok (k := k + 3) (i := i) g7
  have hu : (T.gam (T.callF (k + 5)) (T.callF (k + 4))).up = (T.gam (T.callF 0) (T.callF 0)).up := rfl
  generalize T.gam (T.callF (k + 5)) (T.callF (k + 4)) = Γ at hd hr h7 hu ⊢
  show ∃ S', fin (xs Γ [.asg 1 (.call 5 [.var 0]), .asg 2 .non, .asg 3 .non, .tryAs [.asg 3 (.call 6 [.var 0])] 0 4 suite, .iff (.cmp .isN (.var 1) .non) [.ret (.cmp .eq (.var 2) (.tup [.bl true, .bl false]))] [], .iff (.or [.cmp .notN (.var 2) .non, .not (.isi (.var 3) .tuple), .cmp .ne (.bif .len [.var 3]) (.int 2)]) [.ret (.bl false)] [], .ret (.and [.call 7 [.idx (.var 3) (.int 0)], .call 7 [.idx (.var 3) (.int 1)], .cmp .eq (.var 3) (.var 1)])] [some (.str (sg l)), none, none, none, none, none] S) = _
  have e1 : x1 Γ (.asg 1 (.call 5 [.var 0])) [some (.str (sg l)), none, none, none, none, none] S = some (.nxt, [some (.str (sg l)), some (dueW a b), none, none, none, none], S ++ S1) := asg_eq (by rw [call_eq (evs_cons (var_eq rfl) evs_nil), hd])
  rw [xs_nxt e1]
  generalize hw : sg l = w at *
  unfold dueW at *
  cases hv : rdv a b with
  | none =>
    rw [hv] at hr
    have hr : Γ.call 6 [.str w] (S ++ S1) = some (.ex ⟨10, []⟩, S ++ S1) := hr
    rw [xs_nxt (ρ1 := [some (.str w), some .non, some .non, none, none, none]) (S1 := S ++ S1) (by kernel_rfl), xs_nxt (ρ1 := [some (.str w), some .non, some .non, some .non, none, none]) (S1 := S ++ S1) (by kernel_rfl)]
    have hb : xs Γ [.asg 3 (.call 6 [.var 0])] [some (.str w), some .non, some .non, some .non, none, none] (S ++ S1) = some (.ex ⟨10, []⟩, [some (.str w), some .non, some .non, some .non, none, none], S ++ S1) := by
      have z : ev Γ (.call 6 [.var 0]) [some (.str w), some .non, some .non, some .non, none, none] (S ++ S1) = some (.ex ⟨10, []⟩, S ++ S1) := by
        rw [call_eq (evs_cons (var_eq rfl) evs_nil), hr]
      refine xs_ex ?_
      rw [x1, z]
      rfl
    have hx : ∀ c, isaX Γ 10 c = isaX (T.gam (T.callF 0) (T.callF 0)) 10 c := fun c => by cases c <;> simp [isaX, hu]
    have hup : Γ.up 10 0 = true := by rw [hu]; rfl
    have i1 : isaX Γ 10 (.own 1) = false := by rw [hx]; rfl
    have i2 : isaX Γ 10 (.own 2) = false := by rw [hx]; rfl
    have i3 : isaX Γ 10 (.own 3) = false := by rw [hx]; rfl
    have i4 : isaX Γ 10 (.own 4) = false := by rw [hx]; rfl
    have i5 : isaX Γ 10 (.own 5) = false := by rw [hx]; rfl
    have i6 : isaX Γ 10 (.own 6) = false := by rw [hx]; rfl
    have i7 : isaX Γ 10 (.own 7) = false := by rw [hx]; rfl
    have i8 : isaX Γ 10 (.own 8) = false := by rw [hx]; rfl
    have i9 : isaX Γ 10 (.own 9) = false := by rw [hx]; rfl
    have i10 : isaX Γ 10 (.own 10) = true := by rw [hx]; rfl
    generalize hS2 : S ++ S1 = S2 at *
    have st : ∃ S3 u, x1 Γ (.tryAs [.asg 3 (.call 6 [.var 0])] 0 4 suite) [some (.str w), some .non, some .non, some .non, none, none] S2 = some (.nxt, [some (.str w), some .non, some (.tup [.bl true, .bl false]), some .non, none, u], S2 ++ S3) := by
      refine ⟨[.dead, .lst [.bl false, .bl false, .bl false, .bl false], .lst [.bl false, .bl false, .bl false], .lst [.bl false, .bl false, .bl false, .bl false, .bl false, .bl false, .bl false], .lst [.bl false, .bl false], .lst [.bl false, .bl false, .bl false, .bl false, .bl false, .bl false, .bl false, .bl false, .bl false]], some (.loc (S2.length + 5)), ?_⟩
      clear hd hr h7 hu hx e1
      rw [x1, hb]
      simp [hup, suite, xs, x1, ev, evs, isaW, i1, i2, i3, i4, i5, i6, i7, i8, i9, i10, op2, bfn, listAt, blsOf, List.getElem?_append, List.set_append]
    obtain ⟨S3, u, st⟩ := st
    rw [xs_nxt st]
    have fine : fin (xs Γ (.iff (.cmp .isN (.var 1) .non) [.ret (.cmp .eq (.var 2) (.tup [.bl true, .bl false]))] [] :: [.iff (.or [.cmp .notN (.var 2) .non, .not (.isi (.var 3) .tuple), .cmp .ne (.bif .len [.var 3]) (.int 2)]) [.ret (.bl false)] [], .ret (.and [.call 7 [.idx (.var 3) (.int 0)], .call 7 [.idx (.var 3) (.int 1)], .cmp .eq (.var 3) (.var 1)])]) [some (.str w), some .non, some (.tup [.bl true, .bl false]), some .non, none, u] (S2 ++ S3)) = some (.ok (.bl true), S2 ++ S3) := by
      refine fin_xs_ret (ρ1 := [some (.str w), some .non, some (.tup [.bl true, .bl false]), some .non, none, u]) ?_
      rw [iff_t (S1 := S2 ++ S3) (by kernel_rfl)]
      exact xs_ret (ret_eq (cmp_eq (v := .tup [.bl true, .bl false]) (w := .tup [.bl true, .bl false]) (S1 := S2 ++ S3) (by kernel_rfl) (by kernel_rfl) eq_pairB))
    exact ⟨S1 ++ S3, by rw [← List.append_assoc, hS2]; exact fine⟩
  | some pq =>
    obtain ⟨p, q⟩ := pq
    rw [hv] at hr
    have hr : Γ.call 6 [.str w] (S ++ S1) = some (.ok (Pr p q), S ++ S1) := hr
    show ∃ S', fin (xs Γ _ [some (.str w), some (Pr p q), none, none, none, none] (S ++ S1)) = _
    refine ⟨S1, ?_⟩
    generalize S ++ S1 = S2 at *
    rw [xs_nxt (ρ1 := [some (.str w), some (Pr p q), some .non, none, none, none]) (S1 := S2) (by kernel_rfl), xs_nxt (ρ1 := [some (.str w), some (Pr p q), some .non, some .non, none, none]) (S1 := S2) (by kernel_rfl)]
    have hb : xs Γ [.asg 3 (.call 6 [.var 0])] [some (.str w), some (Pr p q), some .non, some .non, none, none] S2 = some (.nxt, [some (.str w), some (Pr p q), some .non, some (Pr p q), none, none], S2) := by
      have z : x1 Γ (.asg 3 (.call 6 [.var 0])) [some (.str w), some (Pr p q), some .non, some .non, none, none] S2 = some (.nxt, [some (.str w), some (Pr p q), some .non, some (Pr p q), none, none], S2) := asg_eq (by rw [call_eq (evs_cons (var_eq rfl) evs_nil), hr])
      rw [xs_nxt z, xs_nil]
    have st : x1 Γ (.tryAs [.asg 3 (.call 6 [.var 0])] 0 4 suite) [some (.str w), some (Pr p q), some .non, some .non, none, none] S2 = some (.nxt, [some (.str w), some (Pr p q), some .non, some (Pr p q), none, none], S2) := by
      rw [x1, hb]
    rw [xs_nxt st, xs_nxt (ρ1 := [some (.str w), some (Pr p q), some .non, some (Pr p q), none, none]) (S1 := S2) (by rw [iff_f (S1 := S2) (by kernel_rfl), xs_nil]),
      xs_nxt (ρ1 := [some (.str w), some (Pr p q), some .non, some (Pr p q), none, none]) (S1 := S2) (by rw [iff_f (S1 := S2) (by kernel_rfl), xs_nil])]
    refine fin_xs_ret (ret_eq (w := .bl true) (S1 := S2) ?_)
    rw [ev, and_t (tr_eq (q := true) (S1 := S2) (by rw [call_eq (ws := [.int p]) (S1 := S2) (by kernel_rfl), h7])), and_t (tr_eq (q := true) (S1 := S2) (by rw [call_eq (ws := [.int q]) (S1 := S2) (by kernel_rfl), h7])), evAnd]
    refine cmp_eq (var_eq rfl) (var_eq rfl) ?_
    show eqW S2 (Pr p q) (Pr p q) = _
    rw [eq_pair, decide_eq_true rfl, decide_eq_true rfl]
    rfl
section
variable {Γ : Gam} {ρ : Env} {S : Store}
theorem evs_strs : ∀ tx : List Str, evs Γ (tx.map Ex.str) ρ S = some (.ok (tx.map W.str), S)
  | [] => evs_nil
  | x :: r => evs_cons (by unfold ev; rfl) (evs_strs r)
theorem lst_eq {es : List Ex} {ws : List W} {S1 : Store} (h : evs Γ es ρ S = some (.ok ws, S1)) : ev Γ (.lst es) ρ S = some (.ok (.loc S1.length), S1 ++ [.lst ws]) := by rw [ev, h]; rfl
/-- [..][j] of texts -/
theorem pick_ok {tx : List Str} {I : Ex} {j : Int} (hI : ∀ S', ev Γ I ρ S' = some (.ok (.int j), S')) (h0 : 0 ≤ j) (h1 : j < tx.length) (hl : ∀ x ∈ tx, x.length ≤ 2) :
    ∃ h S', ev Γ (.idx (.lst (tx.map Ex.str)) I) ρ S = some (.ok (.str (sg h)), S ++ S') ∧ h.length ≤ 2 := by
  have hx : tx[j.toNat]? = some (tx[j.toNat]'(by omega)) := List.getElem?_eq_getElem (by omega)
  refine ⟨(tx[j.toNat]'(by omega)).cps.toList, [.lst (tx.map W.str)], ?_, ?_⟩
  · rw [sg_tl]
    refine idx_eq (lst_eq (evs_strs tx)) (hI _) at_new ?_
    rw [atI_nat h0 (by simpa using h1), List.getElem?_map, hx]
    rfl
  · have := hl _ (List.getElem_mem (by omega : j.toNat < tx.length))
    rw [TL.len_tl] at this
    exact this
theorem cutTo {l : List Nat} {n : Nat} (h : n ≤ l.length) : L2.cutS (sg l) none (some (n : Int)) = sg (l.take n) := by
  apply TL.ext_tl
  show (L2.cutS (sg l) none (some (n : Int))).cps.toList = (sg (l.take n)).cps.toList
  rw [tl_sg]
  unfold L2.cutS
  have hn : ¬ ((n : Int) < 0) := by omega
  simp [HT.sIx, tl_sg, sg_len, hn]
  try omega
theorem cutFrom {l : List Nat} {n : Nat} (h : n ≤ l.length) : L2.cutS (sg l) (some (n : Int)) none = sg (l.drop n) := by
  apply TL.ext_tl
  show (L2.cutS (sg l) (some (n : Int)) none).cps.toList = (sg (l.drop n)).cps.toList
  rw [tl_sg]
  unfold L2.cutS
  have hn : ¬ ((n : Int) < 0) := by omega
  simp [HT.sIx, tl_sg, sg_len, Nat.min_eq_left h, hn, List.take_of_length_le]
end
theorem sign_ok {Γ : Gam} {ρ : Env} {S : Store} {I : Ex} {j : Int} (hI : ev Γ I ρ S = some (.ok (.int j), S)) (h0 : 0 ≤ j) (h1 : j < 8) : ∃ ch : Nat, ev Γ (.idx (.str "_.,e+-x ") I) ρ S = some (.ok (.str (sg [ch])), S) := by
  have e : ∀ ch : Nat, idx2 S (.str "_.,e+-x ") (.int j) = some (.str (sg [ch])) → ev Γ (.idx (.str "_.,e+-x ") I) ρ S = some (.ok (.str (sg [ch])), S) := fun ch h => by
    have hs : ev Γ (.str "_.,e+-x ") ρ S = some (.ok (.str "_.,e+-x "), S) := by kernel_rfl
    unfold ev
    rw [hs, bnd_ok, hI, bnd_ok, h]
    rfl
  have hj : j = 0 ∨ j = 1 ∨ j = 2 ∨ j = 3 ∨ j = 4 ∨ j = 5 ∨ j = 6 ∨ j = 7 := by omega
  rcases hj with h | h | h | h | h | h | h | h <;> subst h
  · exact ⟨95, e 95 (by kernel_rfl)⟩
  · exact ⟨46, e 46 (by kernel_rfl)⟩
  · exact ⟨44, e 44 (by kernel_rfl)⟩
  · exact ⟨101, e 101 (by kernel_rfl)⟩
  · exact ⟨43, e 43 (by kernel_rfl)⟩
  · exact ⟨45, e 45 (by kernel_rfl)⟩
  · exact ⟨120, e 120 (by kernel_rfl)⟩
  · exact ⟨32, e 32 (by kernel_rfl)⟩
theorem pow50 (Γ : Gam) (ρ : Env) (S : Store) : ev Γ (.bin .pow (.int 10) (.int 50)) ρ S = some (.ok (.int (10 ^ 50)), S) := bin_eq int_eq int_eq rfl
theorem p60b : 2 * 10 ^ 60 < 10 ^ 100 := by decide
/-- figures of a kind: some text, not long -/
theorem figs_ok {k : Nat} {S : Store} (c d : Int) : ∃ l S', T.callF (k + 2) 4 [.int c, .int d] S = some (.ok (.str (sg l)), S ++ S') ∧ l.length ≤ 300 := by
  rw [callF_eq g4 rfl]
  generalize T.gam (T.callF (k + 1)) (T.callF k) = Γ
  show ∃ l S', fin (xs Γ b__law_figures [some (.int c), some (.int d), none, none, none, none] S) = _ ∧ _
  unfold b__law_figures
  have fin0 : ∀ (S0 : Store) (w n : Int) (e4 e5 : Option W), 0 ≤ n → n.natAbs < 10 ^ 100 → ∃ l S', fin (xs Γ [.iff (.and [.cmp .eq (.var 2) (.int 3), .cmp .eq (.bin .mod (.bin .fdiv (.var 0) (.int 24)) (.int 4)) (.int 0)]) [.ret (.str "")] [], .iff (.cmp .eq (.var 2) (.int 5)) [.asg 4 (.bif .str [.var 3]), .asg 5 (.bin .mod (.bin .fdiv (.var 0) (.int 2400)) (.bin .add (.bif .len [.var 4]) (.int 1))), .ret (.bin .add (.bin .add (.slc (.var 4) [] [.var 5]) (.idx (.str "_.,e+-x ") (.bin .mod (.bin .fdiv (.var 0) (.int 9600)) (.int 8)))) (.slc (.var 4) [.var 5] []))] [], .ret (.bin .add (.bin .add (.idx (.lst [.str "", .str "", .str "0"]) (.bin .mod (.bin .fdiv (.var 0) (.int 8)) (.int 3))) (.idx (.lst [.str "", .str "0"]) (.bif .int [.cmp .eq (.var 2) (.int 4)]))) (.bif .str [.var 3]))] [some (.int c), some (.int d), some (.int w), some (.int n), none, none] S0) = some (.ok (.str (sg l)), S0 ++ S') ∧ l.length ≤ 300 := fun S0 w n e4 e5 hn0 hn => by
    have hlen : (TL.numL n.natAbs).length ≤ 100 := TL.numL_len (by decide) hn
    have en : ((n.natAbs : Nat) : Int) = n := by omega
    have hstr : ∀ S : Store, bfn .str S [.int n] = some (.str (sg (TL.numL n.natAbs)), S) := fun S => by
      have := str_nat (S := S) hn
      rw [en] at this
      exact this
    generalize TL.numL n.natAbs = L at hlen hstr
    have c3 : ∃ q, truth (ev Γ (.and [.cmp .eq (.var 2) (.int 3), .cmp .eq (.bin .mod (.bin .fdiv (.var 0) (.int 24)) (.int 4)) (.int 0)]) [some (.int c), some (.int d), some (.int w), some (.int n), none, none] S0) = some (.ok q, S0) := by
      have t1 : truth (ev Γ (.cmp .eq (.var 2) (.int 3)) [some (.int c), some (.int d), some (.int w), some (.int n), none, none] S0) = some (.ok (decide (w = 3)), S0) := by kernel_rfl
      by_cases h : w = 3
      · refine ⟨decide ((c.fdiv 24).fmod 4 = 0), tr_eq ?_⟩
        rw [ev, and_t (by rw [t1, decide_eq_true h]), evAnd]
        kernel_rfl
      · refine ⟨false, tr_eq ?_⟩
        rw [ev]
        refine (show evAnd Γ (_ :: _ :: []) _ S0 = _ from ?_)
        rw [evAnd, t1, decide_eq_false h, bnd_ok]
        · rfl
        · simp
    obtain ⟨q, c3⟩ := c3
    cases q with
    | true =>
      refine ⟨[], [], ?_, by simp⟩
      rw [List.append_nil]
      refine fin_xs_ret (ρ1 := [some (.int c), some (.int d), some (.int w), some (.int n), none, none]) ?_
      rw [iff_t c3, ← empty0]
      kernel_rfl
    | false =>
      rw [xs_nxt (ρ1 := [some (.int c), some (.int d), some (.int w), some (.int n), none, none]) (S1 := S0) (by rw [iff_f c3, xs_nil])]
      have c5 : truth (ev Γ (.cmp .eq (.var 2) (.int 5)) [some (.int c), some (.int d), some (.int w), some (.int n), none, none] S0) = some (.ok (decide (w = 5)), S0) := by kernel_rfl
      by_cases h5 : w = 5
      · have hm0 : (0 : Int) ≤ c / 2400 % ((L.length : Int) + 1) := Int.emod_nonneg _ (by omega)
        have hm1 : c / 2400 % ((L.length : Int) + 1) < (L.length : Int) + 1 := Int.emod_lt_of_pos _ (by omega)
        obtain ⟨m, em⟩ : ∃ m : Nat, c / 2400 % ((L.length : Int) + 1) = (m : Int) := ⟨_, (Int.toNat_of_nonneg hm0).symm⟩
        have hm : m ≤ L.length := by omega
        obtain ⟨ch, hch⟩ := sign_ok (Γ := Γ) (ρ := [some (.int c), some (.int d), some (.int w), some (.int n), some (.str (sg L)), some (.int m)]) (S := S0) (I := .bin .mod (.bin .fdiv (.var 0) (.int 9600)) (.int 8)) (j := c / 9600 % 8) (bin_eq (bin_eq (var_eq rfl) int_eq (op_fdiv_pos (j := 9600) (by decide) (by decide +kernel))) int_eq (op_mod_pos (j := 8) (by decide))) (by omega) (by omega)
        have z1 : ev Γ (.slc (.var 4) [] [.var 5]) [some (.int c), some (.int d), some (.int w), some (.int n), some (.str (sg L)), some (.int m)] S0 = lift (if (sg L).length ≤ 16777216 then some (W.str (L2.cutS (sg L) none (some m)), S0) else none) := by kernel_rfl
        have z2 : ev Γ (.slc (.var 4) [.var 5] []) [some (.int c), some (.int d), some (.int w), some (.int n), some (.str (sg L)), some (.int m)] S0 = lift (if (sg L).length ≤ 16777216 then some (W.str (L2.cutS (sg L) (some m) none), S0) else none) := by kernel_rfl
        rw [sg_len, if_pos (by omega), cutTo hm] at z1
        rw [sg_len, if_pos (by omega), cutFrom hm] at z2
        have hlL : bfn .len S0 [.str (sg L)] = some (.int L.length, S0) := by
          show (if (sg L).length ≤ 16777216 then some (W.int (sg L).length, S0) else none) = _
          rw [sg_len, if_pos (by omega)]
        refine ⟨(L.take m ++ [ch]) ++ L.drop m, [], ?_, by simp; omega⟩
        rw [List.append_nil]
        refine fin_xs_ret (ρ1 := [some (.int c), some (.int d), some (.int w), some (.int n), some (.str (sg L)), some (.int m)]) ?_
        rw [iff_t (tr_t c5 h5), xs_nxt (ρ1 := [some (.int c), some (.int d), some (.int w), some (.int n), some (.str (sg L)), none]) (S1 := S0) (asg_eq (bif_eq (evs_cons (var_eq rfl) evs_nil) (hstr _))),
          xs_nxt (ρ1 := [some (.int c), some (.int d), some (.int w), some (.int n), some (.str (sg L)), some (.int m)]) (S1 := S0) (by rw [← em]; exact asg_eq (bin_eq (bin_eq (var_eq rfl) int_eq (op_fdiv_pos (j := 2400) (by decide) (by decide +kernel))) (add_ev (bif_eq (evs_cons (var_eq rfl) evs_nil) hlL) int_eq) (op_mod_pos (by omega))))]
        exact xs_ret (ret_eq (bin_eq (bin_eq z1 hch (op_cat (by simp; omega))) z2 (op_cat (by simp; omega))))
      · rw [xs_nxt (ρ1 := [some (.int c), some (.int d), some (.int w), some (.int n), none, none]) (S1 := S0) (by rw [iff_f (tr_f c5 h5), xs_nil])]
        obtain ⟨h1, S1, p1, l1⟩ := pick_ok (Γ := Γ) (ρ := [some (.int c), some (.int d), some (.int w), some (.int n), none, none]) (S := S0) (tx := ["", "", "0"]) (I := .bin .mod (.bin .fdiv (.var 0) (.int 8)) (.int 3)) (j := c / 8 % 3) (fun S' => bin_eq (bin_eq (var_eq rfl) int_eq (op_fdiv_pos (j := 8) (by decide) (by decide +kernel))) int_eq (op_mod_pos (j := 3) (by decide))) (by omega) (by show c / 8 % 3 < 3; omega) (by decide +kernel)
        obtain ⟨h2, S2, p2, l2⟩ := pick_ok (Γ := Γ) (ρ := [some (.int c), some (.int d), some (.int w), some (.int n), none, none]) (S := S0 ++ S1) (tx := ["", "0"]) (I := .bif .int [.cmp .eq (.var 2) (.int 4)]) (j := if decide (w = 4) then 1 else 0) (fun S' => by kernel_rfl) (by split <;> omega) (by show (if decide (w = 4) = true then (1 : Int) else 0) < 2; split <;> omega) (by decide +kernel)
        refine ⟨(h1 ++ h2) ++ L, S1 ++ S2, ?_, by simp; omega⟩
        rw [← List.append_assoc]
        exact fin_xs_ret (ret_eq (bin_eq (bin_eq p1 p2 (op_cat (by omega))) (bif_eq (evs_cons (var_eq rfl) evs_nil) (hstr _)) (op_cat (by simp; omega))))
  rw [xs_nxt (ρ1 := [some (.int c), some (.int d), some (.int (c % 8)), none, none, none]) (S1 := S) (asg_eq (bin_eq (var_eq rfl) int_eq (op_mod_pos (j := 8) (by decide)))),
    xs_nxt (ρ1 := [some (.int c), some (.int d), some (.int (c % 8)), some (.int (c / 24 % 100)), none, none]) (S1 := S) (asg_eq (bin_eq (bin_eq (var_eq rfl) int_eq (op_fdiv_pos (j := 24) (by decide) (by decide +kernel))) int_eq (op_mod_pos (j := 100) (by decide))))]
  have hA : ∃ n1 S1, x1 Γ (.iff (.cmp .eq (.var 2) (.int 1)) [.asg 3 (.bin .add (.idx (.lst [.bin .pow (.int 10) (.int 58), .bin .pow (.int 10) (.int 59), .bin .pow (.int 10) (.int 60)]) (.bin .mod (.bin .fdiv (.var 0) (.int 24)) (.int 3))) (.bin .mod (.bin .fdiv (.var 0) (.int 72)) (.bin .pow (.int 10) (.int 50))))] []) [some (.int c), some (.int d), some (.int (c % 8)), some (.int (c / 24 % 100)), none, none] S = some (.nxt, [some (.int c), some (.int d), some (.int (c % 8)), some (.int n1), none, none], S ++ S1) ∧ 0 ≤ n1 ∧ n1.natAbs < 10 ^ 100 := by
    have t1 : truth (ev Γ (.cmp .eq (.var 2) (.int 1)) [some (.int c), some (.int d), some (.int (c % 8)), some (.int (c / 24 % 100)), none, none] S) = some (.ok (decide (c % 8 = 1)), S) := tr_eq (cmp_eq (var_eq rfl) int_eq rfl)
    by_cases h : c % 8 = 1
    · have hl : ev Γ (.lst [.bin .pow (.int 10) (.int 58), .bin .pow (.int 10) (.int 59), .bin .pow (.int 10) (.int 60)]) [some (.int c), some (.int d), some (.int (c % 8)), some (.int (c / 24 % 100)), none, none] S = some (.ok (.loc S.length), S ++ [.lst [.int (10 ^ 58), .int (10 ^ 59), .int (10 ^ 60)]]) := lst_eq (by kernel_rfl)
      obtain ⟨m, hp, hm0, hm1⟩ : ∃ m : Int, L2.atI [W.int (10 ^ 58), .int (10 ^ 59), .int (10 ^ 60)] (c / 24 % 3) = some (W.int m) ∧ 0 ≤ m ∧ m ≤ 10 ^ 60 := by
        have hj : c / 24 % 3 = 0 ∨ c / 24 % 3 = 1 ∨ c / 24 % 3 = 2 := by omega
        rcases hj with h | h | h <;> rw [h]
        · exact ⟨10 ^ 58, rfl, by decide, by decide⟩
        · exact ⟨10 ^ 59, rfl, by decide, by decide⟩
        · exact ⟨10 ^ 60, rfl, by decide, by decide⟩
      have hq0 : 0 ≤ c / 72 % 10 ^ 50 := Int.emod_nonneg _ (by decide)
      have hq1 : c / 72 % 10 ^ 50 < 10 ^ 50 := Int.emod_lt_of_pos _ (by decide)
      refine ⟨m + c / 72 % 10 ^ 50, [.lst [.int (10 ^ 58), .int (10 ^ 59), .int (10 ^ 60)]], ?_, by omega, by omega⟩
      have v0 : ∀ S' : Store, ev Γ (.var 0) [some (.int c), some (.int d), some (.int (c % 8)), some (.int (c / 24 % 100)), none, none] S' = some (.ok (.int c), S') := fun S' => var_eq rfl
      have hj3 : ev Γ (.bin .mod (.bin .fdiv (.var 0) (.int 24)) (.int 3)) [some (.int c), some (.int d), some (.int (c % 8)), some (.int (c / 24 % 100)), none, none] (S ++ [.lst [.int (10 ^ 58), .int (10 ^ 59), .int (10 ^ 60)]]) = some (.ok (.int (c / 24 % 3)), (S ++ [.lst [.int (10 ^ 58), .int (10 ^ 59), .int (10 ^ 60)]])) := bin_eq (bin_eq (v0 _) int_eq (op_fdiv_pos (j := 24) (by decide) (by decide +kernel))) int_eq (op_mod_pos (j := 3) (by decide))
      have hj5 : ev Γ (.bin .mod (.bin .fdiv (.var 0) (.int 72)) (.bin .pow (.int 10) (.int 50))) [some (.int c), some (.int d), some (.int (c % 8)), some (.int (c / 24 % 100)), none, none] (S ++ [.lst [.int (10 ^ 58), .int (10 ^ 59), .int (10 ^ 60)]]) = some (.ok (.int (c / 72 % 10 ^ 50)), (S ++ [.lst [.int (10 ^ 58), .int (10 ^ 59), .int (10 ^ 60)]])) := bin_eq (bin_eq (v0 _) int_eq (op_fdiv_pos (j := 72) (by decide) (by decide +kernel))) (pow50 _ _ _) (op_mod_pos (j := 10 ^ 50) (by decide))
      rw [iff_t (tr_t t1 h), xs_nxt (asg_eq (bin_eq (idx_eq hl hj3 at_new hp) hj5 op_add)), xs_nil]
      rfl
    · exact ⟨c / 24 % 100, [], by rw [iff_f (tr_f t1 h), xs_nil, List.append_nil], by omega, by omega⟩
  obtain ⟨n1, S1, hA, h0, h1⟩ := hA
  rw [xs_nxt hA]
  have t2 : truth (ev Γ (.cmp .eq (.var 2) (.int 2)) [some (.int c), some (.int d), some (.int (c % 8)), some (.int n1), none, none] (S ++ S1)) = some (.ok (decide (c % 8 = 2)), S ++ S1) := tr_eq (cmp_eq (var_eq rfl) int_eq rfl)
  by_cases h : c % 8 = 2
  · rw [xs_nxt (ρ1 := [some (.int c), some (.int d), some (.int (c % 8)), some (.int (2 * (d / 24 % 100))), none, none]) (S1 := S ++ S1) (by
      rw [iff_t (tr_t t2 h), xs_nxt (asg_eq (mul_ev (m := 8) (n := 8) int_eq (bin_eq (bin_eq (var_eq rfl) int_eq (op_fdiv_pos (j := 24) (by decide) (by decide +kernel))) int_eq (op_mod_pos (j := 100) (by decide))) (by decide) (by omega))), xs_nil]
      rfl)]
    obtain ⟨l, S', e, hl⟩ := fin0 (S ++ S1) (c % 8) (2 * (d / 24 % 100)) none none (by omega) (by omega)
    exact ⟨l, S1 ++ S', by rw [← List.append_assoc]; exact e, hl⟩
  · rw [xs_nxt (ρ1 := [some (.int c), some (.int d), some (.int (c % 8)), some (.int n1), none, none]) (S1 := S ++ S1) (by rw [iff_f (tr_f t2 h), xs_nil])]
    obtain ⟨l, S', e, hl⟩ := fin0 (S ++ S1) (c % 8) n1 none none h0 h1
    exact ⟨l, S1 ++ S', by rw [← List.append_assoc]; exact e, hl⟩
theorem pick2 {Γ : Gam} {ρ : Env} {S0 T : Store} {tx : List Str} {I : Ex} {j : Int} (hI : ∀ S', ev Γ I ρ (S0 ++ S') = some (.ok (.int j), S0 ++ S')) (h0 : 0 ≤ j) (h1 : j < tx.length) (hl : ∀ x ∈ tx, x.length ≤ 2) :
    ∃ h S', ev Γ (.idx (.lst (tx.map Ex.str)) I) ρ (S0 ++ T) = some (.ok (.str (sg h)), S0 ++ S') ∧ h.length ≤ 2 := by
  have hx : tx[j.toNat]? = some (tx[j.toNat]'(by omega)) := List.getElem?_eq_getElem (by omega)
  refine ⟨(tx[j.toNat]'(by omega)).cps.toList, T ++ [.lst (tx.map W.str)], ?_, ?_⟩
  · rw [sg_tl, ← List.append_assoc]
    refine idx_eq (lst_eq (evs_strs tx)) (by rw [List.append_assoc]; exact hI _) at_new ?_
    rw [atI_nat h0 (by simpa using h1), List.getElem?_map, hx]
    rfl
  · have := hl _ (List.getElem_mem (by omega : j.toNat < tx.length))
    rw [TL.len_tl] at this
    exact this
/-- the text of three cells -/
theorem text_ok {k : Nat} {S : Store} {n : Nat} {y0 y1 y2 : Int} (hS : listAt S n = some [.int y0, .int y1, .int y2]) : ∃ l S', T.callF (k + 4) 1 [.loc n] S = some (.ok (.str (sg l)), S ++ S') ∧ l.length ≤ 1000000 := by
  rw [callF_eq g1 rfl]
  have fg : ∀ (T0 : Store) (c d : Int), ∃ l T', (T.gam (T.callF (k + 3)) (T.callF (k + 2))).call 4 [.int c, .int d] (S ++ T0) = some (.ok (.str (sg l)), S ++ T') ∧ l.length ≤ 300 := fun T0 c d => by
    obtain ⟨l, S', e, hl⟩ := figs_ok (k := k + 1) (S := S ++ T0) c d
    exact ⟨l, T0 ++ S', by rw [← List.append_assoc]; exact e, hl⟩
  generalize T.gam (T.callF (k + 3)) (T.callF (k + 2)) = Γ at fg ⊢
  show ∃ l S', fin (xs Γ b__law_text [some (.loc n), none, none, none, none] S) = _ ∧ _
  unfold b__law_text
  have ix : ∀ (ρ : Env) (S' : Store) (j : Int) (w : W), ρ[0]? = some (some (.loc n)) → L2.atI [W.int y0, .int y1, .int y2] j = some w → ev Γ (.idx (.var 0) (.int j)) ρ (S ++ S') = some (.ok w, S ++ S') := fun ρ S' j w h1 h2 => idx_eq (var_eq h1) int_eq (at_app hS) h2
  obtain ⟨h1, T1, p1, l1⟩ := pick2 (Γ := Γ) (ρ := [some (.loc n), none, none, none, none]) (S0 := S) (T := []) (tx := ["", "", "", "-", "-", "--", "+", " "]) (I := .bin .mod (.idx (.var 0) (.int 0)) (.int 8)) (j := y0 % 8) (fun S' => bin_eq (ix _ _ 0 (.int y0) rfl rfl) int_eq (op_mod_pos (j := 8) (by decide))) (by omega) (by show y0 % 8 < 8; omega) (by decide +kernel)
  rw [List.append_nil] at p1
  rw [xs_nxt (ρ1 := [some (.loc n), some (.str (sg h1)), none, none, none]) (S1 := S ++ T1) (asg_eq p1)]
  obtain ⟨h2, T2, p2, l2⟩ := pick2 (Γ := Γ) (ρ := [some (.loc n), some (.str (sg h1)), none, none, none]) (S0 := S) (T := T1) (tx := ["", "/", "/", "/", "/", "//", "/-", " /"]) (I := .bin .mod (.idx (.var 0) (.int 1)) (.int 8)) (j := y1 % 8) (fun S' => bin_eq (ix _ _ 1 (.int y1) rfl rfl) int_eq (op_mod_pos (j := 8) (by decide))) (by omega) (by show y1 % 8 < 8; omega) (by decide +kernel)
  rw [xs_nxt (ρ1 := [some (.loc n), some (.str (sg h1)), some (.str (sg h2)), none, none]) (S1 := S ++ T2) (asg_eq p2)]
  obtain ⟨h3, T3, p3, l3⟩ := pick2 (Γ := Γ) (ρ := [some (.loc n), some (.str (sg h1)), some (.str (sg h2)), none, none]) (S0 := S) (T := T2) (tx := ["", "", "", "", "", " ", "a", "\n"]) (I := .bin .mod (.idx (.var 0) (.int 2)) (.int 8)) (j := y2 % 8) (fun S' => bin_eq (ix _ _ 2 (.int y2) rfl rfl) int_eq (op_mod_pos (j := 8) (by decide))) (by omega) (by show y2 % 8 < 8; omega) (by decide +kernel)
  rw [xs_nxt (ρ1 := [some (.loc n), some (.str (sg h1)), some (.str (sg h2)), some (.str (sg h3)), none]) (S1 := S ++ T3) (asg_eq p3)]
  obtain ⟨f1, U1, e1, m1⟩ := fg T3 (y0 / 8) 0
  have c1 : ev Γ (.call 4 [.bin .fdiv (.idx (.var 0) (.int 0)) (.int 8), .int 0]) [some (.loc n), some (.str (sg h1)), some (.str (sg h2)), some (.str (sg h3)), none] (S ++ T3) = some (.ok (.str (sg f1)), S ++ U1) := by
    rw [call_eq (evs_cons (bin_eq (ix _ T3 0 (.int y0) rfl rfl) int_eq (op_fdiv_pos (j := 8) (by decide) (by decide +kernel))) (evs_cons int_eq evs_nil)), e1]
  rw [xs_nxt (ρ1 := [some (.loc n), some (.str (sg h1)), some (.str (sg h2)), some (.str (sg h3)), some (.str (sg ((h1 ++ f1) ++ h2)))]) (S1 := S ++ U1) (asg_eq (bin_eq (bin_eq (var_eq rfl) c1 (op_cat (by omega))) (var_eq rfl) (op_cat (by simp; omega))))]
  have hB : ∃ l T', x1 Γ (.iff (.cmp .ne (.var 2) (.str "")) [.asg 4 (.bin .add (.var 4) (.call 4 [.bin .fdiv (.idx (.var 0) (.int 1)) (.int 8), .bin .fdiv (.idx (.var 0) (.int 0)) (.int 8)]))] []) [some (.loc n), some (.str (sg h1)), some (.str (sg h2)), some (.str (sg h3)), some (.str (sg ((h1 ++ f1) ++ h2)))] (S ++ U1) = some (.nxt, [some (.loc n), some (.str (sg h1)), some (.str (sg h2)), some (.str (sg h3)), some (.str (sg l))], S ++ T') ∧ l.length ≤ 700 := by
    obtain ⟨q, hq⟩ : ∃ q, truth (ev Γ (.cmp .ne (.var 2) (.str "")) [some (.loc n), some (.str (sg h1)), some (.str (sg h2)), some (.str (sg h3)), some (.str (sg ((h1 ++ f1) ++ h2)))] (S ++ U1)) = some (.ok q, S ++ U1) := ⟨!decide (sg h2 = ""), by kernel_rfl⟩
    cases q with
    | true =>
      obtain ⟨f2, U2, e2, m2⟩ := fg U1 (y1 / 8) (y0 / 8)
      have c2 : ev Γ (.call 4 [.bin .fdiv (.idx (.var 0) (.int 1)) (.int 8), .bin .fdiv (.idx (.var 0) (.int 0)) (.int 8)]) [some (.loc n), some (.str (sg h1)), some (.str (sg h2)), some (.str (sg h3)), some (.str (sg ((h1 ++ f1) ++ h2)))] (S ++ U1) = some (.ok (.str (sg f2)), S ++ U2) := by
        rw [call_eq (evs_cons (bin_eq (ix _ U1 1 (.int y1) rfl rfl) int_eq (op_fdiv_pos (j := 8) (by decide) (by decide +kernel))) (evs_cons (bin_eq (ix _ U1 0 (.int y0) rfl rfl) int_eq (op_fdiv_pos (j := 8) (by decide) (by decide +kernel))) evs_nil)), e2]
      refine ⟨((h1 ++ f1) ++ h2) ++ f2, U2, ?_, by simp; omega⟩
      rw [iff_t hq, xs_nxt (asg_eq (bin_eq (var_eq rfl) c2 (op_cat (by simp; omega)))), xs_nil]
      rfl
    | false => exact ⟨(h1 ++ f1) ++ h2, U1, by rw [iff_f hq, xs_nil], by simp; omega⟩
  obtain ⟨l, T', hB, hl⟩ := hB
  rw [xs_nxt hB]
  exact ⟨l ++ h3, T', fin_xs_ret (ret_eq (bin_eq (var_eq rfl) (var_eq rfl) (op_cat (by omega)))), by simp; omega⟩
theorem turn {Γ : Gam} {S : Store} {ns : List Int} {i : Nat} {v2 v3 : Option W} (hΓ : Γ = T.gam (T.callF 39) (T.callF 38)) (hS : listAt S 0 = some (ns.map W.int)) :
    ∃ ρ' S', xs Γ [.asg 2 (.call 1 [.lc (.call 2 [.var 0, .bin .add (.var 1) (.var 3)]) [3] .range1 [.int 3] []]), .iff (.not (.call 3 [.var 2])) [.ret (.bl false)] []] [some (.loc 0), some (.int i), v2, v3] S = some (.nxt, ρ', S') ∧ listAt S' 0 = some (ns.map W.int) ∧ ∃ u2 u3, ρ' = [some (.loc 0), some (.int i), u2, u3] := by
  have n1 : ∀ j : Nat, Γ.call 2 [.loc 0, .int ((i : Int) + j)] S = some (.ok (.int (nthI ns (i + j))), S) := fun j => by rw [hΓ]; exact nth_ok (k := 37) g2 hS (by omega)
  have tx : ∀ {S : Store} {n : Nat} {y0 y1 y2 : Int}, listAt S n = some [.int y0, .int y1, .int y2] → ∃ l S', Γ.call 1 [.loc n] S = some (.ok (.str (sg l)), S ++ S') ∧ l.length ≤ 1000000 := fun h => by rw [hΓ]; exact text_ok (k := 35) h
  have ri : ∀ {S : Store} {l : List Nat}, l.length ≤ 1000000 → ∃ S', Γ.call 3 [.str (sg l)] S = some (.ok (.bl true), S ++ S') := fun h => by rw [hΓ]; exact right_ok (k := 33) h
  clear hΓ
  have el : ev Γ (.lc (.call 2 [.var 0, .bin .add (.var 1) (.var 3)]) [3] .range1 [.int 3] []) [some (.loc 0), some (.int i), v2, v3] S = some (.ok (.loc S.length), S ++ [.lst ((List.range (3 : Int).toNat).map fun (j : Nat) => W.int (nthI ns (i + (j : Int))))]) :=
    lc_range (S := S) (j := 3) (vals := fun (j : Nat) => W.int (nthI ns (i + (j : Int)))) (by kernel_rfl) (by decide) (by decide) fun j hj => by
      show ev Γ _ [some (.loc 0), some (.int i), v2, some (.int j)] S = _
      rw [call_eq (ws := [.loc 0, .int ((i : Int) + j)]) (S1 := S) (by kernel_rfl), n1]
  obtain ⟨l, S1, e1, hl⟩ := tx (at_new (S := S) (T := []) (ws := [.int (nthI ns (i + (0 : Nat))), .int (nthI ns (i + (1 : Nat))), .int (nthI ns (i + (2 : Nat)))]))
  obtain ⟨S2, e2⟩ := ri (S := S ++ [.lst ((List.range (3 : Int).toNat).map fun (j : Nat) => W.int (nthI ns (i + (j : Int))))] ++ S1) hl
  rw [xs_nxt (ρ1 := [some (.loc 0), some (.int i), some (.str (sg l)), v3]) (S1 := S ++ [.lst ((List.range (3 : Int).toNat).map fun (j : Nat) => W.int (nthI ns (i + (j : Int))))] ++ S1) (asg_eq (by rw [call_eq (evs_cons el evs_nil)]; exact e1)),
    xs_nxt (ρ1 := [some (.loc 0), some (.int i), some (.str (sg l)), v3]) (S1 := S ++ [.lst ((List.range (3 : Int).toNat).map fun (j : Nat) => W.int (nthI ns (i + (j : Int))))] ++ S1 ++ S2) (by
      rw [iff_f (tr_eq (not_eq (q := true) (by rw [call_eq (evs_cons (var_eq rfl) evs_nil), e2]))), xs_nil]), xs_nil]
  exact ⟨_, _, rfl, at_app (at_app (at_app hS)), _, _, rfl⟩
theorem pure_ : ∀ ns : List Int, ns.length ≤ 63 → (∀ z ∈ ns, PySem.Builtin.Int.intBits z ≤ 1048576) → ∃ S', T.callF 40 0 [.loc 0] [.fro (ns.map W.int)] = some (.ok (.bl true), S') := fun ns hn _ => by
  rw [callF_eq (k := 38) g0 rfl]
  generalize hΓ : T.gam (T.callF (38 + 1)) (T.callF 38) = Γ
  show ∃ S', fin (xs Γ b_law [some (.loc 0), none, none, none] [.fro (ns.map W.int)]) = _
  unfold b_law
  have hl : ev Γ (.bif .max2 [.int 1, .bif .min2 [.bif .len [.var 0], .int 20]]) [some (.loc 0), none, none, none] [.fro (ns.map W.int)] = some (.ok (.int (if (if (20 : Int) < (ns.map W.int).length then 20 else ((ns.map W.int).length : Int)) > 1 then (if (20 : Int) < (ns.map W.int).length then 20 else ((ns.map W.int).length : Int)) else 1)), [.fro (ns.map W.int)]) := by kernel_rfl
  obtain ⟨ρ', S', h1, h2⟩ := for_range1 (tg := [1]) hl (by split <;> split <;> omega) (by split <;> split <;> omega)
    (fun _ ρ S => listAt S 0 = some (ns.map W.int) ∧ ∃ u1 u2 u3, ρ = [some (.loc 0), u1, u2, u3]) ⟨rfl, _, _, _, rfl⟩ (fun i ρ S _ ⟨hS, u1, u2, u3, eρ⟩ => by
      subst eρ
      obtain ⟨ρ', S', t1, t2, v2, v3, t3⟩ := turn (i := i) (v2 := u2) (v3 := u3) hΓ.symm hS
      exact ⟨_, ρ', S', rfl, .inl t1, t2, _, _, _, t3⟩)
  rw [xs_nxt h1]
  exact ⟨S', by kernel_rfl⟩
end K04
open PySem PySem.W PySem.Calls PyProof.Rows in
theorem PySem.Challenge.cw_chanceduel_k04_fractions_read_holds : PySem.Challenge.rw_chanceduel_k04_fractions_read.Holds := by
  w_on; o_law
  refine HandSHeadRun.head_any (r := OpenLaw.row PySem.Challenge.rw_chanceduel_k04_fractions_read) (q := view (OpenLaw.row PySem.Challenge.rw_chanceduel_k04_fractions_read).prog [29]) (H := K04.hk) (ob := K04.ob) (M := 15000) (loose := K04.loose) (d := HandSHeadRun.topDef (OpenLaw.row PySem.Challenge.rw_chanceduel_k04_fractions_read).prog 29) (kwd := []) K04.ob_eq
    (by kernel_rfl) (fun s => by kernel_rfl) K04.run (by kernel_rfl) (by kernel_rfl) (by kernel_rfl) (by rfl) (by first | assumption | decide +kernel) (by decide +kernel) ⟨rfl, rfl, rfl, rfl, rfl, by decide +kernel⟩ ?hw ?hc
  case hw => w_witness2
  case hc =>
    refine Ip.walk_EB (l := PySem.Challenge.rw_chanceduel_k04_fractions_read) (n := 63) (k := 40) (x := "_law_script") (M := K04.M.m) (fL := 0) (i := K04.i0) rfl (by decide) (by kernel_rfl) ⟨rfl, by decide, by decide⟩ K04.mo (by kernel_rfl) (by kernel_rfl) (by kernel_rfl) ?S K04.pure_
    intro w mg h Y G
    obtain ⟨K, KX, c⟩ := Y
    exact ⟨Ip.cfOf K04.M K, KX, (Ip.stands_of K04.hd c KX G).gl 0 _ (by kernel_rfl), fun base b1 b2 => Ip.stands_of K04.hd c b1 b2⟩
