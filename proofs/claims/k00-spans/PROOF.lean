import PyProof.Rows.All
import Wide.All
import OpenK.AllK
import Wide.FinOn
import HandS.Base
import HandS.Call
import HandS.List
import HandS.TupLe
import HandS.Ends
import HandS.Comp
import HandS.Words
import HandS.WordsList
import HandS.Exc
import HandS.Deep
import HandS.TupAny
import HandS.TupMul
import HandS.Sort
import HandS.Style
import HandS.IsInst
import HandS.WordsExc
import HandS.Dict
import HandS.Text
import HandS.Walk
import HandS.Zip
import HandS.Small
import HandS.Defaults
import HandS.Head0
import HandS.Head1
import HandS.Head2
import HandS.HeadEnd
import HandS.HeadHook1
import HandS.HeadHook2
import HandS.HeadHook4
import HandS.Codes
import KE.KStateDown
import PySem.Challenge.RW_downpass_k00_spans
set_option Elab.async false
set_option linter.all false
set_option maxRecDepth 100000
set_option maxHeartbeats 0
namespace VI
open PySem L2
inductive D where
  | non | bl (b : Bool) | int (i : Int) | str (x : Str)
  | tup (xs : List D) | lst (xs : List D) | scr (ns : List Int)
  | dct (kvs : List (Key × D)) | obj (c : String) (fs : List (String × D)) | ref (n : Nat)
  deriving Inhabited
/-- what a slot holds: nothing known, a value, an own list, an own dict, the own instance of an __init__ -/
inductive Sl where
  | no | v (d : D) | ol (xs : List D) | od (kvs : List (Key × D)) | oi (c : String) (fs : List (String × D))
  deriving Inhabited
/-- a cell: a list or an instance that may change and is named by several -/
inductive Cl where
  | lst (xs : List D) | ins (c : String) (fs : List (String × D))
  deriving Inhabited
abbrev AH := List Cl
abbrev En := List Sl
inductive Res (α : Type) where
  | ok (a : α) (h : AH) | ex (c : String) (fs : List (String × D)) (h : AH) | bad
  deriving Inhabited
def Res.bind {α β : Type} (r : Res α) (f : α → AH → Res β) : Res β := match r with
  | .ok a h => f a h
  | .ex c fs h => .ex c fs h
  | .bad => .bad
inductive RS where
  | nx (σ : En) (h : AH) | rt (d : D) (h : AH) | bk (σ : En) (h : AH) | ct (σ : En) (h : AH) | ex (c : String) (fs : List (String × D)) (h : AH) | bad
  deriving Inhabited
theorem lim_le {n : Nat} (h : n ≤ 1000000) : n ≤ sizeLine := by rw [sizeLine_eq]; omega
theorem lim_lt {n : Nat} (h : n < 1000000) : n < sizeLine := by rw [sizeLine_eq]; omega
inductive BOp where | add | sub | mul | fdiv | mod | pow
  deriving DecidableEq
inductive COp where | eq | ne | lt | le | gt | ge | inn | nin
  deriving DecidableEq
/-- what a loop walks: a value; range of one, of two; enumerate; zip -/
inductive IK where | val | rng1 | rng2 | enum | zip
  deriving DecidableEq
/-- targets: a name's slot, a tuple of targets -/
inductive Tg where
  | nm (i : Nat) | tp (l : Tg) | nil | cons (a r : Tg)
  deriving DecidableEq
inductive E where
  | var (i : Nat) | glob (x : String) | cc (c x : String) | cint (i : Int) | cbl (b : Bool) | cnon | cstr (x : String)
  /-- argument lists -/
  | nil | cons (e r : E)
  | tup (a : E) | lst (a : E) | cell (e : E)
  | bin (o : BOp) (a b : E) | lbin (o : BOp) (a b : E) | neg (a : E)
  | cmp (o : COp) (a b : E) | chain (o p : COp) (a b c : E) | isN (a : E) | notN (a : E) | isB (v : Bool) (a : E) | notB (v : Bool) (a : E)
  | inR (neg : Bool) (x : E) (a : E)
  | and (a : E) | or (a : E) | not (a : E) | ife (c a b : E)
  | ix (a b : E) | ixo (i : Nat) (b : E) | slc (a : E) (lo hi : E) | skip
  | fld (a : E) (f : String) | snap (i : Nat)
  | call (f : String) (a : E) | meth (c m : String) (o : E) (a : E) | new (c : String) (a : E)
  | bi (b : String) (a : E) | bm (t m : String) (o : E) (a : E)
  | isi (a : E) (cs : List String)
  | lc (t : Tg) (k : IK) (a : E) (c : E) (e : E) | yes
  | fstr (a : E)
  deriving DecidableEq
inductive S where
  | nil | seq (s r : S)
  | ass (t : Tg) (e : E) | own (i : Nat) (e : E) | frz (i : Nat) | fgt (is : List Nat)
  | setf (o : E) (f : String) (e : E) | sefi (i : Nat) (f : String) (e : E) | sefs (i : Nat) (fs : List String) (e : E)
  | setx (o k e : E) | seto (i : Nat) (k e : E) | augo (i : Nat) (k : E) (o : BOp) (e : E)
  | aug (i : Nat) (o : BOp) (e : E) | augf (x : E) (f : String) (o : BOp) (e : E)
  | app (o e : E) | appo (i : Nat) (e : E) | exto (i : Nat) (e : E)
  | drop (e : E) | ret (e : E) | retn | ite (c : E) (a b : S)
  | for_ (t : Tg) (k : IK) (a : E) (b : S) (fg : List Nat) | whl (n : Nat) (c : E) (b : S) (fg : List Nat)
  | brk | cnt | pass | raise_ (c : String) (a : E) | try_ (b : S) (cs : List String) (nm : Option Nat) (h : S)
  deriving DecidableEq
structure FD where
  np : Nat
  cls : Option (String × String) := none
  ns : Nat
  body : S
structure Tab where
  fn : String → Option FD
  /-- a class: some true if its instances are cells, some false if they are values -/
  cl : String → Option Bool
  gl : String → Option D
  cc : String → String → Option D
  /-- the names of methods: no field is called so -/
  isM : String → Bool
mutual
def D.py : D → Option PyData
  | .non => some .none
  | .bl b => some (.bool b)
  | .int i => some (.int i)
  | .str x => some (.str x)
  | .tup xs => (D.pys xs).map .tuple
  | .lst xs => (D.pys xs).map .list
  | _ => none
def D.pys : List D → Option (List PyData)
  | [] => some []
  | d :: r => match d.py, D.pys r with
    | some p, some ps => some (p :: ps)
    | _, _ => none
end
def okMul (i j : Int) : Bool := decide (-(2 ^ 64) < i ∧ i < 2 ^ 64) || decide (-(2 ^ 64) < j ∧ j < 2 ^ 64)
def binD (o : BOp) (a b : D) : Option D := match o, a, b with
  | .add, .int i, .int j => some (.int (i + j))
  | .sub, .int i, .int j => some (.int (i - j))
  | .mul, .int i, .int j => if okMul i j then some (.int (i * j)) else none
  | .fdiv, .int i, .int j => if 0 < j ∧ j < 1073741824 then some (.int (i / j)) else none
  | .mod, .int i, .int j => if 0 < j then some (.int (i % j)) else none
  | .pow, .int i, .int j => if 0 ≤ j ∧ j ≤ 1000000 ∧ i.natAbs < 2 ^ 64 then some (.int (i ^ j.toNat)) else none
  | .add, .str x, .str y => if x.length + y.length ≤ 1000000 then some (.str (x ++ y)) else none
  | .add, .tup xs, .tup ys => if xs.length + ys.length ≤ 1000000 then some (.tup (xs ++ ys)) else none
  | _, _, _ => none
/-- the operators that make a new list -/
def lbinD (o : BOp) (a b : D) : Option D := match o, a, b with
  | .add, .lst xs, .lst ys => if xs.length + ys.length ≤ 1000000 then some (.lst (xs ++ ys)) else none
  | .mul, .lst xs, .int j => if -(2 ^ 63) ≤ j ∧ j < 2 ^ 63 ∧ xs.length * j.toNat ≤ 1000000 then some (.lst (List.replicate j.toNat xs).flatten) else none
  | _, _, _ => none
/-- an index of a sequence -/
def ixL {α : Type} (xs : List α) (i : Int) : Option α := atI xs i
def cutL {α : Type} (xs : List α) (lo hi : Option Int) : List α := (xs.drop (HT.sIx xs.length 0 lo)).take (HT.sIx xs.length xs.length hi - HT.sIx xs.length 0 lo)
/-- the ints of a tuple or list -/
def ints? : List D → Option (List Int)
  | [] => some []
  | .int i :: r => (ints? r).map (i :: ·)
  | _ => none
def bls? : List D → Option (List Bool)
  | [] => some []
  | .bl i :: r => (bls? r).map (i :: ·)
  | _ => none
def strs? : List D → Option (List Str)
  | [] => some []
  | .str i :: r => (strs? r).map (i :: ·)
  | _ => none
/-- == of data -/
def eqP (a b : D) : Option Bool := match a.py, b.py with
  | some p, some q => if SeqAt.shaped p && SeqAt.shaped q then some (PyData.eqv p q) else none
  | _, _ => none
def eqD (a b : D) : Option Bool := match a, b with
  | .int i, .int j => some (decide (i = j))
  | .str i, .str j => some (decide (i = j))
  | .bl i, .bl j => some (decide (i = j))
  | .non, .non => some true
  | .non, .int _ | .int _, .non | .non, .bl _ | .bl _, .non | .non, .str _ | .str _, .non | .int _, .str _ | .str _, .int _ | .bl _, .str _ | .str _, .bl _ => some false
  | a, b => eqP a b
def inD (x : D) (xs : List D) : Option Bool := match x.py, D.pys xs with
  | some p, some qs => if SeqAt.shaped p && SeqAt.shaped (.list qs) then some (qs.any fun z => PyData.eqv z p) else none
  | _, _ => none
def keyD : D → Option Key
  | .int i => some (.inl i)
  | .str x => some (.inr x)
  | _ => none
def valD (kvs : List (Key × D)) (k : Key) : Option D := (kvs.find? fun p => decide (p.1 = k)).map (·.2)
def putD (kvs : List (Key × D)) (k : Key) (v : D) : List (Key × D) :=
  if (kvs.any fun kv => decide (kv.1 = k)) = true then kvs.map (fun kv => if kv.1 = k then (kv.1, v) else kv) else kvs ++ [(k, v)]
def fldD (fs : List (String × D)) (f : String) : Option D := fs.lookup f
def putFD (f : String) (d : D) : List (String × D) → List (String × D)
  | [] => [(f, d)]
  | (g, y) :: r => if g = f then (g, d) :: r else (g, y) :: putFD f d r
def ltD (a b : D) : Option Bool := match a, b with
  | .int i, .int j => some (decide (i < j))
  | .tup xs, .tup ys => match ints? xs, ints? ys with
    | some ns, some ms => some (HT.lexLt ns ms)
    | _, _ => none
  | _, _ => none
/-- > of tuples of ints -/
def lexGt (ns ms : List Int) : Bool := Ob.lexAt (fun j => decide (ns.getD j 0 = ms.getD j 0)) (fun j => decide (ms.getD j 0 < ns.getD j 0)) (decide (ns.length > ms.length)) 0 (min ns.length ms.length)
def cmpD (o : COp) (a b : D) : Option Bool := match o with
  | .eq => eqD a b
  | .ne => (eqD a b).map (!·)
  | .lt => ltD a b
  | .gt => match a, b with
    | .int i, .int j => some (decide (j < i))
    | .tup xs, .tup ys => match ints? xs, ints? ys with
      | some ns, some ms => some (lexGt ns ms)
      | _, _ => none
    | _, _ => none
  | .le => match a, b with
    | .int i, .int j => some (decide (i ≤ j))
    | _, _ => none
  | .ge => match a, b with
    | .int i, .int j => some (decide (j ≤ i))
    | _, _ => none
  | .inn => match a, b with
    | .str x, .str y => some (!(Builtin.Str.occurrences y x 0 y.length 1).isEmpty)
    | x, .tup ys => inD x ys
    | x, .lst ys => inD x ys
    | x, .dct kvs => (keyD x).map fun k => (valD kvs k).isSome
    | _, _ => none
  | .nin => match a, b with
    | .str x, .str y => some (!(!(Builtin.Str.occurrences y x 0 y.length 1).isEmpty))
    | x, .tup ys => (inD x ys).map (!·)
    | x, .lst ys => (inD x ys).map (!·)
    | x, .dct kvs => (keyD x).map fun k => !(valD kvs k).isSome
    | _, _ => none
def isiD (d : D) (c : String) : Option Bool := match d, c with
  | .non, "int" | .non, "bool" | .non, "str" | .non, "tuple" | .non, "list" => some false
  | .bl _, "int" | .bl _, "bool" => some true
  | .bl _, "str" | .bl _, "tuple" | .bl _, "list" => some false
  | .int _, "int" => some true
  | .int _, "bool" | .int _, "str" | .int _, "tuple" | .int _, "list" => some false
  | .str _, "str" => some true
  | .str _, "int" | .str _, "bool" | .str _, "tuple" | .str _, "list" => some false
  | .tup _, "tuple" => some true
  | .tup _, "int" | .tup _, "bool" | .tup _, "str" | .tup _, "list" => some false
  | .lst _, "list" => some true
  | .lst _, "int" | .lst _, "bool" | .lst _, "str" | .lst _, "tuple" => some false
  | _, _ => none
/-- built-in functions of values; the heap is read for cells -/
def lenD : List D → AH → Option D
  | [.tup xs], _ => some (.int xs.length)
  | [.lst xs], _ => some (.int xs.length)
  | [.scr xs], _ => some (.int xs.length)
  | [.str x], _ => if x.length ≤ 1000000 then some (.int x.length) else none
  | [.ref n], h => match h[n]? with
    | some (.lst xs) => some (.int xs.length)
    | _ => none
  | _, _ => none
def intD : List D → AH → Option D
  | [.int i], _ => some (.int i)
  | [.bl b], _ => some (.int (if b then 1 else 0))
  | [.str x], _ => if x.length ≤ 640 then (intText? x).map .int else none
  | _, _ => none
def absD : List D → AH → Option D
  | [.int i], _ => some (.int (if i < 0 then -i else i))
  | _, _ => none
/-- of two ints, or of one list of ints that is not empty -/
def maxL : List Int → Int
  | [] => 0
  | [a] => a
  | a :: r => if maxL r > a then maxL r else a
def minL : List Int → Int
  | [] => 0
  | [a] => a
  | a :: r => if minL r < a then minL r else a
def maxD : List D → AH → Option D
  | [.int i, .int j], _ => some (.int (if j > i then j else i))
  | _, _ => none
def minD : List D → AH → Option D
  | [.int i, .int j], _ => some (.int (if j < i then j else i))
  | _, _ => none
def max1D : List D → AH → Option D
  | [.lst xs], _ => (ints? xs).bind fun ns => if ns.length = 0 then none else some (.int (maxL ns))
  | _, _ => none
def tupleD : List D → AH → Option D
  | [.lst xs], _ => some (.tup xs)
  | [.tup xs], _ => some (.tup xs)
  | [.ref n], h => match h[n]? with
    | some (.lst xs) => some (.tup xs)
    | _ => none
  | _, _ => none
def listD : List D → AH → Option D
  | [.lst xs], _ => some (.lst xs)
  | [.tup xs], _ => some (.lst xs)
  | [.ref n], h => match h[n]? with
    | some (.lst xs) => some (.lst xs)
    | _ => none
  | _, _ => none
def sumD : List D → AH → Option D
  | [.lst xs], _ => (ints? xs).map fun ns => .int ns.sum
  | _, _ => none
def allD : List D → AH → Option D
  | [.lst xs], _ => (bls? xs).map fun ns => .bl (ns.all id)
  | _, _ => none
def anyD : List D → AH → Option D
  | [.lst xs], _ => (bls? xs).map fun ns => .bl (ns.any id)
  | _, _ => none
def strD : List D → AH → Option D
  | [.int i], _ => if i.natAbs.log2 < 1920 then some (.str (toString i)) else none
  | _, _ => none
def biD (b : String) : List D → AH → Option D := match b with
  | "len" => lenD
  | "int" => intD
  | "abs" => absD
  | "max" => maxD
  | "min" => minD
  | "max1" => max1D
  | "tuple" => tupleD
  | "list" => listD
  | "sum" => sumD
  | "all" => allD
  | "any" => anyD
  | "str" => strD
  | _ => fun _ _ => none
def ixD (a b : D) (h : AH) : Option D := match a, b with
  | .tup xs, .int i => ixL xs i
  | .lst xs, .int i => ixL xs i
  | .scr xs, .int i => (ixL xs i).map .int
  | .str x, .int i => if x.length ≤ 1000000 then (ixL x.cps.toList i).map fun c => .str ⟨#[c]⟩ else none
  | .dct kvs, k => (keyD k).bind fun k => valD kvs k
  | .ref n, .int i => match h[n]? with
    | some (.lst xs) => ixL xs i
    | _ => none
  | _, _ => none
def ixOl (xs : List D) : D → Option D
  | .int k => ixL xs k
  | _ => none
def ixOd (kvs : List (Key × D)) (y : D) : Option D := (keyD y).bind fun k => valD kvs k
/-- what a loop walks: the items -/
def rngL (lo : Int) (n : Nat) : List D := (List.range n).map fun k => .int (lo + (k : Nat))
def okR (i : Int) : Bool := decide (-(2 ^ 62) ≤ i ∧ i < 2 ^ 62)
def seqD : D → AH → Option (List D)
  | .tup xs, _ => some xs
  | .lst xs, _ => some xs
  | .scr ns, _ => some (ns.map .int)
  | _, _ => none
def itD (k : IK) (vs : List D) (h : AH) : Option (List D) := match k, vs with
  | .val, [d] => seqD d h
  | .rng1, [.int j] => if okR j then some (rngL 0 j.toNat) else none
  | .rng2, [.int i, .int j] => if okR i && okR j then some (rngL i (j - i).toNat) else none
  | .enum, [.lst xs] => some (xs.mapIdx fun i x => .tup [.int i, x])
  | .zip, [.lst xs, .lst ys] => some (List.zipWith (fun x y => .tup [x, y]) xs ys)
  | .zip, [.tup xs, .tup ys] => some (List.zipWith (fun x y => .tup [x, y]) xs ys)
  | _, _ => none
def isND : D → Option Bool
  | .non => some true
  | _ => some false
def notND : D → Option Bool
  | .non => some false
  | _ => some true
def isBD (v : Bool) : D → Option Bool
  | .bl b => some (decide (b = v))
  | _ => none
def notBD (v : Bool) : D → Option Bool
  | .bl b => some (!decide (b = v))
  | _ => none
def inRD (x : D) (vs : List D) : Option Bool := match x, vs with
  | .int i, [.int l, .int j] => some (decide (l ≤ i ∧ i < j))
  | _, _ => none
/-- the slot i's value -/
def getV (σ : En) (i : Nat) : Option D := match σ[i]? with
  | some (.v d) => some d
  | _ => none
def setV (σ : En) (i : Nat) (d : D) : Option En := match σ[i]? with
  | some .no => some (σ.set i (.v d))
  | some (.v _) => some (σ.set i (.v d))
  | _ => none
def Tg.slots : Tg → List Nat
  | .nm i => [i]
  | .tp l => l.slots
  | .nil => []
  | .cons a r => a.slots ++ r.slots
mutual
def bindT : Tg → D → En → Option En
  | .nm i, d, σ => setV σ i d
  | .tp l, .tup xs, σ => bindTs l xs σ
  | _, _, _ => none
def bindTs : Tg → List D → En → Option En
  | .nil, [], σ => some σ
  | .cons a r, d :: ds, σ => match bindT a d σ with
    | some σ' => bindTs r ds σ'
    | none => none
  | _, _, _ => none
end
def fgtL (σ : En) : List Nat → En
  | [] => σ
  | i :: r => fgtL (σ.set i .no) r
def Res.val {α β : Type} (o : Option α) (h : AH) (f : α → Res β) : Res β := match o with
  | some a => f a
  | none => .bad
def Res.of {α : Type} (o : Option α) (h : AH) : Res α := match o with
  | some a => .ok a h
  | none => .bad
/-- a test's outcome -/
def Res.tst {β : Type} (r : Res D) (f : Bool → AH → Res β) : Res β := match r with
  | .ok (.bl b) h => f b h
  | .ok _ _ => .bad
  | .ex c fs h => .ex c fs h
  | .bad => .bad
/-- a comprehension's turns: no exception leaves -/
def lcGo (t : Tg) (c e : En → AH → Res D) : List D → En → AH → Res (List D)
  | [], _, h => .ok [] h
  | d :: ds, σ, h => match bindT t d σ with
    | none => .bad
    | some σ1 => match c σ1 h with
      | .ok (.bl true) h1 => match e σ1 h1 with
        | .ok v h2 => match lcGo t c e ds σ h2 with
          | .ok vs h3 => if vs.length < 1000000 then .ok (v :: vs) h3 else .bad
          | _ => .bad
        | _ => .bad
      | .ok (.bl false) h1 => lcGo t c e ds σ h1
      | _ => .bad
/-- an optional end of a slice -/
def parI (skip : Bool) (r : Res D) (h : AH) : Res (Option Int) := match skip with
  | true => .ok none h
  | false => r.bind fun x h => match x with
    | .int i => .ok (some i) h
    | _ => .bad
def E.isSkip : E → Bool
  | .skip => true
  | _ => false
section
variable (T : Tab) (C : String → List D → AH → Res D) (CI : String → List D → AH → Res (List (String × D)))
mutual
def ev : E → En → AH → Res D
  | .var i, σ, h => Res.of (getV σ i) h
  | .glob x, _, h => Res.of (T.gl x) h
  | .cc c x, _, h => Res.of (T.cc c x) h
  | .cint i, _, h => .ok (.int i) h
  | .cbl b, _, h => .ok (.bl b) h
  | .cnon, _, h => .ok .non h
  | .cstr x, _, h => .ok (.str x) h
  | .tup a, σ, h => (evs a σ h).bind fun vs h => if vs.length ≤ 1000000 then .ok (.tup vs) h else .bad
  | .lst a, σ, h => (evs a σ h).bind fun vs h => if vs.length ≤ 1000000 then .ok (.lst vs) h else .bad
  | .cell a, σ, h => (ev a σ h).bind fun v h => match v with
    | .lst xs => .ok (.ref h.length) (h ++ [.lst xs])
    | _ => .bad
  | .bin o a b, σ, h => (ev a σ h).bind fun x h => (ev b σ h).bind fun y h => Res.of (binD o x y) h
  | .lbin o a b, σ, h => (ev a σ h).bind fun x h => (ev b σ h).bind fun y h => Res.of (lbinD o x y) h
  | .neg a, σ, h => (ev a σ h).bind fun x h => match x with
    | .int i => .ok (.int (-i)) h
    | _ => .bad
  | .cmp o a b, σ, h => (ev a σ h).bind fun x h => (ev b σ h).bind fun y h => Res.of ((cmpD o x y).map .bl) h
  | .chain o p a b c, σ, h => (ev a σ h).bind fun x h => (ev b σ h).bind fun y h => match cmpD o x y with
    | some true => (ev c σ h).bind fun z h => Res.of ((cmpD p y z).map .bl) h
    | some false => .ok (.bl false) h
    | none => .bad
  | .isN a, σ, h => (ev a σ h).bind fun x h => Res.of ((isND x).map .bl) h
  | .notN a, σ, h => (ev a σ h).bind fun x h => Res.of ((notND x).map .bl) h
  | .isB v a, σ, h => (ev a σ h).bind fun x h => Res.of ((isBD v x).map .bl) h
  | .notB v a, σ, h => (ev a σ h).bind fun x h => Res.of ((notBD v x).map .bl) h
  | .inR _ x a, σ, h => (ev x σ h).bind fun x h => (evs a σ h).bind fun vs h => Res.of ((inRD x vs).map .bl) h
  | .and a, σ, h => evA a σ h
  | .or a, σ, h => evO a σ h
  | .not a, σ, h => (ev a σ h).tst fun b h => .ok (.bl (!b)) h
  | .ife c a b, σ, h => (ev c σ h).tst fun t h => if t then ev a σ h else ev b σ h
  | .ix a b, σ, h => (ev a σ h).bind fun x h => (ev b σ h).bind fun y h => Res.of (ixD x y h) h
  | .ixo i b, σ, h => match σ[i]? with
    | some (.ol xs) => (ev b σ h).bind fun y h => Res.of (ixOl xs y) h
    | some (.od kvs) => (ev b σ h).bind fun y h => Res.of (ixOd kvs y) h
    | _ => .bad
  | .slc a lo hi, σ, h => (ev a σ h).bind fun x h => (parI lo.isSkip (ev lo σ h) h).bind fun l h => (parI hi.isSkip (ev hi σ h) h).bind fun u h => match x with
    | .tup xs => .ok (.tup (cutL xs l u)) h
    | .lst xs => .ok (.lst (cutL xs l u)) h
    | .scr ns => .ok (.lst ((cutL ns l u).map .int)) h
    | .str x => if x.length ≤ 1000000 then .ok (.str ⟨(cutL x.cps.toList l u).toArray⟩) h else .bad
    | _ => .bad
  | .fld a f, σ, h => (ev a σ h).bind fun x h => match x with
    | .obj _ fs => Res.of (fldD fs f) h
    | .ref n => match h[n]? with
      | some (.ins _ fs) => Res.of (fldD fs f) h
      | _ => .bad
    | _ => .bad
  | .snap i, σ, h => match σ[i]? with
    | some (.oi c fs) => .ok (.obj c fs) h
    | _ => .bad
  | .call f a, σ, h => (evs a σ h).bind fun vs h => C f vs h
  | .meth c m o a, σ, h => (ev o σ h).bind fun x h => (evs a σ h).bind fun vs h => match x with
    | .obj c' _ => if c' = c then C (c ++ "." ++ m) (x :: vs) h else .bad
    | .ref n => match h[n]? with
      | some (.ins c' _) => if c' = c then C (c ++ "." ++ m) (x :: vs) h else .bad
      | _ => .bad
    | _ => .bad
  | .new c a, σ, h => (evs a σ h).bind fun vs h => match T.cl c with
    | some false => (CI c vs h).bind fun fs h => .ok (.obj c fs) h
    | some true => (C (c ++ ".__init__") (.ref h.length :: vs) (h ++ [.ins c []])).bind fun _ h1 => .ok (.ref h.length) h1
    | none => .bad
  | .bi b a, σ, h => (evs a σ h).bind fun vs h => Res.of (biD b vs h) h
  | .isi a cs, σ, h => (ev a σ h).bind fun x h => match cs with
    | [c] => Res.of ((isiD x c).map .bl) h
    | _ => .bad
  | .lc t k a c e, σ, h => (evs a σ h).bind fun vs h => match itD k vs h with
    | none => .bad
    | some xs => (lcGo t (fun σ h => ev c σ h) (fun σ h => ev e σ h) xs (fgtL σ t.slots) h).bind fun vs h => .ok (.lst vs) h
  | .yes, _, h => .ok (.bl true) h
  | _, _, _ => .bad
termination_by structural e => e
def evs : E → En → AH → Res (List D)
  | .nil, _, h => .ok [] h
  | .cons e r, σ, h => (ev e σ h).bind fun v h => (evs r σ h).bind fun vs h => .ok (v :: vs) h
  | _, _, _ => .bad
termination_by structural e => e
/-- and, or: from the left -/
def evA : E → En → AH → Res D
  | .cons e .nil, σ, h => (ev e σ h).tst fun b h => .ok (.bl b) h
  | .cons e r, σ, h => (ev e σ h).tst fun b h => if b then evA r σ h else .ok (.bl false) h
  | _, _, _ => .bad
termination_by structural e => e
def evO : E → En → AH → Res D
  | .cons e .nil, σ, h => (ev e σ h).tst fun b h => .ok (.bl b) h
  | .cons e r, σ, h => (ev e σ h).tst fun b h => if b then .ok (.bl true) h else evO r σ h
  | _, _, _ => .bad
termination_by structural e => e
end
end
def RS.ofR {α : Type} (r : Res α) (f : α → AH → RS) : RS := match r with
  | .ok a h => f a h
  | .ex c fs h => .ex c fs h
  | .bad => .bad
def RS.tst (r : Res D) (f : Bool → AH → RS) : RS := match r with
  | .ok (.bl b) h => f b h
  | .ok _ _ => .bad
  | .ex c fs h => .ex c fs h
  | .bad => .bad
def RS.seq (r : RS) (f : En → AH → RS) : RS := match r with
  | .nx σ h => f σ h
  | r => r
def forGo (t : Tg) (b : En → AH → RS) (fg : List Nat) : List D → En → AH → RS
  | [], σ, h => .nx (fgtL σ fg) h
  | d :: ds, σ, h => match bindT t d σ with
    | none => .bad
    | some σ1 => match b σ1 h with
      | .nx σ2 h2 => forGo t b fg ds (fgtL σ2 fg) h2
      | .ct σ2 h2 => forGo t b fg ds (fgtL σ2 fg) h2
      | .bk σ2 h2 => .nx (fgtL σ2 fg) h2
      | r => r
def whlGo (c : En → AH → Res D) (b : En → AH → RS) (fg : List Nat) : Nat → En → AH → RS
  | 0, _, _ => .bad
  | n + 1, σ, h => RS.tst (c σ h) fun t h1 => if t then
      match b σ h1 with
      | .nx σ2 h2 => whlGo c b fg n (fgtL σ2 fg) h2
      | .ct σ2 h2 => whlGo c b fg n (fgtL σ2 fg) h2
      | .bk σ2 h2 => .nx (fgtL σ2 fg) h2
      | r => r
    else .nx (fgtL σ fg) h1
/-- a slot that holds nothing of its own -/
def isFree (σ : En) (i : Nat) : Bool := match σ[i]? with
  | some .no => true
  | some (.v _) => true
  | _ => false
def augI (o : BOp) (a b : Int) : Option Int := match o with
  | .add => some (a + b)
  | .sub => some (a - b)
  | .mul => if okMul a b then some (a * b) else none
  | _ => none
/-- a class's arguments as an exception's fields -/
def excFs (c : String) (vs : List D) : Option (List (String × D)) := match c, vs with
  | "TextFault", [a, b, r] => some [("line", a), ("column", b), ("reason", r)]
  | "BadPlan", [.str _] => some []
  | "BadRow", [.str _] => some []
  | "BadPrice", [.str _] => some []
  | _, _ => none
def setFs (m : String → Bool) : List String → List D → List (String × D) → Option (List (String × D))
  | [], [], fs => some fs
  | f :: r, d :: ds, fs => if m f || (fldD fs f).isSome then none else setFs m r ds (fs ++ [(f, d)])
  | _, _, _ => none
section
variable (T : Tab) (C : String → List D → AH → Res D) (CI : String → List D → AH → Res (List (String × D)))
def xc : S → En → AH → RS
  | .nil, σ, h => .nx σ h
  | .seq s r, σ, h => (xc s σ h).seq fun σ h => xc r σ h
  | .ass t e, σ, h => RS.ofR (ev T C CI e σ h) fun d h => match bindT t d σ with
    | some σ' => .nx σ' h
    | none => .bad
  | .own i e, σ, h => RS.ofR (ev T C CI e σ h) fun d h => match d with
    | .lst xs => if isFree σ i then .nx (σ.set i (.ol xs)) h else .bad
    | .dct kvs => if isFree σ i then .nx (σ.set i (.od kvs)) h else .bad
    | _ => .bad
  | .frz i, σ, h => match σ[i]? with
    | some (.ol xs) => .nx (σ.set i (.v (.lst xs))) h
    | some (.od xs) => .nx (σ.set i (.v (.dct xs))) h
    | _ => .bad
  | .fgt is, σ, h => .nx (fgtL σ is) h
  | .setf o f e, σ, h => RS.ofR (ev T C CI e σ h) fun d h => RS.ofR (ev T C CI o σ h) fun x h => match x with
    | .ref n => match h[n]? with
      | some (.ins c fs) => if T.isM f || decide (100 ≤ fs.length) then .bad else .nx σ (h.set n (.ins c (putFD f d fs)))
      | _ => .bad
    | _ => .bad
  | .sefi i f e, σ, h => RS.ofR (ev T C CI e σ h) fun d h => match σ[i]? with
    | some (.oi c fs) => if T.isM f || (fldD fs f).isSome || decide (100 ≤ fs.length) then .bad else .nx (σ.set i (.oi c (fs ++ [(f, d)]))) h
    | _ => .bad
  | .sefs i fl e, σ, h => RS.ofR (ev T C CI e σ h) fun d h => match σ[i]?, d with
    | some (.oi c fs), .tup ds => if decide (100 ≤ fs.length + ds.length) then .bad else match setFs T.isM fl ds fs with
      | some fs' => .nx (σ.set i (.oi c fs')) h
      | none => .bad
    | _, _ => .bad
  | .setx o k e, σ, h => RS.ofR (ev T C CI e σ h) fun d h => RS.ofR (ev T C CI o σ h) fun x h => RS.ofR (ev T C CI k σ h) fun y h => match x, y with
    | .ref n, .int i => match h[n]? with
      | some (.lst xs) => match ixN xs.length i with
        | some j => .nx σ (h.set n (.lst (xs.set j d)))
        | none => .bad
      | _ => .bad
    | _, _ => .bad
  | .seto i k e, σ, h => match σ[i]? with
    | some (.ol xs) => RS.ofR (ev T C CI e σ h) fun d h => RS.ofR (ev T C CI k σ h) fun y h => match y with
      | .int j => match ixN xs.length j with
        | some j => .nx (σ.set i (.ol (xs.set j d))) h
        | none => .bad
      | _ => .bad
    | some (.od kvs) => RS.ofR (ev T C CI e σ h) fun d h => RS.ofR (ev T C CI k σ h) fun y h => match keyD y with
      | some k => if kvs.length < 1000000 then .nx (σ.set i (.od (putD kvs k d))) h else .bad
      | none => .bad
    | _ => .bad
  | .augo i k o e, σ, h => RS.ofR (ev T C CI k σ h) fun y h => match σ[i]?, y with
    | some (.ol xs), .int j => match ixN xs.length j, ixL xs j with
      | some j, some x => RS.ofR (ev T C CI e σ h) fun z h => match o, x, z with
        | .add, .int x, .int z => .nx (σ.set i (.ol (xs.set j (.int (x + z))))) h
        | _, _, _ => .bad
      | _, _ => .bad
    | _, _ => .bad
  | .aug i o e, σ, h => match getV σ i with
    | some x => RS.ofR (ev T C CI e σ h) fun y h => match x, y with
      | .int a, .int b => match augI o a b with
        | some c => .nx (σ.set i (.v (.int c))) h
        | none => .bad
      | _, _ => .bad
    | none => .bad
  | .augf x f o e, σ, h => RS.ofR (ev T C CI x σ h) fun y h => match y with
    | .ref n => match h[n]? with
      | some (.ins _ fs) => match fldD fs f with
        | some (.int a) => RS.ofR (ev T C CI e σ h) fun z h => match o, z, h[n]? with
          | .add, .int b, some (.ins c fs) => if T.isM f || decide (100 ≤ fs.length) then .bad else .nx σ (h.set n (.ins c (putFD f (.int (a + b)) fs)))
          | .sub, .int b, some (.ins c fs) => if T.isM f || decide (100 ≤ fs.length) then .bad else .nx σ (h.set n (.ins c (putFD f (.int (a - b)) fs)))
          | _, _, _ => .bad
        | _ => .bad
      | _ => .bad
    | _ => .bad
  | .app o e, σ, h => RS.ofR (ev T C CI o σ h) fun x h => match x with
    | .ref n => match h[n]? with
      | some (.lst _) => RS.ofR (ev T C CI e σ h) fun d h => match h[n]? with
        | some (.lst xs) => if xs.length < 1000000 then .nx σ (h.set n (.lst (xs ++ [d]))) else .bad
        | _ => .bad
      | _ => .bad
    | _ => .bad
  | .appo i e, σ, h => match σ[i]? with
    | some (.ol xs) => RS.ofR (ev T C CI e σ h) fun d h => if xs.length < 1000000 then .nx (σ.set i (.ol (xs ++ [d]))) h else .bad
    | _ => .bad
  | .exto i e, σ, h => match σ[i]? with
    | some (.ol xs) => RS.ofR (ev T C CI e σ h) fun d h => match d with
      | .lst ys => if xs.length + ys.length ≤ 1000000 then .nx (σ.set i (.ol (xs ++ ys))) h else .bad
      | _ => .bad
    | _ => .bad
  | .drop e, σ, h => RS.ofR (ev T C CI e σ h) fun _ h => .nx σ h
  | .ret e, σ, h => RS.ofR (ev T C CI e σ h) fun d h => .rt d h
  | .retn, _, h => .rt .non h
  | .ite c a b, σ, h => RS.tst (ev T C CI c σ h) fun t h => if t then xc a σ h else xc b σ h
  | .for_ t k a b fg, σ, h => RS.ofR (evs T C CI a σ h) fun vs h => match itD k vs h with
    | some xs => forGo t (fun σ h => xc b σ h) fg xs σ h
    | none => .bad
  | .whl n c b fg, σ, h => whlGo (fun σ h => ev T C CI c σ h) (fun σ h => xc b σ h) fg n σ h
  | .brk, σ, h => .bk σ h
  | .cnt, σ, h => .ct σ h
  | .pass, σ, h => .nx σ h
  | .raise_ c a, σ, h => RS.ofR (evs T C CI a σ h) fun vs h => match excFs c vs with
    | some fs => .ex c fs h
    | none => .bad
  | .try_ _ _ _ _, _, _ => .bad
termination_by structural s => s
end
def startD (fd : FD) (ds : List D) : En := ds.map .v ++ List.replicate (fd.ns - ds.length) .no
def callB (T : Tab) (C : String → List D → AH → Res D) (CI : String → List D → AH → Res (List (String × D))) (f : String) (ds : List D) (h : AH) : Res D := match T.fn f with
  | some fd => if ds.length = fd.np then
      match xc T C CI fd.body (startD fd ds) h with
      | .nx _ h => .ok .non h
      | .rt d h => .ok d h
      | .ex c fs h => .ex c fs h
      | _ => .bad
    else .bad
  | none => .bad
def initB (T : Tab) (C : String → List D → AH → Res D) (CI : String → List D → AH → Res (List (String × D))) (c : String) (ds : List D) (h : AH) : Res (List (String × D)) := match T.fn (c ++ ".__init__") with
  | some fd => if ds.length + 1 = fd.np then
      match xc T C CI fd.body (.oi c [] :: (ds.map .v ++ List.replicate (fd.ns - (ds.length + 1)) .no)) h with
      | .nx (.oi _ fs :: _) h => .ok fs h
      | .ex c fs h => .ex c fs h
      | _ => .bad
    else .bad
  | none => .bad
def lvl (T : Tab) : Nat → (String → List D → AH → Res D) × (String → List D → AH → Res (List (String × D)))
  | 0 => (fun _ _ _ => .bad, fun _ _ _ => .bad)
  | n + 1 => (callB T (lvl T n).1 (lvl T n).2, initB T (lvl T n).1 (lvl T n).2)
abbrev callD (T : Tab) (n : Nat) : String → List D → AH → Res D := (lvl T n).1
abbrev initD (T : Tab) (n : Nat) : String → List D → AH → Res (List (String × D)) := (lvl T n).2
end VI
namespace VI
open PySem PySem.Spec PyProof.Rows L2
theorem toNat_inj {a b : Char} (h : a.toNat = b.toNat) : a = b := by
  apply Char.ext
  exact UInt32.toNat_inj.mp h
theorem map_toNat_inj : ∀ {l r : List Char}, l.map Char.toNat = r.map Char.toNat → l = r
  | [], [], _ => rfl
  | [], _ :: _, h => by simp at h
  | _ :: _, [], h => by simp at h
  | a :: l, b :: r, h => by
    rw [List.map_cons, List.map_cons] at h
    injection h with h1 h2
    rw [toNat_inj h1, map_toNat_inj h2]
theorem ofS_inj {a b : String} (h : Str.ofString a = Str.ofString b) : a = b := by
  have h1 := congrArg (fun x : Str => x.cps.toList) h
  simp only [Str.ofString, List.toList_toArray, cpsOfBytes_string] at h1
  have h2 := map_toNat_inj h1
  exact String.toList_inj.mp h2
theorem ofS_eq {a b : String} : (Str.ofString a = Str.ofString b) ↔ a = b := ⟨ofS_inj, fun h => by rw [h]⟩
abbrev ofS (f : String) : Str := Str.ofString f
/-- a tuple that is not written: tracked, or of the written part -/
def TupAt (K : PySem.W.Frag) (H : Hp) (W : Addr → Prop) (a : Addr) (vs : List V) : Prop := (Rd H a (.tup vs) ∧ ¬ W a) ∨
  ∃ (o : Obj) (its : Array Value) (n : Nat), K.lookup a = some o ∧ o.cls = .type "tuple" ∧ o.data = .seq its n ∧ its.size ≤ sizeLine ∧ Vals vs its.toList
def ScrAt (K : PySem.W.Frag) (H : Hp) (W : Addr → Prop) (a : Addr) (vs : List V) : Prop := (Rd H a (.lst vs) ∧ ¬ W a) ∨
  ∃ (o : Obj) (its : Array Value) (n : Nat), K.lookup a = some o ∧ o.cls = .type "list" ∧ o.dict = none ∧ o.data = .seq its n ∧ its.size ≤ sizeLine ∧ Vals vs its.toList
theorem TupAt.sq {K : PySem.W.Frag} {H : Hp} {W : Addr → Prop} {a : Addr} {vs : List V} (h : TupAt K H W a vs) : SqT K H a vs := h.imp (·.1) id
theorem ScrAt.sq {K : PySem.W.Frag} {H : Hp} {W : Addr → Prop} {a : Addr} {vs : List V} (h : ScrAt K H W a vs) : SqL K H a vs := h.imp (·.1) id
/-- the fixed part: the written part, the classes' addresses, the names of methods -/
structure Fix where
  K : PySem.W.Frag
  cA : String → Addr
  isM : String → Bool
inductive RV (F : Fix) (H : Hp) (m : List Addr) (W : Addr → Prop) : D → V → Prop
  | non : RV F H m W .non .non
  | bl (b : Bool) : RV F H m W (.bl b) (.bl b)
  | int (i : Int) : RV F H m W (.int i) (.int i)
  | str (x : Str) : RV F H m W (.str x) (.str x)
  | tup {xs : List D} {a : Addr} {vs : List V} (h : TupAt F.K H W a vs) (hl : vs.length = xs.length) (hr : ∀ (i : Nat) d v, xs[i]? = some d → vs[i]? = some v → RV F H m W d v) : RV F H m W (.tup xs) (.ref a)
  | lst {xs : List D} {a : Addr} {vs : List V} (h : H a = some (.lst vs)) (hw : ¬ W a) (hl : vs.length = xs.length) (hr : ∀ (i : Nat) d v, xs[i]? = some d → vs[i]? = some v → RV F H m W d v) : RV F H m W (.lst xs) (.ref a)
  | scr {ns : List Int} {a : Addr} (h : ScrAt F.K H W a (ns.map V.int)) : RV F H m W (.scr ns) (.ref a)
  | dct {kvs : List (Key × D)} {a : Addr} {kv : List (Key × V)} (h : H a = some (.dK kv)) (hw : ¬ W a) (hk : kv.map (·.1) = kvs.map (·.1)) (hr : ∀ (i : Nat) p q, kvs[i]? = some p → kv[i]? = some q → RV F H m W p.2 q.2) : RV F H m W (.dct kvs) (.ref a)
  | obj {c : String} {fs : List (String × D)} {a dx : Addr} {fv : List (Str × V)} (g : String → V) (h : H a = some (.ins (F.cA c) dx fv)) (hw : ¬ W a) (hm : ∀ f, F.isM f = true → fv.lookup (ofS f) = none)
      (hf : ∀ f d, fldD fs f = some d → fv.lookup (ofS f) = some (g f)) (hr : ∀ f d, fldD fs f = some d → RV F H m W d (g f)) : RV F H m W (.obj c fs) (.ref a)
  | ref {n : Nat} {a : Addr} (h : m[n]? = some a) : RV F H m W (.ref n) (.ref a)
/-- lists of data, of values -/
def RVL (F : Fix) (H : Hp) (m : List Addr) (W : Addr → Prop) (xs : List D) (vs : List V) : Prop := vs.length = xs.length ∧ ∀ (i : Nat) d v, xs[i]? = some d → vs[i]? = some v → RV F H m W d v
/-- an object is as it was, or an instance with more attributes -/
def InsExt (isM : String → Bool) (u : HO) (o : Option HO) : Prop := o = some u ∨ ∃ C dx fs fs', u = .ins C dx fs ∧ o = some (.ins C dx fs') ∧ (∀ f v, fs.lookup f = some v → fs'.lookup f = some v) ∧ ∀ f, isM f = true → fs.lookup (ofS f) = none → fs'.lookup (ofS f) = none
section
variable {F : Fix} {H H' : Hp} {m m' : List Addr} {W W' : Addr → Prop}
theorem InsExt.lst {isM : String → Bool} {vs : List V} {o : Option HO} (h : InsExt isM (.lst vs) o) : o = some (.lst vs) := by
  rcases h with h | ⟨_, _, _, _, h, _⟩
  · exact h
  · cases h
theorem InsExt.tup {isM : String → Bool} {vs : List V} {o : Option HO} (h : InsExt isM (.tup vs) o) : o = some (.tup vs) := by
  rcases h with h | ⟨_, _, _, _, h, _⟩
  · exact h
  · cases h
theorem InsExt.frz {isM : String → Bool} {ob : Obj} {u : HO} {o : Option HO} (h : InsExt isM (.frz ob u) o) : o = some (.frz ob u) := by
  rcases h with h | ⟨_, _, _, _, h, _⟩
  · exact h
  · cases h
theorem InsExt.dK {isM : String → Bool} {vs : List (Key × V)} {o : Option HO} (h : InsExt isM (.dK vs) o) : o = some (.dK vs) := by
  rcases h with h | ⟨_, _, _, _, h, _⟩
  · exact h
  · cases h
theorem RV.mono {d : D} {v : V} (h : RV F H m W d v) (hk : ∀ a u, H a = some u → ¬ W a → InsExt F.isM u (H' a)) (hm : ∀ (n : Nat) a, m[n]? = some a → m'[n]? = some a) (hw : ∀ a, W' a → W a ∨ H a = none) : RV F H' m' W' d v := by
  have nw : ∀ {a u}, H a = some u → ¬ W a → ¬ W' a := fun {a u} e n q => by
    rcases hw a q with z | z
    · exact n z
    · rw [e] at z; cases z
  induction h with
  | non => exact .non
  | bl b => exact .bl b
  | int i => exact .int i
  | str x => exact .str x
  | tup h hl hr ih =>
    refine .tup ?_ hl ih
    rcases h with ⟨h | ⟨o, h⟩, n⟩ | h
    · exact .inl ⟨.inl (hk _ _ h n).tup, nw h n⟩
    · exact .inl ⟨.inr ⟨o, (hk _ _ h n).frz⟩, nw h n⟩
    · exact .inr h
  | lst h n hl hr ih => exact .lst (hk _ _ h n).lst (nw h n) hl ih
  | scr h =>
    refine .scr ?_
    rcases h with ⟨h | ⟨o, h⟩, n⟩ | h
    · exact .inl ⟨.inl (hk _ _ h n).lst, nw h n⟩
    · exact .inl ⟨.inr ⟨o, (hk _ _ h n).frz⟩, nw h n⟩
    · exact .inr h
  | dct h n hkk hr ih => exact .dct (hk _ _ h n).dK (nw h n) hkk ih
  | obj g h n hmm hf hr ih =>
    rcases hk _ _ h n with e | ⟨C, dx, fs, fs', e1, e2, e3, e4⟩
    · exact .obj g e (nw h n) hmm hf ih
    · cases e1
      exact .obj g e2 (nw h n) (fun f q => e4 f q (hmm f q)) (fun f d q => e3 _ _ (hf f d q)) ih
  | ref h => exact .ref (hm _ _ h)
theorem RVL.mono {xs : List D} {vs : List V} (h : RVL F H m W xs vs) (hk : ∀ a u, H a = some u → ¬ W a → InsExt F.isM u (H' a)) (hm : ∀ (n : Nat) a, m[n]? = some a → m'[n]? = some a) (hw : ∀ a, W' a → W a ∨ H a = none) : RVL F H' m' W' xs vs :=
  ⟨h.1, fun i d v e1 e2 => (h.2 i d v e1 e2).mono hk hm hw⟩
theorem RVL.nil : RVL F H m W [] [] := ⟨rfl, fun i d v e => by simp at e⟩
theorem RVL.cons {d : D} {v : V} {xs : List D} {vs : List V} (h : RV F H m W d v) (t : RVL F H m W xs vs) : RVL F H m W (d :: xs) (v :: vs) :=
  ⟨by simp [t.1], fun i d' v' e1 e2 => by
    cases i with
    | zero =>
      simp only [List.getElem?_cons_zero, Option.some.injEq] at e1 e2
      subst e1 e2; exact h
    | succ i => exact t.2 i d' v' (by simpa using e1) (by simpa using e2)⟩
theorem RVL.nil_inv {vs : List V} (h : RVL F H m W [] vs) : vs = [] := List.length_eq_zero_iff.mp (by simpa using h.1)
theorem RVL.cons_inv {d : D} {xs : List D} {vs : List V} (h : RVL F H m W (d :: xs) vs) : ∃ v r, vs = v :: r ∧ RV F H m W d v ∧ RVL F H m W xs r := by
  cases vs with
  | nil => exact absurd h.1 (by simp)
  | cons v r => exact ⟨v, r, rfl, h.2 0 d v rfl rfl, by simpa using h.1, fun i d' v' e1 e2 => h.2 (i + 1) d' v' (by simpa using e1) (by simpa using e2)⟩
theorem RVL.append {xs ys : List D} {vs ws : List V} (h : RVL F H m W xs vs) (t : RVL F H m W ys ws) : RVL F H m W (xs ++ ys) (vs ++ ws) := by
  induction xs generalizing vs with
  | nil => rw [h.nil_inv]; exact t
  | cons x r ih =>
    obtain ⟨v, vr, rfl, h1, h2⟩ := h.cons_inv
    exact RVL.cons h1 (ih h2)
theorem RVL.get {xs : List D} {vs : List V} {i : Nat} {d : D} (h : RVL F H m W xs vs) (e : xs[i]? = some d) : ∃ v, vs[i]? = some v ∧ RV F H m W d v := by
  have hi : i < vs.length := by rw [h.1]; exact (List.getElem?_eq_some_iff.mp e).1
  exact ⟨vs[i], List.getElem?_eq_getElem hi, h.2 i d _ e (List.getElem?_eq_getElem hi)⟩
theorem RVL.set {xs : List D} {vs : List V} {d : D} {v : V} (h : RVL F H m W xs vs) (r : RV F H m W d v) (i : Nat) : RVL F H m W (xs.set i d) (vs.set i v) := by
  refine ⟨by simp [h.1], fun j d' v' e1 e2 => ?_⟩
  by_cases q : i = j
  · subst q
    have hi : i < xs.length := by
      have := (List.getElem?_eq_some_iff.mp e1).1
      simpa using this
    rw [List.getElem?_set_self hi] at e1
    rw [List.getElem?_set_self (by rw [h.1]; exact hi)] at e2
    cases e1; cases e2; exact r
  · rw [List.getElem?_set_ne q] at e1 e2
    exact h.2 j d' v' e1 e2
theorem RVL.take {xs : List D} {vs : List V} (h : RVL F H m W xs vs) (n : Nat) : RVL F H m W (xs.take n) (vs.take n) := by
  refine ⟨by simp [h.1], fun j d' v' e1 e2 => ?_⟩
  rw [List.getElem?_take] at e1 e2
  split at e1
  · rename_i q
    rw [if_pos q] at e2
    exact h.2 j d' v' e1 e2
  · cases e1
theorem RVL.drop {xs : List D} {vs : List V} (h : RVL F H m W xs vs) (n : Nat) : RVL F H m W (xs.drop n) (vs.drop n) := by
  refine ⟨by simp [h.1], fun j d' v' e1 e2 => ?_⟩
  rw [List.getElem?_drop] at e1 e2
  exact h.2 _ d' v' e1 e2
theorem RVL.rep {xs : List D} {vs : List V} (h : RVL F H m W xs vs) : ∀ n : Nat, RVL F H m W (List.replicate n xs).flatten (List.replicate n vs).flatten
  | 0 => RVL.nil
  | n + 1 => by
    rw [List.replicate_succ, List.replicate_succ, List.flatten_cons, List.flatten_cons]
    exact h.append (RVL.rep h n)
theorem RV.tupL {xs : List D} {v : V} (h : RV F H m W (.tup xs) v) : ∃ a vs, v = .ref a ∧ TupAt F.K H W a vs ∧ RVL F H m W xs vs := by
  cases h with | tup h hl hr => exact ⟨_, _, rfl, h, hl, hr⟩
theorem RV.lstL {xs : List D} {v : V} (h : RV F H m W (.lst xs) v) : ∃ a vs, v = .ref a ∧ H a = some (.lst vs) ∧ ¬ W a ∧ RVL F H m W xs vs := by
  cases h with | lst h hw hl hr => exact ⟨_, _, rfl, h, hw, hl, hr⟩
theorem RVL.ints {xs : List D} {vs : List V} {ns : List Int} (h : RVL F H m W xs vs) (e : ints? xs = some ns) : vs = ns.map V.int := by
  induction xs generalizing vs ns with
  | nil =>
    rw [h.nil_inv]
    simp only [ints?, Option.some.injEq] at e
    subst e; rfl
  | cons x r ih =>
    obtain ⟨v, vr, rfl, h1, h2⟩ := h.cons_inv
    cases x with
    | int i =>
      simp only [ints?, Option.map_eq_some_iff] at e
      obtain ⟨ms, e1, rfl⟩ := e
      cases h1
      rw [ih h2 e1]; rfl
    | _ => simp [ints?] at e
theorem RVL.bls {xs : List D} {vs : List V} {ns : List Bool} (h : RVL F H m W xs vs) (e : bls? xs = some ns) : vs = ns.map V.bl := by
  induction xs generalizing vs ns with
  | nil =>
    rw [h.nil_inv]
    simp only [bls?, Option.some.injEq] at e
    subst e; rfl
  | cons x r ih =>
    obtain ⟨v, vr, rfl, h1, h2⟩ := h.cons_inv
    cases x with
    | bl i =>
      simp only [bls?, Option.map_eq_some_iff] at e
      obtain ⟨ms, e1, rfl⟩ := e
      cases h1
      rw [ih h2 e1]; rfl
    | _ => simp [bls?] at e
theorem RVL.strs {xs : List D} {vs : List V} {ns : List Str} (h : RVL F H m W xs vs) (e : strs? xs = some ns) : vs = ns.map V.str := by
  induction xs generalizing vs ns with
  | nil =>
    rw [h.nil_inv]
    simp only [strs?, Option.some.injEq] at e
    subst e; rfl
  | cons x r ih =>
    obtain ⟨v, vr, rfl, h1, h2⟩ := h.cons_inv
    cases x with
    | str i =>
      simp only [strs?, Option.map_eq_some_iff] at e
      obtain ⟨ms, e1, rfl⟩ := e
      cases h1
      rw [ih h2 e1]; rfl
    | _ => simp [strs?] at e
/-- data as the layer's equality takes them -/
theorem RV.dp : ∀ {d : D} {v : V} {p : PyData}, RV F H m W d v → d.py = some p → Dp F.K H v p := by
  intro d v p h
  induction h generalizing p with
  | non => intro e; simp only [D.py, Option.some.injEq] at e; subst e; exact .non
  | bl b => intro e; simp only [D.py, Option.some.injEq] at e; subst e; exact .bl b
  | int i => intro e; simp only [D.py, Option.some.injEq] at e; subst e; exact .int i
  | str x => intro e; simp only [D.py, Option.some.injEq] at e; subst e; exact .str x
  | @tup xs a vs h hl hr ih =>
    intro e
    simp only [D.py, Option.map_eq_some_iff] at e
    obtain ⟨ps, e1, rfl⟩ := e
    refine .tup h.sq ?_
    clear h hr
    induction xs generalizing vs ps with
    | nil =>
      simp only [D.pys, Option.some.injEq] at e1
      subst e1
      cases vs with
      | nil => exact .nil
      | cons _ _ => simp at hl
    | cons x r ih2 =>
      cases vs with
      | nil => simp at hl
      | cons v vr =>
        simp only [D.pys] at e1
        split at e1
        · rename_i q qs e2 e3
          cases e1
          exact .cons (ih 0 x v rfl rfl e2) (ih2 (by simpa using hl) (fun i d v a b => ih (i + 1) d v (by simpa using a) (by simpa using b)) qs e3)
        · cases e1
  | @lst xs a vs h hw hl hr ih =>
    intro e
    simp only [D.py, Option.map_eq_some_iff] at e
    obtain ⟨ps, e1, rfl⟩ := e
    refine .lst (SqL.of h) ?_
    clear h hr
    induction xs generalizing vs ps with
    | nil =>
      simp only [D.pys, Option.some.injEq] at e1
      subst e1
      cases vs with
      | nil => exact .nil
      | cons _ _ => simp at hl
    | cons x r ih2 =>
      cases vs with
      | nil => simp at hl
      | cons v vr =>
        simp only [D.pys] at e1
        split at e1
        · rename_i q qs e2 e3
          cases e1
          exact .cons (ih 0 x v rfl rfl e2) (ih2 (by simpa using hl) (fun i d v a b => ih (i + 1) d v (by simpa using a) (by simpa using b)) qs e3)
        · cases e1
  | scr h => intro e; simp [D.py] at e
  | dct h _ _ _ _ => intro e; simp [D.py] at e
  | obj _ _ _ _ _ _ _ => intro e; simp [D.py] at e
  | ref h => intro e; simp [D.py] at e
theorem RVL.dps : ∀ {xs : List D} {vs : List V} {ps : List PyData}, RVL F H m W xs vs → D.pys xs = some ps → DpAll F.K H vs ps
  | [], vs, ps, h, e => by
    simp only [D.pys, Option.some.injEq] at e
    subst e; rw [h.nil_inv]; exact .nil
  | x :: r, vs, ps, h, e => by
    obtain ⟨v, vr, rfl, h1, h2⟩ := h.cons_inv
    simp only [D.pys] at e
    split at e
    · rename_i q qs e2 e3
      cases e
      exact .cons (h1.dp e2) (RVL.dps h2 e3)
    · cases e
end
end VI
namespace VI
open PySem PySem.Spec PyProof.Rows L2
/-- what may have happened between two states: only cells (m) and what Z tells have changed; the heap has grown -/
structure Step (m : List Addr) (Z : Addr → Prop) (H : Hp) (m' : List Addr) (H' : Hp) : Prop where
  keep : ∀ a u, H a = some u → a ∉ m → ¬ Z a → H' a = some u
  cells : ∀ (n : Nat) a, m[n]? = some a → m'[n]? = some a
  new : ∀ a, a ∈ m' → a ∈ m ∨ H a = none
  dom : ∀ a u, H a = some u → ∃ u', H' a = some u'
abbrev none_ : Addr → Prop := fun _ => False
section
variable {m m1 m2 : List Addr} {Z : Addr → Prop} {H H1 H2 : Hp}
theorem Step.refl : Step m Z H m H := ⟨fun _ _ e _ _ => e, fun _ _ e => e, fun _ h => .inl h, fun _ u e => ⟨u, e⟩⟩
theorem Step.free (s : Step m Z H m1 H1) {a : Addr} (h : H1 a = none) : H a = none := by
  cases e : H a with
  | none => rfl
  | some u =>
    obtain ⟨u', e'⟩ := s.dom a u e
    rw [h] at e'; cases e'
theorem Step.sub (s : Step m Z H m1 H1) {a : Addr} (h : a ∈ m) : a ∈ m1 := by
  obtain ⟨n, hn, e⟩ := List.getElem_of_mem h
  exact List.mem_of_getElem? (s.cells n a (by rw [List.getElem?_eq_getElem hn, e]))
theorem Step.trans (s : Step m Z H m1 H1) (t : Step m1 Z H1 m2 H2) : Step m Z H m2 H2 where
  keep := fun a u e n z => t.keep a u (s.keep a u e n z) (fun q => by
    rcases s.new a q with q | q
    · exact n q
    · rw [e] at q; cases q) z
  cells := fun n a e => t.cells n a (s.cells n a e)
  new := fun a q => by
    rcases t.new a q with q | q
    · exact s.new a q
    · exact .inr (s.free q)
  dom := fun a u e => by
    obtain ⟨u', e'⟩ := s.dom a u e
    exact t.dom a u' e'
theorem Step.weak {Z' : Addr → Prop} (s : Step m Z H m1 H1) (h : ∀ a, Z a → Z' a) : Step m Z' H m1 H1 := ⟨fun a u e n z => s.keep a u e n fun q => z (h a q), s.cells, s.new, s.dom⟩
theorem Step.laid {a : Addr} {o : HO} (h : H a = none) : Step m Z H m (upd H a o) :=
  ⟨fun b u e _ _ => by rw [upd_ne (ne_of_none e h)]; exact e, fun _ _ e => e, fun _ h => .inl h, fun b u e => ⟨u, by rw [upd_ne (ne_of_none e h)]; exact e⟩⟩
end
/-- a cell as it stands -/
def CellOk (F : Fix) (H : Hp) (m : List Addr) (W : Addr → Prop) (a : Addr) : Cl → Prop
  | .lst xs => ∃ vs, H a = some (.lst vs) ∧ RVL F H m W xs vs
  | .ins c fs => ∃ dx fv, H a = some (.ins (F.cA c) dx fv) ∧ H dx = some (.own a) ∧ fv.map (·.1) = fs.map (fun p => ofS p.1) ∧ (∀ p ∈ fs, F.isM p.1 = false) ∧ ∀ (i : Nat) p q, fs[i]? = some p → fv[i]? = some q → RV F H m W p.2 q.2
/-- the cells -/
structure Cells (F : Fix) (H : Hp) (m : List Addr) (W : Addr → Prop) (h : AH) : Prop where
  len : m.length = h.length
  nd : m.Nodup
  ok : ∀ (n : Nat) c, h[n]? = some c → ∃ a, m[n]? = some a ∧ CellOk F H m W a c
/-- an exception as its fields tell -/
def ExcOk (F : Fix) (H : Hp) (m : List Addr) (W : Addr → Prop) (c : String) (fs : List (String × D)) (cv : Value) (dv : Option Addr) : Prop :=
  cv = .ref (F.cA c) ∧ (fs = [] ∨ ∃ d fv, dv = some d ∧ H d = some (.xd fv) ∧ ∃ g : String → V, (∀ f x, fldD fs f = some x → fv.lookup (ofS f) = some (g f)) ∧ ∀ f x, fldD fs f = some x → RV F H m W x (g f))
/-- what is fixed through a def's body: the entry's cells and heap, what else may be written (the own instance of an __init__), what the callers forbid -/
structure Amb where
  F : Fix
  m0 : List Addr
  H0 : Hp
  Z : Addr → Prop
  U : Addr → Prop
/-- what may not be named by a value: cells, the callers' own objects, the own ones -/
def Wr (m : List Addr) (U : Addr → Prop) (o : Nat → Option Addr) : Addr → Prop := fun a => a ∈ m ∨ U a ∨ ∃ i, o i = some a
def SlotOk (A : Amb) (H : Hp) (m : List Addr) (o : Nat → Option Addr) (σ : L2.St) (i : Nat) : Sl → Prop
  | .no => True
  | .v d => ∃ v, σ[i]? = some (some v) ∧ RV A.F H m (Wr m A.U o) d v
  | .ol xs => ∃ a vs, o i = some a ∧ σ[i]? = some (some (.ref a)) ∧ H a = some (.lst vs) ∧ RVL A.F H m (Wr m A.U o) xs vs
  | .od kvs => ∃ a kv, o i = some a ∧ σ[i]? = some (some (.ref a)) ∧ H a = some (.dK kv) ∧ kv.map (·.1) = kvs.map (·.1) ∧ ∀ (j : Nat) p q, kvs[j]? = some p → kv[j]? = some q → RV A.F H m (Wr m A.U o) p.2 q.2
  | .oi c fs => ∃ a dx fv, A.Z a ∧ σ[i]? = some (some (.ref a)) ∧ H a = some (.ins (A.F.cA c) dx fv) ∧ ¬ Wr m A.U o a ∧ fv.map (·.1) = fs.map (fun p => ofS p.1) ∧ (∀ p ∈ fs, A.F.isM p.1 = false) ∧
      ∀ (j : Nat) p q, fs[j]? = some p → fv[j]? = some q → RV A.F H m (Wr m A.U o) p.2 q.2
structure Sim (A : Amb) (σD : En) (h : AH) (m : List Addr) (o : Nat → Option Addr) (σ : L2.St) (H : Hp) : Prop where
  step : Step A.m0 A.Z A.H0 m H
  cells : Cells A.F H m (Wr m A.U o) h
  slen : σD.length = σ.length
  slot : ∀ (i : Nat) s, σD[i]? = some s → SlotOk A H m o σ i s
  oinj : ∀ i j a, o i = some a → o j = some a → i = j
  ofr : ∀ i a, o i = some a → A.H0 a = none ∧ (∃ u, H a = some u) ∧ a ∉ m
  u0 : ∀ a, A.U a → a ∉ m ∧ ∃ u, H a = some u
  oiu : ∀ (i j : Nat) c fs c' fs', σD[i]? = some (.oi c fs) → σD[j]? = some (.oi c' fs') → i = j
  ou : ∀ i a, o i = some a → ¬ A.U a
section
variable {A : Amb} {σD : En} {h h' : AH} {m m' : List Addr} {o : Nat → Option Addr} {σ : L2.St} {H H' : Hp}
theorem Sim.um (S : Sim A σD h m o σ H) {a : Addr} (u : A.U a) : a ∉ m := (S.u0 a u).1
theorem Sim.uh (S : Sim A σD h m o σ H) {a : Addr} (u : A.U a) : ∃ x, H a = some x := (S.u0 a u).2
theorem Sim.mh (S : Sim A σD h m o σ H) {a : Addr} (q : a ∈ m) : ∃ x, H a = some x := by
  obtain ⟨n, hn, e⟩ := List.getElem_of_mem q
  have hl : n < h.length := by rw [← S.cells.len]; exact hn
  obtain ⟨b, e1, ok⟩ := S.cells.ok n h[n] (List.getElem?_eq_getElem hl)
  have eb : b = a := by
    rw [List.getElem?_eq_getElem hn, e] at e1
    exact (Option.some.inj e1).symm
  subst eb
  generalize h[n] = c at ok
  cases c with
  | lst xs => obtain ⟨vs, e, _⟩ := ok; exact ⟨_, e⟩
  | ins c fs => obtain ⟨dx, fv, e, _⟩ := ok; exact ⟨_, e⟩
/-- what may not be named stands somewhere -/
theorem Sim.wh (S : Sim A σD h m o σ H) {a : Addr} (w : Wr m A.U o a) : ∃ x, H a = some x := by
  rcases w with q | q | ⟨i, q⟩
  · exact S.mh q
  · exact S.uh q
  · exact (S.ofr i a q).2.1
theorem Sim.fresh (S : Sim A σD h m o σ H) {a : Addr} (e : H a = none) : ¬ Wr m A.U o a := fun w => by
  obtain ⟨x, q⟩ := S.wh w
  rw [e] at q; cases q
/-- values through a step that leaves all but the cells -/
theorem RV.step {F : Fix} {U : Addr → Prop} {W' : Addr → Prop} {d : D} {v : V} (r : RV F H m (Wr m U o) d v) (s : Step m none_ H m' H') (hw : ∀ a, W' a → Wr m U o a ∨ H a = none) : RV F H' m' W' d v :=
  r.mono (fun a u e n => .inl (s.keep a u e (fun q => n (.inl q)) id)) s.cells hw
theorem wr_step {U : Addr → Prop} (s : Step m none_ H m' H') : ∀ a, Wr m' U o a → Wr m U o a ∨ H a = none := fun a w => by
  rcases w with q | q | q
  · rcases s.new a q with q | q
    · exact .inl (.inl q)
    · exact .inr q
  · exact .inl (.inr (.inl q))
  · exact .inl (.inr (.inr q))
theorem RV.go {F : Fix} {U : Addr → Prop} {d : D} {v : V} (r : RV F H m (Wr m U o) d v) (s : Step m none_ H m' H') : RV F H' m' (Wr m' U o) d v := r.step s (wr_step s)
theorem RVL.go {F : Fix} {U : Addr → Prop} {d : List D} {v : List V} (r : RVL F H m (Wr m U o) d v) (s : Step m none_ H m' H') : RVL F H' m' (Wr m' U o) d v := ⟨r.1, fun i d v e1 e2 => (r.2 i d v e1 e2).go s⟩
/-- the frame behind a step: slots as they were, the cells told anew -/
theorem Sim.go (S : Sim A σD h m o σ H) (s : Step m none_ H m' H') (c : Cells A.F H' m' (Wr m' A.U o) h') : Sim A σD h' m' o σ H' := by
  have nm : ∀ i a, o i = some a → a ∉ m := fun i a e => (S.ofr i a e).2.2
  have nm' : ∀ i a, o i = some a → a ∉ m' := fun i a e q => by
    rcases s.new a q with q | q
    · exact nm i a e q
    · obtain ⟨_, ⟨u, e1⟩, _⟩ := S.ofr i a e
      rw [e1] at q; cases q
  refine ⟨S.step.trans (s.weak fun _ z => z.elim), c, S.slen, fun i sl e => ?_, S.oinj, fun i a e => ?_, fun a u => ⟨fun q => ?_, ?_⟩, S.oiu, S.ou⟩
  · have q := S.slot i sl e
    cases sl with
    | no => exact True.intro
    | v d =>
      obtain ⟨v, e1, r⟩ := q
      exact ⟨v, e1, r.go s⟩
    | ol xs =>
      obtain ⟨a, vs, e1, e2, e3, r⟩ := q
      exact ⟨a, vs, e1, e2, s.keep a _ e3 (nm i a e1) id, r.go s⟩
    | od kvs =>
      obtain ⟨a, kv, e1, e2, e3, e4, r⟩ := q
      exact ⟨a, kv, e1, e2, s.keep a _ e3 (nm i a e1) id, e4, fun j p q a b => (r j p q a b).go s⟩
    | oi c fs =>
      obtain ⟨a, dx, fv, e0, e1, e2, e3, e4, e5, r⟩ := q
      refine ⟨a, dx, fv, e0, e1, s.keep a _ e2 (fun q => e3 (.inl q)) id, fun w => ?_, e4, e5, fun j p q a b => (r j p q a b).go s⟩
      rcases wr_step s a w with w | w
      · exact e3 w
      · rw [e2] at w; cases w
  · obtain ⟨e1, ⟨u, e2⟩, e3⟩ := S.ofr i a e
    obtain ⟨u', e4⟩ := s.dom a u e2
    exact ⟨e1, ⟨u', e4⟩, nm' i a e⟩
  · obtain ⟨n, x, e⟩ := S.u0 a u
    rcases s.new a q with q | q
    · exact n q
    · rw [e] at q; cases q
  · obtain ⟨n, x, e⟩ := S.u0 a u
    exact s.dom a x e
end
theorem InsExt.refl {isM : String → Bool} {u : HO} : InsExt isM u (some u) := .inl rfl
theorem InsExt.trans {isM : String → Bool} {u : HO} {o1 o2 : Option HO} (a : InsExt isM u o1) (b : ∀ u1, o1 = some u1 → InsExt isM u1 o2) : InsExt isM u o2 := by
  rcases a with a | ⟨C, dx, fs, fs', e1, e2, e3, e4⟩
  · exact b u a
  · rcases b _ e2 with b | ⟨C', dx', gs, gs', f1, f2, f3, f4⟩
    · exact .inr ⟨C, dx, fs, fs', e1, b, e3, e4⟩
    · cases f1
      exact .inr ⟨C, dx, fs, gs', e1, f2, fun f v q => f3 f v (e3 f v q), fun f q r => f4 f q (e4 f q r)⟩
theorem InsExt.some {isM : String → Bool} {u : HO} {o : Option HO} (a : InsExt isM u o) : ∃ u', o = some u' := by
  rcases a with a | ⟨C, dx, fs, fs', e1, e2, _⟩
  · exact ⟨u, a⟩
  · exact ⟨_, e2⟩
/-- between two states of one frame: cells and own objects may have changed, the own instance may have more attributes -/
structure SStep (isM : String → Bool) (m : List Addr) (o : Nat → Option Addr) (H : Hp) (m' : List Addr) (o' : Nat → Option Addr) (H' : Hp) : Prop where
  keep : ∀ a u, H a = some u → a ∉ m → (∀ i, o i ≠ some a) → InsExt isM u (H' a)
  cells : ∀ (n : Nat) a, m[n]? = some a → m'[n]? = some a
  new : ∀ a, a ∈ m' → a ∈ m ∨ H a = none
  dom : ∀ a u, H a = some u → ∃ u', H' a = some u'
  own : ∀ i a, o' i = some a → (∃ j, o j = some a) ∨ H a = none
section
variable {isM : String → Bool} {m m1 m2 : List Addr} {o o1 o2 : Nat → Option Addr} {H H1 H2 : Hp}
theorem SStep.refl : SStep isM m o H m o H := ⟨fun _ _ e _ _ => .inl e, fun _ _ e => e, fun _ h => .inl h, fun _ u e => ⟨u, e⟩, fun i a e => .inl ⟨i, e⟩⟩
theorem SStep.trans (s : SStep isM m o H m1 o1 H1) (t : SStep isM m1 o1 H1 m2 o2 H2) : SStep isM m o H m2 o2 H2 where
  keep := fun a u e n z => (s.keep a u e n z).trans fun u1 e1 => t.keep a u1 e1 (fun q => by
    rcases s.new a q with q | q
    · exact n q
    · rw [e] at q; cases q) fun i q => by
    rcases s.own i a q with ⟨j, q⟩ | q
    · exact z j q
    · rw [e] at q; cases q
  cells := fun n a e => t.cells n a (s.cells n a e)
  new := fun a q => by
    rcases t.new a q with q | q
    · exact s.new a q
    · right
      cases e : H a with
      | none => rfl
      | some u =>
        obtain ⟨u', e'⟩ := s.dom a u e
        rw [q] at e'; cases e'
  dom := fun a u e => by
    obtain ⟨u', e'⟩ := s.dom a u e
    exact t.dom a u' e'
  own := fun i a q => by
    rcases t.own i a q with ⟨j, q⟩ | q
    · exact s.own j a q
    · right
      cases e : H a with
      | none => rfl
      | some u =>
        obtain ⟨u', e'⟩ := s.dom a u e
        rw [q] at e'; cases e'
theorem SStep.of (s : Step m none_ H m1 H1) : SStep isM m o H m1 o H1 := ⟨fun a u e n _ => .inl (s.keep a u e n id), s.cells, s.new, s.dom, fun i a e => .inl ⟨i, e⟩⟩
theorem SStep.wr {U : Addr → Prop} (s : SStep isM m o H m1 o1 H1) : ∀ a, Wr m1 U o1 a → Wr m U o a ∨ H a = none := fun a w => by
  rcases w with q | q | ⟨i, q⟩
  · rcases s.new a q with q | q
    · exact .inl (.inl q)
    · exact .inr q
  · exact .inl (.inr (.inl q))
  · rcases s.own i a q with q | q
    · exact .inl (.inr (.inr q))
    · exact .inr q
theorem RV.goS {F : Fix} {U : Addr → Prop} {d : D} {v : V} (r : RV F H m (Wr m U o) d v) (s : SStep F.isM m o H m1 o1 H1) : RV F H1 m1 (Wr m1 U o1) d v :=
  r.mono (fun a u e n => s.keep a u e (fun q => n (.inl q)) fun i q => n (.inr (.inr ⟨i, q⟩))) s.cells s.wr
theorem RVL.goS {F : Fix} {U : Addr → Prop} {d : List D} {v : List V} (r : RVL F H m (Wr m U o) d v) (s : SStep F.isM m o H m1 o1 H1) : RVL F H1 m1 (Wr m1 U o1) d v := ⟨r.1, fun i d v e1 e2 => (r.2 i d v e1 e2).goS s⟩
end
/-- a value that is new: a list or a dict laid at a place where nothing stood -/
def NewAt (A : Amb) (σD : En) (m : List Addr) (o : Nat → Option Addr) (σ : L2.St) (H : Hp) (d : D) (h' : AH) (m' : List Addr) (H' : Hp) (v : V) : Prop :=
  ∃ (H1 : Hp) (p : Addr), Step m none_ H m' H1 ∧ Sim A σD h' m' o σ H1 ∧ H1 p = none ∧ v = .ref p ∧
    ((∃ xs vs, d = .lst xs ∧ H' = upd H1 p (.lst vs) ∧ RVL A.F H1 m' (Wr m' A.U o) xs vs) ∨
     ∃ kvs kv, d = .dct kvs ∧ H' = upd H1 p (.dK kv) ∧ kv.map (·.1) = kvs.map (·.1) ∧ ∀ (j : Nat) p q, kvs[j]? = some p → kv[j]? = some q → RV A.F H1 m' (Wr m' A.U o) p.2 q.2)
section
variable {A : Amb} {σD : En} {h h' : AH} {m m' m1 : List Addr} {o : Nat → Option Addr} {σ : L2.St} {H H' H1 : Hp}
/-- what is wanted behind an evaluation -/
def KD (A : Amb) (fresh : Bool) (σD : En) (m : List Addr) (o : Nat → Option Addr) (σ : L2.St) (H : Hp) (Q : VK) (E : XK) : Res D → Prop
  | .ok d h' => ∀ m' H' v, Step m none_ H m' H' → Sim A σD h' m' o σ H' → RV A.F H' m' (Wr m' A.U o) d v → (fresh = true → NewAt A σD m o σ H d h' m' H' v) → Q v H'
  | .ex c fs h' => ∀ m' H' cv dv, Step m none_ H m' H' → Sim A σD h' m' o σ H' → ExcOk A.F H' m' (Wr m' A.U o) c fs cv dv → E cv dv H'
  | .bad => False
def KL (A : Amb) (σD : En) (m : List Addr) (o : Nat → Option Addr) (σ : L2.St) (H : Hp) (Q : List V → Hp → Prop) (E : XK) : Res (List D) → Prop
  | .ok d h' => ∀ m' H' v, Step m none_ H m' H' → Sim A σD h' m' o σ H' → RVL A.F H' m' (Wr m' A.U o) d v → Q v H'
  | .ex c fs h' => ∀ m' H' cv dv, Step m none_ H m' H' → Sim A σD h' m' o σ H' → ExcOk A.F H' m' (Wr m' A.U o) c fs cv dv → E cv dv H'
  | .bad => False
def KB (A : Amb) (σD : En) (m : List Addr) (o : Nat → Option Addr) (σ : L2.St) (H : Hp) (Q : Bool → Hp → Prop) (E : XK) : Res D → Prop
  | .ok (.bl b) h' => ∀ m' H', Step m none_ H m' H' → Sim A σD h' m' o σ H' → Q b H'
  | .ok _ _ => False
  | .ex c fs h' => ∀ m' H' cv dv, Step m none_ H m' H' → Sim A σD h' m' o σ H' → ExcOk A.F H' m' (Wr m' A.U o) c fs cv dv → E cv dv H'
  | .bad => False
theorem KD.mono {fr : Bool} {Q : VK} {E : XK} {r : Res D} (k : KD A fr σD m o σ H Q E r) (s : Step m none_ H m1 H1) : KD A fr σD m1 o σ H1 Q E r := by
  cases r with
  | ok d h' =>
    intro m' H' v s' S' r' f'
    refine k m' H' v (s.trans s') S' r' fun z => ?_
    obtain ⟨H1, p, s1, w⟩ := f' z
    exact ⟨H1, p, s.trans s1, w⟩
  | ex c fs h' => exact fun m' H' cv dv s' S' x => k m' H' cv dv (s.trans s') S' x
  | bad => exact k
theorem KD.weak {fr : Bool} {Q : VK} {E : XK} {r : Res D} (k : KD A false σD m o σ H Q E r) : KD A fr σD m o σ H Q E r := by
  cases r with
  | ok d h' => exact fun m' H' v s' S' r' _ => k m' H' v s' S' r' (fun z => by cases z)
  | ex c fs h' => exact k
  | bad => exact k
theorem KL.mono {Q : List V → Hp → Prop} {E : XK} {r : Res (List D)} (k : KL A σD m o σ H Q E r) (s : Step m none_ H m1 H1) : KL A σD m1 o σ H1 Q E r := by
  cases r with
  | ok d h' => exact fun m' H' v s' S' r' => k m' H' v (s.trans s') S' r'
  | ex c fs h' => exact fun m' H' cv dv s' S' x => k m' H' cv dv (s.trans s') S' x
  | bad => exact k
theorem KB.mono {Q : Bool → Hp → Prop} {E : XK} {r : Res D} (k : KB A σD m o σ H Q E r) (s : Step m none_ H m1 H1) : KB A σD m1 o σ H1 Q E r := by
  cases r with
  | ok d h' => cases d with
    | bl b => exact fun m' H' s' S' => k m' H' (s.trans s') S'
    | _ => exact k
  | ex c fs h' => exact fun m' H' cv dv s' S' x => k m' H' cv dv (s.trans s') S' x
  | bad => exact k
/-- the readings of a function of the interpreter -/
def tD (A : Amb) (E : XK) (fr : Bool) (f : En → AH → Res D) : TE := fun σ H Q => ∃ σD h m o, Sim A σD h m o σ H ∧ KD A fr σD m o σ H Q E (f σD h)
def tL (A : Amb) (E : XK) (f : En → AH → Res (List D)) : TA := fun σ H Q => ∃ σD h m o, Sim A σD h m o σ H ∧ KL A σD m o σ H Q E (f σD h)
def tT (A : Amb) (E : XK) (f : En → AH → Res D) : TT := fun σ H Q => ∃ σD h m o, Sim A σD h m o σ H ∧ KB A σD m o σ H Q E (f σD h)
theorem pe_imp {X : Cx} {e : Expr} {t t' : TE} (h : PE X e t) (i : ∀ σ H Q, t' σ H Q → t σ H Q) : PE X e t' := ⟨fun pins s σ H Q I q => h.run pins s σ H Q I (i _ _ _ q)⟩
theorem pa_imp {X : Cx} {e : List Expr} {t t' : TA} (h : PA X e t) (i : ∀ σ H Q, t' σ H Q → t σ H Q) : PA X e t' := ⟨fun pos pins s σ H Q I q => h.run pos pins s σ H Q I (i _ _ _ q)⟩
theorem pt_imp {X : Cx} {e : Expr} {t t' : TT} (h : PT X e t) (i : ∀ σ H Q, t' σ H Q → t σ H Q) : PT X e t' := ⟨fun pins s σ H Q I q => h.run pins s σ H Q I (i _ _ _ q)⟩
theorem ps_imp {X : Cx} {e : Stmt} {t t' : TS} (h : PS X e t) (i : ∀ D σ H, t' D σ H → t D σ H) : PS X e t' := ⟨fun pins s σ H D I q => h.run pins s σ H D I (i _ _ _ q)⟩
theorem pss_imp {X : Cx} {e : List Stmt} {t t' : TS} (h : PSs X e t) (i : ∀ D σ H, t' D σ H → t D σ H) : PSs X e t' := ⟨fun pins s σ H D I q => h.run pins s σ H D I (i _ _ _ q)⟩
/-- one part, then what it leads to -/
theorem den1 {E : XK} {f : En → AH → Res D} {R : V → Hp → Prop} {β : Type} {k : D → AH → Res β} {K' : List Addr → Hp → Res β → Prop}
    (S : Sim A σD h m o σ H) (hx : ∀ c fs h', K' m H (.ex c fs h') → ∀ m' H' cv dv, Step m none_ H m' H' → Sim A σD h' m' o σ H' → ExcOk A.F H' m' (Wr m' A.U o) c fs cv dv → E cv dv H') (hb : ¬ K' m H .bad)
    (hm : ∀ {m1 H1 r}, Step m none_ H m1 H1 → K' m H r → K' m1 H1 r) (q : K' m H ((f σD h).bind k))
    (hop : ∀ d h1 m1 H1 v, Step m none_ H m1 H1 → Sim A σD h1 m1 o σ H1 → RV A.F H1 m1 (Wr m1 A.U o) d v → K' m1 H1 (k d h1) → R v H1) : tD A E false f σ H R := by
  refine ⟨σD, h, m, o, S, ?_⟩
  cases e : f σD h with
  | ok d h1 =>
    rw [e] at q
    exact fun m1 H1 v s S1 r _ => hop d h1 m1 H1 v s S1 r (hm s q)
  | ex c fs h' =>
    rw [e] at q
    exact hx c fs h' q
  | bad =>
    rw [e] at q
    exact hb q
theorem denL {E : XK} {f : En → AH → Res (List D)} {R : List V → Hp → Prop} {β : Type} {k : List D → AH → Res β} {K' : List Addr → Hp → Res β → Prop}
    (S : Sim A σD h m o σ H) (hx : ∀ c fs h', K' m H (.ex c fs h') → ∀ m' H' cv dv, Step m none_ H m' H' → Sim A σD h' m' o σ H' → ExcOk A.F H' m' (Wr m' A.U o) c fs cv dv → E cv dv H') (hb : ¬ K' m H .bad)
    (hm : ∀ {m1 H1 r}, Step m none_ H m1 H1 → K' m H r → K' m1 H1 r) (q : K' m H ((f σD h).bind k))
    (hop : ∀ d h1 m1 H1 v, Step m none_ H m1 H1 → Sim A σD h1 m1 o σ H1 → RVL A.F H1 m1 (Wr m1 A.U o) d v → K' m1 H1 (k d h1) → R v H1) : tL A E f σ H R := by
  refine ⟨σD, h, m, o, S, ?_⟩
  cases e : f σD h with
  | ok d h1 =>
    rw [e] at q
    exact fun m1 H1 v s S1 r => hop d h1 m1 H1 v s S1 r (hm s q)
  | ex c fs h' =>
    rw [e] at q
    exact hx c fs h' q
  | bad =>
    rw [e] at q
    exact hb q
/-- .. for values -/
theorem den1D {E : XK} {fr : Bool} {Q : VK} {f : En → AH → Res D} {R : V → Hp → Prop} {k : D → AH → Res D} (S : Sim A σD h m o σ H) (q : KD A fr σD m o σ H Q E ((f σD h).bind k))
    (hop : ∀ d h1 m1 H1 v, Step m none_ H m1 H1 → Sim A σD h1 m1 o σ H1 → RV A.F H1 m1 (Wr m1 A.U o) d v → KD A fr σD m1 o σ H1 Q E (k d h1) → R v H1) : tD A E false f σ H R :=
  den1 (K' := fun m H r => KD A fr σD m o σ H Q E r) S (fun _ _ _ x => x) id (fun s x => x.mono s) q hop
theorem denLD {E : XK} {fr : Bool} {Q : VK} {f : En → AH → Res (List D)} {R : List V → Hp → Prop} {k : List D → AH → Res D} (S : Sim A σD h m o σ H) (q : KD A fr σD m o σ H Q E ((f σD h).bind k))
    (hop : ∀ d h1 m1 H1 v, Step m none_ H m1 H1 → Sim A σD h1 m1 o σ H1 → RVL A.F H1 m1 (Wr m1 A.U o) d v → KD A fr σD m1 o σ H1 Q E (k d h1) → R v H1) : tL A E f σ H R :=
  denL (K' := fun m H r => KD A fr σD m o σ H Q E r) S (fun _ _ _ x => x) id (fun s x => x.mono s) q hop
theorem den1L {E : XK} {Q : List V → Hp → Prop} {f : En → AH → Res D} {R : V → Hp → Prop} {k : D → AH → Res (List D)} (S : Sim A σD h m o σ H) (q : KL A σD m o σ H Q E ((f σD h).bind k))
    (hop : ∀ d h1 m1 H1 v, Step m none_ H m1 H1 → Sim A σD h1 m1 o σ H1 → RV A.F H1 m1 (Wr m1 A.U o) d v → KL A σD m1 o σ H1 Q E (k d h1) → R v H1) : tD A E false f σ H R :=
  den1 (K' := fun m H r => KL A σD m o σ H Q E r) S (fun _ _ _ x => x) id (fun s x => x.mono s) q hop
theorem den1B {E : XK} {Q : Bool → Hp → Prop} {f : En → AH → Res D} {R : V → Hp → Prop} {k : D → AH → Res D} (S : Sim A σD h m o σ H) (q : KB A σD m o σ H Q E ((f σD h).bind k))
    (hop : ∀ d h1 m1 H1 v, Step m none_ H m1 H1 → Sim A σD h1 m1 o σ H1 → RV A.F H1 m1 (Wr m1 A.U o) d v → KB A σD m1 o σ H1 Q E (k d h1) → R v H1) : tD A E false f σ H R :=
  den1 (K' := fun m H r => KB A σD m o σ H Q E r) S (fun _ _ _ x => x) id (fun s x => x.mono s) q hop
theorem denLLL {E : XK} {Q : List V → Hp → Prop} {f : En → AH → Res (List D)} {R : List V → Hp → Prop} {k : List D → AH → Res (List D)} (S : Sim A σD h m o σ H) (q : KL A σD m o σ H Q E ((f σD h).bind k))
    (hop : ∀ d h1 m1 H1 v, Step m none_ H m1 H1 → Sim A σD h1 m1 o σ H1 → RVL A.F H1 m1 (Wr m1 A.U o) d v → KL A σD m1 o σ H1 Q E (k d h1) → R v H1) : tL A E f σ H R :=
  denL (K' := fun m H r => KL A σD m o σ H Q E r) S (fun _ _ _ x => x) id (fun s x => x.mono s) q hop
/-- two operands, then an operation by values -/
theorem den2 {E : XK} {fr : Bool} {Q : VK} {f g : En → AH → Res D} {r : V → V → Hp → VK → Prop} {p : D → D → AH → Res D} (S : Sim A σD h m o σ H)
    (q : KD A fr σD m o σ H Q E ((f σD h).bind fun x h => (g σD h).bind fun y h => p x y h))
    (hop : ∀ x y h m H vx vy, Sim A σD h m o σ H → RV A.F H m (Wr m A.U o) x vx → RV A.F H m (Wr m A.U o) y vy → KD A fr σD m o σ H Q E (p x y h) → r vx vy H Q) :
    tD A E false f σ H (fun vx H1 => tD A E false g σ H1 (fun vy H2 => r vx vy H2 Q)) :=
  den1D S q fun x h1 m1 H1 vx s1 S1 rx q1 => den1D S1 q1 fun y h2 m2 H2 vy s2 S2 ry q2 => hop x y h2 m2 H2 vx vy S2 (rx.go s2) ry q2
/-- a value that is there already -/
theorem KD.ok {E : XK} {Q : VK} {d : D} {v : V} (q : KD A false σD m o σ H Q E (.ok d h)) (S : Sim A σD h m o σ H) (r : RV A.F H m (Wr m A.U o) d v) : Q v H := q m H v Step.refl S r (fun z => by cases z)
/-- nothing but the heap has grown -/
theorem Sim.laid (S : Sim A σD h m o σ H) {p : Addr} {u : HO} (hp : H p = none) : Step m none_ H m (upd H p u) ∧ Sim A σD h m o σ (upd H p u) := by
  have s : Step m none_ H m (upd H p u) := Step.laid hp
  refine ⟨s, S.go s ⟨S.cells.len, S.cells.nd, fun n c e => ?_⟩⟩
  obtain ⟨a, e1, ok⟩ := S.cells.ok n c e
  refine ⟨a, e1, ?_⟩
  cases c with
  | lst xs =>
    obtain ⟨vs, e2, r⟩ := ok
    exact ⟨vs, by rw [upd_ne (ne_of_none e2 hp)]; exact e2, r.go s⟩
  | ins c fs =>
    obtain ⟨dx, fv, e2, e3, e4, e5, r⟩ := ok
    exact ⟨dx, fv, by rw [upd_ne (ne_of_none e2 hp)]; exact e2, by rw [upd_ne (ne_of_none e3 hp)]; exact e3, e4, e5, fun i p q a b => (r i p q a b).go s⟩
/-- a new list -/
theorem KD.newL {E : XK} {fr : Bool} {Q : VK} {xs : List D} {vs : List V} (q : KD A fr σD m o σ H Q E (.ok (.lst xs) h)) (S : Sim A σD h m o σ H) (r : RVL A.F H m (Wr m A.U o) xs vs) {p : Addr} (hp : H p = none) : Q (.ref p) (upd H p (.lst vs)) := by
  obtain ⟨s, S'⟩ := S.laid (u := .lst vs) hp
  have nw : ¬ Wr m A.U o p := S.fresh hp
  exact q m _ _ s S' (.lst upd_same nw r.1 (r.go s).2) fun _ => ⟨H, p, Step.refl, S, hp, rfl, .inl ⟨xs, vs, rfl, rfl, r⟩⟩
theorem KD.newT {E : XK} {Q : VK} {xs : List D} {vs : List V} (q : KD A false σD m o σ H Q E (.ok (.tup xs) h)) (S : Sim A σD h m o σ H) (r : RVL A.F H m (Wr m A.U o) xs vs) {p : Addr} (hp : H p = none) : Q (.ref p) (upd H p (.tup vs)) := by
  obtain ⟨s, S'⟩ := S.laid (u := .tup vs) hp
  have nw : ¬ Wr m A.U o p := S.fresh hp
  exact q m _ _ s S' (.tup (.inl ⟨.inl upd_same, nw⟩) r.1 (r.go s).2) fun z => by cases z
end
end VI
namespace VI
open PySem PySem.Spec PyProof.Rows L2
abbrev o0 : Nat → Option Addr := fun _ => none
theorem wr0 {m : List Addr} {U : Addr → Prop} {a : Addr} : Wr m U o0 a ↔ a ∈ m ∨ U a := by
  constructor
  · rintro (q | q | ⟨i, q⟩)
    · exact .inl q
    · exact .inr q
    · cases q
  · rintro (q | q)
    · exact .inl q
    · exact .inr (.inl q)
/-- the callers' and the own objects, for a callee -/
abbrev Uo (U : Addr → Prop) (o : Nat → Option Addr) : Addr → Prop := fun a => U a ∨ ∃ i, o i = some a
theorem wrU {m : List Addr} {U : Addr → Prop} {o : Nat → Option Addr} {a : Addr} : Wr m (Uo U o) o0 a ↔ Wr m U o a := by
  rw [wr0]; exact Iff.rfl
theorem RV.w {F : Fix} {H : Hp} {m : List Addr} {W W' : Addr → Prop} {d : D} {v : V} (r : RV F H m W d v) (h : ∀ a, W' a → W a) : RV F H m W' d v := r.mono (fun _ _ e _ => .inl e) (fun _ _ e => e) fun a q => .inl (h a q)
theorem RVL.w {F : Fix} {H : Hp} {m : List Addr} {W W' : Addr → Prop} {d : List D} {v : List V} (r : RVL F H m W d v) (h : ∀ a, W' a → W a) : RVL F H m W' d v := ⟨r.1, fun i d v e1 e2 => (r.2 i d v e1 e2).w h⟩
theorem Cells.w {F : Fix} {H : Hp} {m : List Addr} {W W' : Addr → Prop} {h : AH} (c : Cells F H m W h) (hw : ∀ a, W' a → W a) : Cells F H m W' h := ⟨c.len, c.nd, fun n cl e => by
  obtain ⟨a, e1, ok⟩ := c.ok n cl e
  refine ⟨a, e1, ?_⟩
  cases cl with
  | lst xs =>
    obtain ⟨vs, e2, r⟩ := ok
    exact ⟨vs, e2, r.w hw⟩
  | ins c fs =>
    obtain ⟨dx, fv, e2, e3, e4, e5, r⟩ := ok
    exact ⟨dx, fv, e2, e3, e4, e5, fun i p q a b => (r i p q a b).w hw⟩⟩
/-- what is wanted behind a call -/
def KC (F : Fix) (U : Addr → Prop) (m : List Addr) (H : Hp) (Q : VK) (E : XK) : Res D → Prop
  | .ok d h' => ∀ m' H' v, Step m none_ H m' H' → Cells F H' m' (Wr m' U o0) h' → RV F H' m' (Wr m' U o0) d v → Q v H'
  | .ex c fs h' => ∀ m' H' cv dv, Step m none_ H m' H' → Cells F H' m' (Wr m' U o0) h' → ExcOk F H' m' (Wr m' U o0) c fs cv dv → E cv dv H'
  | .bad => False
def spC (F : Fix) (np : Nat) (C : List D → AH → Res D) : Sp := fun vs H Q E => vs.length = np ∧ ∃ (m : List Addr) (h : AH) (ds : List D) (U : Addr → Prop), Cells F H m (Wr m U o0) h ∧ (∀ a, U a → a ∉ m ∧ ∃ u, H a = some u) ∧
  RVL F H m (Wr m U o0) ds vs ∧ KC F U m H Q E (C ds h)
/-- an __init__ that fills a value: x the instance -/
def KI (F : Fix) (U : Addr → Prop) (c : String) (x : Addr) (m : List Addr) (H : Hp) (Q : VK) (E : XK) : Res (List (String × D)) → Prop
  | .ok fs h' => ∀ m' H' dx fv, Step m (fun a => a = x) H m' H' → Cells F H' m' (Wr m' U o0) h' → H' x = some (.ins (F.cA c) dx fv) → ¬ Wr m' U o0 x → fv.map (·.1) = fs.map (fun p => ofS p.1) → (∀ p ∈ fs, F.isM p.1 = false) →
      (∀ (j : Nat) p q, fs[j]? = some p → fv[j]? = some q → RV F H' m' (Wr m' U o0) p.2 q.2) → Q .non H'
  | .ex c fs h' => ∀ m' H' cv dv, Step m (fun a => a = x) H m' H' → Cells F H' m' (Wr m' U o0) h' → ExcOk F H' m' (Wr m' U o0) c fs cv dv → E cv dv H'
  | .bad => False
def spI (F : Fix) (np : Nat) (c : String) (C : List D → AH → Res (List (String × D))) : Sp := fun vs H Q E => vs.length = np ∧ ∃ (x dx : Addr) (vr : List V) (m : List Addr) (h : AH) (ds : List D) (U : Addr → Prop), vs = .ref x :: vr ∧ H x = some (.ins (F.cA c) dx []) ∧
  ¬ Wr m U o0 x ∧ Cells F H m (Wr m U o0) h ∧ (∀ a, U a → a ∉ m ∧ ∃ u, H a = some u) ∧ RVL F H m (Wr m U o0) ds vr ∧ KI F U c x m H Q E (C ds h)
/-- the world around: program, module's names, the base -/
structure Glb where
  P : Program
  w : World
  mg : Str → Option Value
  base : Heap
  F : Fix
  T : Tab
  /-- the module's name of a def, of a class -/
  gn : String → Str
/-- how a def is called: k: the level -/
structure FnAt (G : Glb) (k : Nat) (sp : Sp) (ad : Addr) (np : Nat) : Prop where
  ex : ∃ (fd : FuncData) (ps : List Str), FnOk G.P G.w G.F.K G.mg G.base (L2.CX G.P G.w) k ad fd ps sp ∧ ps.length = np ∧ Binds G.F.K fd ps []
  kp : PySem.W.keepIn G.F.K (.ref ad) = true
/-- the built-in names that are met -/
def biNames : List String := ["len", "int", "abs", "max", "min", "tuple", "list", "sum", "all", "any", "str", "isinstance", "range", "enumerate", "zip", "sorted", "set", "dict", "repr", "reversed", "super", "bool"]
structure CallsOk (G : Glb) (k : Nat) (C : String → List D → AH → Res D) (CI : String → List D → AH → Res (List (String × D))) : Prop where
  fn : ∀ f fd, G.T.fn f = some fd → fd.cls = none → ∃ ad, G.mg (G.gn f) = some (.ref ad) ∧ FnAt G k (spC G.F fd.np (C f)) ad fd.np
  bad : ∀ f, G.T.fn f = none → ∀ ds h, C f ds h = .bad
  np : ∀ f fd, G.T.fn f = some fd → ∀ ds h, ds.length ≠ fd.np → C f ds h = .bad
  bnm : ∀ b ∈ biNames, G.mg (ofS b) = none
  glo : ∀ x d, G.T.gl x = some d → ∃ u v, G.mg (G.gn x) = some u ∧ RelV v u ∧ ∀ H m W, RV G.F H m W d v
end VI
namespace VI
open PySem PySem.Spec PyProof.Rows L2
/-- what is known of a body's context -/
structure Good (tb : Str → Bool) (F : Fix) (T : Tab) (gn : String → Str) (C : String → List D → AH → Res D) (CI : String → List D → AH → Res (List (String × D))) (k : Nat) (X : Cx) (E : XK) : Prop where
  K : F.K = X.K
  calm : X.calm = true
  nd : X.N.Nodup
  tb : ∀ x, tb x = true → Loc X.env.scope x ∧ (X.fn x = true ∨ X.env.scope.names.lookup x = some .local)
  room : Room (k + 1) X.A
  pass : Passes (L2.CX X.prog X.w) X E
  own : PassesOwn (model X.prog X.w) X.A X.env X.xe
  calls : CallsOk ⟨X.prog, X.w, X.mg, X.base, F, T, gn⟩ k C CI
section
variable {A : Amb} {X : Cx} {σD : En} {h : AH} {m : List Addr} {o : Nat → Option Addr} {σ : L2.St} {H : Hp} {fr : Bool} {Q : VK} {E : XK} {x y : D} {vx vy : V}
theorem KD.nob {r : Res D} (q : KD A fr σD m o σ H Q E r) (e : r = .bad) : False := by rw [e] at q; exact q
theorem KD.of {r : Option D} {d : D} (q : KD A fr σD m o σ H Q E (Res.of r h)) (e : r = some d) : KD A fr σD m o σ H Q E (.ok d h) := by rw [e] at q; exact q
theorem KD.of_none {r : Option D} (q : KD A fr σD m o σ H Q E (Res.of r h)) (e : r = none) : False := by rw [e] at q; exact q
theorem KD.of_inv {r : Option D} (q : KD A fr σD m o σ H Q E (Res.of r h)) : ∃ d, r = some d ∧ KD A fr σD m o σ H Q E (.ok d h) := by
  cases e : r with
  | none => exact (q.of_none e).elim
  | some d => exact ⟨d, rfl, q.of e⟩
/-- a scalar is there at once -/
theorem KD.sc {d : D} {v : V} (q : KD A fr σD m o σ H Q E (.ok d h)) (S : Sim A σD h m o σ H) (hf : fr = false) (r : RV A.F H m (Wr m A.U o) d v) : Q v H := by
  subst hf; exact q.ok S r
def bop : BOp → Operator
  | .add => .Add | .sub => .Sub | .mul => .Mult | .fdiv => .FloorDiv | .mod => .Mod | .pow => .Pow
/-- an operator that gives a value -/
def BinOk (A : Amb) (fr : Bool) (X : Cx) (f : Value → Value → Sem Value) (p : D → D → Option D) : Prop := ∃ r : R2, OpR X f r ∧ ∀ (σD : En) (h : AH) (m : List Addr) (o : Nat → Option Addr) (σ : L2.St) (H : Hp) (Q : VK) (E : XK) (x y : D) (vx vy : V),
  Sim A σD h m o σ H → RV A.F H m (Wr m A.U o) x vx → RV A.F H m (Wr m A.U o) y vy → KD A fr σD m o σ H Q E (Res.of (p x y) h) → r vx vy H Q
theorem bin_sub (hK : A.F.K = X.K) : BinOk A false X (binaryOp .Sub) (binD .sub) := by
  refine ⟨_, op_sub, fun σD h m o σ H Q E x y vx vy S rx ry q => ?_⟩
  obtain ⟨d, e, q⟩ := q.of_inv
  cases x <;> cases y <;> simp only [binD, reduceCtorEq, Option.some.injEq] at e
  subst e; cases rx; cases ry
  exact ⟨_, _, rfl, rfl, q.ok S (.int _)⟩
theorem bin_fdiv (hK : A.F.K = X.K) : BinOk A false X (binaryOp .FloorDiv) (binD .fdiv) := by
  refine ⟨_, op_fdiv, fun σD h m o σ H Q E x y vx vy S rx ry q => ?_⟩
  obtain ⟨d, e, q⟩ := q.of_inv
  cases x <;> cases y <;> simp only [binD, reduceCtorEq, Option.some.injEq] at e
  split at e
  · rename_i hc
    cases e; cases rx; cases ry
    exact ⟨_, _, rfl, rfl, hc, q.ok S (.int _)⟩
  · cases e
theorem bin_mod (hK : A.F.K = X.K) : BinOk A false X (binaryOp .Mod) (binD .mod) := by
  refine ⟨_, op_mod, fun σD h m o σ H Q E x y vx vy S rx ry q => ?_⟩
  obtain ⟨d, e, q⟩ := q.of_inv
  cases x <;> cases y <;> simp only [binD, reduceCtorEq, Option.some.injEq] at e
  split at e
  · rename_i hc
    cases e; cases rx; cases ry
    exact ⟨_, _, rfl, rfl, hc, q.ok S (.int _)⟩
  · cases e
theorem bin_pow (hK : A.F.K = X.K) : BinOk A false X (binaryOp .Pow) (binD .pow) := by
  refine ⟨_, op_pow, fun σD h m o σ H Q E x y vx vy S rx ry q => ?_⟩
  obtain ⟨d, e, q⟩ := q.of_inv
  cases x <;> cases y <;> simp only [binD, reduceCtorEq, Option.some.injEq] at e
  split at e
  · rename_i hc
    cases e; cases rx; cases ry
    exact ⟨_, _, rfl, rfl, hc, q.ok S (.int _)⟩
  · cases e
theorem okMul_C {i j : Int} (h : okMul i j = true) : CMul i j := by
  unfold okMul at h
  rw [Bool.or_eq_true, decide_eq_true_eq, decide_eq_true_eq] at h
  exact h
/-- where a tuple is handed on as it stands, or a new one is made -/
theorem cat_ok (hK : A.F.K = X.K) {xs ys : List D} (S : Sim A σD h m o σ H) (rx : RV A.F H m (Wr m A.U o) (.tup xs) vx) (ry : RV A.F H m (Wr m A.U o) (.tup ys) vy) (hz : xs.length + ys.length ≤ 1000000)
    (q : KD A false σD m o σ H Q E (.ok (.tup (xs ++ ys)) h)) : rCatA X.K vx vy H Q := by
  obtain ⟨a, vs, rfl, ta, la⟩ := rx.tupL
  obtain ⟨b, ws, rfl, tb, lb⟩ := ry.tupL
  refine ⟨a, b, vs, ws, rfl, rfl, hK ▸ ta.sq, hK ▸ tb.sq, lim_le (by rw [la.1, lb.1]; exact hz), fun e => ?_, fun _ e => ?_, fun _ _ p hp => ?_⟩
  · have e' : xs = [] := by
      have := la.1; rw [e] at this; exact List.length_eq_zero_iff.mp (by simpa using this.symm)
    subst e'
    exact q.ok S ry
  · have e' : ys = [] := by
      have := lb.1; rw [e] at this; exact List.length_eq_zero_iff.mp (by simpa using this.symm)
    subst e'
    rw [List.append_nil] at q
    exact q.ok S rx
  · exact q.newT S (la.append lb) hp
theorem bin_add (hK : A.F.K = X.K) : BinOk A false X (binaryOp .Add) (binD .add) := by
  refine ⟨_, OpR.or op_add (OpR.or op_add_str op_catA), fun σD h m o σ H Q E x y vx vy S rx ry q => ?_⟩
  obtain ⟨d, e, q⟩ := q.of_inv
  cases x <;> cases y <;> simp only [binD, reduceCtorEq, Option.some.injEq] at e
  · subst e; cases rx; cases ry
    exact .inl ⟨_, _, rfl, rfl, q.ok S (.int _)⟩
  · split at e
    · rename_i hz
      cases e; cases rx; cases ry
      exact .inr (.inl ⟨_, _, rfl, rfl, lim_le hz, q.ok S (.str _)⟩)
    · cases e
  · split at e
    · rename_i hz
      cases e
      exact .inr (.inr (cat_ok hK S rx ry hz q))
    · cases e
theorem lbin_add (hK : A.F.K = X.K) : BinOk A fr X (binaryOp .Add) (lbinD .add) := by
  refine ⟨_, op_cat, fun σD h m o σ H Q E x y vx vy S rx ry q => ?_⟩
  obtain ⟨d, e, q⟩ := q.of_inv
  cases x <;> cases y <;> simp only [lbinD, reduceCtorEq] at e
  split at e
  · rename_i hz
    cases e
    obtain ⟨a, vs, rfl, ta, na, la⟩ := rx.lstL
    obtain ⟨b, ws, rfl, tb, nb, lb⟩ := ry.lstL
    exact ⟨a, b, vs, ws, rfl, rfl, ta, tb, lim_le (by rw [la.1, lb.1]; exact hz), fun p hp => q.newL S (la.append lb) hp⟩
  · cases e
theorem bin_mul (hK : A.F.K = X.K) : BinOk A false X (binaryOp .Mult) (binD .mul) := by
  refine ⟨_, op_mul, fun σD h m o σ H Q E x y vx vy S rx ry q => ?_⟩
  obtain ⟨d, e, q⟩ := q.of_inv
  cases x <;> cases y <;> simp only [binD, reduceCtorEq] at e
  split at e
  · rename_i hc
    cases e; cases rx; cases ry
    exact ⟨_, _, rfl, rfl, okMul_C hc, q.ok S (.int _)⟩
  · cases e
theorem lbin_mul (hK : A.F.K = X.K) : BinOk A fr X (binaryOp .Mult) (lbinD .mul) := by
  refine ⟨_, op_rep, fun σD h m o σ H Q E x y vx vy S rx ry q => ?_⟩
  obtain ⟨d, e, q⟩ := q.of_inv
  cases x <;> cases y <;> simp only [lbinD, reduceCtorEq] at e
  split at e
  · rename_i hz
    cases e
    obtain ⟨a, vs, rfl, ta, na, la⟩ := rx.lstL
    cases ry
    exact ⟨a, _, vs, rfl, rfl, ta, hz.1, hz.2.1, lim_le (by rw [la.1]; exact hz.2.2), fun p hp => q.newL S (la.rep _) hp⟩
  · cases e
theorem bin_all (hK : A.F.K = X.K) : ∀ o : BOp, BinOk A false X (binaryOp (bop o)) (binD o)
  | .add => bin_add hK
  | .sub => bin_sub hK
  | .mul => bin_mul hK
  | .fdiv => bin_fdiv hK
  | .mod => bin_mod hK
  | .pow => bin_pow hK
def cop : COp → CmpOp
  | .eq => .Eq | .ne => .NotEq | .lt => .Lt | .le => .LtE | .gt => .Gt | .ge => .GtE | .inn => .In | .nin => .NotIn
def CmpOk (A : Amb) (X : Cx) (op : COp) : Prop := ∃ r : R2, OpR X (compareOp (cop op)) r ∧ ∀ (σD : En) (h : AH) (m : List Addr) (o : Nat → Option Addr) (σ : L2.St) (H : Hp) (Q : VK) (x y : D) (vx vy : V) (b : Bool),
  Sim A σD h m o σ H → RV A.F H m (Wr m A.U o) x vx → RV A.F H m (Wr m A.U o) y vy → cmpD op x y = some b → Q (.bl b) H → r vx vy H Q
theorem eqP_inv {x y : D} {b : Bool} (e : eqP x y = some b) : ∃ p q, x.py = some p ∧ y.py = some q ∧ SeqAt.shaped p = true ∧ SeqAt.shaped q = true ∧ PyData.eqv p q = b := by
  unfold eqP at e
  split at e
  · rename_i p q e1 e2
    split at e
    · rename_i hs
      rw [Bool.and_eq_true] at hs
      exact ⟨p, q, e1, e2, hs.1, hs.2, Option.some.inj e⟩
    · cases e
  · cases e
/-- which of the two roads of == is taken -/
theorem eqD_cases {x y : D} {b : Bool} (e : eqD x y = some b) : eqP x y = some b ∨ ∀ {F : Fix} {H : Hp} {m : List Addr} {W : Addr → Prop} {vx vy : V}, RV F H m W x vx → RV F H m W y vy → scal vx vy = true ∧ decide (vx = vy) = b := by
  unfold eqD at e
  split at e
  all_goals first
    | exact .inl e
    | (right
       intro F H m W vx vy rx ry
       cases rx
       cases ry
       simp only [Option.some.injEq] at e
       subst e
       refine ⟨rfl, ?_⟩
       simp)
theorem eq_or (hu : X.A.units + 64 < cLine) (hK : A.F.K = X.K) : CmpOk A X .eq := by
  refine ⟨_, OpR.or op_eq (op_eqD hu), fun σD h m o σ H Q x y vx vy b S rx ry e q => ?_⟩
  rcases eqD_cases (show eqD x y = some b from e) with e | e
  · obtain ⟨p, p', e1, e2, s1, s2, rfl⟩ := eqP_inv e
    exact .inr ⟨p, p', hK ▸ rx.dp e1, hK ▸ ry.dp e2, s1, s2, q⟩
  · obtain ⟨e1, rfl⟩ := e rx ry
    exact .inl ⟨e1, q⟩
theorem ne_or (hu : X.A.units + 64 < cLine) (hK : A.F.K = X.K) : CmpOk A X .ne := by
  refine ⟨_, OpR.or op_ne (op_neD hu), fun σD h m o σ H Q x y vx vy b S rx ry e q => ?_⟩
  have e' : (eqD x y).map (!·) = some b := e
  rw [Option.map_eq_some_iff] at e'
  obtain ⟨c, e0, rfl⟩ := e'
  rcases eqD_cases e0 with e | e
  · obtain ⟨p, p', e1, e2, s1, s2, rfl⟩ := eqP_inv e
    exact .inr ⟨p, p', hK ▸ rx.dp e1, hK ▸ ry.dp e2, s1, s2, q⟩
  · obtain ⟨e1, rfl⟩ := e rx ry
    exact .inl ⟨e1, q⟩
theorem lt_or (hu : X.A.units < cLine) (hK : A.F.K = X.K) : CmpOk A X .lt := by
  refine ⟨_, OpR.or op_lt (op_ltT hu), fun σD h m o σ H Q x y vx vy b S rx ry e q => ?_⟩
  have e' : ltD x y = some b := e
  unfold ltD at e'
  split at e'
  · cases e'; cases rx; cases ry
    exact .inl ⟨_, _, rfl, rfl, q⟩
  · split at e'
    · rename_i ns ms e1 e2
      cases e'
      obtain ⟨a, vs, rfl, ta, la⟩ := rx.tupL
      obtain ⟨b, ws, rfl, tb, lb⟩ := ry.tupL
      have h1 := la.ints e1
      have h2 := lb.ints e2
      subst h1 h2
      exact .inr ⟨a, b, ns, ms, rfl, rfl, hK ▸ ta.sq, hK ▸ tb.sq, q⟩
    · cases e'
  · cases e'
theorem le_or : CmpOk A X .le := by
  refine ⟨_, op_le, fun σD h m o σ H Q x y vx vy b S rx ry e q => ?_⟩
  cases x <;> cases y <;> simp only [cmpD, reduceCtorEq, Option.some.injEq] at e
  subst e; cases rx; cases ry
  exact ⟨_, _, rfl, rfl, q⟩
theorem ge_or : CmpOk A X .ge := by
  refine ⟨_, op_ge, fun σD h m o σ H Q x y vx vy b S rx ry e q => ?_⟩
  cases x <;> cases y <;> simp only [cmpD, reduceCtorEq, Option.some.injEq] at e
  subst e; cases rx; cases ry
  exact ⟨_, _, rfl, rfl, q⟩
def rGtT (K : PySem.W.Frag) : R2 := fun x y H Q => ∃ (a b : Addr) (ns ms : List Int), x = .ref a ∧ y = .ref b ∧ SqT K H a (ns.map V.int) ∧ SqT K H b (ms.map V.int) ∧ Q (.bl (lexGt ns ms)) H
theorem op_gtT (hu : X.A.units < cLine) : OpR X (compareOp .Gt) (rGtT X.K) := by
  intro pins s σ H x y v u Q I rx ry h
  obtain ⟨a, b, ns, ms, rfl, rfl, ha, hb, q⟩ := h
  cases rx
  cases ry
  obtain ⟨its, r1, p1, _⟩ := I.tuple ha
  obtain ⟨its2, r2, p2, _⟩ := I.tuple hb
  have i1 : IntsAre its ns := Vals.ints r1
  have i2 : IntsAre its2 ms := Vals.ints r2
  have e1 : its.toArray.size = ns.length := by rw [List.size_toArray]; exact i1.length
  have e2 : its2.toArray.size = ms.length := by rw [List.size_toArray]; exact i2.length
  have at1 : ∀ j (h1 : j < its.toArray.size), ∃ t, its.toArray[j] = .int (ns.getD j 0) t := fun j h1 => PyProof.Rows.IntsAre.int_at i1 _ _ (by simp at h1; simp [h1])
  have at2 : ∀ j (h1 : j < its2.toArray.size), ∃ t, its2.toArray[j] = .int (ms.getD j 0) t := fun j h1 => PyProof.Rows.IntsAre.int_at i2 _ _ (by simp at h1; simp [h1])
  have R := Ob.RcOp.tuples_gt (A := X.A) (s := s) (e := fun j => decide (ns.getD j 0 = ms.getD j 0)) (r := fun j => decide (ms.getD j 0 < ns.getD j 0)) p1 p2 hu (fun j h1 h2 => by
    obtain ⟨t, et⟩ := at1 j h1
    obtain ⟨t', et'⟩ := at2 j h2
    rw [et, et']
    have z : (ns.getD j 0 == ms.getD j 0) = decide (ns.getD j 0 = ms.getD j 0) := by
      by_cases q : ns.getD j 0 = ms.getD j 0
      · rw [decide_eq_true q]; exact beq_iff_eq.mpr q
      · rw [decide_eq_false q]; exact beq_eq_false_iff_ne.mpr q
    rw [← z]
    exact SeqAt.EqAt.int_int _ _ _ _) (fun j h1 h2 _ => by
    obtain ⟨t, et⟩ := at1 j h1
    obtain ⟨t', et'⟩ := at2 j h2
    rw [et, et']
    exact Ob.RcOp.gt_int _ _ _ _)
  rw [e1, e2] at R
  have z : wpAny (model X.prog X.w) X.A (compareOp .Gt (.ref a) (.ref b)) (EP X pins σ Q) X.xe s := R X.prog X.w X.xe (EP X pins σ Q) ⟨.bl _, H, I, rfl, q⟩
  exact z
theorem gt_or (hu : X.A.units < cLine) (hK : A.F.K = X.K) : CmpOk A X .gt := by
  refine ⟨_, OpR.or op_gt (op_gtT hu), fun σD h m o σ H Q x y vx vy b S rx ry e q => ?_⟩
  cases x <;> cases y <;> simp only [cmpD, reduceCtorEq, Option.some.injEq] at e
  · subst e; cases rx; cases ry
    exact .inl ⟨_, _, rfl, rfl, q⟩
  · split at e
    · rename_i ns ms e1 e2
      cases e
      obtain ⟨a, vs, rfl, ta, la⟩ := rx.tupL
      obtain ⟨b, ws, rfl, tb, lb⟩ := ry.tupL
      have h1 := la.ints e1
      have h2 := lb.ints e2
      subst h1 h2
      exact .inr ⟨a, b, ns, ms, rfl, rfl, hK ▸ ta.sq, hK ▸ tb.sq, q⟩
    · cases e
def rInT (K : PySem.W.Frag) : R2 := fun x y H Q => ∃ d ds, Dp K H x d ∧ Dp K H y (.tuple ds) ∧ SeqAt.shaped d = true ∧ SeqAt.shaped (.list ds) = true ∧ Q (.bl (ds.any fun z => PyData.eqv z d)) H
def rNotInT (K : PySem.W.Frag) : R2 := fun x y H Q => ∃ d ds, Dp K H x d ∧ Dp K H y (.tuple ds) ∧ SeqAt.shaped d = true ∧ SeqAt.shaped (.list ds) = true ∧ Q (.bl (!ds.any fun z => PyData.eqv z d)) H
theorem op_inT (hu : X.A.units + 65 < cLine) : OpR X (compareOp .In) (rInT X.K) := by
  intro pins s σ H x y v u Q I rx ry h
  obtain ⟨d, ds, hd, he, sd, se, q⟩ := h
  obtain ⟨as, r1⟩ := Dp.reads I d x v hd rx
  obtain ⟨bs, r2⟩ := Dp.reads I (.tuple ds) y u he ry
  exact SeqAt.in_tuple_reads r2 r1 (SeqAt.canLay_of_shaped se) (SeqAt.canLay_of_shaped sd) (room_in_shaped sd hu) ⟨.bl _, H, I, rfl, q⟩
theorem op_notInT (hu : X.A.units + 65 < cLine) : OpR X (compareOp .NotIn) (rNotInT X.K) := by
  intro pins s σ H x y v u Q I rx ry h
  obtain ⟨d, ds, hd, he, sd, se, q⟩ := h
  obtain ⟨as, r1⟩ := Dp.reads I d x v hd rx
  obtain ⟨bs, r2⟩ := Dp.reads I (.tuple ds) y u he ry
  exact SeqAt.notIn_tuple_reads r2 r1 (SeqAt.canLay_of_shaped se) (SeqAt.canLay_of_shaped sd) (room_in_shaped sd hu) ⟨.bl _, H, I, rfl, q⟩
theorem inD_inv {x : D} {xs : List D} {b : Bool} (e : inD x xs = some b) : ∃ p ps, x.py = some p ∧ D.pys xs = some ps ∧ SeqAt.shaped p = true ∧ SeqAt.shaped (.list ps) = true ∧ (ps.any fun z => PyData.eqv z p) = b := by
  unfold inD at e
  split at e
  · rename_i p q e1 e2
    split at e
    · rename_i hs
      rw [Bool.and_eq_true] at hs
      exact ⟨p, q, e1, e2, hs.1, hs.2, Option.some.inj e⟩
    · cases e
  · cases e
theorem keyD_V {F : Fix} {H : Hp} {m : List Addr} {W : Addr → Prop} {x : D} {vx : V} {k : Key} (rx : RV F H m W x vx) (e : keyD x = some k) : vx = kV k := by
  cases x <;> simp only [keyD, reduceCtorEq, Option.some.injEq] at e
  · subst e; cases rx; rfl
  · subst e; cases rx; rfl
theorem valD_V {F : Fix} {H : Hp} {m : List Addr} {W : Addr → Prop} : ∀ {kvs : List (Key × D)} {kv : List (Key × V)} (k : Key), kv.map (·.1) = kvs.map (·.1) → (∀ (j : Nat) p q, kvs[j]? = some p → kv[j]? = some q → RV F H m W p.2 q.2) →
    (valD kvs k = none ∧ valV kv k = none) ∨ ∃ d v, valD kvs k = some d ∧ valV kv k = some v ∧ RV F H m W d v
  | [], [], k, _, _ => .inl ⟨rfl, rfl⟩
  | [], _ :: _, _, e, _ => by simp at e
  | _ :: _, [], _, e, _ => by simp at e
  | p :: r, q :: s, k, e, h => by
    simp only [List.map_cons, List.cons.injEq] at e
    by_cases hk : p.1 = k
    · right
      refine ⟨p.2, q.2, ?_, ?_, h 0 p q rfl rfl⟩
      · unfold valD
        rw [List.find?_cons_of_pos (by simpa using hk)]; rfl
      · unfold valV
        rw [List.find?_cons_of_pos (by simpa [e.1] using hk)]; rfl
    · have hk' : ¬ q.1 = k := by rw [e.1]; exact hk
      have ih := valD_V (kvs := r) (kv := s) k e.2 fun j a b c d => h (j + 1) a b (by simpa using c) (by simpa using d)
      unfold valD valV at ih ⊢
      rw [List.find?_cons_of_neg (by simpa using hk), List.find?_cons_of_neg (by simpa using hk')]
      exact ih
def rInK : R2 := fun x y H Q => ∃ a o, y = .ref a ∧ DGet H a x o ∧ Q (.bl o.isSome) H
def rNotInK : R2 := fun x y H Q => ∃ a o, y = .ref a ∧ DGet H a x o ∧ Q (.bl (!o.isSome)) H
theorem op_inK (hu : X.A.units + 1 < cLine) : OpR X (compareOp .In) rInK := by
  intro pins s σ H x y v u Q I rx ry h
  obtain ⟨a, o, rfl, g, q⟩ := h
  cases ry
  exact d_in hu I g rx fun s' I' => ⟨.bl _, H, I', rfl, q⟩
theorem op_notInK (hu : X.A.units + 1 < cLine) : OpR X (compareOp .NotIn) rNotInK := by
  intro pins s σ H x y v u Q I rx ry h
  obtain ⟨a, o, rfl, g, q⟩ := h
  cases ry
  exact d_notIn hu I g rx fun s' I' => ⟨.bl _, H, I', rfl, q⟩
theorem dctD {F : Fix} {H : Hp} {m : List Addr} {W : Addr → Prop} {x : D} {kvs : List (Key × D)} {vx vy : V} {k : Key} (rx : RV F H m W x vx) (ry : RV F H m W (.dct kvs) vy) (e : keyD x = some k) :
    ∃ a o, vy = .ref a ∧ DGet H a vx o ∧ o.isSome = (valD kvs k).isSome ∧ ∀ d, valD kvs k = some d → ∃ v, o = some v ∧ RV F H m W d v := by
  cases ry with
  | dct hk hw hm hr =>
    refine ⟨_, _, rfl, by rw [keyD_V rx e]; exact DGet.k hk, ?_, fun d ed => ?_⟩
    · rcases valD_V k hm hr with ⟨e1, e2⟩ | ⟨d, v, e1, e2, r⟩ <;> rw [e1, e2] <;> rfl
    · rcases valD_V k hm hr with ⟨e1, e2⟩ | ⟨d, v, e1, e2, r⟩
      · rw [e1] at ed; cases ed
      · rw [e1] at ed; cases ed
        exact ⟨v, e2, r⟩
theorem in_or (hu : X.A.units + 65 < cLine) (hK : A.F.K = X.K) : CmpOk A X .inn := by
  refine ⟨_, OpR.or op_in_str (OpR.or (op_inD hu) (OpR.or (op_inT hu) (op_inK (by omega)))), fun σD h m o σ H Q x y vx vy b S rx ry e q => ?_⟩
  have el : ∀ ys, y = .lst ys → inD x ys = some b → rInD X.K vx vy H Q := fun ys ey e0 => by
    subst ey
    obtain ⟨p, ps, e1, e2, s1, s2, rfl⟩ := inD_inv e0
    exact ⟨p, ps, hK ▸ rx.dp e1, hK ▸ ry.dp (by simp only [D.py, e2]; rfl), s1, s2, q⟩
  have et : ∀ ys, y = .tup ys → inD x ys = some b → rInT X.K vx vy H Q := fun ys ey e0 => by
    subst ey
    obtain ⟨p, ps, e1, e2, s1, s2, rfl⟩ := inD_inv e0
    exact ⟨p, ps, hK ▸ rx.dp e1, hK ▸ ry.dp (by simp only [D.py, e2]; rfl), s1, s2, q⟩
  cases y with
  | str z => cases x <;> simp only [cmpD, reduceCtorEq, Option.some.injEq] at e
             subst e; cases rx; cases ry
             exact .inl ⟨_, _, rfl, rfl, q⟩
  | tup ys => exact .inr (.inr (.inl (et ys rfl (by cases x <;> exact e))))
  | lst ys => exact .inr (.inl (el ys rfl (by cases x <;> exact e)))
  | dct ys =>
    have e1 : (keyD x).map (fun k => (valD ys k).isSome) = some b := by cases x <;> exact e
    rw [Option.map_eq_some_iff] at e1
    obtain ⟨k, e2, rfl⟩ := e1
    obtain ⟨a, oo, rfl, g, e3, _⟩ := dctD rx ry e2
    exact .inr (.inr (.inr ⟨a, oo, rfl, g, by rw [e3]; exact q⟩))
  | _ => cases x <;> simp [cmpD] at e
theorem nin_or (hu : X.A.units + 65 < cLine) (hK : A.F.K = X.K) : CmpOk A X .nin := by
  refine ⟨_, OpR.or op_notIn_str (OpR.or (op_notInD hu) (OpR.or (op_notInT hu) (op_notInK (by omega)))), fun σD h m o σ H Q x y vx vy b S rx ry e q => ?_⟩
  have el : ∀ ys, y = .lst ys → (inD x ys).map (!·) = some b → rNotInD X.K vx vy H Q := fun ys ey e0 => by
    subst ey
    rw [Option.map_eq_some_iff] at e0
    obtain ⟨c, e0, rfl⟩ := e0
    obtain ⟨p, ps, e1, e2, s1, s2, rfl⟩ := inD_inv e0
    exact ⟨p, ps, hK ▸ rx.dp e1, hK ▸ ry.dp (by simp only [D.py, e2]; rfl), s1, s2, q⟩
  have et : ∀ ys, y = .tup ys → (inD x ys).map (!·) = some b → rNotInT X.K vx vy H Q := fun ys ey e0 => by
    subst ey
    rw [Option.map_eq_some_iff] at e0
    obtain ⟨c, e0, rfl⟩ := e0
    obtain ⟨p, ps, e1, e2, s1, s2, rfl⟩ := inD_inv e0
    exact ⟨p, ps, hK ▸ rx.dp e1, hK ▸ ry.dp (by simp only [D.py, e2]; rfl), s1, s2, q⟩
  cases y with
  | str z => cases x <;> simp only [cmpD, reduceCtorEq, Option.some.injEq] at e
             subst e; cases rx; cases ry
             exact .inl ⟨_, _, rfl, rfl, q⟩
  | tup ys => exact .inr (.inr (.inl (et ys rfl (by cases x <;> exact e))))
  | lst ys => exact .inr (.inl (el ys rfl (by cases x <;> exact e)))
  | dct ys =>
    have e1 : (keyD x).map (fun k => !(valD ys k).isSome) = some b := by cases x <;> exact e
    rw [Option.map_eq_some_iff] at e1
    obtain ⟨k, e2, rfl⟩ := e1
    obtain ⟨a, oo, rfl, g, e3, _⟩ := dctD rx ry e2
    exact .inr (.inr (.inr ⟨a, oo, rfl, g, by rw [e3]; exact q⟩))
  | _ => cases x <;> simp [cmpD] at e
theorem cmp_all (hu : X.A.units + 65 < cLine) (hK : A.F.K = X.K) : ∀ op : COp, CmpOk A X op
  | .eq => eq_or (by omega) hK
  | .ne => ne_or (by omega) hK
  | .lt => lt_or (by omega) hK
  | .le => le_or
  | .gt => gt_or (by omega) hK
  | .ge => ge_or
  | .inn => in_or hu hK
  | .nin => nin_or hu hK
end
end VI
namespace VI
open PySem PySem.Spec PyProof.Rows L2
section
variable {A : Amb} {X : Cx} {σD : En} {h : AH} {m : List Addr} {o : Nat → Option Addr} {σ : L2.St} {H : Hp} {fr : Bool} {Q : VK} {E : XK}
theorem RVL.one {F : Fix} {W : Addr → Prop} {x : D} {vs : List V} (r : RVL F H m W [x] vs) : ∃ v, vs = [v] ∧ RV F H m W x v := by
  obtain ⟨v, r', rfl, h1, h2⟩ := r.cons_inv
  rw [h2.nil_inv]; exact ⟨v, rfl, h1⟩
theorem RVL.two {F : Fix} {W : Addr → Prop} {x y : D} {vs : List V} (r : RVL F H m W [x, y] vs) : ∃ v w, vs = [v, w] ∧ RV F H m W x v ∧ RV F H m W y w := by
  obtain ⟨v, r', rfl, h1, h2⟩ := r.cons_inv
  obtain ⟨w, rfl, h3⟩ := h2.one
  exact ⟨v, w, rfl, h1, h3⟩
theorem RV.scrL {W : Addr → Prop} {ns : List Int} {v : V} {F : Fix} (r : RV F H m W (.scr ns) v) : ∃ a, v = .ref a ∧ ScrAt F.K H W a (ns.map V.int) := by
  cases r with | scr h => exact ⟨_, rfl, h⟩
theorem RV.cell {W : Addr → Prop} {n : Nat} {v : V} {F : Fix} (r : RV F H m W (.ref n) v) : ∃ a, v = .ref a ∧ m[n]? = some a := by
  cases r with | ref h => exact ⟨_, rfl, h⟩
theorem Cells.lst {F : Fix} {W : Addr → Prop} {n : Nat} {a : Addr} {xs : List D} (c : Cells F H m W h) (e : h[n]? = some (.lst xs)) (ea : m[n]? = some a) : ∃ vs, H a = some (.lst vs) ∧ RVL F H m W xs vs := by
  obtain ⟨b, e1, ok⟩ := c.ok n _ e
  rw [ea] at e1; cases e1
  exact ok
theorem Cells.ins {F : Fix} {W : Addr → Prop} {n : Nat} {a : Addr} {c : String} {fs : List (String × D)} (c' : Cells F H m W h) (e : h[n]? = some (.ins c fs)) (ea : m[n]? = some a) : CellOk F H m W a (.ins c fs) := by
  obtain ⟨b, e1, ok⟩ := c'.ok n _ e
  rw [ea] at e1; cases e1
  exact ok
/-- a built-in's rule by data -/
def BiOk (A : Amb) (X : Cx) (fr : Bool) (p : List D → AH → Option D) (f : Value) : Prop := ∃ r : List V → Hp → VK → Prop, CallR X f r ∧ ∀ (σD : En) (h : AH) (m : List Addr) (o : Nat → Option Addr) (σ : L2.St) (H : Hp) (Q : VK) (E : XK) (ds : List D) (vs : List V) (d : D),
  Sim A σD h m o σ H → RVL A.F H m (Wr m A.U o) ds vs → p ds h = some d → KD A fr σD m o σ H Q E (.ok d h) → r vs H Q
theorem bi_len (hK : A.F.K = X.K) : BiOk A X false lenD (.builtin "len") := by
  refine ⟨_, call_len, fun σD h m o σ H Q E ds vs d S r e q => ?_⟩
  unfold lenD at e
  split at e
  · cases e
    obtain ⟨v, rfl, r1⟩ := r.one
    obtain ⟨a, us, rfl, t, l⟩ := r1.tupL
    exact ⟨_, _, rfl, .inr ⟨us, hK ▸ t.sq, rfl⟩, by rw [l.1]; exact q.ok S (.int _)⟩
  · cases e
    obtain ⟨v, rfl, r1⟩ := r.one
    obtain ⟨a, us, rfl, t, nw, l⟩ := r1.lstL
    exact ⟨_, _, rfl, .inl ⟨us, SqL.of t, rfl⟩, by rw [l.1]; exact q.ok S (.int _)⟩
  · cases e
    obtain ⟨v, rfl, r1⟩ := r.one
    cases r1 with
    | scr t => exact ⟨_, _, rfl, .inl ⟨_, hK ▸ t.sq, rfl⟩, by rw [List.length_map]; exact q.ok S (.int _)⟩
  · split at e
    · rename_i hz
      cases e
      obtain ⟨v, rfl, r1⟩ := r.one
      cases r1
      exact ⟨_, _, rfl, ⟨lim_le hz, rfl⟩, q.ok S (.int _)⟩
    · cases e
  · split at e
    · rename_i xs ex
      cases e
      obtain ⟨v, rfl, r1⟩ := r.one
      obtain ⟨a, rfl, ea⟩ := r1.cell
      obtain ⟨us, eu, l⟩ := S.cells.lst ex ea
      exact ⟨_, _, rfl, .inl ⟨us, SqL.of eu, rfl⟩, by rw [l.1]; exact q.ok S (.int _)⟩
    · cases e
  · cases e
theorem bi_int : BiOk A X false intD (.type "int") := by
  refine ⟨_, CallR.or call_int1 call_int_str, fun σD h m o σ H Q E ds vs d S r e q => ?_⟩
  unfold intD at e
  split at e
  · cases e
    obtain ⟨v, rfl, r1⟩ := r.one
    cases r1
    exact .inl (.inl ⟨_, rfl, q.ok S (.int _)⟩)
  · cases e
    obtain ⟨v, rfl, r1⟩ := r.one
    cases r1
    exact .inl (.inr ⟨_, rfl, q.ok S (.int _)⟩)
  · split at e
    · rename_i hz
      rw [Option.map_eq_some_iff] at e
      obtain ⟨n, e1, rfl⟩ := e
      obtain ⟨v, rfl, r1⟩ := r.one
      cases r1
      exact .inr ⟨_, n, rfl, e1, hz, q.ok S (.int _)⟩
    · cases e
  · cases e
theorem bi_abs : BiOk A X false absD (.builtin "abs") := by
  refine ⟨_, call_abs, fun σD h m o σ H Q E ds vs d S r e q => ?_⟩
  unfold absD at e
  split at e
  · cases e
    obtain ⟨v, rfl, r1⟩ := r.one
    cases r1
    exact ⟨_, rfl, q.ok S (.int _)⟩
  · cases e
theorem bi_max (hc : X.calm = true) : BiOk A X false maxD (.builtin "max") := by
  refine ⟨_, call_max2 hc, fun σD h m o σ H Q E ds vs d S r e q => ?_⟩
  unfold maxD at e
  split at e
  · cases e
    obtain ⟨v, w, rfl, r1, r2⟩ := r.two
    cases r1; cases r2
    exact ⟨_, _, rfl, q.ok S (.int _)⟩
  · cases e
theorem bi_min (hc : X.calm = true) : BiOk A X false minD (.builtin "min") := by
  refine ⟨_, call_min2 hc, fun σD h m o σ H Q E ds vs d S r e q => ?_⟩
  unfold minD at e
  split at e
  · cases e
    obtain ⟨v, w, rfl, r1, r2⟩ := r.two
    cases r1; cases r2
    exact ⟨_, _, rfl, q.ok S (.int _)⟩
  · cases e
theorem maxL_ok : ∀ {ns : List Int}, 0 < ns.length → maxL ns ∈ ns ∧ ∀ y, y ∈ ns → y ≤ maxL ns
  | [], h => by simp at h
  | [a], _ => ⟨by simp [maxL], by simp [maxL]⟩
  | a :: b :: r, _ => by
    obtain ⟨h1, h2⟩ := maxL_ok (ns := b :: r) (by simp)
    unfold maxL
    split
    · rename_i hlt
      exact ⟨List.mem_cons_of_mem _ h1, fun y hy => by
        rcases List.mem_cons.mp hy with e | e
        · subst e; omega
        · exact h2 y e⟩
    · rename_i hlt
      exact ⟨List.mem_cons_self, fun y hy => by
        rcases List.mem_cons.mp hy with e | e
        · subst e; omega
        · have := h2 y e; omega⟩
theorem bi_max1 (hc : X.calm = true) : BiOk A X false max1D (.builtin "max") := by
  refine ⟨_, cr_max hc, fun σD h m o σ H Q E ds vs d S r e q => ?_⟩
  unfold max1D at e
  split at e
  · rw [Option.bind_eq_some_iff] at e
    obtain ⟨ns, e1, e⟩ := e
    split at e
    · cases e
    · rename_i hz
      cases e
      obtain ⟨v, rfl, r1⟩ := r.one
      obtain ⟨a, us, rfl, t, nw, l⟩ := r1.lstL
      have eu := l.ints e1
      subst eu
      refine ⟨a, ns, rfl, SqL.of t, by omega, fun M hM hle => ?_⟩
      obtain ⟨h1, h2⟩ := maxL_ok (ns := ns) (by omega)
      have eM : M = maxL ns := Int.le_antisymm (h2 M hM) (hle _ h1)
      subst eM
      exact q.ok S (.int _)
  · cases e
theorem bi_tuple (hK : A.F.K = X.K) : BiOk A X false tupleD (.type "tuple") := by
  refine ⟨_, call_tuple_of, fun σD h m o σ H Q E ds vs d S r e q => ?_⟩
  unfold tupleD at e
  split at e
  · cases e
    obtain ⟨v, rfl, r1⟩ := r.one
    obtain ⟨a, us, rfl, t, nw, l⟩ := r1.lstL
    exact ⟨a, us, rfl, .inl ⟨SqL.of t, fun p hp => q.newT S l hp⟩⟩
  · cases e
    obtain ⟨v, rfl, r1⟩ := r.one
    obtain ⟨a, us, rfl, t, l⟩ := id r1.tupL
    exact ⟨a, us, rfl, .inr ⟨hK ▸ t.sq, q.ok S r1⟩⟩
  · split at e
    · rename_i xs ex
      cases e
      obtain ⟨v, rfl, r1⟩ := r.one
      obtain ⟨a, rfl, ea⟩ := r1.cell
      obtain ⟨us, eu, l⟩ := S.cells.lst ex ea
      exact ⟨a, us, rfl, .inl ⟨SqL.of eu, fun p hp => q.newT S l hp⟩⟩
    · cases e
  · cases e
theorem bi_list (hK : A.F.K = X.K) : BiOk A X fr listD (.type "list") := by
  refine ⟨_, call_list_of, fun σD h m o σ H Q E ds vs d S r e q => ?_⟩
  unfold listD at e
  split at e
  · cases e
    obtain ⟨v, rfl, r1⟩ := r.one
    obtain ⟨a, us, rfl, t, nw, l⟩ := r1.lstL
    exact ⟨a, us, rfl, .inl (SqL.of t), fun p hp => q.newL S l hp⟩
  · cases e
    obtain ⟨v, rfl, r1⟩ := r.one
    obtain ⟨a, us, rfl, t, l⟩ := id r1.tupL
    exact ⟨a, us, rfl, .inr (hK ▸ t.sq), fun p hp => q.newL S l hp⟩
  · split at e
    · rename_i xs ex
      cases e
      obtain ⟨v, rfl, r1⟩ := r.one
      obtain ⟨a, rfl, ea⟩ := r1.cell
      obtain ⟨us, eu, l⟩ := S.cells.lst ex ea
      exact ⟨a, us, rfl, .inl (SqL.of eu), fun p hp => q.newL S l hp⟩
    · cases e
  · cases e
theorem bi_sum (hc : X.calm = true) : BiOk A X false sumD (.builtin "sum") := by
  refine ⟨_, cr_sum hc, fun σD h m o σ H Q E ds vs d S r e q => ?_⟩
  unfold sumD at e
  split at e
  · rw [Option.map_eq_some_iff] at e
    obtain ⟨ns, e1, rfl⟩ := e
    obtain ⟨v, rfl, r1⟩ := r.one
    obtain ⟨a, us, rfl, t, nw, l⟩ := r1.lstL
    have eu := l.ints e1
    subst eu
    exact ⟨a, ns, rfl, SqL.of t, q.ok S (.int _)⟩
  · cases e
theorem bi_all (hc : X.calm = true) : BiOk A X false allD (.builtin "all") := by
  refine ⟨_, cr_all hc, fun σD h m o σ H Q E ds vs d S r e q => ?_⟩
  unfold allD at e
  split at e
  · rw [Option.map_eq_some_iff] at e
    obtain ⟨ns, e1, rfl⟩ := e
    obtain ⟨v, rfl, r1⟩ := r.one
    obtain ⟨a, us, rfl, t, nw, l⟩ := r1.lstL
    have eu := l.bls e1
    subst eu
    exact ⟨a, ns, rfl, SqL.of t, q.ok S (.bl _)⟩
  · cases e
theorem bi_any (hc : X.calm = true) : BiOk A X false anyD (.builtin "any") := by
  refine ⟨_, cr_any hc, fun σD h m o σ H Q E ds vs d S r e q => ?_⟩
  unfold anyD at e
  split at e
  · rw [Option.map_eq_some_iff] at e
    obtain ⟨ns, e1, rfl⟩ := e
    obtain ⟨v, rfl, r1⟩ := r.one
    obtain ⟨a, us, rfl, t, nw, l⟩ := r1.lstL
    have eu := l.bls e1
    subst eu
    exact ⟨a, ns, rfl, SqL.of t, q.ok S (.bl _)⟩
  · cases e
theorem bi_str : BiOk A X false strD (.type "str") := by
  refine ⟨_, call_str_int, fun σD h m o σ H Q E ds vs d S r e q => ?_⟩
  unfold strD at e
  split at e
  · split at e
    · rename_i hz
      cases e
      obtain ⟨v, rfl, r1⟩ := r.one
      cases r1
      exact ⟨_, rfl, hz, q.ok S (.str _)⟩
    · cases e
  · cases e
theorem IxR.or {r r' : R2} (h1 : IxR X r) (h2 : IxR X r') : IxR X (fun x y H Q => r x y H Q ∨ r' x y H Q) := fun value slice pins s σ H x y v u Q I rx ry q hs => by
  rcases q with q | q
  · exact h1 value slice pins s σ H x y v u Q I rx ry q hs
  · exact h2 value slice pins s σ H x y v u Q I rx ry q hs
def rIxK : R2 := fun x y H Q => ∃ a v, x = .ref a ∧ DGet H a y (some v) ∧ Q v H
theorem ix_dict (hu : X.A.units + 1 < cLine) : IxR X rIxK := by
  intro value slice pins s σ H x y v u Q I rx ry h hs
  obtain ⟨a, z, rfl, g, q⟩ := h
  cases rx
  exact tail_any (dict_typeIs I g) PySem.F.slot_dict_getitem.lookup (d_getItem hu I g ry fun w' s3 I3 rw' => ⟨z, H, I3, rw', q⟩) hs
theorem atI_rel {α β : Type} {xs : List α} {ys : List β} {i : Int} {x : α} (hl : ys.length = xs.length) (e : atI xs i = some x) : ∃ (j : Nat) (y : β), xs[j]? = some x ∧ ys[j]? = some y ∧ atI ys i = some y := by
  unfold atI at e ⊢
  cases q : ixN xs.length i with
  | none => rw [q] at e; cases e
  | some j =>
    rw [q] at e
    have e2 : xs[j]? = some x := e
    have hj : j < ys.length := by rw [hl]; exact (List.getElem?_eq_some_iff.mp e2).1
    exact ⟨j, ys[j], e2, List.getElem?_eq_getElem hj, by rw [hl, q]; exact List.getElem?_eq_getElem hj⟩
theorem ix_ok (hu : X.A.units + 1 < cLine) (hK : A.F.K = X.K) : ∃ r : R2, IxR X r ∧ ∀ (σD : En) (h : AH) (m : List Addr) (o : Nat → Option Addr) (σ : L2.St) (H : Hp) (Q : VK) (E : XK) (x y d : D) (vx vy : V),
    Sim A σD h m o σ H → RV A.F H m (Wr m A.U o) x vx → RV A.F H m (Wr m A.U o) y vy → ixD x y h = some d → KD A false σD m o σ H Q E (.ok d h) → r vx vy H Q := by
  refine ⟨_, IxR.or ix_list (IxR.or ix_tup (IxR.or ix_str (ix_dict hu))), fun σD h m o σ H Q E x y d vx vy S rx ry e q => ?_⟩
  unfold ixD at e
  split at e
  · obtain ⟨a, us, rfl, t, l⟩ := rx.tupL
    cases ry
    obtain ⟨j, v, e1, e2, e3⟩ := atI_rel l.1 e
    exact .inr (.inl ⟨a, us, _, v, rfl, rfl, hK ▸ t.sq, e3, q.ok S (l.2 j _ _ e1 e2)⟩)
  · obtain ⟨a, us, rfl, t, nw, l⟩ := rx.lstL
    cases ry
    obtain ⟨j, v, e1, e2, e3⟩ := atI_rel l.1 e
    exact .inl ⟨a, us, _, v, rfl, rfl, SqL.of t, e3, q.ok S (l.2 j _ _ e1 e2)⟩
  · rw [Option.map_eq_some_iff] at e
    obtain ⟨n, e0, rfl⟩ := e
    obtain ⟨a, rfl, t⟩ := rx.scrL
    cases ry
    obtain ⟨j, v, e1, e2, e3⟩ := atI_rel (List.length_map V.int) e0
    rw [List.getElem?_map, e1] at e2
    cases e2
    exact .inl ⟨a, _, _, _, rfl, rfl, hK ▸ t.sq, e3, q.ok S (.int _)⟩
  · split at e
    · rename_i hz
      rw [Option.map_eq_some_iff] at e
      obtain ⟨c, e0, rfl⟩ := e
      cases rx; cases ry
      exact .inr (.inr (.inl ⟨_, _, c, rfl, rfl, lim_le hz, e0, q.ok S (.str _)⟩))
    · cases e
  · rw [Option.bind_eq_some_iff] at e
    obtain ⟨k, e1, e2⟩ := e
    obtain ⟨a, ov, rfl, g, e3, e4⟩ := dctD ry rx e1
    obtain ⟨v, rfl, r⟩ := e4 _ e2
    exact .inr (.inr (.inr ⟨a, v, rfl, g, q.ok S r⟩))
  · split at e
    · rename_i xs ex
      obtain ⟨a, rfl, ea⟩ := rx.cell
      cases ry
      obtain ⟨us, eu, l⟩ := S.cells.lst ex ea
      obtain ⟨j, v, e1, e2, e3⟩ := atI_rel l.1 e
      exact .inl ⟨a, us, _, v, rfl, rfl, SqL.of eu, e3, q.ok S (l.2 j _ _ e1 e2)⟩
    · cases e
  · cases e
theorem isi_ok (hK : A.F.K = X.K) {d : D} {v : V} {c : String} {b : Bool} (S : Sim A σD h m o σ H) (r : RV A.F H m (Wr m A.U o) d v) (e : isiD d c = some b) : ∃ t, TyX X.K H v t ∧ PySem.W.kitOne X.K t (.type c) = some b := by
  unfold isiD at e
  split at e
  all_goals first
    | (cases e
       cases r
       first
         | exact ⟨_, .base .non, kit_ty (by decide +kernel)⟩
         | exact ⟨_, .base (.bl _), kit_ty (by decide +kernel)⟩
         | exact ⟨_, .base (.int _), kit_ty (by decide +kernel)⟩
         | exact ⟨_, .base (.str _), kit_ty (by decide +kernel)⟩
         | (rename_i hl hw hr; exact ⟨_, .base (.lst ‹H _ = some (.lst _)›), kit_ty (by decide +kernel)⟩)
         | (rename_i h1 hl hr
            rcases h1 with ⟨h1 | ⟨ob, h1⟩, _⟩ | ⟨ob, its, n, h1, h2, h3, _⟩
            · exact ⟨_, .base (.tup h1), kit_ty (by decide +kernel)⟩
            · exact ⟨_, .fTuple h1, kit_ty (by decide +kernel)⟩
            · exact ⟨_, .kTuple (hK ▸ h1) h2, kit_ty (by decide +kernel)⟩))
    | cases e
end
end VI
namespace VI
open PySem PySem.Spec PyProof.Rows L2
/-- the names of the slots; the module's names -/
structure Mt where
  N : List Str
  gn : String → Str
  T : Tab
def visB (sc : Scope) (x : Str) : Bool := match sc.names.lookup x with
  | some .local => true
  | some .cell => true
  | some .free => true
  | _ => false
def locB (sc : Scope) (x : Str) : Bool := match sc.names.lookup x with
  | some .local => true
  | some .cell => true
  | _ => false
def glB (sc : Scope) (x : Str) : Bool := (match sc.names.lookup x with
  | some .globalImplicit => true
  | _ => false) && !(x == ("__debug__" : Str)) && !(x == ("__name__" : Str))
def varB (N : List Str) (sc : Scope) (i : Nat) (x : Str) : Bool := decide (N[i]? = some x) && visB sc x && !(x == ("__debug__" : Str)) && !(x == ("__classdict__" : Str))
def noStar : Expr → Bool
  | .Starred .. => false
  | _ => true
def noSlice : Expr → Bool
  | .Slice .. => false
  | _ => true
def noSet : Expr → Bool
  | .Set .. => false
  | _ => true
def noCall0 : Expr → Bool
  | .Call (.Name _ _) [] [] _ => false
  | _ => true
/-- the built-ins: the module-level name, the function -/
def biV : String → Option (String × Value)
  | "len" => some ("len", .builtin "len")
  | "int" => some ("int", .type "int")
  | "abs" => some ("abs", .builtin "abs")
  | "max" => some ("max", .builtin "max")
  | "min" => some ("min", .builtin "min")
  | "max1" => some ("max", .builtin "max")
  | "tuple" => some ("tuple", .type "tuple")
  | "list" => some ("list", .type "list")
  | "sum" => some ("sum", .builtin "sum")
  | "all" => some ("all", .builtin "all")
  | "any" => some ("any", .builtin "any")
  | "str" => some ("str", .type "str")
  | _ => none
def tyN (c : String) : Bool := c == "int" || c == "bool" || c == "str" || c == "tuple" || c == "list"
mutual
def mtT (N : List Str) (tb : Str → Bool) : Tg → Expr → Bool
  | .nm i, .Name x _ => decide (N[i]? = some x) && tb x
  | .tp l, .Tuple es _ _ => mtTs N tb l es
  | _, _ => false
termination_by structural t => t
def mtTs (N : List Str) (tb : Str → Bool) : Tg → List Expr → Bool
  | .nil, [] => true
  | .cons a r, x :: xs => mtT N tb a x && mtTs N tb r xs
  | _, _ => false
termination_by structural t => t
end
/-- the names that a def's body, a block may bind -/
def blB (scope sc : Scope) (x : Str) : Bool := match (relS scope sc).names.lookup x with
  | some .local => true
  | some .cell => scope.names.lookup x == some .cell
  | _ => false
/-- expressions that give a new list -/
def mkE : E → Bool
  | .lst _ => true
  | .lbin _ _ _ => true
  | .lc _ _ _ _ _ => true
  | .bi "list" _ => true
  | _ => false
def isTup : Expr → Bool
  | .Tuple .. => true
  | _ => false
def vName : Expr → Option Str
  | .Name x _ => some x
  | _ => none
def vConst : Expr → Option Const
  | .Constant c _ _ => some c
  | _ => none
def vTup : Expr → Option (List Expr)
  | .Tuple es _ _ => some es
  | _ => none
def vList : Expr → Option (List Expr)
  | .List es _ => some es
  | _ => none
def vBin : Expr → Option (Expr × Operator × Expr)
  | .BinOp x op y _ => some (x, op, y)
  | _ => none
def vUn : Expr → Option (UnaryOp × Expr)
  | .UnaryOp op x _ => some (op, x)
  | _ => none
def vCmp : Expr → Option (Expr × CmpOp × Expr)
  | .Compare x [op] [y] _ => some (x, op, y)
  | _ => none
def vCmp2 : Expr → Option (Expr × CmpOp × CmpOp × Expr × Expr)
  | .Compare x [op, oq] [y, z] _ => some (x, op, oq, y, z)
  | _ => none
def vBool : Expr → Option (BoolOp × List Expr)
  | .BoolOp op es _ => some (op, es)
  | _ => none
def vIf : Expr → Option (Expr × Expr × Expr)
  | .IfExp c x y _ => some (c, x, y)
  | _ => none
def vSub : Expr → Option (Expr × Expr)
  | .Subscript x y _ => some (x, y)
  | _ => none
def vSlc : Expr → Option (Expr × Option Expr × Option Expr)
  | .Subscript x (.Slice lo hi none _) _ => some (x, lo, hi)
  | _ => none
def vCall : Expr → Option (Str × List Expr)
  | .Call (.Name x _) es [] _ => some (x, es)
  | _ => none
def vMeth : Expr → Option (Expr × Str × List Expr)
  | .Call (.Attribute o m _) es [] _ => some (o, m, es)
  | _ => none
def vAttr : Expr → Option (Expr × Str)
  | .Attribute o m _ => some (o, m)
  | _ => none
def vLc : Expr → Option (Expr × Expr × Expr × List Expr × Scope)
  | .ListComp elt [⟨tg, iter, ifs, 0⟩] scope _ => some (elt, tg, iter, ifs, scope)
  | _ => none
section
variable {e x y z : Expr} {es : List Expr}
theorem vName_ok {s : Str} (h : vName e = some s) : ∃ p, e = .Name s p := by
  unfold vName at h
  split at h
  · cases h; exact ⟨_, rfl⟩
  · cases h
theorem vConst_ok {s : Const} (h : vConst e = some s) : ∃ k p, e = .Constant s k p := by
  unfold vConst at h
  split at h
  · cases h; exact ⟨_, _, rfl⟩
  · cases h
theorem vTup_ok (h : vTup e = some es) : ∃ k p, e = .Tuple es k p := by
  unfold vTup at h
  split at h
  · cases h; exact ⟨_, _, rfl⟩
  · cases h
theorem vList_ok (h : vList e = some es) : ∃ p, e = .List es p := by
  unfold vList at h
  split at h
  · cases h; exact ⟨_, rfl⟩
  · cases h
theorem vBin_ok {op : Operator} (h : vBin e = some (x, op, y)) : ∃ p, e = .BinOp x op y p := by
  unfold vBin at h
  split at h
  · cases h; exact ⟨_, rfl⟩
  · cases h
theorem vUn_ok {op : UnaryOp} (h : vUn e = some (op, x)) : ∃ p, e = .UnaryOp op x p := by
  unfold vUn at h
  split at h
  · cases h; exact ⟨_, rfl⟩
  · cases h
theorem vCmp_ok {op : CmpOp} (h : vCmp e = some (x, op, y)) : ∃ p, e = .Compare x [op] [y] p := by
  unfold vCmp at h
  split at h
  · cases h; exact ⟨_, rfl⟩
  · cases h
theorem vCmp2_ok {op oq : CmpOp} (h : vCmp2 e = some (x, op, oq, y, z)) : ∃ p, e = .Compare x [op, oq] [y, z] p := by
  unfold vCmp2 at h
  split at h
  · cases h; exact ⟨_, rfl⟩
  · cases h
theorem vBool_ok {op : BoolOp} (h : vBool e = some (op, es)) : ∃ p, e = .BoolOp op es p := by
  unfold vBool at h
  split at h
  · cases h; exact ⟨_, rfl⟩
  · cases h
theorem vIf_ok (h : vIf e = some (x, y, z)) : ∃ p, e = .IfExp x y z p := by
  unfold vIf at h
  split at h
  · cases h; exact ⟨_, rfl⟩
  · cases h
theorem vSub_ok (h : vSub e = some (x, y)) : ∃ p, e = .Subscript x y p := by
  unfold vSub at h
  split at h
  · cases h; exact ⟨_, rfl⟩
  · cases h
theorem vSlc_ok {lo hi : Option Expr} (h : vSlc e = some (x, lo, hi)) : ∃ p2 p, e = .Subscript x (.Slice lo hi none p2) p := by
  unfold vSlc at h
  split at h
  · cases h; exact ⟨_, _, rfl⟩
  · cases h
theorem vCall_ok {s : Str} (h : vCall e = some (s, es)) : ∃ p q, e = .Call (.Name s p) es [] q := by
  unfold vCall at h
  split at h
  · cases h; exact ⟨_, _, rfl⟩
  · cases h
theorem vMeth_ok {s : Str} (h : vMeth e = some (x, s, es)) : ∃ p q, e = .Call (.Attribute x s p) es [] q := by
  unfold vMeth at h
  split at h
  · cases h; exact ⟨_, _, rfl⟩
  · cases h
theorem vAttr_ok {s : Str} (h : vAttr e = some (x, s)) : ∃ p, e = .Attribute x s p := by
  unfold vAttr at h
  split at h
  · cases h; exact ⟨_, rfl⟩
  · cases h
theorem vLc_ok {sc : Scope} (h : vLc e = some (x, y, z, es, sc)) : ∃ p, e = .ListComp x [⟨y, z, es, 0⟩] sc p := by
  unfold vLc at h
  split at h
  · cases h; exact ⟨_, rfl⟩
  · cases h
end
/-- what is asked of a view -/
def V? {α : Type} (o : Option α) (p : α → Bool) : Bool := match o with
  | some a => p a
  | none => false
theorem V?_ok {α : Type} {o : Option α} {p : α → Bool} (h : V? o p = true) : ∃ a, o = some a ∧ p a = true := by
  unfold V? at h
  split at h
  · exact ⟨_, rfl, h⟩
  · cases h
/-- a call of that built-in, its arguments -/
def vBi (b : String) (sc : Scope) (e : Expr) : Option (List Expr) := match vCall e with
  | some (x, es) => if decide (x = ofS b) && glB sc x then some es else none
  | none => none
theorem vBi_ok {b : String} {sc : Scope} {e : Expr} {es : List Expr} (h : vBi b sc e = some es) : ∃ p q, e = .Call (.Name (ofS b) p) es [] q ∧ glB sc (ofS b) = true := by
  unfold vBi at h
  split at h
  · rename_i x es' e1
    split at h
    · rename_i hc
      rw [Bool.and_eq_true, decide_eq_true_eq] at hc
      obtain ⟨rfl, hg⟩ := hc
      cases h
      obtain ⟨p, q, rfl⟩ := vCall_ok e1
      exact ⟨p, q, rfl, hg⟩
    · cases h
  · cases h
/-- what is walked -/
def mtIt (k : IK) (one : Expr → Bool) (many : List Expr → Bool) (sc : Scope) (tg x : Expr) : Bool := match k with
  | .val => one x
  | .rng1 => V? (vBi "range" sc x) fun es => es.length == 1 && many es
  | .rng2 => V? (vBi "range" sc x) fun es => es.length == 2 && many es
  | .enum => isTup tg && V? (vBi "enumerate" sc x) fun es => es.length == 1 && many es
  | .zip => isTup tg && V? (vBi "zip" sc x) fun es => es.length == 2 && many es
mutual
def mtE (M : Mt) (sc : Scope) : E → Expr → Bool
  | .var i => fun e => V? (vName e) fun x => varB M.N sc i x
  | .glob g => fun e => V? (vName e) fun x => decide (M.gn g = x) && glB sc x && (M.T.gl g).isSome
  | .cint i => fun e => V? (vConst e) fun c => match c with | .int j => decide (i = j) | _ => false
  | .cbl b => fun e => V? (vConst e) fun c => match c with | .bool j => b == j | _ => false
  | .cnon => fun e => V? (vConst e) fun c => match c with | .none => true | _ => false
  | .cstr x => fun e => V? (vConst e) fun c => match c with | .str y => decide (ofS x = y) | _ => false
  | .tup a => fun e => V? (vTup e) fun es => mtL M sc a es
  | .lst a => fun e => V? (vList e) fun es => mtL M sc a es
  | .cell a => fun e => mkE a && mtE M sc a e
  | .bin o a b => fun e => V? (vBin e) fun (x, op, y) => decide (bop o = op) && mtE M sc a x && mtE M sc b y
  | .lbin o a b => fun e => V? (vBin e) fun (x, op, y) => decide (bop o = op) && mtE M sc a x && mtE M sc b y && (decide (o = .add) || decide (o = .mul))
  | .neg a => fun e => V? (vUn e) fun (op, x) => (match op with | .USub => true | _ => false) && mtE M sc a x
  | .cmp o a b => fun e => V? (vCmp e) fun (x, op, y) => decide (cop o = op) && mtE M sc a x && mtE M sc b y && !behindInMarks op y
  | .chain o p a b c => fun e => V? (vCmp2 e) fun (x, op, oq, y, z) => decide (cop o = op) && decide (cop p = oq) && mtE M sc a x && mtE M sc b y && mtE M sc c z && !lastMarks [op, oq] [y, z]
  | .isN a => fun e => V? (vCmp e) fun (x, op, y) => decide (op = .Is) && mtE M sc a x && V? (vConst y) fun c => match c with | .none => true | _ => false
  | .notN a => fun e => V? (vCmp e) fun (x, op, y) => decide (op = .IsNot) && mtE M sc a x && V? (vConst y) fun c => match c with | .none => true | _ => false
  | .isB v a => fun e => V? (vCmp e) fun (x, op, y) => decide (op = .Is) && mtE M sc a x && V? (vConst y) fun c => match c with | .bool b => v == b | _ => false
  | .notB v a => fun e => V? (vCmp e) fun (x, op, y) => decide (op = .IsNot) && mtE M sc a x && V? (vConst y) fun c => match c with | .bool b => v == b | _ => false
  | .inR ng a b => fun e => V? (vCmp e) fun (x, op, y) => decide (op = .In) && !ng && mtE M sc a x && !behindInMarks op y && V? (vBi "range" sc y) fun es => (es.length == 2) && mtL M sc b es
  | .and a => fun e => V? (vBool e) fun (op, es) => (match op with | .And => true | _ => false) && mtL M sc a es
  | .or a => fun e => V? (vBool e) fun (op, es) => (match op with | .Or => true | _ => false) && mtL M sc a es
  | .not a => fun e => V? (vUn e) fun (op, x) => (match op with | .Not => true | _ => false) && mtE M sc a x
  | .ife c a b => fun e => V? (vIf e) fun (z, x, y) => mtE M sc c z && mtE M sc a x && mtE M sc b y
  | .ix a b => fun e => V? (vSub e) fun (x, y) => mtE M sc a x && mtE M sc b y && noSlice y
  | .ixo i b => fun e => V? (vSub e) fun (x, y) => (V? (vName x) fun s => varB M.N sc i s) && mtE M sc b y && noSlice y
  | .call f a => fun e => V? (vCall e) fun (x, es) => decide (M.gn f = x) && glB sc x && (V? (M.T.fn f) fun fd => fd.cls.isNone) && mtL M sc a es
  | .bi b a => fun e => V? (biV b) fun p => V? (vBi p.1 sc e) fun es => !es.isEmpty && mtL M sc a es
  | .isi a cs => fun e => V? (vBi "isinstance" sc e) fun es => match es, cs with
    | [x, y], [c] => mtE M sc a x && noStar x && V? (vName y) fun t => tyN c && decide (ofS c = t) && glB sc t
    | _, _ => false
  | .lc t k a c e => fun x => V? (vLc x) fun (elt, tg, iter, ifs, scope) => blkC M.N sc scope (t.slots.map fun i => (M.N.getD i Str.empty, i)) && mtT M.N (blB scope sc) t tg && mtIt k (fun x => mtI1 M sc a x) (fun es => mtL M sc a es) sc tg iter &&
      (match ifs with | [] => decide (c = .yes) | [x] => mtE M (relS scope sc) c x | _ => false) && mtE M (relS scope sc) e elt && noSet iter
  | _ => fun _ => false
termination_by structural e => e
def mtL (M : Mt) (sc : Scope) : E → List Expr → Bool
  | .nil => fun es => es.isEmpty
  | .cons e r => fun es => match es with
    | x :: xs => mtE M sc e x && noStar x && mtL M sc r xs
    | [] => false
  | _ => fun _ => false
termination_by structural e => e
def mtI1 (M : Mt) (sc : Scope) : E → Expr → Bool
  | .cons a r => fun x => mtE M sc a x && decide (r = .nil)
  | _ => fun _ => false
termination_by structural e => e
end
theorem visB_ok {sc : Scope} {x : Str} (h : visB sc x = true) : Vis sc x := by
  unfold visB at h
  split at h
  · rename_i e; exact .inl e
  · rename_i e; exact .inr (.inl e)
  · rename_i e; exact .inr (.inr e)
  · cases h
theorem glB_ok {X : Cx} {x : Str} (h : glB X.env.scope x = true) : Gl X x ∧ (x == ("__debug__" : Str)) = false ∧ x ≠ ("__name__" : Str) := by
  unfold glB at h
  rw [Bool.and_eq_true, Bool.and_eq_true] at h
  obtain ⟨⟨h1, h2⟩, h3⟩ := h
  refine ⟨?_, by simpa using h2, by simpa using h3⟩
  split at h1
  · rename_i e; exact e
  · cases h1
theorem star1 {e : Expr} {es : List Expr} {env : PySem.Env} (h : noStar e = true) : starEach (e :: es) env = (false, eval e env) :: starEach es env := by
  cases e <;> first | rfl | cases h
theorem star_any {es : List Expr} {env : PySem.Env} {pos : Pos} (h : es.all noStar = true) : (backTo pos (starEach es env)).any (·.1) = false := by
  induction es with
  | nil => rfl
  | cons e r ih =>
    rw [List.all_cons, Bool.and_eq_true] at h
    rw [star1 h.1]
    show (false || (backTo pos (starEach r env)).any (·.1)) = false
    rw [Bool.false_or]; exact ih h.2
theorem mtL_nil {M : Mt} {sc : Scope} {es : List Expr} (h : mtL M sc .nil es = true) : es = [] := by
  simp only [mtL] at h
  exact List.isEmpty_iff.mp h
theorem mtL_cons {M : Mt} {sc : Scope} {e r : E} {es : List Expr} (h : mtL M sc (.cons e r) es = true) : ∃ x xs, es = x :: xs ∧ mtE M sc e x = true ∧ noStar x = true ∧ mtL M sc r xs = true := by
  cases es with
  | nil => simp [mtL] at h
  | cons x xs =>
    simp only [mtL, Bool.and_eq_true] at h
    exact ⟨x, xs, rfl, h.1.1, h.1.2, h.2⟩
theorem mtL_star {M : Mt} {sc : Scope} : ∀ {a : E} {es : List Expr}, mtL M sc a es = true → es.all noStar = true := fun {a} => by
  induction a with
  | nil =>
    intro es h
    rw [mtL_nil h]; rfl
  | cons e r _ ih =>
    intro es h
    obtain ⟨x, xs, rfl, _, h2, h3⟩ := mtL_cons h
    rw [List.all_cons, h2, ih h3]; rfl
  | _ => intro es h; simp [mtL] at h
theorem plainIx {b : Expr} (h : noSlice b = true) : PlainIx b := fun o i => by
  cases b <;> first | rfl | cases h
theorem noSet_ok {e : Expr} {env : PySem.Env} (h : noSet e = true) : ∀ x, foldedSetIterable e env x = pure x := fun x => by
  cases e <;> first | rfl | cases h
section
variable {A : Amb} {X : Cx} {E : XK} {fr : Bool} {f : En → AH → Res D} {x : Expr}
theorem pe_f (h : PE X x (tD A E fr f)) : PE X x (tD A E false f) := pe_imp h fun σ H Q ⟨σD, hh, m, o, S, k⟩ => ⟨σD, hh, m, o, S, by
  cases fr with
  | true => exact k.weak
  | false => exact k⟩
theorem pt_of (h : PE X x (tD A E fr f)) (he : ∀ whole, isTrue x X.env whole = (do let v ← whole; standAt x.pos; holding [v] (truthy v))) : PT X x (tT A E f) := by
  refine pt_imp (pt_val (pe_f h) he) fun σ H Q ⟨σD, hh, m, o, S, k⟩ => ⟨σD, hh, m, o, S, ?_⟩
  cases e : f σD hh with
  | ok d h' =>
    rw [e] at k
    cases d with
    | bl b =>
      intro m' H' v s S' r _
      cases r
      exact ⟨b, rfl, k m' H' s S'⟩
    | _ => exact k.elim
  | ex c fs h' =>
    rw [e] at k
    exact k
  | bad =>
    rw [e] at k
    exact k
end
end VI
namespace VI
open PySem PySem.Spec PyProof.Rows L2
/-- a later heap: what may be named stands, what is forbidden stands somewhere -/
structure Later (F : Fix) (H : Hp) (m : List Addr) (W : Addr → Prop) (H' : Hp) (m' : List Addr) (W' : Addr → Prop) : Prop where
  keep : ∀ a u, H a = some u → ¬ W a → InsExt F.isM u (H' a)
  cells : ∀ (n : Nat) a, m[n]? = some a → m'[n]? = some a
  wr : ∀ a, W' a → W a ∨ H a = none
  there : ∀ a, W' a → ∃ u, H' a = some u
theorem RV.later {F : Fix} {H H' : Hp} {m m' : List Addr} {W W' : Addr → Prop} {d : D} {v : V} (r : RV F H m W d v) (l : Later F H m W H' m' W') : RV F H' m' W' d v := r.mono l.keep l.cells l.wr
theorem RVL.later {F : Fix} {H H' : Hp} {m m' : List Addr} {W W' : Addr → Prop} {d : List D} {v : List V} (r : RVL F H m W d v) (l : Later F H m W H' m' W') : RVL F H' m' W' d v := r.mono l.keep l.cells l.wr
/-- J gives the items xs, one a turn -/
def IterOk (F : Fix) (H : Hp) (m : List Addr) (W : Addr → Prop) (xs : List D) (J : It) : Prop := ∃ (G : Hp → Prop) (Y : Nat → Hp → V → Hp → Prop), Walk J xs.length G Y ∧ ∀ H' m' W', Later F H m W H' m' W' → G H' ∧
  ∀ (i : Nat) x H2, i < xs.length → Y i H' x H2 → ∃ d, xs[i]? = some d ∧ (H2 = H' ∨ ∃ p u, H' p = none ∧ H2 = upd H' p u) ∧ RV F H2 m' W' d x
theorem iter_list {F : Fix} {H : Hp} {m : List Addr} {W : Addr → Prop} {xs : List D} {a : Addr} (r : RV F H m W (.lst xs) (.ref a)) : IterOk F H m W xs (Itl F.K a) := by
  obtain ⟨b, vs, e, h1, h2, l⟩ := id r.lstL
  cases e
  refine ⟨fun H => SqL F.K H a vs, YAt vs, by rw [← l.1]; exact walk_list, fun H' m' W' lt => ⟨?_, fun i x H2 hi y => ?_⟩⟩
  · exact SqL.of (lt.keep _ _ h1 h2).lst
  · obtain ⟨rfl, e⟩ := y
    obtain ⟨d, ed⟩ : ∃ d, xs[i]? = some d := ⟨xs[i], List.getElem?_eq_getElem hi⟩
    exact ⟨d, ed, .inl rfl, (l.2 i d x ed e).later lt⟩
theorem TupAt.later {F : Fix} {H H' : Hp} {m m' : List Addr} {W W' : Addr → Prop} {a : Addr} {vs : List V} (t : TupAt F.K H W a vs) (l : Later F H m W H' m' W') : SqT F.K H' a vs := by
  rcases t with ⟨h | ⟨o, h⟩, n⟩ | h
  · exact .inl (.inl (l.keep _ _ h n).tup)
  · exact .inl (.inr ⟨o, (l.keep _ _ h n).frz⟩)
  · exact .inr h
theorem ScrAt.later {F : Fix} {H H' : Hp} {m m' : List Addr} {W W' : Addr → Prop} {a : Addr} {vs : List V} (t : ScrAt F.K H W a vs) (l : Later F H m W H' m' W') : SqL F.K H' a vs := by
  rcases t with ⟨h | ⟨o, h⟩, n⟩ | h
  · exact .inl (.inl (l.keep _ _ h n).lst)
  · exact .inl (.inr ⟨o, (l.keep _ _ h n).frz⟩)
  · exact .inr h
theorem iter_tup {F : Fix} {H : Hp} {m : List Addr} {W : Addr → Prop} {xs : List D} {a : Addr} (r : RV F H m W (.tup xs) (.ref a)) : IterOk F H m W xs (Itt F.K a) := by
  obtain ⟨b, vs, e, h1, l⟩ := id r.tupL
  cases e
  refine ⟨fun H => SqT F.K H a vs, YAt vs, by rw [← l.1]; exact walk_tup, fun H' m' W' lt => ⟨h1.later lt, fun i x H2 hi y => ?_⟩⟩
  obtain ⟨rfl, e⟩ := y
  obtain ⟨d, ed⟩ : ∃ d, xs[i]? = some d := ⟨xs[i], List.getElem?_eq_getElem hi⟩
  exact ⟨d, ed, .inl rfl, (l.2 i d x ed e).later lt⟩
theorem iter_scr {F : Fix} {H : Hp} {m : List Addr} {W : Addr → Prop} {ns : List Int} {a : Addr} (r : RV F H m W (.scr ns) (.ref a)) : IterOk F H m W (ns.map .int) (Itl F.K a) := by
  obtain ⟨b, e, h1⟩ := id r.scrL
  cases e
  refine ⟨fun H => SqL F.K H a (ns.map V.int), YAt (ns.map V.int), by rw [show (ns.map D.int).length = (ns.map V.int).length by simp]; exact walk_list, fun H' m' W' lt => ⟨h1.later lt, fun i x H2 hi y => ?_⟩⟩
  obtain ⟨rfl, e⟩ := y
  rw [List.getElem?_map, Option.map_eq_some_iff] at e
  obtain ⟨n, e1, rfl⟩ := e
  exact ⟨.int n, by rw [List.getElem?_map, e1]; rfl, .inl rfl, .int n⟩
theorem rngL_len {lo : Int} {n : Nat} : (rngL lo n).length = n := by simp [rngL]
theorem rngL_get {lo : Int} {n i : Nat} (h : i < n) : (rngL lo n)[i]? = some (.int (lo + (i : Nat))) := by
  simp [rngL, h]
theorem iter_rng {F : Fix} {H : Hp} {m : List Addr} {W : Addr → Prop} {lo : Int} {n : Nat} : IterOk F H m W (rngL lo n) (Itr lo n) := by
  refine ⟨fun _ => True, YFn fun i => .int (lo + i), by rw [rngL_len]; exact walk_range, fun H' m' W' lt => ⟨trivial, fun i x H2 hi y => ?_⟩⟩
  rw [rngL_len] at hi
  obtain ⟨rfl, rfl⟩ := y
  exact ⟨_, rngL_get hi, .inl rfl, .int _⟩
/-- a new pair -/
theorem pair_rv {F : Fix} {H : Hp} {m : List Addr} {W : Addr → Prop} {d e : D} {x y : V} {T : Addr} (hT : H T = none) (hw : ∀ a, W a → ∃ u, H a = some u) (r1 : RV F H m W d x) (r2 : RV F H m W e y) : RV F (upd H T (.tup [x, y])) m W (.tup [d, e]) (.ref T) := by
  have nw : ¬ W T := fun w => by
    obtain ⟨u, q⟩ := hw T w
    rw [hT] at q; cases q
  have k : ∀ a u, H a = some u → ¬ W a → InsExt F.isM u ((upd H T (.tup [x, y])) a) := fun a u q _ => .inl (by rw [upd_ne (ne_of_none q hT)]; exact q)
  have l : RVL F (upd H T (.tup [x, y])) m W [d, e] [x, y] := .cons (r1.mono k (fun _ _ q => q) fun _ q => .inl q) (.cons (r2.mono k (fun _ _ q => q) fun _ q => .inl q) .nil)
  exact .tup (.inl ⟨.inl upd_same, nw⟩) l.1 l.2
theorem iter_enum {F : Fix} {H : Hp} {m : List Addr} {W : Addr → Prop} {xs : List D} {a : Addr} (r : RV F H m W (.lst xs) (.ref a)) : IterOk F H m W (xs.mapIdx fun i x => .tup [.int i, x]) (Ite F.K a) := by
  obtain ⟨b, vs, e, h1, h2, l⟩ := id r.lstL
  cases e
  refine ⟨fun H => SqL F.K H a vs, YPair (fun i => some (.int (i : Nat))) (fun i => vs[i]?), by rw [List.length_mapIdx, ← l.1]; exact walk_enum, fun H' m' W' lt => ⟨SqL.of (lt.keep _ _ h1 h2).lst, fun i x H2 hi y => ?_⟩⟩
  rw [List.length_mapIdx] at hi
  obtain ⟨T, x1, x2, rfl, hT, rfl, e1, e2⟩ := y
  cases e1
  obtain ⟨d, ed⟩ : ∃ d, xs[i]? = some d := ⟨xs[i], List.getElem?_eq_getElem hi⟩
  exact ⟨.tup [.int i, d], by rw [List.getElem?_mapIdx, ed]; rfl, .inr ⟨T, _, hT, rfl⟩, pair_rv hT lt.there (.int _) ((l.2 i d x2 ed e2).later lt)⟩
theorem zip_get {α β γ : Type} {f : α → β → γ} {xs : List α} {ys : List β} {i : Nat} (h : i < (List.zipWith f xs ys).length) : ∃ x y, xs[i]? = some x ∧ ys[i]? = some y ∧ (List.zipWith f xs ys)[i]? = some (f x y) := by
  rw [List.length_zipWith] at h
  have h1 : i < xs.length := by omega
  have h2 : i < ys.length := by omega
  refine ⟨xs[i], ys[i], List.getElem?_eq_getElem h1, List.getElem?_eq_getElem h2, ?_⟩
  rw [List.getElem?_zipWith, List.getElem?_eq_getElem h1, List.getElem?_eq_getElem h2]
theorem iter_zip {F : Fix} {H : Hp} {m : List Addr} {W : Addr → Prop} {xs ys : List D} {a b : Addr} (r : RV F H m W (.lst xs) (.ref a)) (r2 : RV F H m W (.lst ys) (.ref b)) : IterOk F H m W (List.zipWith (fun x y => .tup [x, y]) xs ys) (Itz F.K a b) := by
  obtain ⟨_, vs, e, h1, h2, l⟩ := id r.lstL
  cases e
  obtain ⟨_, ws, e, h3, h4, l2⟩ := id r2.lstL
  cases e
  refine ⟨_, _, walk_zip (xs := vs) (ys := ws) (n := (List.zipWith (fun x y => D.tup [x, y]) xs ys).length) (by rw [List.length_zipWith, l.1, l2.1]), fun H' m' W' lt => ⟨⟨SqL.of (lt.keep _ _ h1 h2).lst, SqL.of (lt.keep _ _ h3 h4).lst⟩, fun i x H2 hi y => ?_⟩⟩
  obtain ⟨T, x1, x2, rfl, hT, rfl, e1, e2⟩ := y
  obtain ⟨d1, d2, f1, f2, f3⟩ := zip_get hi
  exact ⟨_, f3, .inr ⟨T, _, hT, rfl⟩, pair_rv hT lt.there ((l.2 i d1 x1 f1 e1).later lt) ((l2.2 i d2 x2 f2 e2).later lt)⟩
theorem walk_zipT {K : PySem.W.Frag} {a b : Addr} {xs ys : List V} {n : Nat} (hn : n = min xs.length ys.length) : Walk (RZ.ItzT K a b) n (fun H => SqT K H a xs ∧ SqT K H b ys) (YPair (fun i => xs[i]?) (fun i => ys[i]?)) := by
  subst hn
  refine ⟨fun i _ hi q => ?_, fun _ q => ⟨xs, ys, q.1, q.2, by omega⟩, fun i H v H' _ q y => ?_⟩
  · have h1 : i < xs.length := by omega
    have h2 : i < ys.length := by omega
    exact ⟨xs, ys, xs[i], ys[i], q.1, q.2, by simp [h1], by simp [h2]⟩
  · obtain ⟨T, x, y, e1, e2, e3, e4, e5⟩ := y
    exact ⟨T, x, y, e1, e2, e3, e4 xs q.1, e5 ys q.2⟩
theorem iter_zipT {F : Fix} {H : Hp} {m : List Addr} {W : Addr → Prop} {xs ys : List D} {a b : Addr} (r : RV F H m W (.tup xs) (.ref a)) (r2 : RV F H m W (.tup ys) (.ref b)) : IterOk F H m W (List.zipWith (fun x y => .tup [x, y]) xs ys) (RZ.ItzT F.K a b) := by
  obtain ⟨_, vs, e, h1, l⟩ := id r.tupL
  cases e
  obtain ⟨_, ws, e, h3, l2⟩ := id r2.tupL
  cases e
  refine ⟨_, _, walk_zipT (xs := vs) (ys := ws) (n := (List.zipWith (fun x y => D.tup [x, y]) xs ys).length) (by rw [List.length_zipWith, l.1, l2.1]), fun H' m' W' lt => ⟨⟨h1.later lt, h3.later lt⟩, fun i x H2 hi y => ?_⟩⟩
  obtain ⟨T, x1, x2, rfl, hT, rfl, e1, e2⟩ := y
  obtain ⟨d1, d2, f1, f2, f3⟩ := zip_get hi
  exact ⟨_, f3, .inr ⟨T, _, hT, rfl⟩, pair_rv hT lt.there ((l.2 i d1 x1 f1 e1).later lt) ((l2.2 i d2 x2 f2 e2).later lt)⟩
/-- what a loop walks, as the interpreter has it -/
def KIt (A : Amb) (E : XK) (k : IK) (σD : En) (m : List Addr) (o : Nat → Option Addr) (σ : L2.St) (H : Hp) (R : It → Hp → Prop) : Res (List D) → Prop
  | .ok vs h1 => match itD k vs h1 with
    | some xs => ∀ m' H' J, Step m none_ H m' H' → Sim A σD h1 m' o σ H' → IterOk A.F H' m' (Wr m' A.U o) xs J → R J H'
    | none => False
  | .ex c fs h' => ∀ m' H' cv dv, Step m none_ H m' H' → Sim A σD h' m' o σ H' → ExcOk A.F H' m' (Wr m' A.U o) c fs cv dv → E cv dv H'
  | .bad => False
def tI (A : Amb) (E : XK) (k : IK) (f : En → AH → Res (List D)) : TI := fun σ H R => ∃ σD h m o, Sim A σD h m o σ H ∧ KIt A E k σD m o σ H R (f σD h)
section
variable {A : Amb} {X : Cx} {E : XK} {tg x y z : Expr} {g : En → AH → Res D} {f : En → AH → Res (List D)}
theorem KIt.ok {k : IK} {σD : En} {m : List Addr} {o : Nat → Option Addr} {σ : L2.St} {H : Hp} {R : It → Hp → Prop} {vs : List D} {h1 : AH} (q : KIt A E k σD m o σ H R (.ok vs h1)) :
    ∃ xs, itD k vs h1 = some xs ∧ ∀ m' H' J, Step m none_ H m' H' → Sim A σD h1 m' o σ H' → IterOk A.F H' m' (Wr m' A.U o) xs J → R J H' := by
  unfold KIt at q
  split at q
  · rename_i vs' h' e
    cases e
    split at q
    · rename_i xs e2
      exact ⟨xs, e2, q⟩
    · exact q.elim
  · rename_i e; cases e
  · rename_i e; cases e
theorem pi_val (hK : A.F.K = X.K) (ha : PE X x (tD A E false g)) : PI X tg x (tI A E .val fun σ h => (g σ h).bind fun v h => .ok [v] h) := by
  refine ⟨fun pins s σ H R I hR => ?_⟩
  obtain ⟨σD, h, m, o, S, q⟩ := hR
  change KIt A E .val σD m o σ H R ((g σD h).bind fun v h => .ok [v] h) at q
  cases e : g σD h with
  | bad => rw [e] at q; exact q.elim
  | ex c fs h' =>
    rw [e] at q
    exact (pi_list ha).run pins s σ H R I ⟨σD, h, m, o, S, by rw [e]; exact q⟩
  | ok d h1 =>
    rw [e] at q
    obtain ⟨xs, e2, q⟩ := q.ok
    cases d with
    | lst ys =>
      refine (pi_list ha).run pins s σ H R I ⟨σD, h, m, o, S, by
        rw [e]
        intro m' H' v st S' r _
        obtain ⟨a, vs, rfl, h1, h2, l⟩ := id r.lstL
        refine ⟨a, rfl, ⟨vs, SqL.of h1⟩, ?_⟩
        cases e2
        rw [← hK]
        exact q m' H' _ st S' (iter_list r)⟩
    | tup ys =>
      refine (pi_tup ha).run pins s σ H R I ⟨σD, h, m, o, S, by
        rw [e]
        intro m' H' v st S' r _
        obtain ⟨a, vs, rfl, h1, l⟩ := id r.tupL
        refine ⟨a, rfl, ⟨vs, hK ▸ h1.sq⟩, ?_⟩
        cases e2
        rw [← hK]
        exact q m' H' _ st S' (iter_tup r)⟩
    | scr ns =>
      refine (pi_list ha).run pins s σ H R I ⟨σD, h, m, o, S, by
        rw [e]
        intro m' H' v st S' r _
        obtain ⟨a, rfl, h1⟩ := id r.scrL
        refine ⟨a, rfl, ⟨_, hK ▸ h1.sq⟩, ?_⟩
        cases e2
        rw [← hK]
        exact q m' H' _ st S' (iter_scr r)⟩
    | _ => cases e2
theorem pi_of {k : IK} {ta : TA} {wi : TI} (ha : PA X [y] (tL A E f) → PI X tg x wi) (hb : PA X [y] (tL A E f)) (himp : ∀ σ H R, tI A E k f σ H R → wi σ H R) : PI X tg x (tI A E k f) :=
  ⟨fun pins s σ H R I hR => (ha hb).run pins s σ H R I (himp σ H R hR)⟩
/-- from what is walked to the arguments -/
theorem tI_L {k : IK} {σ : L2.St} {H : Hp} {R : It → Hp → Prop} {P : List V → Hp → Prop} (hR : tI A E k f σ H R)
    (hop : ∀ σD h m o vs h1 xs, Sim A σD h m o σ H → f σD h = .ok vs h1 → itD k vs h1 = some xs → (∀ m' H' J, Step m none_ H m' H' → Sim A σD h1 m' o σ H' → IterOk A.F H' m' (Wr m' A.U o) xs J → R J H') →
      ∀ m' H' us, Step m none_ H m' H' → Sim A σD h1 m' o σ H' → RVL A.F H' m' (Wr m' A.U o) vs us → P us H') : tL A E f σ H P := by
  obtain ⟨σD, h, m, o, S, q⟩ := hR
  refine ⟨σD, h, m, o, S, ?_⟩
  cases e : f σD h with
  | bad => rw [e] at q; exact q
  | ex c fs h' => rw [e] at q; exact q
  | ok vs h1 =>
    rw [e] at q
    obtain ⟨xs, e2, q⟩ := q.ok
    exact hop σD h m o vs h1 xs S e e2 q
theorem okR_ok {i : Int} (h : okR i = true) : -(2 ^ 62) ≤ i ∧ i < 2 ^ 62 := of_decide_eq_true h
theorem it_rng1 {vs : List D} {h : AH} {xs : List D} (e : itD .rng1 vs h = some xs) : ∃ j, vs = [.int j] ∧ okR j = true ∧ xs = rngL 0 j.toNat := by
  unfold itD at e
  split at e
  all_goals first
    | (rename_i hk _; cases hk; done)
    | (rename_i hk; cases hk; done)
    | (rename_i j _ ; split at e
       · rename_i hj
         cases e
         exact ⟨_, rfl, hj, rfl⟩
       · cases e)
    | (split at e
       · rename_i hj
         cases e
         exact ⟨_, rfl, hj, rfl⟩
       · cases e)
    | cases e
theorem it_rng2 {vs : List D} {h : AH} {xs : List D} (e : itD .rng2 vs h = some xs) : ∃ i j, vs = [.int i, .int j] ∧ okR i = true ∧ okR j = true ∧ xs = rngL i (j - i).toNat := by
  unfold itD at e
  split at e
  all_goals first
    | (rename_i hk _; cases hk; done)
    | (rename_i hk; cases hk; done)
    | (split at e
       · rename_i hj
         rw [Bool.and_eq_true] at hj
         cases e
         exact ⟨_, _, rfl, hj.1, hj.2, rfl⟩
       · cases e)
    | cases e
theorem it_enum {vs : List D} {h : AH} {xs : List D} (e : itD .enum vs h = some xs) : ∃ ys, vs = [.lst ys] ∧ xs = ys.mapIdx fun i x => .tup [.int i, x] := by
  unfold itD at e
  split at e
  all_goals first
    | (cases e; exact ⟨_, rfl, rfl⟩)
    | (rename_i hk _; cases hk; done)
    | (rename_i hk; cases hk; done)
    | cases e
theorem pi_rng1 {p pos : Pos} (hg : Gl X "range") (hm : X.mg "range" = none) (ha : PA X [y] (tL A E f)) (hs : noStar y = true) : PI X tg (.Call (.Name "range" p) [y] [] pos) (tI A E .rng1 f) := by
  refine ⟨fun pins s σ H R I hR => (pi_range1 hg hm ha (star1 hs)).run pins s σ H R I (tI_L hR fun σD h m o vs h1 xs S e e2 q m' H' us st S' r => ?_)⟩
  obtain ⟨j, rfl, hj, rfl⟩ := it_rng1 e2
  obtain ⟨v, rfl, r1⟩ := r.one
  cases r1
  exact ⟨j, rfl, (okR_ok hj).1, (okR_ok hj).2, q m' H' _ st S' iter_rng⟩
theorem pi_rng2 {p pos : Pos} (hg : Gl X "range") (hm : X.mg "range" = none) (ha : PA X [y, z] (tL A E f)) (hs : noStar y = true) (hs2 : noStar z = true) : PI X tg (.Call (.Name "range" p) [y, z] [] pos) (tI A E .rng2 f) := by
  refine ⟨fun pins s σ H R I hR => (pi_range2 hg hm ha (by rw [star1 hs, star1 hs2]; rfl) (star1 hs2)).run pins s σ H R I (tI_L hR fun σD h m o vs h1 xs S e e2 q m' H' us st S' r => ?_)⟩
  obtain ⟨i, j, rfl, hi, hj, rfl⟩ := it_rng2 e2
  obtain ⟨v, w, rfl, r1, r2⟩ := r.two
  cases r1; cases r2
  exact ⟨i, j, rfl, ⟨(okR_ok hi).1, (okR_ok hi).2, (okR_ok hj).1, (okR_ok hj).2⟩, q m' H' _ st S' iter_rng⟩
theorem pi_enumL {p pos tpos : Pos} {elts : List Expr} {kk : Nat} (hK : A.F.K = X.K) (hg : Gl X "enumerate") (hm : X.mg "enumerate" = none) (ha : PA X [y] (tL A E f)) (hs : noStar y = true) : PI X (.Tuple elts kk tpos) (.Call (.Name "enumerate" p) [y] [] pos) (tI A E .enum f) := by
  refine ⟨fun pins s σ H R I hR => (pi_enum hg hm ha (star1 hs)).run pins s σ H R I (tI_L hR fun σD h m o vs h1 xs S e e2 q m' H' us st S' r => ?_)⟩
  obtain ⟨ys, rfl, rfl⟩ := it_enum e2
  obtain ⟨v, rfl, r1⟩ := r.one
  obtain ⟨a, ws, rfl, k1, k2, l⟩ := id r1.lstL
  exact ⟨a, ws, rfl, SqL.of k1, by rw [← hK]; exact q m' H' _ st S' (iter_enum r1)⟩
theorem it_zip {vs : List D} {h : AH} {xs : List D} (e : itD .zip vs h = some xs) : (∃ ys zs, vs = [.lst ys, .lst zs] ∧ xs = List.zipWith (fun x y => .tup [x, y]) ys zs) ∨ ∃ ys zs, vs = [.tup ys, .tup zs] ∧ xs = List.zipWith (fun x y => .tup [x, y]) ys zs := by
  unfold itD at e
  split at e
  all_goals first
    | (cases e; exact .inl ⟨_, _, rfl, rfl⟩)
    | (cases e; exact .inr ⟨_, _, rfl, rfl⟩)
    | (rename_i hk _; cases hk; done)
    | (rename_i hk; cases hk; done)
    | cases e
theorem pi_zipL {p pos tpos : Pos} {elts : List Expr} {kk : Nat} (hK : A.F.K = X.K) (hg : Gl X "zip") (hm : X.mg "zip" = none) (ha : PA X [y, z] (tL A E f)) (hs : noStar y = true) (hs2 : noStar z = true) : PI X (.Tuple elts kk tpos) (.Call (.Name "zip" p) [y, z] [] pos) (tI A E .zip f) := by
  refine ⟨fun pins s σ H R I hR => (RZ.pi_zipA hg hm ha (by rw [star1 hs, star1 hs2]) (by rw [star1 hs2]; rfl)).run pins s σ H R I (tI_L hR fun σD h m o vs h1 xs S e e2 q m' H' us st S' r => ?_)⟩
  rcases it_zip e2 with ⟨ys, zs, rfl, rfl⟩ | ⟨ys, zs, rfl, rfl⟩
  · obtain ⟨v, w, rfl, r1, r2⟩ := r.two
    obtain ⟨a, vs, rfl, k1, k2, l⟩ := id r1.lstL
    obtain ⟨b, ws, rfl, k3, k4, l2⟩ := id r2.lstL
    exact ⟨a, b, vs, ws, rfl, .inl ⟨SqL.of k1, SqL.of k3, by rw [← hK]; exact q m' H' _ st S' (iter_zip r1 r2)⟩⟩
  · obtain ⟨v, w, rfl, r1, r2⟩ := r.two
    obtain ⟨a, vs, rfl, k1, l⟩ := id r1.tupL
    obtain ⟨b, ws, rfl, k3, l2⟩ := id r2.tupL
    exact ⟨a, b, vs, ws, rfl, .inr ⟨hK ▸ k1.sq, hK ▸ k3.sq, by rw [← hK]; exact q m' H' _ st S' (iter_zipT r1 r2)⟩⟩
end
def Tg.len : Tg → Nat
  | .cons _ r => r.len + 1
  | _ => 0
mutual
def gOf (K : PySem.W.Frag) : Tg → TG
  | .nm i => gName i
  | .tp l => gTup K l.len (gsOf K l)
  | _ => fun _ _ _ _ => False
termination_by structural t => t
def gsOf (K : PySem.W.Frag) : Tg → TGs
  | .nil => gNil
  | .cons a r => gCons (gOf K a) (gsOf K r)
  | _ => fun _ _ _ _ => False
termination_by structural t => t
end
end VI
namespace VI
open PySem PySem.Spec PyProof.Rows L2
theorem fgtL_len : ∀ (is : List Nat) (σ : En), (fgtL σ is).length = σ.length
  | [], _ => rfl
  | i :: r, σ => by rw [fgtL, fgtL_len r, List.length_set]
theorem fgtL_get : ∀ (is : List Nat) {σ : En} {j : Nat} {s : Sl}, (fgtL σ is)[j]? = some s → s = .no ∨ (j ∉ is ∧ σ[j]? = some s)
  | [], σ, j, s, h => .inr ⟨by simp, h⟩
  | i :: r, σ, j, s, h => by
    rw [fgtL] at h
    rcases fgtL_get r h with e | ⟨n, e⟩
    · exact .inl e
    · by_cases q : i = j
      · subst q
        rw [List.getElem?_set] at e
        rw [if_pos rfl] at e
        split at e
        · cases e; exact .inl rfl
        · cases e
      · rw [List.getElem?_set_ne q] at e
        exact .inr ⟨by simp only [List.mem_cons, not_or]; exact ⟨fun z => q z.symm, n⟩, e⟩
theorem wipe_out {σ : L2.St} : ∀ {vs : List Nat} {i : Nat}, i ∉ vs → (wipe σ vs)[i]? = σ[i]?
  | [], _, _ => rfl
  | v :: vs, i, h => by
    simp only [List.mem_cons, not_or] at h
    unfold wipe
    rw [List.getElem?_set_ne (fun e => h.1 e.symm)]
    exact wipe_out h.2
theorem wipe_in {σ : L2.St} : ∀ {vs : List Nat} {i : Nat}, i ∈ vs → i < σ.length → (wipe σ vs)[i]? = some none
  | [], i, h, _ => by simp at h
  | v :: vs, i, h, hl => by
    unfold wipe
    by_cases q : v = i
    · subst q
      rw [List.getElem?_set_self (by rw [wipe_length]; exact hl)]
    · rw [List.getElem?_set_ne q]
      exact wipe_in (by
        rcases List.mem_cons.mp h with e | e
        · exact absurd e.symm q
        · exact e) hl
theorem wipe_eq {σ σ' : L2.St} {vs : List Nat} (hl : σ'.length = σ.length) (h : ∀ j, j ∉ vs → σ'[j]? = σ[j]?) : wipe σ' vs = wipe σ vs := by
  apply List.ext_getElem?
  intro j
  by_cases q : j ∈ vs
  · by_cases z : j < σ.length
    · rw [wipe_in q z, wipe_in q (by omega)]
    · rw [List.getElem?_eq_none (by rw [wipe_length]; omega), List.getElem?_eq_none (by rw [wipe_length]; omega)]
  · rw [wipe_out q, wipe_out q, h j q]
section
variable {A : Amb} {σD σD' : En} {h h' : AH} {m m' : List Addr} {o : Nat → Option Addr} {σ : L2.St} {H H' : Hp}
/-- other slots, nothing else -/
theorem Sim.slots (S : Sim A σD h m o σ H) {σ' : L2.St} (hl : σD'.length = σ'.length) (hs : ∀ (i : Nat) s, σD'[i]? = some s → SlotOk A H m o σ' i s) (ho : ∀ (i j : Nat) c fs c' fs', σD'[i]? = some (.oi c fs) → σD'[j]? = some (.oi c' fs') → i = j) : Sim A σD' h m o σ' H :=
  ⟨S.step, S.cells, hl, hs, S.oinj, S.ofr, S.u0, ho, S.ou⟩
theorem SlotOk.at {σ' : L2.St} {i : Nat} {s : Sl} (e : σ'[i]? = σ[i]?) (k : SlotOk A H m o σ i s) : SlotOk A H m o σ' i s := by
  cases s with
  | no => trivial
  | v d => obtain ⟨v, e1, r⟩ := k; exact ⟨v, by rw [e]; exact e1, r⟩
  | ol xs => obtain ⟨a, vs, e1, e2, r⟩ := k; exact ⟨a, vs, e1, by rw [e]; exact e2, r⟩
  | od xs => obtain ⟨a, vs, e1, e2, r⟩ := k; exact ⟨a, vs, e1, by rw [e]; exact e2, r⟩
  | oi c fs => obtain ⟨a, dx, fv, e0, e1, r⟩ := k; exact ⟨a, dx, fv, e0, by rw [e]; exact e1, r⟩
theorem Sim.wipe (S : Sim A σD h m o σ H) (is : List Nat) : Sim A (fgtL σD is) h m o (L2.wipe σ is) H := by
  refine S.slots (by rw [fgtL_len, wipe_length]; exact S.slen) (fun i s e => ?_) (fun i j c fs c' fs' e1 e2 => ?_)
  · rcases fgtL_get is e with rfl | ⟨n, e⟩
    · trivial
    · exact (S.slot i s e).at (wipe_out n)
  · rcases fgtL_get is e1 with q | ⟨n, e1⟩
    · cases q
    · rcases fgtL_get is e2 with q | ⟨n, e2⟩
      · cases q
      · exact S.oiu i j c fs c' fs' e1 e2
theorem Sim.fgt (S : Sim A σD h m o σ H) (is : List Nat) : Sim A (fgtL σD is) h m o σ H := by
  refine S.slots (by rw [fgtL_len]; exact S.slen) (fun i s e => ?_) (fun i j c fs c' fs' e1 e2 => ?_)
  · rcases fgtL_get is e with rfl | ⟨n, e⟩
    · trivial
    · exact S.slot i s e
  · rcases fgtL_get is e1 with q | ⟨n, e1⟩
    · cases q
    · rcases fgtL_get is e2 with q | ⟨n, e2⟩
      · cases q
      · exact S.oiu i j c fs c' fs' e1 e2
theorem setV_inv {i : Nat} {d : D} (e : setV σD i d = some σD') : i < σD.length ∧ σD' = σD.set i (.v d) := by
  unfold setV at e
  split at e
  · rename_i q
    cases e
    exact ⟨(List.getElem?_eq_some_iff.mp q).1, rfl⟩
  · rename_i q
    cases e
    exact ⟨(List.getElem?_eq_some_iff.mp q).1, rfl⟩
  · cases e
/-- a slot's new value -/
theorem Sim.setv (S : Sim A σD h m o σ H) {i : Nat} {d : D} {v : V} (hi : i < σD.length) (r : RV A.F H m (Wr m A.U o) d v) : Sim A (σD.set i (.v d)) h m o (σ.set i (some v)) H := by
  refine S.slots (by rw [List.length_set, List.length_set]; exact S.slen) (fun j s e => ?_) (fun j k c fs c' fs' e1 e2 => ?_)
  · by_cases q : i = j
    · subst q
      rw [List.getElem?_set_self hi] at e
      cases e
      exact ⟨v, List.getElem?_set_self (by rw [← S.slen]; exact hi), r⟩
    · rw [List.getElem?_set_ne q] at e
      exact (S.slot j s e).at (List.getElem?_set_ne q)
  · have n : ∀ {l : Nat} {c : String} {fs : List (String × D)}, (σD.set i (.v d))[l]? = some (Sl.oi c fs) → σD[l]? = some (Sl.oi c fs) := fun {l c fs} e => by
      by_cases q : i = l
      · subst q
        rw [List.getElem?_set_self hi] at e; cases e
      · rw [List.getElem?_set_ne q] at e; exact e
    exact S.oiu j k c fs c' fs' (n e1) (n e2)
end
theorem bindTs_len : ∀ (t : Tg) {ds : List D} {σ σ' : En}, bindTs t ds σ = some σ' → ds.length = t.len
  | .nil, [], _, _, _ => rfl
  | .cons a t, d :: ds, σ, σ', e => by
    have e2 : (match bindT a d σ with | some σ' => bindTs t ds σ' | none => none) = some σ' := e
    split at e2
    · show ds.length + 1 = t.len + 1
      rw [bindTs_len t e2]
    · cases e2
  | .nil, _ :: _, _, _, e => by cases e
  | .cons _ _, [], _, _, e => by cases e
  | .nm _, ds, _, _, e => by cases ds <;> cases e
  | .tp _, ds, _, _, e => by cases ds <;> cases e
mutual
theorem gOf_ok {A : Amb} {h : AH} {m : List Addr} {o : Nat → Option Addr} {H : Hp} : ∀ (t : Tg) {d : D} {v : V} {σD σD' : En} {σ : L2.St} {Q : L2.St → Hp → Prop}, Sim A σD h m o σ H → RV A.F H m (Wr m A.U o) d v → bindT t d σD = some σD' →
    (∀ σ', Sim A σD' h m o σ' H → σ'.length = σ.length → (∀ j, j ∉ t.slots → σ'[j]? = σ[j]?) → Q σ' H) → gOf A.F.K t v σ H Q
  | .nm i, d, v, σD, σD', σ, Q, S, r, e, k => by
    have e' : setV σD i d = some σD' := by cases d <;> exact e
    obtain ⟨hi, rfl⟩ := setV_inv e'
    exact k _ (S.setv hi r) (List.length_set ..) fun j hj => List.getElem?_set_ne (fun q => hj (by simp [Tg.slots, q]))
  | .tp l, .tup xs, v, σD, σD', σ, Q, S, r, e, k => by
    have e' : bindTs l xs σD = some σD' := e
    obtain ⟨a, vs, rfl, t, lv⟩ := id r.tupL
    obtain ⟨hn, q⟩ := gsOf_ok l S lv e' k
    exact ⟨a, vs, rfl, t.sq, by rw [lv.1]; exact hn, q⟩
  | .tp l, .non, _, _, _, _, _, _, _, e, _ => by cases e
  | .tp l, .bl _, _, _, _, _, _, _, _, e, _ => by cases e
  | .tp l, .int _, _, _, _, _, _, _, _, e, _ => by cases e
  | .tp l, .str _, _, _, _, _, _, _, _, e, _ => by cases e
  | .tp l, .lst _, _, _, _, _, _, _, _, e, _ => by cases e
  | .tp l, .scr _, _, _, _, _, _, _, _, e, _ => by cases e
  | .tp l, .dct _, _, _, _, _, _, _, _, e, _ => by cases e
  | .tp l, .obj _ _, _, _, _, _, _, _, _, e, _ => by cases e
  | .tp l, .ref _, _, _, _, _, _, _, _, e, _ => by cases e
  | .nil, d, _, _, _, _, _, _, _, e, _ => by cases d <;> cases e
  | .cons _ _, d, _, _, _, _, _, _, _, e, _ => by cases d <;> cases e
theorem gsOf_ok {A : Amb} {h : AH} {m : List Addr} {o : Nat → Option Addr} {H : Hp} : ∀ (t : Tg) {ds : List D} {vs : List V} {σD σD' : En} {σ : L2.St} {Q : L2.St → Hp → Prop}, Sim A σD h m o σ H → RVL A.F H m (Wr m A.U o) ds vs → bindTs t ds σD = some σD' →
    (∀ σ', Sim A σD' h m o σ' H → σ'.length = σ.length → (∀ j, j ∉ t.slots → σ'[j]? = σ[j]?) → Q σ' H) → ds.length = t.len ∧ gsOf A.F.K t vs σ H Q
  | .nil, [], vs, σD, σD', σ, Q, S, r, e, k => by
    cases e
    exact ⟨rfl, r.nil_inv, k σ S rfl fun _ _ => rfl⟩
  | .cons a t, d :: ds, vs, σD, σD', σ, Q, S, r, e, k => by
    obtain ⟨v, vr, rfl, r1, r2⟩ := r.cons_inv
    have e' : (match bindT a d σD with | some σ' => bindTs t ds σ' | none => none) = some σD' := e
    split at e'
    · rename_i σ1 e1
      have hlen := bindTs_len t e'
      refine ⟨by show ds.length + 1 = t.len + 1; rw [hlen], v, vr, rfl, gOf_ok a S r1 e1 fun σ1' S1 l1 k1 => ?_⟩
      exact (gsOf_ok t S1 r2 e' fun σ2 S2 l2 k2 => k σ2 S2 (by rw [l2, l1]) fun j hj => by
        simp only [Tg.slots, List.mem_append, not_or] at hj
        rw [k2 j hj.2, k1 j hj.1]).2
    · cases e'
  | .nil, _ :: _, _, _, _, _, _, _, _, e, _ => by cases e
  | .cons _ _, [], _, _, _, _, _, _, _, e, _ => by cases e
  | .nm _, [], _, _, _, _, _, _, _, e, _ => by cases e
  | .nm _, _ :: _, _, _, _, _, _, _, _, e, _ => by cases e
  | .tp _, [], _, _, _, _, _, _, _, e, _ => by cases e
  | .tp _, _ :: _, _, _, _, _, _, _, _, e, _ => by cases e
end
theorem mtT_each {N : List Str} {tb : Str → Bool} {a : Tg} {x : Expr} (h : mtT N tb a x = true) (xs : List Expr) (env : PySem.Env) : assignEach (x :: xs) env = (false, assign x env) :: assignEach xs env := by
  cases x <;> first | rfl | (cases a <;> simp [mtT] at h)
theorem mtTs_each {N : List Str} {tb : Str → Bool} {env : PySem.Env} : ∀ (a : Tg) {xs : List Expr}, mtTs N tb a xs = true → (assignEach xs env).length = a.len ∧ (assignEach xs env).findIdx? (·.1) = none
  | .nil, [], _ => ⟨rfl, rfl⟩
  | .cons a r, x :: xs, h => by
    simp only [mtTs, Bool.and_eq_true] at h
    obtain ⟨h1, h2⟩ := mtTs_each (env := env) r h.2
    rw [mtT_each h.1]
    refine ⟨by rw [List.length_cons, h1]; rfl, ?_⟩
    rw [List.findIdx?_cons]
    simp [h2]
  | .nil, _ :: _, h => by simp [mtTs] at h
  | .cons _ _, [], h => by simp [mtTs] at h
  | .nm _, xs, h => by simp [mtTs] at h
  | .tp _, xs, h => by simp [mtTs] at h
mutual
theorem pg_of {X : Cx} {tb : Str → Bool} (hc : X.calm = true) (hN : X.N.Nodup) (ht : ∀ x, tb x = true → Loc X.env.scope x ∧ (X.fn x = true ∨ X.env.scope.names.lookup x = some .local)) : ∀ (t : Tg) {x : Expr}, mtT X.N tb t x = true → PG X x (gOf X.K t)
  | .nm i, x, h => by
    cases x <;> simp only [mtT, Bool.and_eq_true, decide_eq_true_eq, Bool.false_eq_true] at h
    exact pg_name hN h.1 (ht _ h.2).1 (ht _ h.2).2
  | .tp l, x, h => by
    cases x <;> simp only [mtT, Bool.false_eq_true] at h
    obtain ⟨h1, h2⟩ := mtTs_each (env := X.env) l h
    exact pg_tup hc (pgs_of hc hN ht l h) h1 h2
  | .nil, x, h => by simp [mtT] at h
  | .cons _ _, x, h => by simp [mtT] at h
theorem pgs_of {X : Cx} {tb : Str → Bool} (hc : X.calm = true) (hN : X.N.Nodup) (ht : ∀ x, tb x = true → Loc X.env.scope x ∧ (X.fn x = true ∨ X.env.scope.names.lookup x = some .local)) : ∀ (t : Tg) {xs : List Expr}, mtTs X.N tb t xs = true → PGs X xs (gsOf X.K t)
  | .nil, [], _ => pgs_nil
  | .cons a r, x :: xs, h => by
    simp only [mtTs, Bool.and_eq_true] at h
    exact pgs_cons (pg_of hc hN ht a h.1) (pgs_of hc hN ht r h.2) (by rw [mtT_each h.1]; rfl)
  | .nil, _ :: _, h => by simp [mtTs] at h
  | .cons _ _, [], h => by simp [mtTs] at h
  | .nm _, xs, h => by simp [mtTs] at h
  | .tp _, xs, h => by simp [mtTs] at h
end
end VI
namespace VI
open PySem PySem.Spec PyProof.Rows L2
section
variable {A : Amb} {σD σD' : En} {h h' : AH} {m m' : List Addr} {o : Nat → Option Addr} {σ : L2.St} {H H' : Hp}
/-- behind a step, with other things forbidden -/
theorem Sim.goU (S : Sim A σD h m o σ H) (s : Step m none_ H m' H') {U' : Addr → Prop} (hU : ∀ a, U' a → A.U a ∨ H a = none) (hu0 : ∀ a, U' a → a ∉ m' ∧ ∃ u, H' a = some u) (c : Cells A.F H' m' (Wr m' U' o) h') : Sim { A with U := U' } σD h' m' o σ H' := by
  have hw : ∀ a, Wr m' U' o a → Wr m A.U o a ∨ H a = none := fun a w => by
    rcases w with q | q | q
    · rcases s.new a q with q | q
      · exact .inl (.inl q)
      · exact .inr q
    · rcases hU a q with q | q
      · exact .inl (.inr (.inl q))
      · exact .inr q
    · exact .inl (.inr (.inr q))
  have nm : ∀ i a, o i = some a → a ∉ m := fun i a e => (S.ofr i a e).2.2
  have nm' : ∀ i a, o i = some a → a ∉ m' := fun i a e q => by
    rcases s.new a q with q | q
    · exact nm i a e q
    · obtain ⟨_, ⟨u, e1⟩, _⟩ := S.ofr i a e
      rw [e1] at q; cases q
  refine ⟨S.step.trans (s.weak fun _ z => z.elim), c, S.slen, fun i sl e => ?_, S.oinj, fun i a e => ?_, hu0, S.oiu, fun i a e u => ?_⟩
  · have q := S.slot i sl e
    cases sl with
    | no => exact True.intro
    | v d =>
      obtain ⟨v, e1, r⟩ := q
      exact ⟨v, e1, r.step s hw⟩
    | ol xs =>
      obtain ⟨a, vs, e1, e2, e3, r⟩ := q
      exact ⟨a, vs, e1, e2, s.keep a _ e3 (nm i a e1) id, r.1, fun j d v a b => (r.2 j d v a b).step s hw⟩
    | od kvs =>
      obtain ⟨a, kv, e1, e2, e3, e4, r⟩ := q
      exact ⟨a, kv, e1, e2, s.keep a _ e3 (nm i a e1) id, e4, fun j p q a b => (r j p q a b).step s hw⟩
    | oi c fs =>
      obtain ⟨a, dx, fv, e0, e1, e2, e3, e4, e5, r⟩ := q
      refine ⟨a, dx, fv, e0, e1, s.keep a _ e2 (fun q => e3 (.inl q)) id, fun w => ?_, e4, e5, fun j p q a b => (r j p q a b).step s hw⟩
      rcases hw a w with w | w
      · exact e3 w
      · rw [e2] at w; cases w
  · obtain ⟨e1, ⟨u, e2⟩, e3⟩ := S.ofr i a e
    obtain ⟨u', e4⟩ := s.dom a u e2
    exact ⟨e1, ⟨u', e4⟩, nm' i a e⟩
  · rcases hU a u with q | q
    · exact S.ou i a e q
    · obtain ⟨_, ⟨u, e2⟩, _⟩ := S.ofr i a e
      rw [q] at e2; cases e2
/-- a step that lays something new and changes it later -/
theorem Step.off {p : Addr} {H1 : Hp} {Z : Addr → Prop} (s : Step m Z H m' H') (hp : H p = none) (he : ∀ a, a ≠ p → H1 a = H' a) : Step m Z H m' H1 :=
  ⟨fun a u e n z => by rw [he a (ne_of_none e hp)]; exact s.keep a u e n z, s.cells, s.new, fun a u e => by rw [he a (ne_of_none e hp)]; exact s.dom a u e⟩
theorem RV.off {F : Fix} {W W' : Addr → Prop} {p : Addr} {H1 : Hp} {d : D} {v : V} (r : RV F H m W d v) (hp : W p) (he : ∀ a, a ≠ p → H1 a = H a) (hw : ∀ a, W' a → W a) : RV F H1 m W' d v :=
  r.mono (fun a u e n => .inl (by rw [he a (fun q => n (q ▸ hp))]; exact e)) (fun _ _ e => e) fun a q => .inl (hw a q)
theorem RVL.off {F : Fix} {W W' : Addr → Prop} {p : Addr} {H1 : Hp} {d : List D} {v : List V} (r : RVL F H m W d v) (hp : W p) (he : ∀ a, a ≠ p → H1 a = H a) (hw : ∀ a, W' a → W a) : RVL F H1 m W' d v := ⟨r.1, fun i d v a b => (r.2 i d v a b).off hp he hw⟩
theorem Cells.off {F : Fix} {W W' : Addr → Prop} {p : Addr} {H1 : Hp} (c : Cells F H m W h) (hp : W p) (hm : p ∉ m) (hl : ∀ b, H p ≠ some (.own b)) (he : ∀ a, a ≠ p → H1 a = H a) (hw : ∀ a, W' a → W a) : Cells F H1 m W' h := ⟨c.len, c.nd, fun n cl e => by
  obtain ⟨a, e1, ok⟩ := c.ok n cl e
  have na : a ≠ p := fun q => hm (q ▸ List.mem_of_getElem? e1)
  refine ⟨a, e1, ?_⟩
  cases cl with
  | lst xs =>
    obtain ⟨vs, e2, r⟩ := ok
    exact ⟨vs, by rw [he a na]; exact e2, r.off hp he hw⟩
  | ins c fs =>
    obtain ⟨dx, fv, e2, e3, e4, e5, r⟩ := ok
    have nd : dx ≠ p := fun q => hl a (q ▸ e3)
    exact ⟨dx, fv, by rw [he a na]; exact e2, by rw [he dx nd]; exact e3, e4, e5, fun i p' q a b => (r i p' q a b).off hp he hw⟩⟩
end
theorem lcGo_len {t : Tg} {c e : En → AH → Res D} : ∀ {xs : List D} {σ : En} {h h' : AH} {vs : List D}, lcGo t c e xs σ h = .ok vs h' → vs.length ≤ 1000000
  | [], _, _, _, _, q => by
    simp only [lcGo] at q
    cases q
    exact Nat.zero_le _
  | d :: ds, σ, h, h', vs, q => by
    simp only [lcGo] at q
    split at q
    · cases q
    · split at q
      · split at q
        · split at q
          · split at q
            · rename_i hz
              cases q
              rw [List.length_cons]; omega
            · cases q
          · cases q
        · cases q
      · exact lcGo_len q
      · cases q
section
variable {A : Amb} {X : Cx} {E : XK} {fr : Bool} {elt tg iter : Expr} {ifs : List Expr} {scope : Scope} {own : List (Str × Nat)} {pos : Pos} {k : IK} {t : Tg} {fa : En → AH → Res (List D)} {fc fe : En → AH → Res D}
/-- the same, whatever else is forbidden -/
def uD (A : Amb) (fe : En → AH → Res D) : TE := fun σ H Q => ∃ U' : Addr → Prop, tD { A with U := U' } L2.E0 false fe σ H Q
def uT (A : Amb) (fe : En → AH → Res D) : TT := fun σ H Q => ∃ U' : Addr → Prop, tT { A with U := U' } L2.E0 fe σ H Q
abbrev lcF (k : IK) (t : Tg) (fa : En → AH → Res (List D)) (fc fe : En → AH → Res D) : En → AH → Res D := fun σ h => (fa σ h).bind fun vs h => match itD k vs h with
      | none => .bad
      | some xs => (lcGo t fc fe xs (fgtL σ t.slots) h).bind fun vs h => .ok (.lst vs) h
theorem lc_imp (hF : A.F.K = X.K) {σ : L2.St} {H : Hp} {Q : VK} (hh : tD A E fr (lcF k t fa fc fe) σ H Q) : tLc (tI A E k fa) (gOf X.K t) (uT A fc) (uD A fe) t.slots σ H Q := by
  obtain ⟨σD, h, m, o, S, q⟩ := hh
  refine ⟨σD, h, m, o, S, ?_⟩
  change KD A fr σD m o σ H Q E ((fa σD h).bind fun vs h => match itD k vs h with
      | none => .bad
      | some xs => (lcGo t fc fe xs (fgtL σD t.slots) h).bind fun vs h => .ok (.lst vs) h) at q
  cases ea : fa σD h with
  | bad => rw [ea] at q; exact q.elim
  | ex c fs h' => rw [ea] at q; exact q
  | ok vs h1 =>
    rw [ea] at q
    have q : KD A fr σD m o σ H Q E (match itD k vs h1 with
      | none => .bad
      | some xs => (lcGo t fc fe xs (fgtL σD t.slots) h1).bind fun vs h => .ok (.lst vs) h) := q
    show match itD k vs h1 with
      | some xs => _
      | none => False
    cases ei : itD k vs h1 with
    | none => rw [ei] at q; exact q.elim
    | some xs =>
      rw [ei] at q
      have q : KD A fr σD m o σ H Q E ((lcGo t fc fe xs (fgtL σD t.slots) h1).bind fun vs h => .ok (.lst vs) h) := q
      intro m1 H1 J st1 S1 ⟨G, Y, wk, hY⟩ D hD
      -- the loop's invariant
      have S1w := S1.wipe t.slots
      have nD : ¬ Wr m1 A.U o D := S1.fresh hD
      let U' : Addr → Prop := fun a => A.U a ∨ a = D
      have hU : ∀ a, U' a → A.U a ∨ H1 a = none := fun a z => by
        rcases z with z | z
        · exact .inl z
        · exact .inr (z ▸ hD)
      have hWD : ∀ m2, Wr m2 U' o D := fun m2 => .inr (.inl (.inr rfl))
      have hWW : ∀ m2 a, Wr m2 A.U o a → Wr m2 U' o a := fun m2 a w => by
        rcases w with z | z | z
        · exact .inl z
        · exact .inr (.inl (.inl z))
        · exact .inr (.inr z)
      let Pv : Nat → Hp → Prop := fun i H2 => ∃ (acc : List VI.D) (us : List V) (m2 : List Addr) (h2 : AH), H2 D = some (.lst us) ∧ Step m1 none_ H1 m2 H2 ∧ D ∉ m2 ∧ Cells A.F H2 m2 (Wr m2 U' o) h2 ∧ RVL A.F H2 m2 (Wr m2 U' o) acc us ∧
        (∀ vs h', lcGo t fc fe (xs.drop i) (fgtL σD t.slots) h2 = .ok vs h' → acc.length + vs.length ≤ 1000000) ∧
        KD A fr σD m1 o σ H1 Q E ((lcGo t fc fe (xs.drop i) (fgtL σD t.slots) h2).bind fun vs h => .ok (.lst (acc ++ vs)) h)
      have simW : ∀ {H2 m2 h2}, Step m1 none_ H1 m2 H2 → D ∉ m2 → (∃ us, H2 D = some (.lst us)) → Cells A.F H2 m2 (Wr m2 U' o) h2 → Sim { A with U := U' } (fgtL σD t.slots) h2 m2 o (wipe σ t.slots) H2 := fun {H2 m2 h2} st nd hd c =>
        S1w.goU st hU (fun a z => by
          rcases z with z | rfl
          · obtain ⟨n, u, e⟩ := S1.u0 a z
            refine ⟨fun zz => ?_, st.dom a u e⟩
            rcases st.new a zz with zz | zz
            · exact n zz
            · rw [e] at zz; cases zz
          · obtain ⟨us, e⟩ := hd
            exact ⟨nd, _, e⟩) c
      refine lc_it wk Pv ⟨[], [], m1, h1, upd_same, Step.laid hD, fun z => nD (.inl z), ?_, RVL.nil, fun vs h' e => by rw [List.length_nil, Nat.zero_add]; exact lcGo_len e, by simpa using q.mono st1⟩ ?_ ?_ ?_
      · -- the start: the cells
        refine ⟨S1.cells.len, S1.cells.nd, fun n cl e => ?_⟩
        obtain ⟨a, e1, okc⟩ := S1.cells.ok n cl e
        have st := Step.laid (m := m1) (Z := none_) (o := .lst []) hD
        have hw : ∀ a, Wr m1 U' o a → Wr m1 A.U o a ∨ H1 a = none := fun a w => by
          rcases w with z | (z | z) | z
          · exact .inl (.inl z)
          · exact .inl (.inr (.inl z))
          · exact .inr (z ▸ hD)
          · exact .inl (.inr (.inr z))
        refine ⟨a, e1, ?_⟩
        cases cl with
        | lst xs =>
          obtain ⟨vs, e2, r⟩ := okc
          exact ⟨vs, by rw [upd_ne (ne_of_none e2 hD)]; exact e2, r.1, fun i d v a b => (r.2 i d v a b).step st hw⟩
        | ins c fs =>
          obtain ⟨dx, fv, e2, e3, e4, e5, r⟩ := okc
          exact ⟨dx, fv, by rw [upd_ne (ne_of_none e2 hD)]; exact e2, by rw [upd_ne (ne_of_none e3 hD)]; exact e3, e4, e5, fun i p q a b => (r i p q a b).step st hw⟩
      · -- the walk goes on
        rintro i H2 hi ⟨acc, us, m2, h2, eD, st, nd, c, r, _, _⟩
        have S2 := simW st nd ⟨us, eD⟩ c
        refine (hY H2 m2 (Wr m2 U' o) ⟨fun a u e n => .inl (st.keep a u e (fun z => n (.inl z)) id), st.cells, fun a w => ?_, fun a w => S2.wh w⟩).1
        rcases w with z | (z | z) | z
        · rcases st.new a z with z | z
          · exact .inl (.inl z)
          · exact .inr z
        · exact .inl (.inr (.inl z))
        · exact .inr (z ▸ hD)
        · exact .inl (.inr (.inr z))
      · -- a turn
        rintro i x H2 H3 hi ⟨acc, us, m2, h2, eD, st, nd, c, r, hz, kq⟩ y
        have S2 := simW st nd ⟨us, eD⟩ c
        obtain ⟨d, ed, hH, rx⟩ := (hY H2 m2 (Wr m2 U' o) ⟨fun a u e n => .inl (st.keep a u e (fun z => n (.inl z)) id), st.cells, fun a w => (by
          rcases w with z | (z | z) | z
          · rcases st.new a z with z | z
            · exact .inl (.inl z)
            · exact .inr z
          · exact .inl (.inr (.inl z))
          · exact .inr (z ▸ hD)
          · exact .inl (.inr (.inr z))), fun a w => S2.wh w⟩).2 i x H3 hi y
        -- behind what the iterator has laid
        have S3 : Sim { A with U := U' } (fgtL σD t.slots) h2 m2 o (wipe σ t.slots) H3 ∧ Step m2 none_ H2 m2 H3 := by
          rcases hH with rfl | ⟨p, u, hp, rfl⟩
          · exact ⟨S2, Step.refl⟩
          · obtain ⟨s, S'⟩ := S2.laid (u := u) hp
            exact ⟨S', s⟩
        obtain ⟨S3, st3⟩ := S3
        have hdrop : xs.drop i = d :: xs.drop (i + 1) := by
          obtain ⟨hlt, e⟩ := List.getElem?_eq_some_iff.mp ed
          rw [← e]; exact List.drop_eq_getElem_cons hlt
        rw [hdrop] at kq hz
        simp only [lcGo] at kq hz
        cases eb : bindT t d (fgtL σD t.slots) with
        | none => rw [eb] at kq; exact kq.elim
        | some σ1 =>
          rw [eb] at kq hz
          rw [← hF]
          refine gOf_ok t (A := { A with U := U' }) S3 rx eb fun σ' S4 hl hk => ⟨?_, U', σ1, h2, m2, o, S4, ?_⟩
          · exact (wipe_eq (by rw [hl, wipe_length]) fun j hj => by rw [hk j hj, wipe_out hj])
          · have kq : KD A fr σD m1 o σ H1 Q E ((match fc σ1 h2 with
              | .ok (.bl true) h1 => match fe σ1 h1 with
                | .ok v h2 => match lcGo t fc fe (xs.drop (i + 1)) (fgtL σD t.slots) h2 with
                  | .ok vs h3 => if vs.length < 1000000 then .ok (v :: vs) h3 else .bad
                  | _ => .bad
                | _ => .bad
              | .ok (.bl false) h1 => lcGo t fc fe (xs.drop (i + 1)) (fgtL σD t.slots) h1
              | _ => .bad : Res (List VI.D)).bind fun vs h => .ok (.lst (acc ++ vs)) h) := kq
            cases ec : fc σ1 h2 with
            | bad => rw [ec] at kq; exact kq.elim
            | ex c fs h' => rw [ec] at kq; exact kq.elim
            | ok cv h4 =>
              rw [ec] at kq
              have hz : ∀ vs h', (match (Res.ok cv h4 : Res VI.D) with
                | .ok (.bl true) h1 => match fe σ1 h1 with
                  | .ok v h2 => match lcGo t fc fe (xs.drop (i + 1)) (fgtL σD t.slots) h2 with
                    | .ok vs h3 => if vs.length < 1000000 then .ok (v :: vs) h3 else .bad
                    | _ => .bad
                  | _ => .bad
                | .ok (.bl false) h1 => lcGo t fc fe (xs.drop (i + 1)) (fgtL σD t.slots) h1
                | _ => .bad : Res (List VI.D)) = .ok vs h' → acc.length + vs.length ≤ 1000000 := fun vs h' e => hz vs h' (by rw [← ec] at e; exact e)
              cases cv with
              | bl b =>
                intro m4 H4 st4 S5
                have st24 : Step m2 none_ H2 m4 H4 := st3.trans st4
                have nd4 : D ∉ m4 := (S5.u0 D (.inr rfl)).1
                have eD4 : H4 D = some (.lst us) := st24.keep D _ eD nd id
                have r4 : RVL A.F H4 m4 (Wr m4 U' o) acc us := r.go st24
                cases b with
                | false => exact ⟨acc, us, m4, h4, eD4, st.trans st24, nd4, S5.cells, r4, hz, kq⟩
                | true =>
                  show uD A fe σ' H4 _
                  refine ⟨U', σ1, h4, m4, o, S5, ?_⟩
                  have kq : KD A fr σD m1 o σ H1 Q E ((match fe σ1 h4 with
                    | .ok v h2 => match lcGo t fc fe (xs.drop (i + 1)) (fgtL σD t.slots) h2 with
                      | .ok vs h3 => if vs.length < 1000000 then .ok (v :: vs) h3 else .bad
                      | _ => .bad
                    | _ => .bad : Res (List VI.D)).bind fun vs h => .ok (.lst (acc ++ vs)) h) := kq
                  have hz : ∀ vs h', (match fe σ1 h4 with
                    | .ok v h2 => match lcGo t fc fe (xs.drop (i + 1)) (fgtL σD t.slots) h2 with
                      | .ok vs h3 => if vs.length < 1000000 then .ok (v :: vs) h3 else .bad
                      | _ => .bad
                    | _ => .bad : Res (List VI.D)) = .ok vs h' → acc.length + vs.length ≤ 1000000 := hz
                  cases ee : fe σ1 h4 with
                  | bad => rw [ee] at kq; exact kq.elim
                  | ex c fs h' => rw [ee] at kq; exact kq.elim
                  | ok v h5 =>
                    rw [ee] at kq hz
                    intro m5 H5 yv st5 S6 ry _
                    have st25 : Step m2 none_ H2 m5 H5 := st24.trans st5
                    have nd5 : D ∉ m5 := (S6.u0 D (.inr rfl)).1
                    have eD5 : H5 D = some (.lst us) := st25.keep D _ eD nd id
                    have r5 : RVL A.F H5 m5 (Wr m5 U' o) acc us := r.go st25
                    have he : ∀ a, a ≠ D → (upd H5 D (.lst (us ++ [yv]))) a = H5 a := fun a n => upd_ne n
                    have kq : KD A fr σD m1 o σ H1 Q E ((match lcGo t fc fe (xs.drop (i + 1)) (fgtL σD t.slots) h5 with
                      | .ok vs h3 => if vs.length < 1000000 then .ok (v :: vs) h3 else .bad
                      | _ => .bad : Res (List VI.D)).bind fun vs h => .ok (.lst (acc ++ vs)) h) := kq
                    have hz : ∀ vs h', (match lcGo t fc fe (xs.drop (i + 1)) (fgtL σD t.slots) h5 with
                      | .ok vs h3 => if vs.length < 1000000 then .ok (v :: vs) h3 else .bad
                      | _ => .bad : Res (List VI.D)) = .ok vs h' → acc.length + vs.length ≤ 1000000 := hz
                    cases er : lcGo t fc fe (xs.drop (i + 1)) (fgtL σD t.slots) h5 with
                    | bad => rw [er] at kq; exact kq.elim
                    | ex c fs h' => rw [er] at kq; exact kq.elim
                    | ok vr h6 =>
                      rw [er] at kq hz
                      have kq : KD A fr σD m1 o σ H1 Q E ((if vr.length < 1000000 then .ok (v :: vr) h6 else .bad : Res (List VI.D)).bind fun vs h => .ok (.lst (acc ++ vs)) h) := kq
                      have hz : ∀ vs h', (if vr.length < 1000000 then .ok (v :: vr) h6 else .bad : Res (List VI.D)) = .ok vs h' → acc.length + vs.length ≤ 1000000 := hz
                      by_cases hlt : vr.length < 1000000
                      · rw [if_pos hlt] at kq hz
                        have hz := hz _ _ rfl
                        rw [List.length_cons] at hz
                        refine ⟨us, eD5, lim_lt (by rw [r5.1]; omega), acc ++ [v], us ++ [yv], m5, h5, upd_same, (st.trans st25).off hD he, nd5, S6.cells.off (hWD m5) nd5 (fun b e => by rw [eD5] at e; cases e) he fun _ z => z,
                          (r5.append (RVL.cons ry RVL.nil)).off (hWD m5) he fun _ z => z, fun vs h' e => ?_, ?_⟩
                        · rw [er] at e; cases e
                          rw [List.length_append, List.length_singleton]; omega
                        · rw [er]
                          have kq : KD A fr σD m1 o σ H1 Q E (.ok (.lst (acc ++ v :: vr)) h6) := kq
                          show KD A fr σD m1 o σ H1 Q E (.ok (.lst (acc ++ [v] ++ vr)) h6)
                          rw [List.append_assoc]; exact kq
                      · rw [if_neg hlt] at kq; exact kq.elim
              | _ => exact kq.elim
      · -- the end
        rintro H2 ⟨acc, us, m2, h2, eD, st, nd, c, r, _, kq⟩
        rw [List.drop_length] at kq
        have kq : KD A fr σD m1 o σ H1 Q E (.ok (.lst (acc ++ [])) h2) := kq
        rw [List.append_nil] at kq
        have nw : ¬ Wr m2 A.U o D := fun w => by
          rcases w with z | z | ⟨i, z⟩
          · exact nd z
          · obtain ⟨_, u, e⟩ := S1.u0 D z
            rw [hD] at e; cases e
          · obtain ⟨_, ⟨u, e⟩, _⟩ := S1.ofr i D z
            rw [hD] at e; cases e
        have hsub : ∀ a, Wr m2 A.U o a → Wr m2 U' o a := hWW m2
        refine kq m2 H2 (.ref D) st (S1.go st (c.w hsub)) (.lst eD nw r.1 fun i d v a b => (r.2 i d v a b).w hsub) fun _ => ?_
        let H0 : Hp := fun a => if a = D then none else H2 a
        have he : ∀ a, a ≠ D → H0 a = H2 a := fun a n => if_neg n
        have st0 : Step m1 none_ H1 m2 H0 := st.off hD he
        refine ⟨H0, D, st0, S1.go st0 (c.off (hWD m2) nd (fun b e => by rw [eD] at e; cases e) he hsub), if_pos rfl, rfl, .inl ⟨acc, us, rfl, ?_, r.off (hWD m2) he hsub⟩⟩
        funext a
        by_cases z : a = D
        · subst z; rw [eD, upd_same]
        · rw [upd_ne z, he a z]
theorem pe_lc' (hc : X.calm = true) (hN : X.N.Nodup) (hF : A.F.K = X.K) (hi : PI X tg iter (tI A E k fa)) (ok : BlkOk X.N X.env.scope scope own) (hown : own.map (·.2) = t.slots)
    (hg : ∀ (s : Shared) (H : Hp) (C : Addr) (cl : List (Str × Addr)) (fp : List Addr), PG (X.blk s H scope (compEnvC scope cl C X.env) fp) tg (gOf X.K t))
    (ht : ∀ (s : Shared) (H : Hp) (C : Addr) (cl : List (Str × Addr)) (fp : List Addr), PTs (X.blk s H scope (compEnvC scope cl C X.env) fp) ifs (uT A fc))
    (he : ∀ (s : Shared) (H : Hp) (C : Addr) (cl : List (Str × Addr)) (fp : List Addr), PE (X.blk s H scope (compEnvC scope cl C X.env) fp) elt (uD A fe)) (hs : ∀ x, foldedSetIterable iter X.env x = pure x) :
    PE X (.ListComp elt [⟨tg, iter, ifs, 0⟩] scope pos) (tD A E fr (lcF k t fa fc fe)) := by
  refine pe_imp (pe_lc hc hN hi ok hg ht he hs) fun σ H Q q => ?_
  rw [hown]
  exact lc_imp hF q
/-- name = [..] -/
theorem ps_lc' {i : Nat} {y : Str} {py spos : Pos} (hc : X.calm = true) (hN : X.N.Nodup) (hy : X.N[i]? = some y) (hx : Loc X.env.scope y) (hf : X.fn y = true ∨ X.env.scope.names.lookup y = some .local) (hF : A.F.K = X.K) (hi : PI X tg iter (tI A E k fa)) (ok : BlkOk X.N X.env.scope scope own) (hown : own.map (·.2) = t.slots)
    (hg : ∀ (s : Shared) (H : Hp) (C : Addr) (cl : List (Str × Addr)) (fp : List Addr), PG (X.blk s H scope (compEnvC scope cl C X.env) fp) tg (gOf X.K t))
    (ht : ∀ (s : Shared) (H : Hp) (C : Addr) (cl : List (Str × Addr)) (fp : List Addr), PTs (X.blk s H scope (compEnvC scope cl C X.env) fp) ifs (uT A fc))
    (he : ∀ (s : Shared) (H : Hp) (C : Addr) (cl : List (Str × Addr)) (fp : List Addr), PE (X.blk s H scope (compEnvC scope cl C X.env) fp) elt (uD A fe)) (hs : ∀ x, foldedSetIterable iter X.env x = pure x) :
    PS X (.Assign [.Name y py] (.ListComp elt [⟨tg, iter, ifs, 0⟩] scope pos) spos) (tAsg (tD A E fr (lcF k t fa fc fe)) (gName i)) := by
  have hsw : swapsWith (.ListComp elt [⟨tg, iter, ifs, 0⟩] scope pos) (some (.Name y py)) spos.line X.env = pure (X.env.blockKind == .function && X.env.kindOf y == some .local && py.line == pos.line && !(scope.names.any fun (n, k) => n == y && (k == .local || k == .cell))) := rfl
  cases eb : (X.env.blockKind == .function && X.env.kindOf y == some .local && py.line == pos.line && !(scope.names.any fun (n, k) => n == y && (k == .local || k == .cell))) with
  | true =>
    rw [eb] at hsw
    have hyl : X.env.scope.names.lookup y = some .local := by
      simp only [Bool.and_eq_true, beq_iff_eq] at eb
      exact eb.1.1.2
    refine ps_imp (ps_setLc hc hN hy hyl hsw hi ok hg ht he hs) fun D σ H q => ?_
    rw [hown]
    exact lc_imp hF q
  | false =>
    rw [eb] at hsw
    refine ps_set hN hy hx (pe_lc' hc hN hF hi ok hown hg ht he hs) hsw hf
end
end VI
namespace VI
open PySem PySem.Spec PyProof.Rows L2
section
variable {A : Amb} {X : Cx} {E : XK} {fr : Bool} {fa fb fc : En → AH → Res D} {fl : En → AH → Res (List D)} {x y z : Expr} {es : List Expr} {pos p p2 : Pos} {kk : Nat}
theorem r_con {v : V} {d : D} (h : PE X x (tC v)) (r : ∀ H m W, RV A.F H m W d v) : PE X x (tD A E false fun _ h => .ok d h) :=
  pe_imp h fun σ H Q ⟨σD, hh, m, o, S, q⟩ => KD.ok q S (r _ _ _)
theorem r_var {i : Nat} {s : Str} (hN : X.N[i]? = some s) (hv : visB X.env.scope s = true) (hd : (s == ("__debug__" : Str)) = false) (hcd : (s == ("__classdict__" : Str)) = false) : PE X (.Name s pos) (tD A E false fun σ h => Res.of (getV σ i) h) := by
  refine pe_imp (pe_var hN (visB_ok hv) hd hcd) fun σ H Q ⟨σD, hh, m, o, S, q⟩ => ?_
  obtain ⟨d, e, q⟩ := q.of_inv
  unfold getV at e
  split at e
  · rename_i d' e'
    cases e
    obtain ⟨v, e1, r⟩ := S.slot i _ e'
    exact ⟨v, e1, q.ok S r⟩
  · cases e
theorem r_tup (h : PA X es (tL A E fl)) : PE X (.Tuple es kk pos) (tD A E false fun σ h => (fl σ h).bind fun vs h => if vs.length ≤ 1000000 then .ok (.tup vs) h else .bad) := by
  refine pe_imp (pe_tup h) fun σ H Q ⟨σD, hh, m, o, S, q⟩ => denLD S q fun ds h1 m1 H1 vs s1 S1 r q1 => ?_
  split at q1
  · rename_i hz
    exact ⟨lim_le (by rw [r.1]; exact hz), fun p hp => q1.newT S1 r hp⟩
  · exact q1.elim
theorem r_lst (h : PA X es (tL A E fl)) : PE X (.List es pos) (tD A E fr fun σ h => (fl σ h).bind fun vs h => if vs.length ≤ 1000000 then .ok (.lst vs) h else .bad) := by
  refine pe_imp (pe_lst h) fun σ H Q ⟨σD, hh, m, o, S, q⟩ => denLD S q fun ds h1 m1 H1 vs s1 S1 r q1 => ?_
  split at q1
  · rename_i hz
    exact ⟨lim_le (by rw [r.1]; exact hz), fun p hp => q1.newL S1 r hp⟩
  · exact q1.elim
/-- a new cell -/
theorem Sim.addC {σD : En} {h : AH} {m : List Addr} {o : Nat → Option Addr} {σ : L2.St} {H H2 : Hp} {p : Addr} {c : Cl} (S : Sim A σD h m o σ H) (hp : H p = none) (hg : ∀ a u, H a = some u → H2 a = some u)
    (hc : CellOk A.F H2 (m ++ [p]) (Wr (m ++ [p]) A.U o) p c) : Step m none_ H (m ++ [p]) H2 ∧ Sim A σD (h ++ [c]) (m ++ [p]) o σ H2 := by
  have pm : p ∉ m := fun q => by
    obtain ⟨u, e⟩ := S.mh q
    rw [hp] at e; cases e
  have st : Step m none_ H (m ++ [p]) H2 := by
    refine ⟨fun a u e _ _ => hg a u e, fun n a e => ?_, fun a q => ?_, fun a u e => ⟨u, hg a u e⟩⟩
    · rw [List.getElem?_append_left (List.getElem?_eq_some_iff.mp e).1]; exact e
    · rcases List.mem_append.mp q with q | q
      · exact .inl q
      · rw [List.mem_singleton] at q
        exact .inr (q ▸ hp)
  refine ⟨st, S.go st ⟨by simp [S.cells.len], ?_, fun n cl e => ?_⟩⟩
  · rw [List.nodup_append]
    exact ⟨S.cells.nd, by simp, fun a ha b hb => by
      rw [List.mem_singleton] at hb
      exact fun q => pm (hb ▸ q ▸ ha)⟩
  · by_cases hn : n < h.length
    · rw [List.getElem?_append_left hn] at e
      obtain ⟨a, e1, ok⟩ := S.cells.ok n cl e
      refine ⟨a, st.cells n a e1, ?_⟩
      cases cl with
      | lst xs =>
        obtain ⟨vs, e2, r⟩ := ok
        exact ⟨vs, hg _ _ e2, r.go st⟩
      | ins c fs =>
        obtain ⟨dx, fv, e2, e3, e4, e5, r⟩ := ok
        exact ⟨dx, fv, hg _ _ e2, hg _ _ e3, e4, e5, fun i p q a b => (r i p q a b).go st⟩
    · have hn' : n = h.length := by
        have := (List.getElem?_eq_some_iff.mp e).1
        rw [List.length_append, List.length_singleton] at this
        omega
      subst hn'
      rw [List.getElem?_append_right (Nat.le_refl _), Nat.sub_self] at e
      cases e
      exact ⟨p, by rw [List.getElem?_append_right (by rw [S.cells.len]; exact Nat.le_refl _), S.cells.len, Nat.sub_self]; rfl, hc⟩
theorem r_cell (h : PE X x (tD A E true fa)) : PE X x (tD A E false fun σ h => (fa σ h).bind fun v h => match v with
    | .lst xs => .ok (.ref h.length) (h ++ [.lst xs])
    | _ => .bad) := by
  refine pe_imp h fun σ H Q ⟨σD, hh, m, o, S, q⟩ => ⟨σD, hh, m, o, S, ?_⟩
  change KD A false σD m o σ H Q E ((fa σD hh).bind fun v h => match v with
    | .lst xs => .ok (.ref h.length) (h ++ [.lst xs])
    | _ => .bad) at q
  cases e : fa σD hh with
  | bad => rw [e] at q; exact q
  | ex c fs h' => rw [e] at q; exact q
  | ok d h1 =>
    rw [e] at q
    cases d with
    | lst xs =>
      intro m1 H1 v st S1 r f
      obtain ⟨H2, a, st2, S2, ha, rfl, hh⟩ := f rfl
      rcases hh with ⟨ys, vs, e1, rfl, rl⟩ | ⟨kvs, kv, e1, _⟩
      · cases e1
        obtain ⟨st3, S3⟩ := S2.addC (H2 := upd H2 a (.lst vs)) (c := .lst xs) ha (fun b u e => by rw [upd_ne (ne_of_none e ha)]; exact e) (by
          refine ⟨vs, upd_same, rl.1, fun i d v a1 b1 => (rl.2 i d v a1 b1).mono (fun b u e n => .inl (by rw [upd_ne (ne_of_none e ha)]; exact e)) (fun n b e => ?_) fun b w => ?_⟩
          · rw [List.getElem?_append_left (List.getElem?_eq_some_iff.mp e).1]; exact e
          · rcases w with w | w | w
            · rcases List.mem_append.mp w with w | w
              · exact .inl (.inl w)
              · rw [List.mem_singleton] at w
                exact .inr (w ▸ ha)
            · exact .inl (.inr (.inl w))
            · exact .inl (.inr (.inr w)))
        exact KD.ok (q.mono (st2.trans st3)) S3 (.ref (by rw [List.getElem?_append_right (by rw [S2.cells.len]; exact Nat.le_refl _), S2.cells.len, Nat.sub_self]; rfl))
      · cases e1
    | _ => exact q.elim
theorem r_bin {op : Operator} {pr : D → D → Option D} (ho : BinOk A fr X (binaryOp op) pr) (ha : PE X x (tD A E false fa)) (hb : PE X y (tD A E false fb)) :
    PE X (.BinOp x op y pos) (tD A E fr fun σ h => (fa σ h).bind fun x h => (fb σ h).bind fun y h => Res.of (pr x y) h) := by
  obtain ⟨r, ho, hk⟩ := ho
  exact pe_imp (pe_op ho ha hb) fun σ H Q ⟨σD, hh, m, o, S, q⟩ => den2 S q fun x y h m H vx vy S rx ry q => hk σD h m o σ H Q E x y vx vy S rx ry q
theorem r_neg (ha : PE X x (tD A E false fa)) : PE X (.UnaryOp .USub x pos) (tD A E false fun σ h => (fa σ h).bind fun x h => match x with
    | .int i => .ok (.int (-i)) h
    | _ => .bad) := by
  refine pe_imp (pe_un un_neg ha) fun σ H Q ⟨σD, hh, m, o, S, q⟩ => den1D S q fun d h1 m1 H1 v s1 S1 r q1 => ?_
  cases d with
  | int i =>
    cases r
    exact ⟨i, rfl, KD.ok q1 S1 (.int _)⟩
  | _ => exact q1.elim
theorem r_cmp {op : COp} (ho : CmpOk A X op) (ha : PE X x (tD A E false fa)) (hb : PE X y (tD A E false fb)) (hm : behindInMarks (cop op) y = false) :
    PE X (.Compare x [cop op] [y] pos) (tD A E false fun σ h => (fa σ h).bind fun x h => (fb σ h).bind fun y h => Res.of ((cmpD op x y).map .bl) h) ∧
    PT X (.Compare x [cop op] [y] pos) (tT A E fun σ h => (fa σ h).bind fun x h => (fb σ h).bind fun y h => Res.of ((cmpD op x y).map .bl) h) := by
  obtain ⟨r, ho, hk⟩ := ho
  constructor
  · refine pe_imp (pe_cmpR ho ha hb hm) fun σ H Q ⟨σD, hh, m, o, S, q⟩ => den2 S q fun x y h m H vx vy S rx ry q => ?_
    obtain ⟨d, e, q⟩ := q.of_inv
    rw [Option.map_eq_some_iff] at e
    obtain ⟨b, e, rfl⟩ := e
    exact hk σD h m o σ H Q x y vx vy b S rx ry e (q.ok S (.bl b))
  · refine pt_imp (pt_cmpR ho ha hb hm) fun σ H Q ⟨σD, hh, m, o, S, q⟩ => ?_
    refine den1B S q fun x h1 m1 H1 vx s1 S1 rx q1 => den1B S1 q1 fun y h2 m2 H2 vy s2 S2 ry q2 => ?_
    cases e : cmpD op x y with
    | none => rw [e] at q2; exact q2.elim
    | some b =>
      rw [e] at q2
      exact hk σD h2 m2 o σ H2 _ x y vx vy b S2 (rx.go s2) ry e ⟨b, rfl, q2 m2 H2 Step.refl S2⟩
theorem r_chain {op oq : COp} (ho : CmpOk A X op) (hq : CmpOk A X oq) (ha : PE X x (tD A E false fa)) (hb : PE X y (tD A E false fb)) (hc : PE X z (tD A E false fc)) (hm : lastMarks [cop op, cop oq] [y, z] = false) :
    PE X (.Compare x [cop op, cop oq] [y, z] pos) (tD A E false fun σ h => (fa σ h).bind fun x h => (fb σ h).bind fun y h => match cmpD op x y with
      | some true => (fc σ h).bind fun z h => Res.of ((cmpD oq y z).map .bl) h
      | some false => .ok (.bl false) h
      | none => .bad) ∧
    PT X (.Compare x [cop op, cop oq] [y, z] pos) (tT A E fun σ h => (fa σ h).bind fun x h => (fb σ h).bind fun y h => match cmpD op x y with
      | some true => (fc σ h).bind fun z h => Res.of ((cmpD oq y z).map .bl) h
      | some false => .ok (.bl false) h
      | none => .bad) := by
  obtain ⟨r, ho, hk⟩ := ho
  obtain ⟨r', ho', hk'⟩ := hq
  constructor
  · refine pe_imp (pe_chain ho ho' ha hb hc hm) fun σ H Q ⟨σD, hh, m, o, S, q⟩ => den1D S q fun x h1 m1 H1 vx s1 S1 rx q1 => den1D S1 q1 fun y h2 m2 H2 vy s2 S2 ry q2 => ?_
    cases e : cmpD op x y with
    | none => rw [e] at q2; exact q2.elim
    | some b =>
      rw [e] at q2
      refine hk σD h2 m2 o σ H2 _ x y vx vy b S2 (rx.go s2) ry e ⟨b, rfl, ?_⟩
      cases b with
      | false => exact KD.ok q2 S2 (.bl _)
      | true =>
        refine (if_pos rfl).mpr (den1D S2 q2 fun z h3 m3 H3 vz s3 S3 rz q3 => ?_)
        obtain ⟨d, e, q3⟩ := q3.of_inv
        rw [Option.map_eq_some_iff] at e
        obtain ⟨b, e, rfl⟩ := e
        exact hk' σD h3 m3 o σ H3 Q y z vy vz b S3 (ry.go s3) rz e (q3.ok S3 (.bl b))
  · refine pt_imp (pt_chain ho ho' ha hb hc hm) fun σ H Q ⟨σD, hh, m, o, S, q⟩ => den1B S q fun x h1 m1 H1 vx s1 S1 rx q1 => den1B S1 q1 fun y h2 m2 H2 vy s2 S2 ry q2 => ?_
    cases e : cmpD op x y with
    | none => rw [e] at q2; exact q2.elim
    | some b =>
      rw [e] at q2
      refine hk σD h2 m2 o σ H2 _ x y vx vy b S2 (rx.go s2) ry e ⟨b, rfl, ?_⟩
      cases b with
      | false => exact ⟨false, rfl, q2 m2 H2 Step.refl S2⟩
      | true =>
        refine (if_pos rfl).mpr (den1B S2 q2 fun z h3 m3 H3 vz s3 S3 rz q3 => ?_)
        cases e : cmpD oq y z with
        | none => rw [e] at q3; exact q3.elim
        | some b =>
          rw [e] at q3
          exact hk' σD h3 m3 o σ H3 _ y z vy vz b S3 (ry.go s3) rz e ⟨b, rfl, q3 m3 H3 Step.refl S3⟩
def IsOk (A : Amb) (X : Cx) (op : CmpOp) (c : V) (g : D → Option Bool) : Prop := ∃ r : R2, OpR X (compareOp op) r ∧ ∀ (σD : En) (h : AH) (m : List Addr) (o : Nat → Option Addr) (σ : L2.St) (H : Hp) (Q : VK) (x : D) (vx : V) (b : Bool),
  Sim A σD h m o σ H → RV A.F H m (Wr m A.U o) x vx → g x = some b → Q (.bl b) H → r vx c H Q
theorem is_non : IsOk A X .Is .non isND := ⟨_, op_isN, fun σD h m o σ H Q x vx b S r e q => ⟨rfl, by
  cases r <;> (simp only [isND, Option.some.injEq] at e; subst e; simpa using q)⟩⟩
theorem not_non : IsOk A X .IsNot .non notND := ⟨_, op_notN, fun σD h m o σ H Q x vx b S r e q => ⟨rfl, by
  cases r <;> (simp only [notND, Option.some.injEq] at e; subst e; simpa using q)⟩⟩
theorem is_bl {v : Bool} : IsOk A X .Is (.bl v) (isBD v) := ⟨_, op_is_bl, fun σD h m o σ H Q x vx b S r e q => by
  cases x <;> simp only [isBD, reduceCtorEq, Option.some.injEq] at e
  subst e; cases r
  exact ⟨_, _, rfl, rfl, q⟩⟩
theorem not_bl {v : Bool} : IsOk A X .IsNot (.bl v) (notBD v) := ⟨_, op_isnot_bl, fun σD h m o σ H Q x vx b S r e q => by
  cases x <;> simp only [notBD, reduceCtorEq, Option.some.injEq] at e
  subst e; cases r
  exact ⟨_, _, rfl, rfl, q⟩⟩
theorem r_is {op : CmpOp} {c : V} {g : D → Option Bool} (ho : IsOk A X op c g) (ha : PE X x (tD A E false fa)) (hb : PE X y (tC c)) (hm : behindInMarks op y = false) :
    PE X (.Compare x [op] [y] pos) (tD A E false fun σ h => (fa σ h).bind fun x h => Res.of ((g x).map .bl) h) ∧
    PT X (.Compare x [op] [y] pos) (tT A E fun σ h => (fa σ h).bind fun x h => Res.of ((g x).map .bl) h) := by
  obtain ⟨r, ho, hk⟩ := ho
  constructor
  · refine pe_imp (pe_cmpR ho ha hb hm) fun σ H Q ⟨σD, hh, m, o, S, q⟩ => den1D S q fun x h1 m1 H1 vx s1 S1 rx q1 => ?_
    obtain ⟨d, e, q⟩ := q1.of_inv
    rw [Option.map_eq_some_iff] at e
    obtain ⟨b, e, rfl⟩ := e
    exact hk σD h1 m1 o σ H1 Q x vx b S1 rx e (q.ok S1 (.bl b))
  · refine pt_imp (pt_cmpR ho ha hb hm) fun σ H Q ⟨σD, hh, m, o, S, q⟩ => den1B S q fun x h1 m1 H1 vx s1 S1 rx q1 => ?_
    cases e : g x with
    | none => rw [e] at q1; exact q1.elim
    | some b =>
      rw [e] at q1
      exact hk σD h1 m1 o σ H1 _ x vx b S1 rx e ⟨b, rfl, q1 m1 H1 Step.refl S1⟩
theorem r_inR {y' : Expr} {es' : List Expr} {r : Str} (hg : Gl X "range") (hm : X.mg "range" = none) (ha : PE X x (tD A E false fa)) (hb : PA X (y :: es') (tL A E fl)) (hst : (y :: es').all noStar = true)
    (hmk : behindInMarks .In (.Call (.Name "range" p) (y :: es') [] p2) = false) :
    PE X (.Compare x [.In] [.Call (.Name "range" p) (y :: es') [] p2] pos) (tD A E false fun σ h => (fa σ h).bind fun x h => (fl σ h).bind fun vs h => Res.of ((inRD x vs).map .bl) h) ∧
    PT X (.Compare x [.In] [.Call (.Name "range" p) (y :: es') [] p2] pos) (tT A E fun σ h => (fa σ h).bind fun x h => (fl σ h).bind fun vs h => Res.of ((inRD x vs).map .bl) h) := by
  have hy : noStar y = true ∧ es'.all noStar = true := by rw [List.all_cons, Bool.and_eq_true] at hst; exact hst
  have hr := pe_callTy (pos := p2) (p := p) cr_range2 hg hm PyProof.Rows.boot_range hb (by decide) (by decide) (star1 hy.1) (star_any hy.2)
  have key : ∀ {σD : En} {h : AH} {m : List Addr} {o : Nat → Option Addr} {σ : L2.St} {H : Hp} {x : D} {vs : List D} {vx : V} {ws : List V} {b : Bool} {Q : VK}, Sim A σD h m o σ H → RV A.F H m (Wr m A.U o) x vx → RVL A.F H m (Wr m A.U o) vs ws → inRD x vs = some b →
      (∀ p, H p = none → ∀ lo hi, Step m none_ H m (upd H p (.rng lo hi)) → Sim A σD h m o σ (upd H p (.rng lo hi)) → Q (.bl b) (upd H p (.rng lo hi))) →
      (∃ i j, ws = [V.int i, V.int j] ∧ ∀ p, H p = none → (fun y H => ∃ i a lo hi, vx = V.int i ∧ y = V.ref a ∧ H a = some (.rng lo hi) ∧ Q (.bl (decide (lo ≤ i ∧ i < hi))) H) (V.ref p) (upd H p (.rng i j))) := by
    intro σD h m o σ H x vs vx ws b Q S rx rs e k
    unfold inRD at e
    split at e
    · cases e
      obtain ⟨v, w, rfl, r1, r2⟩ := rs.two
      cases r1; cases r2; cases rx
      refine ⟨_, _, rfl, fun p hp => ⟨_, p, _, _, rfl, rfl, upd_same, ?_⟩⟩
      obtain ⟨st, S'⟩ := S.laid (u := .rng _ _) hp
      exact k p hp _ _ st S'
    · cases e
  constructor
  · refine pe_imp (pe_cmpR op_in_rng ha hr hmk) fun σ H Q ⟨σD, hh, m, o, S, q⟩ => den1D S q fun x h1 m1 H1 vx s1 S1 rx q1 => denLD S1 q1 fun vs h2 m2 H2 ws s2 S2 rs q2 => ?_
    obtain ⟨d, e, q⟩ := q2.of_inv
    rw [Option.map_eq_some_iff] at e
    obtain ⟨b, e, rfl⟩ := e
    exact key S2 (rx.go s2) rs e fun p hp lo hi st S' => KD.ok (q.mono st) S' (.bl b)
  · refine pt_imp (pt_cmpR op_in_rng ha hr hmk) fun σ H Q ⟨σD, hh, m, o, S, q⟩ => den1B S q fun x h1 m1 H1 vx s1 S1 rx q1 => ?_
    refine denL (K' := fun m H r => KB A σD m o σ H Q E r) S1 (fun _ _ _ x => x) id (fun s x => x.mono s) q1 fun vs h2 m2 H2 ws s2 S2 rs q2 => ?_
    cases e : inRD x vs with
    | none => rw [e] at q2; exact q2.elim
    | some b =>
      rw [e] at q2
      exact key (Q := fun x H' => ∃ k, x = .bl k ∧ Q k H') S2 (rx.go s2) rs e fun p hp lo hi st S' => ⟨b, rfl, q2 m2 _ st S'⟩
theorem KB.tst_not {σD : En} {m : List Addr} {o : Nat → Option Addr} {σ : L2.St} {H : Hp} {Q : Bool → Hp → Prop} {r : Res D} (q : KB A σD m o σ H Q E (r.tst fun b h => .ok (.bl (!b)) h)) : KB A σD m o σ H (fun c H1 => Q (!c) H1) E r := by
  cases r with
  | ok d h => cases d with
    | bl b => exact q
    | _ => exact q
  | ex => exact q
  | bad => exact q
theorem r_not (ha : PT X x (tT A E fa)) : PT X (.UnaryOp .Not x pos) (tT A E fun σ h => (fa σ h).tst fun b h => .ok (.bl (!b)) h) :=
  pt_imp (pt_not ha) fun σ H Q ⟨σD, hh, m, o, S, q⟩ => ⟨σD, hh, m, o, S, KB.tst_not q⟩
theorem r_notV (ha : PE X x (tD A E false fa)) : PE X (.UnaryOp .Not x pos) (tD A E false fun σ h => (fa σ h).tst fun b h => .ok (.bl (!b)) h) := by
  refine pe_imp (pe_not ha) fun σ H Q ⟨σD, hh, m, o, S, q⟩ => ⟨σD, hh, m, o, S, ?_⟩
  change KD A false σD m o σ H Q E ((fa σD hh).tst fun b h => .ok (.bl (!b)) h) at q
  cases e : fa σD hh with
  | bad => rw [e] at q; exact q
  | ex c fs h' => rw [e] at q; exact q
  | ok d h1 =>
    rw [e] at q
    cases d with
    | bl b =>
      intro m1 H1 v st S1 r _
      cases r
      exact ⟨b, rfl, KD.ok (q.mono st) S1 (.bl _)⟩
    | _ => exact q.elim
theorem r_ife (hc : PT X z (tT A E fc)) (ha : PE X x (tD A E false fa)) (hb : PE X y (tD A E false fb)) : PE X (.IfExp z x y pos) (tD A E false fun σ h => (fc σ h).tst fun t h => if t then fa σ h else fb σ h) := by
  refine pe_imp (pe_ifExp hc ha hb) fun σ H Q ⟨σD, hh, m, o, S, q⟩ => ⟨σD, hh, m, o, S, ?_⟩
  change KD A false σD m o σ H Q E ((fc σD hh).tst fun t h => if t then fa σD h else fb σD h) at q
  cases e : fc σD hh with
  | bad => rw [e] at q; exact q
  | ex c fs h' => rw [e] at q; exact q
  | ok d h1 =>
    rw [e] at q
    cases d with
    | bl b =>
      intro m1 H1 st S1
      cases b with
      | true => exact ⟨σD, h1, m1, o, S1, q.mono st⟩
      | false => exact ⟨σD, h1, m1, o, S1, q.mono st⟩
    | _ => exact q.elim
theorem pt_ife {t u v : TT} (hc : PT X z t) (ha : PT X x u) (hb : PT X y v) : PT X (.IfExp z x y pos) (fun σ H Q => t σ H fun c H1 => if c = true then u σ H1 Q else v σ H1 Q) := by
  refine ⟨fun pins s σ H Q I h => ?_⟩
  refine isTrue_IfExp (thn (hc.run pins s σ H _ I h) fun d s1 ⟨H1, I1, q1⟩ => ?_)
  cases d with
  | true => exact ha.run pins s1 σ H1 Q I1 q1
  | false => exact hb.run pins s1 σ H1 Q I1 q1
theorem r_ifeT (hc : PT X z (tT A E fc)) (ha : PT X x (tT A E fa)) (hb : PT X y (tT A E fb)) : PT X (.IfExp z x y pos) (tT A E fun σ h => (fc σ h).tst fun t h => if t then fa σ h else fb σ h) := by
  refine pt_imp (pt_ife hc ha hb) fun σ H Q ⟨σD, hh, m, o, S, q⟩ => ⟨σD, hh, m, o, S, ?_⟩
  change KB A σD m o σ H Q E ((fc σD hh).tst fun t h => if t then fa σD h else fb σD h) at q
  cases e : fc σD hh with
  | bad => rw [e] at q; exact q
  | ex c fs h' => rw [e] at q; exact q
  | ok d h1 =>
    rw [e] at q
    cases d with
    | bl b =>
      intro m1 H1 st S1
      cases b with
      | true => exact (if_pos rfl).mpr ⟨σD, h1, m1, o, S1, q.mono st⟩
      | false => exact (if_neg (by decide)).mpr ⟨σD, h1, m1, o, S1, q.mono st⟩
    | _ => exact q.elim
theorem r_ix (hu : X.A.units + 1 < cLine) (hK : A.F.K = X.K) (ha : PE X x (tD A E false fa)) (hb : PE X y (tD A E false fb)) (hs : noSlice y = true) :
    PE X (.Subscript x y pos) (tD A E false fun σ h => (fa σ h).bind fun x h => (fb σ h).bind fun y h => Res.of (ixD x y h) h) := by
  obtain ⟨r, ho, hk⟩ := ix_ok (A := A) hu hK
  refine pe_imp (pe_ix ho ha hb (plainIx hs)) fun σ H Q ⟨σD, hh, m, o, S, q⟩ => den2 S q fun x y h m H vx vy S rx ry q => ?_
  obtain ⟨d, e, q⟩ := q.of_inv
  exact hk σD h m o σ H Q E x y d vx vy S rx ry e q
theorem r_and1 (ha : PE X x (tD A E false fa)) : PE X (.BoolOp .And [x] pos) (tD A E false fun σ h => (fa σ h).tst fun b h => .ok (.bl b) h) := by
  refine pe_imp (pe_one ha) fun σ H Q ⟨σD, hh, m, o, S, q⟩ => ⟨σD, hh, m, o, S, ?_⟩
  change KD A false σD m o σ H Q E ((fa σD hh).tst fun b h => .ok (.bl b) h) at q
  cases e : fa σD hh with
  | bad => rw [e] at q; exact q
  | ex c fs h' => rw [e] at q; exact q
  | ok d h1 =>
    rw [e] at q
    cases d with
    | bl b => exact q
    | _ => exact q.elim
theorem r_or1 (ha : PE X x (tD A E false fa)) : PE X (.BoolOp .Or [x] pos) (tD A E false fun σ h => (fa σ h).tst fun b h => .ok (.bl b) h) := by
  refine pe_imp (pe_one ha) fun σ H Q ⟨σD, hh, m, o, S, q⟩ => ⟨σD, hh, m, o, S, ?_⟩
  change KD A false σD m o σ H Q E ((fa σD hh).tst fun b h => .ok (.bl b) h) at q
  cases e : fa σD hh with
  | bad => rw [e] at q; exact q
  | ex c fs h' => rw [e] at q; exact q
  | ok d h1 =>
    rw [e] at q
    cases d with
    | bl b => exact q
    | _ => exact q.elim
theorem r_and (ha : PE X x (tD A E false fa)) (hb : PE X (.BoolOp .And (y :: es) pos) (tD A E false fb)) : PE X (.BoolOp .And (x :: y :: es) pos) (tD A E false fun σ h => (fa σ h).tst fun b h => if b then fb σ h else .ok (.bl false) h) := by
  refine pe_imp (pe_and ha hb) fun σ H Q ⟨σD, hh, m, o, S, q⟩ => ⟨σD, hh, m, o, S, ?_⟩
  change KD A false σD m o σ H Q E ((fa σD hh).tst fun b h => if b then fb σD h else .ok (.bl false) h) at q
  cases e : fa σD hh with
  | bad => rw [e] at q; exact q
  | ex c fs h' => rw [e] at q; exact q
  | ok d h1 =>
    rw [e] at q
    cases d with
    | bl b =>
      intro m1 H1 v st S1 r _
      cases r
      refine ⟨b, rfl, ?_⟩
      cases b with
      | true => exact ⟨σD, h1, m1, o, S1, q.mono st⟩
      | false => exact KD.ok (q.mono st) S1 (.bl _)
    | _ => exact q.elim
theorem r_or (ha : PE X x (tD A E false fa)) (hb : PE X (.BoolOp .Or (y :: es) pos) (tD A E false fb)) : PE X (.BoolOp .Or (x :: y :: es) pos) (tD A E false fun σ h => (fa σ h).tst fun b h => if b then .ok (.bl true) h else fb σ h) := by
  refine pe_imp (pe_or ha hb) fun σ H Q ⟨σD, hh, m, o, S, q⟩ => ⟨σD, hh, m, o, S, ?_⟩
  change KD A false σD m o σ H Q E ((fa σD hh).tst fun b h => if b then .ok (.bl true) h else fb σD h) at q
  cases e : fa σD hh with
  | bad => rw [e] at q; exact q
  | ex c fs h' => rw [e] at q; exact q
  | ok d h1 =>
    rw [e] at q
    cases d with
    | bl b =>
      intro m1 H1 v st S1 r _
      cases r
      refine ⟨b, rfl, ?_⟩
      cases b with
      | true => exact KD.ok (q.mono st) S1 (.bl _)
      | false => exact ⟨σD, h1, m1, o, S1, q.mono st⟩
    | _ => exact q.elim
/-- a test whatever its whole is -/
theorem pw_imp {t t' : TT} (h : PW X x t) (i : ∀ σ H Q, t' σ H Q → t σ H Q) : PW X x t' := ⟨fun wh pins s σ H Q I q => h.run wh pins s σ H Q I (i _ _ _ q)⟩
theorem KB.tst1 {σD : En} {m : List Addr} {o : Nat → Option Addr} {σ : L2.St} {H : Hp} {Q : Bool → Hp → Prop} {r : Res D} (q : KB A σD m o σ H Q E (r.tst fun b h => .ok (.bl b) h)) : KB A σD m o σ H Q E r := by
  cases r with
  | ok d h => cases d with
    | bl b => exact q
    | _ => exact q
  | ex => exact q
  | bad => exact q
theorem w_and1 (ha : PT X x (tT A E fa)) : PW X (.BoolOp .And [x] pos) (tT A E fun σ h => (fa σ h).tst fun b h => .ok (.bl b) h) :=
  pw_imp (pw_and1 ha) fun σ H Q ⟨σD, hh, m, o, S, q⟩ => ⟨σD, hh, m, o, S, q.tst1⟩
theorem w_or1 (ha : PT X x (tT A E fa)) : PW X (.BoolOp .Or [x] pos) (tT A E fun σ h => (fa σ h).tst fun b h => .ok (.bl b) h) :=
  pw_imp (pw_or1 ha) fun σ H Q ⟨σD, hh, m, o, S, q⟩ => ⟨σD, hh, m, o, S, q.tst1⟩
theorem w_and (ha : PT X x (tT A E fa)) (hb : PW X (.BoolOp .And (y :: es) pos) (tT A E fb)) : PW X (.BoolOp .And (x :: y :: es) pos) (tT A E fun σ h => (fa σ h).tst fun b h => if b then fb σ h else .ok (.bl false) h) := by
  refine pw_imp (pw_and ha hb) fun σ H Q ⟨σD, hh, m, o, S, q⟩ => ⟨σD, hh, m, o, S, ?_⟩
  change KB A σD m o σ H Q E ((fa σD hh).tst fun b h => if b then fb σD h else .ok (.bl false) h) at q
  cases e : fa σD hh with
  | bad => rw [e] at q; exact q
  | ex c fs h' => rw [e] at q; exact q
  | ok d h1 =>
    rw [e] at q
    cases d with
    | bl b =>
      intro m1 H1 st S1
      cases b with
      | true => exact (if_pos rfl).mpr ⟨σD, h1, m1, o, S1, q.mono st⟩
      | false => exact (if_neg (by decide)).mpr (q m1 H1 st S1)
    | _ => exact q.elim
theorem w_or (ha : PT X x (tT A E fa)) (hb : PW X (.BoolOp .Or (y :: es) pos) (tT A E fb)) : PW X (.BoolOp .Or (x :: y :: es) pos) (tT A E fun σ h => (fa σ h).tst fun b h => if b then .ok (.bl true) h else fb σ h) := by
  refine pw_imp (pw_or ha hb) fun σ H Q ⟨σD, hh, m, o, S, q⟩ => ⟨σD, hh, m, o, S, ?_⟩
  change KB A σD m o σ H Q E ((fa σD hh).tst fun b h => if b then .ok (.bl true) h else fb σD h) at q
  cases e : fa σD hh with
  | bad => rw [e] at q; exact q
  | ex c fs h' => rw [e] at q; exact q
  | ok d h1 =>
    rw [e] at q
    cases d with
    | bl b =>
      intro m1 H1 st S1
      cases b with
      | true => exact (if_pos rfl).mpr (q m1 H1 st S1)
      | false => exact (if_neg (by decide)).mpr ⟨σD, h1, m1, o, S1, q.mono st⟩
    | _ => exact q.elim
theorem r_nil : PA X [] (tL A E fun _ h => .ok [] h) := pa_imp pa_nil fun σ H Q ⟨σD, hh, m, o, S, q⟩ => q m H [] Step.refl S RVL.nil
theorem r_cons (ha : PE X x (tD A E false fa)) (hb : PA X es (tL A E fl)) (hs : noStar x = true) : PA X (x :: es) (tL A E fun σ h => (fa σ h).bind fun v h => (fl σ h).bind fun vs h => .ok (v :: vs) h) := by
  refine pa_imp (pa_cons ha hb (star1 hs)) fun σ H Q ⟨σD, hh, m, o, S, q⟩ => den1L S q fun d h1 m1 H1 v s1 S1 r1 q1 => denLLL S1 q1 fun ds h2 m2 H2 vs s2 S2 r2 q2 => q2 m2 H2 _ Step.refl S2 (.cons (r1.go s2) r2)
end
end VI
namespace VI
open PySem PySem.Spec PyProof.Rows L2
section
variable {A : Amb} {X : Cx} {E : XK} {fr : Bool} {fa fb fc : En → AH → Res D} {fl : En → AH → Res (List D)} {x y z : Expr} {es : List Expr} {pos p p2 : Pos} {kk : Nat}
  {T : Tab} {gn : String → Str} {C : String → List D → AH → Res D} {CI : String → List D → AH → Res (List (String × D))} {k : Nat} {tb : Str → Bool}
/-- a callee's promise from what is wanted here -/
theorem spC_of {σD : En} {h : AH} {m : List Addr} {o : Nat → Option Addr} {σ : L2.St} {H : Hp} {Q : VK} {np : Nat} {c : List D → AH → Res D} {ds : List D} {vs : List V} (S : Sim A σD h m o σ H) (r : RVL A.F H m (Wr m A.U o) ds vs)
    (hl : ds.length = np) (q : KD A false σD m o σ H Q E (c ds h)) : spC A.F np c vs H Q E := by
  refine ⟨by rw [r.1]; exact hl, m, h, ds, Uo A.U o, S.cells.w fun a w => wrU.mp w, fun a u => ?_, r.w fun a w => wrU.mp w, ?_⟩
  · rcases u with u | ⟨i, u⟩
    · exact S.u0 a u
    · exact ⟨(S.ofr i a u).2.2, (S.ofr i a u).2.1⟩
  · cases e : c ds h with
    | bad => rw [e] at q; exact q
    | ok d h' =>
      rw [e] at q
      exact fun m' H' v st cc rv => q m' H' v st (S.go st (cc.w fun a w => wrU.mpr w)) (rv.w fun a w => wrU.mpr w) fun z => by cases z
    | ex c fs h' =>
      rw [e] at q
      refine fun m' H' cv dv st cc x => q m' H' cv dv st (S.go st (cc.w fun a w => wrU.mpr w)) ?_
      obtain ⟨x1, x2⟩ := x
      refine ⟨x1, x2.imp id fun ⟨d, fv, e1, e2, g, e3, e4⟩ => ⟨d, fv, e1, e2, g, e3, fun f x e => (e4 f x e).w fun a w => wrU.mpr w⟩⟩
theorem KD.np {σD : En} {m : List Addr} {o : Nat → Option Addr} {σ : L2.St} {H : Hp} {Q : VK} {r : Res D} (q : KD A fr σD m o σ H Q E r) : r ≠ .bad := fun e => by rw [e] at q; exact q
/-- a def as this body's context has it -/
theorem Good.fn {f : String} {fd : FD} (g : Good tb A.F T gn C CI k X E) (hf : T.fn f = some fd) (hcls : fd.cls = none) : ∃ ad fdd ps, X.mg (gn f) = some (.ref ad) ∧ FnOk X.prog X.w X.K X.mg X.base (L2.CX X.prog X.w) k ad fdd ps (spC A.F fd.np (C f)) ∧ Binds X.K fdd ps [] ∧ PySem.W.keepIn X.K (.ref ad) = true := by
  obtain ⟨ad, e1, fa⟩ := g.calls.fn f fd hf hcls
  obtain ⟨fdd, ps, F, e2, B⟩ := fa.ex
  have kp := fa.kp
  refine ⟨ad, fdd, ps, e1, ?_, ?_, ?_⟩
  · rw [show (Glb.F ⟨X.prog, X.w, X.mg, X.base, A.F, T, gn⟩).K = X.K from g.K] at F
    exact F
  · rw [show (Glb.F ⟨X.prog, X.w, X.mg, X.base, A.F, T, gn⟩).K = X.K from g.K] at B
    exact B
  · rw [show (Glb.F ⟨X.prog, X.w, X.mg, X.base, A.F, T, gn⟩).K = X.K from g.K] at kp
    exact kp
theorem r_call {f : String} {fd : FD} {s : Str} (g : Good tb A.F T gn C CI k X E) (hf : T.fn f = some fd) (hcls : fd.cls = none) (hs : gn f = s) (hg : glB X.env.scope s = true) (ha : PA X (y :: es) (tL A E fl)) (hst : (y :: es).all noStar = true) :
    PE X (.Call (.Name s p) (y :: es) [] pos) (tD A E false fun σ h => (fl σ h).bind fun vs h => C f vs h) := by
  subst hs
  obtain ⟨hgl, hdb, _⟩ := glB_ok hg
  obtain ⟨ad, fdd, ps, e1, F, B, kp⟩ := g.fn hf hcls
  rw [List.all_cons, Bool.and_eq_true] at hst
  refine pe_imp (pe_call F (g.room.mono (Nat.le_succ _)) hgl e1 kp B .nil g.pass ha hdb (star1 hst.1) (star_any hst.2)) fun σ H Q ⟨σD, hh, m, o, S, q⟩ => denLD S q fun ds h1 m1 H1 vs s1 S1 r q1 => ?_
  rw [List.append_nil]
  exact spC_of S1 r (Classical.byContradiction fun n => q1.np (g.calls.np f fd hf ds h1 n)) q1
theorem r_call0 {f : String} {fd : FD} {s : Str} (g : Good tb A.F T gn C CI k X E) (hf : T.fn f = some fd) (hcls : fd.cls = none) (hs : gn f = s) (hg : glB X.env.scope s = true) :
    PE X (.Call (.Name s p) [] [] pos) (tD A E false fun σ h => (Res.ok [] h).bind fun vs h => C f vs h) := by
  subst hs
  obtain ⟨hgl, hdb, _⟩ := glB_ok hg
  obtain ⟨ad, fdd, ps, e1, F, B, kp⟩ := g.fn hf hcls
  refine pe_imp (pe_call0 F (g.room.mono (Nat.le_succ _)) hgl e1 kp B .nil g.pass hdb) fun σ H Q ⟨σD, hh, m, o, S, q⟩ => ?_
  have q : KD A false σD m o σ H Q E (C f [] hh) := q
  exact spC_of S RVL.nil (Classical.byContradiction fun n => q.np (g.calls.np f fd hf [] hh n)) q
theorem biV_ok {b : String} {n : String × Value} (e : biV b = some n) : n.1 ∈ biNames ∧ bootBuiltins (ofS n.1) = some n.2 ∧ (∀ {A : Amb} {X : Cx}, A.F.K = X.K → X.calm = true → BiOk A X (decide (b = "list")) (biD b) n.2) ∧ ((∃ i, n.2 = .builtin i) ∨ ∃ i, n.2 = .type i) := by
  unfold biV at e
  split at e
  all_goals cases e
  all_goals refine ⟨by decide, by decide +kernel, fun {A X} hK hc => ?_, by first | exact .inl ⟨_, rfl⟩ | exact .inr ⟨_, rfl⟩⟩
  · exact bi_len hK
  · exact bi_int
  · exact bi_abs
  · exact bi_max hc
  · exact bi_min hc
  · exact bi_max1 hc
  · exact bi_tuple hK
  · exact bi_list hK
  · exact bi_sum hc
  · exact bi_all hc
  · exact bi_any hc
  · exact bi_str
theorem mkE_bi {b : String} {a : VI.E} (h : mkE (.bi b a) = true) : b = "list" := by
  unfold mkE at h
  split at h <;> first | cases h | skip
  all_goals first | rfl | (rename_i e; cases e; rfl) | (rename_i e; cases e)
theorem r_bi {b : String} {n : String × Value} (g : Good tb A.F T gn C CI k X E) (e : biV b = some n) (hfr : fr = true → b = "list") (hg : glB X.env.scope (ofS n.1) = true) (ha : PA X (y :: es) (tL A E fl)) (hst : (y :: es).all noStar = true) :
    PE X (.Call (.Name (ofS n.1) p) (y :: es) [] pos) (tD A E fr fun σ h => (fl σ h).bind fun vs h => Res.of (biD b vs h) h) := by
  obtain ⟨e1, e2, e3, e4⟩ := biV_ok e
  obtain ⟨r, hr, hk⟩ := e3 (A := A) g.K g.calm
  obtain ⟨hgl, hdb, hnm⟩ := glB_ok hg
  rw [List.all_cons, Bool.and_eq_true] at hst
  have key : PE X (.Call (.Name (ofS n.1) p) (y :: es) [] pos) (tCB r (tL A E fl)) := by
    obtain ⟨nm, v⟩ := n
    rcases e4 with ⟨i, rfl⟩ | ⟨i, rfl⟩
    · exact pe_callB hr hgl (g.calls.bnm _ e1) e2 ha hnm hdb (star1 hst.1) (star_any hst.2)
    · exact pe_callTy hr hgl (g.calls.bnm _ e1) e2 ha hnm hdb (star1 hst.1) (star_any hst.2)
  refine pe_imp key fun σ H Q ⟨σD, hh, m, o, S, q⟩ => denLD S q fun ds h1 m1 H1 vs s1 S1 r1 q1 => ?_
  obtain ⟨d, e, q2⟩ := q1.of_inv
  cases fr with
  | true =>
    have := hfr rfl
    subst this
    rw [decide_eq_true rfl] at hk
    exact hk σD h1 m1 o σ H1 Q E ds vs d S1 r1 e q2
  | false => exact hk σD h1 m1 o σ H1 Q E ds vs d S1 r1 e q2.weak
theorem tyN_cases {c : String} (h : tyN c = true) : c = "int" ∨ c = "bool" ∨ c = "str" ∨ c = "tuple" ∨ c = "list" := by
  unfold tyN at h
  simp only [Bool.or_eq_true, beq_iff_eq] at h
  rcases h with (((h | h) | h) | h) | h
  · exact .inl h
  · exact .inr (.inl h)
  · exact .inr (.inr (.inl h))
  · exact .inr (.inr (.inr (.inl h)))
  · exact .inr (.inr (.inr (.inr h)))
theorem ty_boot {c : String} (h : tyN c = true) : bootBuiltins (ofS c) = some (.type c) ∧ c ∈ biNames := by
  rcases tyN_cases h with rfl | rfl | rfl | rfl | rfl <;> exact ⟨by decide +kernel, by decide⟩
theorem r_isi {c : String} (g : Good tb A.F T gn C CI k X E) (ht : tyN c = true) (hg : glB X.env.scope "isinstance" = true) (hgt : glB X.env.scope (ofS c) = true) (ha : PE X x (tD A E false fa)) (hs : noStar x = true) :
    PE X (.Call (.Name "isinstance" p) [x, .Name (ofS c) p2] [] pos) (tD A E false fun σ h => (fa σ h).bind fun x h => Res.of ((isiD x c).map .bl) h) := by
  obtain ⟨hgl, hdb, hnm⟩ := glB_ok hg
  obtain ⟨hgl2, hdb2, hnm2⟩ := glB_ok hgt
  obtain ⟨e1, e2⟩ := ty_boot ht
  have hb : PE X (.Name (ofS c) p2) (tC (.ty c)) := pe_bltn hgl2 (g.calls.bnm _ e2) e1 rfl hnm2 hdb2
  have key := pe_callB (pos := pos) (p := p) call_isi hgl (g.calls.bnm "isinstance" (by decide)) PyProof.Rows.boot_isinstance (pa_cons ha (pa_cons hb pa_nil) (star1 hs)) hnm hdb (star1 hs) (by rfl)
  refine pe_imp key fun σ H Q ⟨σD, hh, m, o, S, q⟩ => den1D S q fun d h1 m1 H1 v s1 S1 r q1 => ?_
  obtain ⟨d', e, q⟩ := q1.of_inv
  rw [Option.map_eq_some_iff] at e
  obtain ⟨b, e, rfl⟩ := e
  obtain ⟨t, ty, ek⟩ := isi_ok g.K S1 r e
  exact ⟨v, .ty c, t, .type c, b, rfl, .ty c, ty, ek, q.ok S1 (.bl b)⟩
/-- an own list, an own dict at an index -/
theorem r_ixo {i : Nat} {s : Str} (hu : X.A.units + 1 < cLine) (hN : X.N[i]? = some s) (hv : visB X.env.scope s = true) (hd : (s == ("__debug__" : Str)) = false) (hcd : (s == ("__classdict__" : Str)) = false) (hb : PE X y (tD A E false fb)) (hs : noSlice y = true) :
    PE X (.Subscript (.Name s p) y pos) (tD A E false fun σ h => match σ[i]? with
    | some (.ol xs) => (fb σ h).bind fun y h => Res.of (ixOl xs y) h
    | some (.od kvs) => (fb σ h).bind fun y h => Res.of (ixOd kvs y) h
    | _ => .bad) := by
  refine pe_imp (pe_ix (IxR.or ix_list (ix_dict hu)) (pe_var hN (visB_ok hv) hd hcd) hb (plainIx hs)) fun σ H Q ⟨σD, hh, m, o, S, q⟩ => ?_
  change KD A false σD m o σ H Q E (match σD[i]? with
    | some (.ol xs) => (fb σD hh).bind fun y h => Res.of (ixOl xs y) h
    | some (.od kvs) => (fb σD hh).bind fun y h => Res.of (ixOd kvs y) h
    | _ => .bad) at q
  split at q
  · rename_i xs es
    obtain ⟨a, vs, e1, e2, _⟩ := S.slot i _ es
    refine ⟨_, e2, den1D S q fun d h1 m1 H1 v s1 S1 r q1 => ?_⟩
    obtain ⟨d', e, q2⟩ := q1.of_inv
    obtain ⟨a', vs', e1', e2', e3, l⟩ := S1.slot i _ es
    rw [e2] at e2'; cases e2'
    cases d with
    | int k =>
      cases r
      obtain ⟨j, w, f1, f2, f3⟩ := atI_rel l.1 (show atI xs k = some d' from e)
      exact .inl ⟨a, vs', _, w, rfl, rfl, SqL.of e3, f3, q2.ok S1 (l.2 j _ _ f1 f2)⟩
    | _ => cases e
  · rename_i kvs es
    obtain ⟨a, vs, e1, e2, _⟩ := S.slot i _ es
    refine ⟨_, e2, den1D S q fun d h1 m1 H1 v s1 S1 r q1 => ?_⟩
    obtain ⟨d', e, q2⟩ := q1.of_inv
    obtain ⟨a', kv, e1', e2', e3, e4, e5⟩ := S1.slot i _ es
    rw [e2] at e2'; cases e2'
    unfold ixOd at e
    rw [Option.bind_eq_some_iff] at e
    obtain ⟨kk, f1, f2⟩ := e
    rcases valD_V kk e4 e5 with ⟨g1, _⟩ | ⟨d2, w, g1, g2, g3⟩
    · rw [g1] at f2; cases f2
    · rw [g1] at f2; cases f2
      exact .inr ⟨a, w, rfl, by rw [keyD_V r f1, ← g2]; exact DGet.k e3, q2.ok S1 g3⟩
  · exact q.elim
end
end VI
namespace VI
open PySem PySem.Spec PyProof.Rows L2
structure Fit (M : Mt) (C : String → List D → AH → Res D) (CI : String → List D → AH → Res (List (String × D))) (k : Nat) (tb : Str → Bool) (sc : Scope) (A : Amb) (X : Cx) (Ex : XK) : Prop where
  good : Good tb A.F M.T M.gn C CI k X Ex
  N : M.N = X.N
  sc : X.env.scope = sc
structure PX (M : Mt) (C : String → List D → AH → Res D) (CI : String → List D → AH → Res (List (String × D))) (k : Nat) (e : VI.E) : Prop where
  pe : ∀ {A : Amb} {X : Cx} {Ex : XK} {sc : Scope} {tb : Str → Bool} {x : Expr} {fr : Bool}, Fit M C CI k tb sc A X Ex → mtE M sc e x = true → (fr = true → mkE e = true) → PE X x (tD A Ex fr (ev M.T C CI e))
  pt : ∀ {A : Amb} {X : Cx} {Ex : XK} {sc : Scope} {tb : Str → Bool} {x : Expr}, Fit M C CI k tb sc A X Ex → mtE M sc e x = true → PT X x (tT A Ex (ev M.T C CI e))
  pa : ∀ {A : Amb} {X : Cx} {Ex : XK} {sc : Scope} {tb : Str → Bool} {xs : List Expr}, Fit M C CI k tb sc A X Ex → mtL M sc e xs = true → PA X xs (tL A Ex (evs M.T C CI e))
  an : ∀ {A : Amb} {X : Cx} {Ex : XK} {sc : Scope} {tb : Str → Bool} {xs : List Expr} {pos : Pos}, Fit M C CI k tb sc A X Ex → mtL M sc e xs = true → PE X (.BoolOp .And xs pos) (tD A Ex false (evA M.T C CI e)) ∧ PW X (.BoolOp .And xs pos) (tT A Ex (evA M.T C CI e))
  or : ∀ {A : Amb} {X : Cx} {Ex : XK} {sc : Scope} {tb : Str → Bool} {xs : List Expr} {pos : Pos}, Fit M C CI k tb sc A X Ex → mtL M sc e xs = true → PE X (.BoolOp .Or xs pos) (tD A Ex false (evO M.T C CI e)) ∧ PW X (.BoolOp .Or xs pos) (tT A Ex (evO M.T C CI e))
section
variable {M : Mt} {C : String → List D → AH → Res D} {CI : String → List D → AH → Res (List (String × D))} {k : Nat} {tb : Str → Bool} {sc : Scope} {A : Amb} {X : Cx} {Ex : XK}
/-- the body of a comprehension -/
theorem Fit.blk (f : Fit M C CI k tb sc A X Ex) (U' : Addr → Prop) (scope : Scope) (s : Shared) (H : Hp) (Ca : Addr) (cl : List (Str × Addr)) (fp : List Addr) :
    Fit M C CI k (blB scope sc) (relS scope sc) { A with U := U' } (X.blk s H scope (compEnvC scope cl Ca X.env) fp) L2.E0 := by
  have es : (compEnvC scope cl Ca X.env).scope = relS scope sc := by rw [← f.sc]; rfl
  refine ⟨⟨f.good.K, f.good.calm, f.good.nd, fun x h => ?_, f.good.room, passL, PassesOwn.never, f.good.calls⟩, f.N, es⟩
  show Loc (compEnvC scope cl Ca X.env).scope x ∧ ((scope.names.lookup x == some .cell) = true ∨ (compEnvC scope cl Ca X.env).scope.names.lookup x = some .local)
  rw [es]
  unfold blB at h
  split at h
  · rename_i e; exact ⟨.inl e, .inr e⟩
  · rename_i e; exact ⟨.inr e, .inl h⟩
  · cases h
theorem PX.plain {e : VI.E} (pe : ∀ {A : Amb} {X : Cx} {Ex : XK} {sc : Scope} {tb : Str → Bool} {x : Expr} {fr : Bool}, Fit M C CI k tb sc A X Ex → mtE M sc e x = true → (fr = true → mkE e = true) → PE X x (tD A Ex fr (ev M.T C CI e)))
    (he : ∀ {sc : Scope} {x : Expr} {env : PySem.Env}, mtE M sc e x = true → ∀ whole, isTrue x env whole = (do let v ← whole; standAt x.pos; holding [v] (truthy v)))
    (hl : ∀ {sc : Scope} {xs : List Expr}, mtL M sc e xs = false) : PX M C CI k e :=
  ⟨pe, fun f h => pt_of (pe (fr := false) f h (fun z => by cases z)) (he h), fun _ h => (by rw [hl] at h; cases h), fun _ h => (by rw [hl] at h; cases h), fun _ h => (by rw [hl] at h; cases h)⟩
theorem PX.both {e : VI.E} (pe : ∀ {A : Amb} {X : Cx} {Ex : XK} {sc : Scope} {tb : Str → Bool} {x : Expr}, Fit M C CI k tb sc A X Ex → mtE M sc e x = true → PE X x (tD A Ex false (ev M.T C CI e)) ∧ PT X x (tT A Ex (ev M.T C CI e)))
    (hm : mkE e = false) (hl : ∀ {sc : Scope} {xs : List Expr}, mtL M sc e xs = false) : PX M C CI k e :=
  ⟨fun {A X Ex sc tb x fr} f h z => by
    cases fr with
    | true => rw [hm] at z; cases z rfl
    | false => exact (pe f h).1, fun f h => (pe f h).2, fun _ h => (by rw [hl] at h; cases h), fun _ h => (by rw [hl] at h; cases h), fun _ h => (by rw [hl] at h; cases h)⟩
theorem PX.none {e : VI.E} (h1 : ∀ {sc : Scope} {x : Expr}, mtE M sc e x = false) (h2 : ∀ {sc : Scope} {xs : List Expr}, mtL M sc e xs = false) : PX M C CI k e :=
  ⟨fun _ h => (by rw [h1] at h; cases h), fun _ h => (by rw [h1] at h; cases h), fun _ h => (by rw [h2] at h; cases h), fun _ h => (by rw [h2] at h; cases h), fun _ h => (by rw [h2] at h; cases h)⟩
theorem varB_ok {N : List Str} {sc : Scope} {i : Nat} {x : Str} (h : varB N sc i x = true) : N[i]? = some x ∧ visB sc x = true ∧ (x == ("__debug__" : Str)) = false ∧ (x == ("__classdict__" : Str)) = false := by
  unfold varB at h
  simp only [Bool.and_eq_true, decide_eq_true_eq, Bool.not_eq_true'] at h
  exact ⟨h.1.1.1, h.1.1.2, h.1.2, h.2⟩
theorem Fit.units (f : Fit M C CI k tb sc A X Ex) : X.A.units + 65 < cLine := by have := f.good.room.un; omega
theorem px_var (i : Nat) : PX M C CI k (.var i) := by
  refine .plain (fun {A X Ex sc tb x fr} f h z => ?_) (fun {sc x env} h => ?_) (fun {sc xs} => by simp [mtL])
  · simp only [mtE] at h
    replace h := V?_ok h; obtain ⟨s, e1, h⟩ := h
    obtain ⟨p, rfl⟩ := vName_ok e1
    obtain ⟨h1, h2, h3, h4⟩ := varB_ok h
    cases fr with
    | true => cases z rfl
    | false => exact r_var (by rw [← f.N]; exact h1) (by rw [f.sc]; exact h2) h3 h4
  · simp only [mtE] at h
    replace h := V?_ok h; obtain ⟨s, e1, h⟩ := h
    obtain ⟨p, rfl⟩ := vName_ok e1
    intro _; rfl
theorem px_glob (x : String) : PX M C CI k (.glob x) := by
  refine .plain (fun {A X Ex sc tb x fr} f h z => ?_) (fun {sc x env} h => ?_) (fun {sc xs} => by simp [mtL])
  · simp only [mtE] at h
    replace h := V?_ok h; obtain ⟨s, e1, h⟩ := h
    obtain ⟨p, rfl⟩ := vName_ok e1
    simp only [Bool.and_eq_true, decide_eq_true_eq] at h
    obtain ⟨⟨rfl, h2⟩, h3⟩ := h
    obtain ⟨d, e2⟩ := Option.isSome_iff_exists.mp h3
    obtain ⟨u, v, e3, e4, e5⟩ := f.good.calls.glo _ d e2
    rw [← f.sc] at h2
    obtain ⟨g1, g2, g3⟩ := glB_ok h2
    cases fr with
    | true => cases z rfl
    | false =>
      have := r_con (A := A) (E := Ex) (pe_glob (pos := p) g1 e3 e4 g2) e5
      exact pe_imp this fun σ H Q ⟨σD, hh, m, o, S, q⟩ => ⟨σD, hh, m, o, S, by
        have q : KD A false σD m o σ H Q Ex (Res.of (M.T.gl _) hh) := q
        rw [e2] at q; exact q⟩
  · simp only [mtE] at h
    replace h := V?_ok h; obtain ⟨s, e1, h⟩ := h
    obtain ⟨p, rfl⟩ := vName_ok e1
    intro _; rfl
theorem px_cint (i : Int) : PX M C CI k (.cint i) := by
  have key : ∀ {sc x}, mtE M sc (.cint i) x = true → ∃ kk p, x = .Constant (.int i) kk p := fun {sc x} h => by
    simp only [mtE] at h
    replace h := V?_ok h; obtain ⟨s, e1, h⟩ := h
    obtain ⟨kk, p, rfl⟩ := vConst_ok e1
    split at h
    · simp only [decide_eq_true_eq] at h; subst h; exact ⟨_, _, rfl⟩
    · cases h
  refine .plain (fun {A X Ex sc tb x fr} f h z => ?_) (fun {sc x env} h => ?_) (fun {sc xs} => by simp [mtL])
  · obtain ⟨kk, p, rfl⟩ := key h
    cases fr with
    | true => cases z rfl
    | false => exact r_con pe_int fun _ _ _ => .int i
  · obtain ⟨kk, p, rfl⟩ := key h
    intro _; rfl
theorem px_cbl (b : Bool) : PX M C CI k (.cbl b) := by
  have key : ∀ {sc x}, mtE M sc (.cbl b) x = true → ∃ kk p, x = .Constant (.bool b) kk p := fun {sc x} h => by
    simp only [mtE] at h
    replace h := V?_ok h; obtain ⟨s, e1, h⟩ := h
    obtain ⟨kk, p, rfl⟩ := vConst_ok e1
    split at h
    · rw [beq_iff_eq] at h; subst h; exact ⟨_, _, rfl⟩
    · cases h
  refine .plain (fun {A X Ex sc tb x fr} f h z => ?_) (fun {sc x env} h => ?_) (fun {sc xs} => by simp [mtL])
  · obtain ⟨kk, p, rfl⟩ := key h
    cases fr with
    | true => cases z rfl
    | false => exact r_con pe_bl fun _ _ _ => .bl b
  · obtain ⟨kk, p, rfl⟩ := key h
    intro _; rfl
theorem px_cnon : PX M C CI k .cnon := by
  have key : ∀ {sc x}, mtE M sc .cnon x = true → ∃ kk p, x = .Constant .none kk p := fun {sc x} h => by
    simp only [mtE] at h
    replace h := V?_ok h; obtain ⟨s, e1, h⟩ := h
    obtain ⟨kk, p, rfl⟩ := vConst_ok e1
    split at h
    · exact ⟨_, _, rfl⟩
    · cases h
  refine .plain (fun {A X Ex sc tb x fr} f h z => ?_) (fun {sc x env} h => ?_) (fun {sc xs} => by simp [mtL])
  · obtain ⟨kk, p, rfl⟩ := key h
    cases fr with
    | true => cases z rfl
    | false => exact r_con pe_non fun _ _ _ => .non
  · obtain ⟨kk, p, rfl⟩ := key h
    intro _; rfl
theorem px_cstr (y : String) : PX M C CI k (.cstr y) := by
  have key : ∀ {sc x}, mtE M sc (.cstr y) x = true → ∃ kk p, x = .Constant (.str (ofS y)) kk p := fun {sc x} h => by
    simp only [mtE] at h
    replace h := V?_ok h; obtain ⟨s, e1, h⟩ := h
    obtain ⟨kk, p, rfl⟩ := vConst_ok e1
    split at h
    · simp only [decide_eq_true_eq] at h; subst h; exact ⟨_, _, rfl⟩
    · cases h
  refine .plain (fun {A X Ex sc tb x fr} f h z => ?_) (fun {sc x env} h => ?_) (fun {sc xs} => by simp [mtL])
  · obtain ⟨kk, p, rfl⟩ := key h
    cases fr with
    | true => cases z rfl
    | false => exact r_con pe_str fun _ _ _ => .str _
  · obtain ⟨kk, p, rfl⟩ := key h
    intro _; rfl
theorem px_tup {a : VI.E} (ha : PX M C CI k a) : PX M C CI k (.tup a) := by
  refine .plain (fun {A X Ex sc tb x fr} f h z => ?_) (fun {sc x env} h => ?_) (fun {sc xs} => by simp [mtL])
  · simp only [mtE] at h
    replace h := V?_ok h; obtain ⟨s, e1, h⟩ := h
    obtain ⟨kk, p, rfl⟩ := vTup_ok e1
    cases fr with
    | true => cases z rfl
    | false => exact r_tup (ha.pa f h)
  · simp only [mtE] at h
    replace h := V?_ok h; obtain ⟨s, e1, h⟩ := h
    obtain ⟨kk, p, rfl⟩ := vTup_ok e1
    intro _; rfl
theorem px_lst {a : VI.E} (ha : PX M C CI k a) : PX M C CI k (.lst a) := by
  refine .plain (fun {A X Ex sc tb x fr} f h z => ?_) (fun {sc x env} h => ?_) (fun {sc xs} => by simp [mtL])
  · simp only [mtE] at h
    replace h := V?_ok h; obtain ⟨s, e1, h⟩ := h
    obtain ⟨p, rfl⟩ := vList_ok e1
    exact r_lst (ha.pa f h)
  · simp only [mtE] at h
    replace h := V?_ok h; obtain ⟨s, e1, h⟩ := h
    obtain ⟨p, rfl⟩ := vList_ok e1
    intro _; rfl
theorem px_bin {o : BOp} {a b : VI.E} (ha : PX M C CI k a) (hb : PX M C CI k b) : PX M C CI k (.bin o a b) := by
  refine .plain (fun {A X Ex sc tb x fr} f h z => ?_) (fun {sc x env} h => ?_) (fun {sc xs} => by simp [mtL])
  · simp only [mtE] at h
    replace h := V?_ok h; obtain ⟨⟨x, op, y⟩, e1, h⟩ := h
    obtain ⟨p, rfl⟩ := vBin_ok e1
    simp only [Bool.and_eq_true, decide_eq_true_eq] at h
    obtain ⟨⟨rfl, h1⟩, h2⟩ := h
    cases fr with
    | true => cases z rfl
    | false => exact r_bin (bin_all f.good.K o) (ha.pe f h1 (fun z => by cases z)) (hb.pe f h2 (fun z => by cases z))
  · simp only [mtE] at h
    replace h := V?_ok h; obtain ⟨⟨x, op, y⟩, e1, h⟩ := h
    obtain ⟨p, rfl⟩ := vBin_ok e1
    intro _; rfl
theorem px_lbin {o : BOp} {a b : VI.E} (ha : PX M C CI k a) (hb : PX M C CI k b) : PX M C CI k (.lbin o a b) := by
  refine .plain (fun {A X Ex sc tb x fr} f h z => ?_) (fun {sc x env} h => ?_) (fun {sc xs} => by simp [mtL])
  · simp only [mtE] at h
    replace h := V?_ok h; obtain ⟨⟨x, op, y⟩, e1, h⟩ := h
    obtain ⟨p, rfl⟩ := vBin_ok e1
    simp only [Bool.and_eq_true, Bool.or_eq_true, decide_eq_true_eq] at h
    obtain ⟨⟨⟨rfl, h1⟩, h2⟩, h3⟩ := h
    rcases h3 with rfl | rfl
    · exact r_bin (lbin_add f.good.K) (ha.pe f h1 (fun z => by cases z)) (hb.pe f h2 (fun z => by cases z))
    · exact r_bin (lbin_mul f.good.K) (ha.pe f h1 (fun z => by cases z)) (hb.pe f h2 (fun z => by cases z))
  · simp only [mtE] at h
    replace h := V?_ok h; obtain ⟨⟨x, op, y⟩, e1, h⟩ := h
    obtain ⟨p, rfl⟩ := vBin_ok e1
    intro _; rfl
theorem px_neg {a : VI.E} (ha : PX M C CI k a) : PX M C CI k (.neg a) := by
  refine .plain (fun {A X Ex sc tb x fr} f h z => ?_) (fun {sc x env} h => ?_) (fun {sc xs} => by simp [mtL])
  · simp only [mtE] at h
    replace h := V?_ok h; obtain ⟨⟨op, x⟩, e1, h⟩ := h
    obtain ⟨p, rfl⟩ := vUn_ok e1
    simp only [Bool.and_eq_true] at h
    obtain ⟨h0, h1⟩ := h
    cases op <;> simp only [Bool.false_eq_true] at h0
    cases fr with
    | true => cases z rfl
    | false => exact r_neg (ha.pe f h1 (fun z => by cases z))
  · simp only [mtE] at h
    replace h := V?_ok h; obtain ⟨⟨op, x⟩, e1, h⟩ := h
    obtain ⟨p, rfl⟩ := vUn_ok e1
    simp only [Bool.and_eq_true] at h
    obtain ⟨h0, h1⟩ := h
    cases op <;> simp only [Bool.false_eq_true] at h0
    intro _; rfl
theorem px_cmp {o : COp} {a b : VI.E} (ha : PX M C CI k a) (hb : PX M C CI k b) : PX M C CI k (.cmp o a b) := by
  refine .both (fun {A X Ex sc tb x} f h => ?_) rfl (fun {sc xs} => by simp [mtL])
  simp only [mtE] at h
  replace h := V?_ok h; obtain ⟨⟨x, op, y⟩, e1, h⟩ := h
  obtain ⟨p, rfl⟩ := vCmp_ok e1
  simp only [Bool.and_eq_true, decide_eq_true_eq, Bool.not_eq_true'] at h
  obtain ⟨⟨⟨rfl, h1⟩, h2⟩, h3⟩ := h
  exact r_cmp (cmp_all f.units f.good.K o) (ha.pe f h1 (fun z => by cases z)) (hb.pe f h2 (fun z => by cases z)) h3
theorem px_chain {o q : COp} {a b c : VI.E} (ha : PX M C CI k a) (hb : PX M C CI k b) (hc : PX M C CI k c) : PX M C CI k (.chain o q a b c) := by
  refine .both (fun {A X Ex sc tb x} f h => ?_) rfl (fun {sc xs} => by simp [mtL])
  simp only [mtE] at h
  replace h := V?_ok h; obtain ⟨⟨x, op, oq, y, z⟩, e1, h⟩ := h
  obtain ⟨p, rfl⟩ := vCmp2_ok e1
  simp only [Bool.and_eq_true, decide_eq_true_eq, Bool.not_eq_true'] at h
  obtain ⟨⟨⟨⟨⟨rfl, rfl⟩, h1⟩, h2⟩, h3⟩, h4⟩ := h
  exact r_chain (cmp_all f.units f.good.K o) (cmp_all f.units f.good.K q) (ha.pe f h1 (fun z => by cases z)) (hb.pe f h2 (fun z => by cases z)) (hc.pe f h3 (fun z => by cases z)) h4
theorem px_isN {a : VI.E} (ha : PX M C CI k a) : PX M C CI k (.isN a) := by
  refine .both (fun {A X Ex sc tb x} f h => ?_) rfl (fun {sc xs} => by simp [mtL])
  simp only [mtE] at h
  replace h := V?_ok h; obtain ⟨⟨x, op, y⟩, e1, h⟩ := h
  obtain ⟨p, rfl⟩ := vCmp_ok e1
  simp only [Bool.and_eq_true, decide_eq_true_eq] at h
  obtain ⟨⟨rfl, h1⟩, h2⟩ := h
  replace h2 := V?_ok h2; obtain ⟨c, e2, h2⟩ := h2
  obtain ⟨kk, p2, rfl⟩ := vConst_ok e2
  cases c <;> simp only [Bool.false_eq_true] at h2
  exact r_is is_non (ha.pe f h1 (fun z => by cases z)) pe_non (nomark _ (by decide) (by decide))
theorem px_notN {a : VI.E} (ha : PX M C CI k a) : PX M C CI k (.notN a) := by
  refine .both (fun {A X Ex sc tb x} f h => ?_) rfl (fun {sc xs} => by simp [mtL])
  simp only [mtE] at h
  replace h := V?_ok h; obtain ⟨⟨x, op, y⟩, e1, h⟩ := h
  obtain ⟨p, rfl⟩ := vCmp_ok e1
  simp only [Bool.and_eq_true, decide_eq_true_eq] at h
  obtain ⟨⟨rfl, h1⟩, h2⟩ := h
  replace h2 := V?_ok h2; obtain ⟨c, e2, h2⟩ := h2
  obtain ⟨kk, p2, rfl⟩ := vConst_ok e2
  cases c <;> simp only [Bool.false_eq_true] at h2
  exact r_is not_non (ha.pe f h1 (fun z => by cases z)) pe_non (nomark _ (by decide) (by decide))
theorem px_isB {v : Bool} {a : VI.E} (ha : PX M C CI k a) : PX M C CI k (.isB v a) := by
  refine .both (fun {A X Ex sc tb x} f h => ?_) rfl (fun {sc xs} => by simp [mtL])
  simp only [mtE] at h
  replace h := V?_ok h; obtain ⟨⟨x, op, y⟩, e1, h⟩ := h
  obtain ⟨p, rfl⟩ := vCmp_ok e1
  simp only [Bool.and_eq_true, decide_eq_true_eq] at h
  obtain ⟨⟨rfl, h1⟩, h2⟩ := h
  replace h2 := V?_ok h2; obtain ⟨c, e2, h2⟩ := h2
  obtain ⟨kk, p2, rfl⟩ := vConst_ok e2
  cases c <;> simp only [Bool.false_eq_true] at h2
  rw [beq_iff_eq] at h2
  subst h2
  exact r_is is_bl (ha.pe f h1 (fun z => by cases z)) pe_bl (nomark _ (by decide) (by decide))
theorem px_notB {v : Bool} {a : VI.E} (ha : PX M C CI k a) : PX M C CI k (.notB v a) := by
  refine .both (fun {A X Ex sc tb x} f h => ?_) rfl (fun {sc xs} => by simp [mtL])
  simp only [mtE] at h
  replace h := V?_ok h; obtain ⟨⟨x, op, y⟩, e1, h⟩ := h
  obtain ⟨p, rfl⟩ := vCmp_ok e1
  simp only [Bool.and_eq_true, decide_eq_true_eq] at h
  obtain ⟨⟨rfl, h1⟩, h2⟩ := h
  replace h2 := V?_ok h2; obtain ⟨c, e2, h2⟩ := h2
  obtain ⟨kk, p2, rfl⟩ := vConst_ok e2
  cases c <;> simp only [Bool.false_eq_true] at h2
  rw [beq_iff_eq] at h2
  subst h2
  exact r_is not_bl (ha.pe f h1 (fun z => by cases z)) pe_bl (nomark _ (by decide) (by decide))
theorem px_inR {ng : Bool} {a b : VI.E} (ha : PX M C CI k a) (hb : PX M C CI k b) : PX M C CI k (.inR ng a b) := by
  refine .both (fun {A X Ex sc tb x} f h => ?_) rfl (fun {sc xs} => by simp [mtL])
  simp only [mtE] at h
  replace h := V?_ok h; obtain ⟨⟨x, op, y⟩, e1, h⟩ := h
  obtain ⟨p, rfl⟩ := vCmp_ok e1
  simp only [Bool.and_eq_true, decide_eq_true_eq, Bool.not_eq_true'] at h
  obtain ⟨⟨⟨⟨rfl, h0⟩, h1⟩, h2⟩, h3⟩ := h
  replace h3 := V?_ok h3; obtain ⟨es, e2, h3⟩ := h3
  obtain ⟨p2, p3, rfl, hg⟩ := vBi_ok e2
  rw [Bool.and_eq_true, beq_iff_eq] at h3
  obtain ⟨hl, h3⟩ := h3
  rw [← f.sc] at hg
  cases es with
  | nil => cases hl
  | cons y ys =>
    exact r_inR (y' := y) (r := "range") (glB_ok hg).1 (f.good.calls.bnm "range" (by decide)) (ha.pe f h1 (fun z => by cases z)) (hb.pa f h3) (mtL_star h3) h2
theorem px_not {a : VI.E} (ha : PX M C CI k a) : PX M C CI k (.not a) := by
  refine .both (fun {A X Ex sc tb x} f h => ?_) rfl (fun {sc xs} => by simp [mtL])
  simp only [mtE] at h
  replace h := V?_ok h; obtain ⟨⟨op, x⟩, e1, h⟩ := h
  obtain ⟨p, rfl⟩ := vUn_ok e1
  simp only [Bool.and_eq_true] at h
  obtain ⟨h0, h1⟩ := h
  cases op <;> simp only [Bool.false_eq_true] at h0
  exact ⟨r_notV (ha.pe f h1 (fun z => by cases z)), r_not (ha.pt f h1)⟩
theorem px_and {a : VI.E} (ha : PX M C CI k a) : PX M C CI k (.and a) := by
  refine .both (fun {A X Ex sc tb x} f h => ?_) rfl (fun {sc xs} => by simp [mtL])
  simp only [mtE] at h
  replace h := V?_ok h; obtain ⟨⟨op, es⟩, e1, h⟩ := h
  obtain ⟨p, rfl⟩ := vBool_ok e1
  simp only [Bool.and_eq_true] at h
  obtain ⟨h0, h1⟩ := h
  cases op <;> simp only [Bool.false_eq_true] at h0
  exact ⟨(ha.an f h1).1, (ha.an f h1).2.pt⟩
theorem px_or {a : VI.E} (ha : PX M C CI k a) : PX M C CI k (.or a) := by
  refine .both (fun {A X Ex sc tb x} f h => ?_) rfl (fun {sc xs} => by simp [mtL])
  simp only [mtE] at h
  replace h := V?_ok h; obtain ⟨⟨op, es⟩, e1, h⟩ := h
  obtain ⟨p, rfl⟩ := vBool_ok e1
  simp only [Bool.and_eq_true] at h
  obtain ⟨h0, h1⟩ := h
  cases op <;> simp only [Bool.false_eq_true] at h0
  exact ⟨(ha.or f h1).1, (ha.or f h1).2.pt⟩
theorem px_ife {c a b : VI.E} (hc : PX M C CI k c) (ha : PX M C CI k a) (hb : PX M C CI k b) : PX M C CI k (.ife c a b) := by
  refine .both (fun {A X Ex sc tb x} f h => ?_) rfl (fun {sc xs} => by simp [mtL])
  simp only [mtE] at h
  replace h := V?_ok h; obtain ⟨⟨z', x, y⟩, e1, h⟩ := h
  obtain ⟨p, rfl⟩ := vIf_ok e1
  simp only [Bool.and_eq_true] at h
  refine ⟨r_ife (hc.pt f h.1.1) (ha.pe f h.1.2 (fun z => by cases z)) (hb.pe f h.2 (fun z => by cases z)), r_ifeT (hc.pt f h.1.1) (ha.pt f h.1.2) (hb.pt f h.2)⟩
theorem px_ix {a b : VI.E} (ha : PX M C CI k a) (hb : PX M C CI k b) : PX M C CI k (.ix a b) := by
  refine .plain (fun {A X Ex sc tb x fr} f h z => ?_) (fun {sc x env} h => ?_) (fun {sc xs} => by simp [mtL])
  · simp only [mtE] at h
    replace h := V?_ok h; obtain ⟨⟨x, y⟩, e1, h⟩ := h
    obtain ⟨p, rfl⟩ := vSub_ok e1
    simp only [Bool.and_eq_true] at h
    cases fr with
    | true => cases z rfl
    | false => exact r_ix (by have := f.units; omega) f.good.K (ha.pe f h.1.1 (fun z => by cases z)) (hb.pe f h.1.2 (fun z => by cases z)) h.2
  · simp only [mtE] at h
    replace h := V?_ok h; obtain ⟨⟨x, y⟩, e1, h⟩ := h
    obtain ⟨p, rfl⟩ := vSub_ok e1
    intro _; rfl
theorem px_ixo {i : Nat} {b : VI.E} (hb : PX M C CI k b) : PX M C CI k (.ixo i b) := by
  refine .plain (fun {A X Ex sc tb x fr} f h z => ?_) (fun {sc x env} h => ?_) (fun {sc xs} => by simp [mtL])
  · simp only [mtE] at h
    replace h := V?_ok h; obtain ⟨⟨x, y⟩, e1, h⟩ := h
    obtain ⟨p, rfl⟩ := vSub_ok e1
    simp only [Bool.and_eq_true] at h
    obtain ⟨⟨h0, h1⟩, h2⟩ := h
    replace h0 := V?_ok h0; obtain ⟨s, e2, h0⟩ := h0
    obtain ⟨p2, rfl⟩ := vName_ok e2
    obtain ⟨g1, g2, g3, g4⟩ := varB_ok h0
    cases fr with
    | true => cases z rfl
    | false => exact r_ixo (by have := f.units; omega) (by rw [← f.N]; exact g1) (by rw [f.sc]; exact g2) g3 g4 (hb.pe f h1 (fun z => by cases z)) h2
  · simp only [mtE] at h
    replace h := V?_ok h; obtain ⟨⟨x, y⟩, e1, h⟩ := h
    obtain ⟨p, rfl⟩ := vSub_ok e1
    intro _; rfl
theorem px_call {g : String} {a : VI.E} (ha : PX M C CI k a) : PX M C CI k (.call g a) := by
  refine .plain (fun {A X Ex sc tb x fr} f h z => ?_) (fun {sc x env} h => ?_) (fun {sc xs} => by simp [mtL])
  · simp only [mtE] at h
    replace h := V?_ok h; obtain ⟨⟨s, es⟩, e1, h⟩ := h
    obtain ⟨p, p2, rfl⟩ := vCall_ok e1
    simp only [Bool.and_eq_true, decide_eq_true_eq] at h
    obtain ⟨⟨⟨rfl, h1⟩, h2⟩, h3⟩ := h
    replace h2 := V?_ok h2; obtain ⟨fd, e2, h2⟩ := h2
    have h2 : fd.cls = none := Option.isNone_iff_eq_none.mp h2
    cases fr with
    | true => cases z rfl
    | false =>
      rw [← f.sc] at h1
      cases es with
      | nil =>
        have : a = .nil := by
          cases a <;> simp [mtL] at h3 <;> rfl
        subst this
        exact r_call0 f.good e2 h2 rfl h1
      | cons y ys => exact r_call f.good e2 h2 rfl h1 (ha.pa f h3) (mtL_star h3)
  · simp only [mtE] at h
    replace h := V?_ok h; obtain ⟨⟨s, es⟩, e1, h⟩ := h
    obtain ⟨p, p2, rfl⟩ := vCall_ok e1
    intro _; rfl
theorem px_bi {b : String} {a : VI.E} (ha : PX M C CI k a) : PX M C CI k (.bi b a) := by
  refine .plain (fun {A X Ex sc tb x fr} f h z => ?_) (fun {sc x env} h => ?_) (fun {sc xs} => by simp [mtL])
  · simp only [mtE] at h
    replace h := V?_ok h; obtain ⟨n, e1, h⟩ := h
    replace h := V?_ok h; obtain ⟨es, e2, h⟩ := h
    obtain ⟨p, p2, rfl, hg⟩ := vBi_ok e2
    rw [Bool.and_eq_true] at h
    obtain ⟨h1, h2⟩ := h
    rw [← f.sc] at hg
    cases es with
    | nil => cases h1
    | cons y ys => exact r_bi f.good e1 (fun q => mkE_bi (z q)) hg (ha.pa f h2) (mtL_star h2)
  · simp only [mtE] at h
    replace h := V?_ok h; obtain ⟨n, e1, h⟩ := h
    replace h := V?_ok h; obtain ⟨es, e2, h⟩ := h
    obtain ⟨p, p2, rfl, hg⟩ := vBi_ok e2
    intro _; rfl
theorem px_isi {a : VI.E} {cs : List String} (ha : PX M C CI k a) : PX M C CI k (.isi a cs) := by
  refine .plain (fun {A X Ex sc tb x fr} f h z => ?_) (fun {sc x env} h => ?_) (fun {sc xs} => by simp [mtL])
  · simp only [mtE] at h
    replace h := V?_ok h; obtain ⟨es, e2, h⟩ := h
    obtain ⟨p, p2, rfl, hg⟩ := vBi_ok e2
    split at h
    · rename_i x y c
      simp only [Bool.and_eq_true] at h
      obtain ⟨⟨h1, h2⟩, h3⟩ := h
      replace h3 := V?_ok h3; obtain ⟨t, e3, h3⟩ := h3
      obtain ⟨p3, rfl⟩ := vName_ok e3
      simp only [Bool.and_eq_true, decide_eq_true_eq] at h3
      obtain ⟨⟨h3, rfl⟩, h4⟩ := h3
      rw [← f.sc] at hg h4
      cases fr with
      | true => cases z rfl
      | false => exact r_isi f.good h3 hg h4 (ha.pe f h1 (fun z => by cases z)) h2
    · cases h
  · simp only [mtE] at h
    replace h := V?_ok h; obtain ⟨es, e2, h⟩ := h
    obtain ⟨p, p2, rfl, hg⟩ := vBi_ok e2
    intro _; rfl
theorem px_cell {a : VI.E} (ha : PX M C CI k a) : PX M C CI k (.cell a) := by
  refine ⟨fun {A X Ex sc tb x fr} f h z => ?_, fun {A X Ex sc tb x} f h => ?_, fun _ h => (by simp [mtL] at h), fun _ h => (by simp [mtL] at h), fun _ h => (by simp [mtL] at h)⟩
  · simp only [mtE, Bool.and_eq_true] at h
    cases fr with
    | true => cases z rfl
    | false => exact r_cell (ha.pe f h.2 fun _ => h.1)
  · simp only [mtE, Bool.and_eq_true] at h
    refine pt_imp (ha.pt f h.2) fun σ H Q ⟨σD, hh, m, o, S, q⟩ => ⟨σD, hh, m, o, S, ?_⟩
    have q : KB A σD m o σ H Q Ex ((ev M.T C CI a σD hh).bind fun v h => match v with
      | .lst xs => .ok (.ref h.length) (h ++ [.lst xs])
      | _ => .bad) := q
    cases e : ev M.T C CI a σD hh with
    | bad => rw [e] at q; exact q
    | ex c fs h' => rw [e] at q; exact q
    | ok d h1 =>
      rw [e] at q
      cases d <;> exact q.elim
theorem px_nil : PX M C CI k .nil := by
  refine ⟨fun _ h => (by simp [mtE] at h), fun _ h => (by simp [mtE] at h), fun {A X Ex sc tb xs} f h => ?_, fun {A X Ex sc tb xs pos} f h => ?_, fun {A X Ex sc tb xs pos} f h => ?_⟩
  · rw [mtL_nil h]
    exact r_nil
  · exact ⟨⟨fun _ _ _ _ _ _ ⟨σD, hh, m, o, S, q⟩ => (q : False).elim⟩, ⟨fun _ _ _ _ _ _ _ ⟨σD, hh, m, o, S, q⟩ => (q : False).elim⟩⟩
  · exact ⟨⟨fun _ _ _ _ _ _ ⟨σD, hh, m, o, S, q⟩ => (q : False).elim⟩, ⟨fun _ _ _ _ _ _ _ ⟨σD, hh, m, o, S, q⟩ => (q : False).elim⟩⟩
theorem evA_cons {e r : VI.E} (hr : r ≠ .nil) : evA M.T C CI (.cons e r) = fun σ h => (ev M.T C CI e σ h).tst fun b h => if b then evA M.T C CI r σ h else .ok (.bl false) h := by
  funext σ h
  cases r <;> first | rfl | exact absurd rfl hr
theorem evO_cons {e r : VI.E} (hr : r ≠ .nil) : evO M.T C CI (.cons e r) = fun σ h => (ev M.T C CI e σ h).tst fun b h => if b then .ok (.bl true) h else evO M.T C CI r σ h := by
  funext σ h
  cases r <;> first | rfl | exact absurd rfl hr
theorem mtL_ne {r : VI.E} {y : Expr} {ys : List Expr} (h : mtL M sc r (y :: ys) = true) : r ≠ .nil := fun e => by
  subst e
  simp [mtL] at h
theorem px_cons {e r : VI.E} (he : PX M C CI k e) (hr : PX M C CI k r) : PX M C CI k (.cons e r) := by
  refine ⟨fun _ h => (by simp [mtE] at h), fun _ h => (by simp [mtE] at h), fun {A X Ex sc tb xs} f h => ?_, fun {A X Ex sc tb xs pos} f h => ?_, fun {A X Ex sc tb xs pos} f h => ?_⟩
  · obtain ⟨x, xs, rfl, h1, h2, h3⟩ := mtL_cons h
    exact r_cons (he.pe f h1 (fun z => by cases z)) (hr.pa f h3) h2
  · obtain ⟨x, xs, rfl, h1, h2, h3⟩ := mtL_cons h
    cases xs with
    | nil =>
      have : r = .nil := by cases r <;> simp [mtL] at h3 <;> rfl
      subst this
      exact ⟨r_and1 (he.pe f h1 (fun z => by cases z)), w_and1 (he.pt f h1)⟩
    | cons y ys =>
      rw [evA_cons (mtL_ne h3)]
      exact ⟨r_and (he.pe f h1 (fun z => by cases z)) (hr.an f h3).1, w_and (he.pt f h1) (hr.an f h3).2⟩
  · obtain ⟨x, xs, rfl, h1, h2, h3⟩ := mtL_cons h
    cases xs with
    | nil =>
      have : r = .nil := by cases r <;> simp [mtL] at h3 <;> rfl
      subst this
      exact ⟨r_or1 (he.pe f h1 (fun z => by cases z)), w_or1 (he.pt f h1)⟩
    | cons y ys =>
      rw [evO_cons (mtL_ne h3)]
      exact ⟨r_or (he.pe f h1 (fun z => by cases z)) (hr.or f h3).1, w_or (he.pt f h1) (hr.or f h3).2⟩
/-- what is walked: the one value of a list of one -/
theorem PX.one {e : VI.E} (hp : PX M C CI k (.cons e .nil)) (f : Fit M C CI k tb sc A X Ex) {x : Expr} (h : mtE M sc e x = true) (hs : PE X x (tD A Ex false (ev M.T C CI e))) : PI X x x (tI A Ex .val fun σ h => (ev M.T C CI e σ h).bind fun v h => .ok [v] h) := pi_val f.good.K hs
/-- .. by parts -/
structure PXI (M : Mt) (C : String → List D → AH → Res D) (CI : String → List D → AH → Res (List (String × D))) (k : Nat) (e : VI.E) : Prop where
  pi : ∀ {A : Amb} {X : Cx} {Ex : XK} {sc : Scope} {tb : Str → Bool} {tg x : Expr}, Fit M C CI k tb sc A X Ex → mtI1 M sc e x = true → PI X tg x (tI A Ex .val (evs M.T C CI e))
theorem pxi_cons {e r : VI.E} (he : PX M C CI k e) : PXI M C CI k (.cons e r) := ⟨fun {A X Ex sc tb tg x} f h => by
  simp only [mtI1, Bool.and_eq_true, decide_eq_true_eq] at h
  obtain ⟨h1, rfl⟩ := h
  exact pi_val f.good.K (he.pe f h1 (fun z => by cases z))⟩
theorem isTup_ok {tg : Expr} (h : isTup tg = true) : ∃ es kk p, tg = .Tuple es kk p := by
  cases tg <;> first | exact ⟨_, _, _, rfl⟩ | cases h
theorem pi_it {kk : IK} {a : VI.E} {tg x : Expr} (ha : PX M C CI k a) (hi : PXI M C CI k a) (f : Fit M C CI k tb sc A X Ex) (h : mtIt kk (fun x => mtI1 M sc a x) (fun es => mtL M sc a es) sc tg x = true) : PI X tg x (tI A Ex kk (evs M.T C CI a)) := by
  cases kk with
  | val => exact hi.pi f h
  | rng1 =>
    simp only [mtIt] at h
    replace h := V?_ok h; obtain ⟨es, e2, h⟩ := h
    obtain ⟨p, p2, rfl, hg⟩ := vBi_ok e2
    simp only [Bool.and_eq_true, beq_iff_eq] at h
    rw [← f.sc] at hg
    match es, h with
    | [y], h =>
      have hs := mtL_star h.2
      rw [List.all_cons, Bool.and_eq_true] at hs
      exact pi_rng1 (glB_ok hg).1 (f.good.calls.bnm "range" (by decide)) (ha.pa f h.2) hs.1
    | [], h => cases h.1
    | _ :: _ :: _, h => cases h.1
  | rng2 =>
    simp only [mtIt] at h
    replace h := V?_ok h; obtain ⟨es, e2, h⟩ := h
    obtain ⟨p, p2, rfl, hg⟩ := vBi_ok e2
    simp only [Bool.and_eq_true, beq_iff_eq] at h
    rw [← f.sc] at hg
    match es, h with
    | [y, z], h =>
      have hs := mtL_star h.2
      rw [List.all_cons, List.all_cons, Bool.and_eq_true, Bool.and_eq_true] at hs
      exact pi_rng2 (glB_ok hg).1 (f.good.calls.bnm "range" (by decide)) (ha.pa f h.2) hs.1 hs.2.1
    | [], h => cases h.1
    | [_], h => cases h.1
    | _ :: _ :: _ :: _, h => cases h.1
  | enum =>
    simp only [mtIt, Bool.and_eq_true] at h
    obtain ⟨ht, h⟩ := h
    obtain ⟨es', kk, tp, rfl⟩ := isTup_ok ht
    replace h := V?_ok h; obtain ⟨es, e2, h⟩ := h
    obtain ⟨p, p2, rfl, hg⟩ := vBi_ok e2
    simp only [Bool.and_eq_true, beq_iff_eq] at h
    rw [← f.sc] at hg
    match es, h with
    | [y], h =>
      have hs := mtL_star h.2
      rw [List.all_cons, Bool.and_eq_true] at hs
      exact pi_enumL f.good.K (glB_ok hg).1 (f.good.calls.bnm "enumerate" (by decide)) (ha.pa f h.2) hs.1
    | [], h => cases h.1
    | _ :: _ :: _, h => cases h.1
  | zip =>
    simp only [mtIt, Bool.and_eq_true] at h
    obtain ⟨ht, h⟩ := h
    obtain ⟨es', kk, tp, rfl⟩ := isTup_ok ht
    replace h := V?_ok h; obtain ⟨es, e2, h⟩ := h
    obtain ⟨p, p2, rfl, hg⟩ := vBi_ok e2
    simp only [Bool.and_eq_true, beq_iff_eq] at h
    rw [← f.sc] at hg
    match es, h with
    | [y, z], h =>
      have hs := mtL_star h.2
      rw [List.all_cons, List.all_cons, Bool.and_eq_true, Bool.and_eq_true] at hs
      exact pi_zipL f.good.K (glB_ok hg).1 (f.good.calls.bnm "zip" (by decide)) (ha.pa f h.2) hs.1 hs.2.1
    | [], h => cases h.1
    | [_], h => cases h.1
    | _ :: _ :: _ :: _, h => cases h.1
/-- a comprehension's parts -/
theorem lc_parts {t : Tg} {kk : IK} {a c e : VI.E} (ha : PX M C CI k a) (hi : PXI M C CI k a) (hc : PX M C CI k c) (he : PX M C CI k e) {x : Expr} (f : Fit M C CI k tb sc A X Ex) (h : mtE M sc (.lc t kk a c e) x = true) :
    ∃ elt tg iter ifs scope p, x = .ListComp elt [⟨tg, iter, ifs, 0⟩] scope p ∧ PI X tg iter (tI A Ex kk (evs M.T C CI a)) ∧ BlkOk X.N X.env.scope scope (t.slots.map fun i => (M.N.getD i Str.empty, i)) ∧ (t.slots.map fun i => (M.N.getD i Str.empty, i)).map (·.2) = t.slots ∧
    (∀ (s : Shared) (H : Hp) (Ca : Addr) (cl : List (Str × Addr)) (fp : List Addr), PG (X.blk s H scope (compEnvC scope cl Ca X.env) fp) tg (gOf X.K t)) ∧
    (∀ (s : Shared) (H : Hp) (Ca : Addr) (cl : List (Str × Addr)) (fp : List Addr), PTs (X.blk s H scope (compEnvC scope cl Ca X.env) fp) ifs (uT A (ev M.T C CI c))) ∧
    (∀ (s : Shared) (H : Hp) (Ca : Addr) (cl : List (Str × Addr)) (fp : List Addr), PE (X.blk s H scope (compEnvC scope cl Ca X.env) fp) elt (uD A (ev M.T C CI e))) ∧ ∀ x, foldedSetIterable iter X.env x = pure x := by
  simp only [mtE] at h
  replace h := V?_ok h; obtain ⟨⟨elt, tg, iter, ifs, scope⟩, e2, h⟩ := h
  obtain ⟨p, rfl⟩ := vLc_ok e2
  simp only [Bool.and_eq_true] at h
  obtain ⟨⟨⟨⟨⟨h1, h2⟩, h3⟩, h4⟩, h5⟩, h6⟩ := h
  have hb : BlkOk X.N X.env.scope scope (t.slots.map fun i => (M.N.getD i Str.empty, i)) := by
    rw [← f.N, f.sc]; exact blkOk_by h1
  refine ⟨elt, tg, iter, ifs, scope, p, rfl, pi_it ha hi f h3, hb, by rw [List.map_map]; show t.slots.map (fun i => i) = _; simp, fun s H Ca cl fp => ?_, fun s H Ca cl fp => ?_, fun s H Ca cl fp => ?_, noSet_ok h6⟩
  · have fb := f.blk A.U scope s H Ca cl fp
    refine pg_of fb.good.calm fb.good.nd fb.good.tb t ?_
    rw [show (X.blk s H scope (compEnvC scope cl Ca X.env) fp).N = M.N from f.N.symm]
    exact h2
  · cases ifs with
    | nil =>
      have h4 : c = .yes := by simpa using h4
      subst h4
      refine ⟨fun pins s σ H Q I q => pts_nil.run pins s σ H Q I ?_⟩
      obtain ⟨U', σD, hh, m, o, S, q⟩ := q
      exact q m H Step.refl S
    | cons i ifs =>
      cases ifs with
      | nil =>
        exact pts_one ⟨fun pins s' σ H' Q I ⟨U', q⟩ => (hc.pt (f.blk U' scope s H Ca cl fp) h4).run pins s' σ H' Q I q⟩
      | cons _ _ => cases h4
  · exact ⟨fun pins s' σ H' Q I ⟨U', q⟩ => (he.pe (fr := false) (f.blk U' scope s H Ca cl fp) h5 (fun z => by cases z)).run pins s' σ H' Q I q⟩
theorem px_lc {t : Tg} {kk : IK} {a c e : VI.E} (ha : PX M C CI k a) (hi : PXI M C CI k a) (hc : PX M C CI k c) (he : PX M C CI k e) : PX M C CI k (.lc t kk a c e) := by
  refine .plain (fun {A X Ex sc tb x fr} f h z => ?_) (fun {sc x env} h => ?_) (fun {sc xs} => by simp [mtL])
  · obtain ⟨elt, tg, iter, ifs, scope, p, rfl, h1, h2, h3, h4, h5, h6, h7⟩ := lc_parts ha hi hc he f h
    exact pe_lc' f.good.calm f.good.nd f.good.K h1 h2 h3 h4 h5 h6 h7
  · simp only [mtE] at h
    replace h := V?_ok h; obtain ⟨⟨elt, tg, iter, ifs, scope⟩, e2, h⟩ := h
    obtain ⟨p, rfl⟩ := vLc_ok e2
    intro _; rfl
theorem px_all (e : VI.E) : PX M C CI k e ∧ PXI M C CI k e := by
  have no : ∀ {e : VI.E}, (∀ {sc : Scope} {x : Expr}, mtI1 M sc e x = false) → PXI M C CI k e := fun h => ⟨fun _ q => by rw [h] at q; cases q⟩
  induction e with
  | nil => exact ⟨px_nil, no (by simp [mtI1])⟩
  | cons e r he hr => exact ⟨px_cons he.1 hr.1, pxi_cons he.1⟩
  | var i => exact ⟨px_var i, no (by simp [mtI1])⟩
  | glob x => exact ⟨px_glob x, no (by simp [mtI1])⟩
  | cint i => exact ⟨px_cint i, no (by simp [mtI1])⟩
  | cbl i => exact ⟨px_cbl i, no (by simp [mtI1])⟩
  | cnon => exact ⟨px_cnon, no (by simp [mtI1])⟩
  | cstr i => exact ⟨px_cstr i, no (by simp [mtI1])⟩
  | tup a ha => exact ⟨px_tup ha.1, no (by simp [mtI1])⟩
  | lst a ha => exact ⟨px_lst ha.1, no (by simp [mtI1])⟩
  | cell a ha => exact ⟨px_cell ha.1, no (by simp [mtI1])⟩
  | bin o a b ha hb => exact ⟨px_bin ha.1 hb.1, no (by simp [mtI1])⟩
  | lbin o a b ha hb => exact ⟨px_lbin ha.1 hb.1, no (by simp [mtI1])⟩
  | neg a ha => exact ⟨px_neg ha.1, no (by simp [mtI1])⟩
  | cmp o a b ha hb => exact ⟨px_cmp ha.1 hb.1, no (by simp [mtI1])⟩
  | chain o p a b c ha hb hc => exact ⟨px_chain ha.1 hb.1 hc.1, no (by simp [mtI1])⟩
  | isN a ha => exact ⟨px_isN ha.1, no (by simp [mtI1])⟩
  | notN a ha => exact ⟨px_notN ha.1, no (by simp [mtI1])⟩
  | isB v a ha => exact ⟨px_isB ha.1, no (by simp [mtI1])⟩
  | notB v a ha => exact ⟨px_notB ha.1, no (by simp [mtI1])⟩
  | inR n a b ha hb => exact ⟨px_inR ha.1 hb.1, no (by simp [mtI1])⟩
  | and a ha => exact ⟨px_and ha.1, no (by simp [mtI1])⟩
  | or a ha => exact ⟨px_or ha.1, no (by simp [mtI1])⟩
  | not a ha => exact ⟨px_not ha.1, no (by simp [mtI1])⟩
  | ife c a b hc ha hb => exact ⟨px_ife hc.1 ha.1 hb.1, no (by simp [mtI1])⟩
  | ix a b ha hb => exact ⟨px_ix ha.1 hb.1, no (by simp [mtI1])⟩
  | ixo i b hb => exact ⟨px_ixo hb.1, no (by simp [mtI1])⟩
  | call f a ha => exact ⟨px_call ha.1, no (by simp [mtI1])⟩
  | bi b a ha => exact ⟨px_bi ha.1, no (by simp [mtI1])⟩
  | isi a cs ha => exact ⟨px_isi ha.1, no (by simp [mtI1])⟩
  | lc t kk a c e ha hc he => exact ⟨px_lc ha.1 ha.2 hc.1 he.1, no (by simp [mtI1])⟩
  | _ => exact ⟨.none (by simp [mtE]) (by simp [mtL]), no (by simp [mtI1])⟩
def noComp : Expr → Bool
  | .ListComp .. => false
  | .SetComp .. => false
  | .DictComp .. => false
  | _ => true
def isLc : VI.E → Bool
  | .lc _ _ _ _ _ => true
  | _ => false
theorem sw_plain {x : Expr} {tg : Option Expr} {n : Nat} {env : PySem.Env} (h : noComp x = true) : swapsWith x tg n env = pure false := by
  cases x <;> first | rfl | cases h
theorem ps_name {e : VI.E} {x : Expr} {i : Nat} {y : Str} {py spos : Pos} {fr : Bool} (f : Fit M C CI k tb sc A X Ex) (h : mtE M sc e x = true) (hfr : fr = true → mkE e = true) (hc : (noComp x || isLc e) = true) (hi : M.N[i]? = some y) (ht : tb y = true) :
    PS X (.Assign [.Name y py] x spos) (tAsg (tD A Ex fr (ev M.T C CI e)) (gName i)) := by
  obtain ⟨hx, hf⟩ := f.good.tb y ht
  rw [Bool.or_eq_true] at hc
  have hi' : X.N[i]? = some y := by rw [← f.N]; exact hi
  rcases hc with hc | hc
  · exact ps_set f.good.nd hi' hx ((px_all e).1.pe f h hfr) (sw_plain hc) hf
  · cases e <;> first | (cases hc; done) | skip
    rename_i t kk a c e
    obtain ⟨elt, tg, iter, ifs, scope, p, rfl, h1, h2, h3, h4, h5, h6, h7⟩ := lc_parts (px_all a).1 (px_all a).2 (px_all c).1 (px_all e).1 f h
    exact ps_lc' f.good.calm f.good.nd hi' hx hf f.good.K h1 h2 h3 h4 h5 h6 h7
end
end VI
namespace VI
open PySem PySem.Spec PyProof.Rows L2
/-- what is wanted behind a statement -/
def KS (A : Amb) (m : List Addr) (o : Nat → Option Addr) (H : Hp) (D : Ends) (E : XK) : RS → Prop
  | .nx σD' h' => ∀ m' o' σ' H', SStep A.F.isM m o H m' o' H' → Sim A σD' h' m' o' σ' H' → D.nx σ' H'
  | .rt d h' => ∀ m' o' σD' σ' H' v, SStep A.F.isM m o H m' o' H' → Sim A σD' h' m' o' σ' H' → RV A.F H' m' (Wr m' A.U o') d v → D.rt v H'
  | .bk σD' h' => ∀ m' o' σ' H', SStep A.F.isM m o H m' o' H' → Sim A σD' h' m' o' σ' H' → D.bk σ' H'
  | .ct σD' h' => ∀ m' o' σ' H', SStep A.F.isM m o H m' o' H' → Sim A σD' h' m' o' σ' H' → D.ct σ' H'
  | .ex c fs h' => ∀ m' o' σD' σ' H' cv dv, SStep A.F.isM m o H m' o' H' → Sim A σD' h' m' o' σ' H' → ExcOk A.F H' m' (Wr m' A.U o') c fs cv dv → E cv dv H'
  | .bad => False
section
variable {A : Amb} {σD σD' : En} {h h' : AH} {m m1 : List Addr} {o o1 : Nat → Option Addr} {σ : L2.St} {H H1 : Hp} {D : Ends} {E : XK}
theorem KS.mono {r : RS} (k : KS A m o H D E r) (s : SStep A.F.isM m o H m1 o1 H1) : KS A m1 o1 H1 D E r := by
  cases r with
  | nx σ' h' => exact fun m' o' σ' H' t S => k m' o' σ' H' (s.trans t) S
  | rt d h' => exact fun m' o' σD' σ' H' v t S r => k m' o' σD' σ' H' v (s.trans t) S r
  | bk σ' h' => exact fun m' o' σ' H' t S => k m' o' σ' H' (s.trans t) S
  | ct σ' h' => exact fun m' o' σ' H' t S => k m' o' σ' H' (s.trans t) S
  | ex c fs h' => exact fun m' o' σD' σ' H' cv dv t S x => k m' o' σD' σ' H' cv dv (s.trans t) S x
  | bad => exact k
def tS (A : Amb) (E : XK) (f : En → AH → RS) : TS := fun D σ H => ∃ σD h m o, Sim A σD h m o σ H ∧ KS A m o H D E (f σD h)
theorem KS.nx1 {h1 : AH} (k : KS A m o H D E (.nx σD' h1)) (st : SStep A.F.isM m o H m1 o1 H1) {σ' : L2.St} (S : Sim A σD' h1 m1 o1 σ' H1) : D.nx σ' H1 := k m1 o1 σ' H1 st S
theorem denS0 {fr : Bool} {f : En → AH → Res VI.D} {R : V → Hp → Prop} {k : VI.D → AH → RS} (S : Sim A σD h m o σ H) (q : KS A m o H D E (RS.ofR (f σD h) k))
    (hop : ∀ d h1 m1 H1 v, Step m none_ H m1 H1 → Sim A σD h1 m1 o σ H1 → RV A.F H1 m1 (Wr m1 A.U o) d v → (fr = true → NewAt A σD m o σ H d h1 m1 H1 v) → KS A m o H D E (k d h1) → R v H1) : tD A E fr f σ H R := by
  refine ⟨σD, h, m, o, S, ?_⟩
  cases e : f σD h with
  | bad => rw [e] at q; exact q
  | ex c fs h' =>
    rw [e] at q
    exact fun m' H' cv dv s S' x => q m' o σD σ H' cv dv (.of s) S' x
  | ok d h1 =>
    rw [e] at q
    exact fun m1 H1 v s S1 r f => hop d h1 m1 H1 v s S1 r f q
theorem denS {fr : Bool} {f : En → AH → Res VI.D} {R : V → Hp → Prop} {k : VI.D → AH → RS} (S : Sim A σD h m o σ H) (q : KS A m o H D E (RS.ofR (f σD h) k))
    (hop : ∀ d h1 m1 H1 v, Step m none_ H m1 H1 → Sim A σD h1 m1 o σ H1 → RV A.F H1 m1 (Wr m1 A.U o) d v → (fr = true → NewAt A σD m o σ H d h1 m1 H1 v) → KS A m1 o H1 D E (k d h1) → R v H1) : tD A E fr f σ H R :=
  denS0 S q fun d h1 m1 H1 v s S1 r f q => hop d h1 m1 H1 v s S1 r f (KS.mono q (.of s))
theorem denSL {f : En → AH → Res (List VI.D)} {R : List V → Hp → Prop} {k : List VI.D → AH → RS} (S : Sim A σD h m o σ H) (q : KS A m o H D E (RS.ofR (f σD h) k))
    (hop : ∀ d h1 m1 H1 v, Step m none_ H m1 H1 → Sim A σD h1 m1 o σ H1 → RVL A.F H1 m1 (Wr m1 A.U o) d v → KS A m1 o H1 D E (k d h1) → R v H1) : tL A E f σ H R := by
  refine ⟨σD, h, m, o, S, ?_⟩
  cases e : f σD h with
  | bad => rw [e] at q; exact q
  | ex c fs h' =>
    rw [e] at q
    exact fun m' H' cv dv s S' x => q m' o σD σ H' cv dv (.of s) S' x
  | ok d h1 =>
    rw [e] at q
    exact fun m1 H1 v s S1 r => hop d h1 m1 H1 v s S1 r (KS.mono q (.of s))
theorem denST {f : En → AH → Res VI.D} {R : Bool → Hp → Prop} {k : Bool → AH → RS} (S : Sim A σD h m o σ H) (q : KS A m o H D E (RS.tst (f σD h) k))
    (hop : ∀ b h1 m1 H1, Step m none_ H m1 H1 → Sim A σD h1 m1 o σ H1 → KS A m1 o H1 D E (k b h1) → R b H1) : tT A E f σ H R := by
  refine ⟨σD, h, m, o, S, ?_⟩
  cases e : f σD h with
  | bad => rw [e] at q; exact q
  | ex c fs h' =>
    rw [e] at q
    exact fun m' H' cv dv s S' x => q m' o σD σ H' cv dv (.of s) S' x
  | ok d h1 =>
    rw [e] at q
    cases d with
    | bl b => exact fun m1 H1 s S1 => hop b h1 m1 H1 s S1 (KS.mono q (.of s))
    | _ => exact q.elim
/-- a new own one at slot i -/
theorem Sim.own (S : Sim A σD h m o σ H) {i : Nat} {p : Addr} {u : HO} {s : Sl} (hi : i < σD.length) (hp : H p = none) (hs : ∀ c fs, s ≠ .oi c fs)
    (hk : SlotOk A (upd H p u) m (fun j => if j = i then some p else o j) (σ.set i (some (.ref p))) i s) :
    SStep A.F.isM m o H m (fun j => if j = i then some p else o j) (upd H p u) ∧ Sim A (σD.set i s) h m (fun j => if j = i then some p else o j) (σ.set i (some (.ref p))) (upd H p u) := by
  have st : Step m none_ H m (upd H p u) := Step.laid hp
  have hw : ∀ a, Wr m A.U (fun j => if j = i then some p else o j) a → Wr m A.U o a ∨ H a = none := fun a w => by
    rcases w with w | w | ⟨j, w⟩
    · exact .inl (.inl w)
    · exact .inl (.inr (.inl w))
    · have w : (if j = i then some p else o j) = some a := w
      by_cases q : j = i
      · rw [if_pos q] at w; cases w; exact .inr hp
      · rw [if_neg q] at w; exact .inl (.inr (.inr ⟨j, w⟩))
  have oj : ∀ {j a}, (if j = i then some p else o j) = some a → (j = i ∧ a = p) ∨ (j ≠ i ∧ o j = some a) := fun {j a} e => by
    by_cases q : j = i
    · rw [if_pos q] at e; cases e; exact .inl ⟨q, rfl⟩
    · rw [if_neg q] at e; exact .inr ⟨q, e⟩
  refine ⟨⟨fun a v e n z => .inl (by rw [upd_ne (ne_of_none e hp)]; exact e), fun _ _ e => e, fun a q => .inl q, fun a v e => ⟨v, by rw [upd_ne (ne_of_none e hp)]; exact e⟩, fun j a e => ?_⟩, ?_⟩
  · rcases oj e with ⟨_, rfl⟩ | ⟨_, e⟩
    · exact .inr hp
    · exact .inl ⟨j, e⟩
  refine ⟨S.step.trans (st.weak fun _ z => z.elim), ?_, by rw [List.length_set, List.length_set]; exact S.slen, fun j sl e => ?_, fun j k a e1 e2 => ?_, fun j a e => ?_, fun a q => ?_, fun j k c fs c' fs' e1 e2 => ?_, fun j a e => ?_⟩
  · refine ⟨S.cells.len, S.cells.nd, fun n cl e => ?_⟩
    obtain ⟨a, e1, ok⟩ := S.cells.ok n cl e
    refine ⟨a, e1, ?_⟩
    cases cl with
    | lst xs =>
      obtain ⟨vs, e2, r⟩ := ok
      exact ⟨vs, by rw [upd_ne (ne_of_none e2 hp)]; exact e2, r.1, fun j d v a b => (r.2 j d v a b).step st hw⟩
    | ins c fs =>
      obtain ⟨dx, fv, e2, e3, e4, e5, r⟩ := ok
      exact ⟨dx, fv, by rw [upd_ne (ne_of_none e2 hp)]; exact e2, by rw [upd_ne (ne_of_none e3 hp)]; exact e3, e4, e5, fun j p q a b => (r j p q a b).step st hw⟩
  · by_cases q : i = j
    · subst q
      rw [List.getElem?_set_self hi] at e
      cases e
      exact hk
    · rw [List.getElem?_set_ne q] at e
      have k := S.slot j sl e
      have nq : ¬ j = i := fun z => q z.symm
      cases sl with
      | no => trivial
      | v d => obtain ⟨v, e1, r⟩ := k; exact ⟨v, by rw [List.getElem?_set_ne q]; exact e1, r.step st hw⟩
      | ol xs =>
        obtain ⟨a, vs, e1, e2, e3, r⟩ := k
        exact ⟨a, vs, (if_neg nq).trans e1, by rw [List.getElem?_set_ne q]; exact e2, by rw [upd_ne (ne_of_none e3 hp)]; exact e3, r.1, fun j d v a b => (r.2 j d v a b).step st hw⟩
      | od xs =>
        obtain ⟨a, vs, e1, e2, e3, e4, r⟩ := k
        exact ⟨a, vs, (if_neg nq).trans e1, by rw [List.getElem?_set_ne q]; exact e2, by rw [upd_ne (ne_of_none e3 hp)]; exact e3, e4, fun j p q a b => (r j p q a b).step st hw⟩
      | oi c fs =>
        obtain ⟨a, dx, fv, e0, e1, e2, e3, e4, e5, r⟩ := k
        refine ⟨a, dx, fv, e0, by rw [List.getElem?_set_ne q]; exact e1, by rw [upd_ne (ne_of_none e2 hp)]; exact e2, fun w => ?_, e4, e5, fun j p q a b => (r j p q a b).step st hw⟩
        rcases hw a w with w | w
        · exact e3 w
        · rw [e2] at w; cases w
  · rcases oj e1 with ⟨r1, r2⟩ | ⟨r1, r2⟩ <;> rcases oj e2 with ⟨r3, r4⟩ | ⟨r3, r4⟩
    · rw [r1, r3]
    · obtain ⟨_, ⟨u, e⟩, _⟩ := S.ofr k a r4
      rw [r2, hp] at e; cases e
    · obtain ⟨_, ⟨u, e⟩, _⟩ := S.ofr j a r2
      rw [r4, hp] at e; cases e
    · exact S.oinj j k a r2 r4
  · rcases oj e with ⟨_, rfl⟩ | ⟨_, e⟩
    · exact ⟨S.step.free hp, ⟨_, upd_same⟩, fun q => by
        obtain ⟨x, e⟩ := S.mh q
        rw [hp] at e; cases e⟩
    · obtain ⟨e1, ⟨x, e2⟩, e3⟩ := S.ofr j a e
      exact ⟨e1, ⟨x, by rw [upd_ne (ne_of_none e2 hp)]; exact e2⟩, e3⟩
  · obtain ⟨n, x, e⟩ := S.u0 a q
    exact ⟨n, x, by rw [upd_ne (ne_of_none e hp)]; exact e⟩
  · have no : ∀ {l : Nat} {c : String} {fs : List (String × VI.D)}, (σD.set i s)[l]? = some (Sl.oi c fs) → σD[l]? = some (Sl.oi c fs) := fun {l c fs} e => by
      by_cases q : i = l
      · subst q
        rw [List.getElem?_set_self hi] at e
        cases e; exact absurd rfl (hs c fs)
      · rw [List.getElem?_set_ne q] at e; exact e
    exact S.oiu j k c fs c' fs' (no e1) (no e2)
  · rcases oj e with ⟨_, rfl⟩ | ⟨_, e⟩
    · exact fun q => by
        obtain ⟨_, x, e⟩ := S.uh q |> fun ⟨x, e⟩ => (⟨trivial, x, e⟩ : True ∧ ∃ x, H a = some x)
        rw [hp] at e; cases e
    · exact S.ou j a e
/-- an own one given away -/
theorem Sim.frz (S : Sim A σD h m o σ H) {i : Nat} {d : VI.D} (hi : i < σD.length)
    (hk : ∀ o', (∀ j a, o' j = some a → o j = some a ∧ j ≠ i) → ∃ v, σ[i]? = some (some v) ∧ RV A.F H m (Wr m A.U o') d v) :
    ∃ o', SStep A.F.isM m o H m o' H ∧ Sim A (σD.set i (.v d)) h m o' σ H := by
  let o' : Nat → Option Addr := fun j => if j = i then none else o j
  have oj : ∀ j a, o' j = some a → o j = some a ∧ j ≠ i := fun j a e => by
    by_cases q : j = i
    · have : o' j = none := if_pos q
      rw [this] at e; cases e
    · have : o' j = o j := if_neg q
      rw [this] at e; exact ⟨e, q⟩
  have hw : ∀ a, Wr m A.U o' a → Wr m A.U o a := fun a w => by
    rcases w with w | w | ⟨j, w⟩
    · exact .inl w
    · exact .inr (.inl w)
    · exact .inr (.inr ⟨j, (oj j a w).1⟩)
  refine ⟨o', ⟨fun a u e _ _ => .inl e, fun _ _ e => e, fun a q => .inl q, fun a u e => ⟨u, e⟩, fun j a e => .inl ⟨j, (oj j a e).1⟩⟩, S.step, S.cells.w hw, by rw [List.length_set]; exact S.slen, fun j sl e => ?_, fun j k a e1 e2 => S.oinj j k a (oj j a e1).1 (oj k a e2).1, fun j a e => S.ofr j a (oj j a e).1, S.u0, fun j k c fs c' fs' e1 e2 => ?_, fun j a e => S.ou j a (oj j a e).1⟩
  · by_cases q : i = j
    · subst q
      rw [List.getElem?_set_self hi] at e
      cases e
      exact hk o' oj
    · rw [List.getElem?_set_ne q] at e
      have k := S.slot j sl e
      have nq : ¬ j = i := fun z => q z.symm
      have eo : o' j = o j := if_neg nq
      cases sl with
      | no => trivial
      | v d => obtain ⟨v, e1, r⟩ := k; exact ⟨v, e1, r.w hw⟩
      | ol xs =>
        obtain ⟨a, vs, e1, e2, e3, r⟩ := k
        exact ⟨a, vs, eo.trans e1, e2, e3, r.w hw⟩
      | od xs =>
        obtain ⟨a, vs, e1, e2, e3, e4, r⟩ := k
        exact ⟨a, vs, eo.trans e1, e2, e3, e4, fun j p q a b => (r j p q a b).w hw⟩
      | oi c fs =>
        obtain ⟨a, dx, fv, e0, e1, e2, e3, e4, e5, r⟩ := k
        exact ⟨a, dx, fv, e0, e1, e2, fun w => e3 (hw a w), e4, e5, fun j p q a b => (r j p q a b).w hw⟩
  · have no : ∀ {l : Nat} {c : String} {fs : List (String × VI.D)}, (σD.set i (.v d))[l]? = some (Sl.oi c fs) → σD[l]? = some (Sl.oi c fs) := fun {l c fs} e => by
      by_cases q : i = l
      · subst q
        rw [List.getElem?_set_self hi] at e; cases e
      · rw [List.getElem?_set_ne q] at e; exact e
    exact S.oiu j k c fs c' fs' (no e1) (no e2)
/-- an own one written -/
theorem Sim.ownW (S : Sim A σD h m o σ H) {i : Nat} {a : Addr} {u : HO} {s : Sl} (hi : i < σD.length) (ha : o i = some a) (ho : ∀ b, H a ≠ some (.own b)) (hs : ∀ c fs, s ≠ .oi c fs) (hk : SlotOk A (upd H a u) m o σ i s) :
    SStep A.F.isM m o H m o (upd H a u) ∧ Sim A (σD.set i s) h m o σ (upd H a u) := by
  have wa : Wr m A.U o a := .inr (.inr ⟨i, ha⟩)
  obtain ⟨f1, ⟨x, f2⟩, f3⟩ := S.ofr i a ha
  have he : ∀ b, b ≠ a → (upd H a u) b = H b := fun b n => upd_ne n
  have dom : ∀ b v, H b = some v → ∃ v', (upd H a u) b = some v' := fun b v e => by
    by_cases q : b = a
    · subst q; exact ⟨u, upd_same⟩
    · exact ⟨v, by rw [he b q]; exact e⟩
  refine ⟨⟨fun b v e n z => .inl (by rw [he b fun q => z i (q ▸ ha)]; exact e), fun _ _ e => e, fun b q => .inl q, dom, fun j b e => .inl ⟨j, e⟩⟩, S.step.off f1 he, S.cells.off wa f3 ho he fun _ z => z, by rw [List.length_set]; exact S.slen, fun j sl e => ?_, S.oinj, fun j b e => ?_, fun b q => ?_, fun j k c fs c' fs' e1 e2 => ?_, S.ou⟩
  · by_cases q : i = j
    · subst q
      rw [List.getElem?_set_self hi] at e
      cases e
      exact hk
    · rw [List.getElem?_set_ne q] at e
      have k := S.slot j sl e
      have ne : ∀ b, o j = some b → b ≠ a := fun b e z => q (S.oinj i j a ha (z ▸ e))
      cases sl with
      | no => trivial
      | v d => obtain ⟨v, e1, r⟩ := k; exact ⟨v, e1, r.off wa he fun _ z => z⟩
      | ol xs =>
        obtain ⟨b, vs, e1, e2, e3, r⟩ := k
        exact ⟨b, vs, e1, e2, by rw [he b (ne b e1)]; exact e3, r.off wa he fun _ z => z⟩
      | od xs =>
        obtain ⟨b, vs, e1, e2, e3, e4, r⟩ := k
        exact ⟨b, vs, e1, e2, by rw [he b (ne b e1)]; exact e3, e4, fun j p q a b => (r j p q a b).off wa he fun _ z => z⟩
      | oi c fs =>
        obtain ⟨b, dx, fv, e0, e1, e2, e3, e4, e5, r⟩ := k
        exact ⟨b, dx, fv, e0, e1, by rw [he b fun q => e3 (q ▸ wa)]; exact e2, e3, e4, e5, fun j p q a b => (r j p q a b).off wa he fun _ z => z⟩
  · obtain ⟨g1, ⟨y, g2⟩, g3⟩ := S.ofr j b e
    exact ⟨g1, dom b y g2, g3⟩
  · obtain ⟨n, y, e⟩ := S.u0 b q
    exact ⟨n, dom b y e⟩
  · have no : ∀ {l : Nat} {c : String} {fs : List (String × VI.D)}, (σD.set i s)[l]? = some (Sl.oi c fs) → σD[l]? = some (Sl.oi c fs) := fun {l c fs} e => by
      by_cases q : i = l
      · subst q
        rw [List.getElem?_set_self hi] at e
        cases e; exact absurd rfl (hs c fs)
      · rw [List.getElem?_set_ne q] at e; exact e
    exact S.oiu j k c fs c' fs' (no e1) (no e2)
theorem nodup_inj {α : Type} : ∀ {l : List α} {i j : Nat} (_ : l.Nodup) (hi : i < l.length) (hj : j < l.length), l[i] = l[j] → i = j
  | x :: r, 0, 0, _, _, _, _ => rfl
  | x :: r, 0, j + 1, nd, hi, hj, e => by
    have : x ∈ r := by
      have e' : x = r[j]'(by simpa using hj) := by simpa using e
      rw [e']; exact List.getElem_mem _
    exact absurd this (List.nodup_cons.mp nd).1
  | x :: r, i + 1, 0, nd, hi, hj, e => by
    have : x ∈ r := by
      have e' : r[i]'(by simpa using hi) = x := by simpa using e
      rw [← e']; exact List.getElem_mem _
    exact absurd this (List.nodup_cons.mp nd).1
  | x :: r, i + 1, j + 1, nd, hi, hj, e => by
    exact congrArg (· + 1) (nodup_inj (l := r) (List.nodup_cons.mp nd).2 (by simpa using hi) (by simpa using hj) (by simpa using e))
/-- a cell written -/
theorem Sim.cellW (S : Sim A σD h m o σ H) {n : Nat} {a : Addr} {u : HO} {c : Cl} (ha : m[n]? = some a) (ho : ∀ b, H a ≠ some (.own b)) (hk : CellOk A.F (upd H a u) m (Wr m A.U o) a c) :
    SStep A.F.isM m o H m o (upd H a u) ∧ Sim A σD (h.set n c) m o σ (upd H a u) := by
  have am : a ∈ m := List.mem_of_getElem? ha
  have wa : Wr m A.U o a := .inl am
  have he : ∀ b, b ≠ a → (upd H a u) b = H b := fun b n => upd_ne n
  have dom : ∀ b v, H b = some v → ∃ v', (upd H a u) b = some v' := fun b v e => by
    by_cases q : b = a
    · subst q; exact ⟨u, upd_same⟩
    · exact ⟨v, by rw [he b q]; exact e⟩
  have hn : n < m.length := (List.getElem?_eq_some_iff.mp ha).1
  have st : Step m none_ H m (upd H a u) := ⟨fun b v e nb _ => by rw [he b fun q => nb (q ▸ am)]; exact e, fun _ _ e => e, fun b q => .inl q, dom⟩
  have cc : Cells A.F (upd H a u) m (Wr m A.U o) (h.set n c) := by
    refine ⟨by rw [List.length_set]; exact S.cells.len, S.cells.nd, fun k cl e => ?_⟩
    by_cases q : n = k
    · subst q
      rw [List.getElem?_set_self (by rw [← S.cells.len]; exact hn)] at e
      cases e
      exact ⟨a, ha, hk⟩
    · rw [List.getElem?_set_ne q] at e
      obtain ⟨b, e1, ok⟩ := S.cells.ok k cl e
      have nb : b ≠ a := fun z => by
        subst z
        have hk : k < m.length := (List.getElem?_eq_some_iff.mp e1).1
        have z1 : m[n] = b := (List.getElem?_eq_some_iff.mp ha).2
        have z2 : m[k] = b := (List.getElem?_eq_some_iff.mp e1).2
        exact q (nodup_inj S.cells.nd hn hk (z1.trans z2.symm))
      refine ⟨b, e1, ?_⟩
      cases cl with
      | lst xs =>
        obtain ⟨vs, e2, r⟩ := ok
        exact ⟨vs, by rw [he b nb]; exact e2, r.off wa he fun _ z => z⟩
      | ins c fs =>
        obtain ⟨dx, fv, e2, e3, e4, e5, r⟩ := ok
        exact ⟨dx, fv, by rw [he b nb]; exact e2, by rw [he dx fun q => ho b (q ▸ e3)]; exact e3, e4, e5, fun i p' q a b => (r i p' q a b).off wa he fun _ z => z⟩
  exact ⟨.of st, S.go st cc⟩
end
end VI
namespace VI
open PySem PySem.Spec PyProof.Rows L2
def sAss : Stmt → Option (Expr × Expr)
  | .Assign [t] e _ => some (t, e)
  | _ => none
def sAug : Stmt → Option (Expr × Operator × Expr)
  | .AugAssign t op e _ => some (t, op, e)
  | _ => none
def sExpr : Stmt → Option Expr
  | .Expr e _ => some e
  | _ => none
def sRet : Stmt → Option (Option Expr)
  | .Return e _ => some e
  | _ => none
def sIf : Stmt → Option (Expr × List Stmt × List Stmt)
  | .If c a b _ => some (c, a, b)
  | _ => none
def sFor : Stmt → Option (Expr × Expr × List Stmt)
  | .For t i b [] _ => some (t, i, b)
  | _ => none
def sWhl : Stmt → Option (Expr × List Stmt)
  | .While c b [] _ => some (c, b)
  | _ => none
def sRaise : Stmt → Option Expr
  | .Raise (some e) none _ => some e
  | _ => none
/-- o.m(..) where the name stands on the call's line -/
def vBm : Expr → Option (Expr × Str × List Expr)
  | .Call (.Attribute o m apos) es [] cpos => if apos.endLine == cpos.line then some (o, m, es) else none
  | _ => none
section
variable {s : Stmt} {e x y : Expr} {es : List Expr} {a b : List Stmt}
theorem sAss_ok (h : sAss s = some (x, y)) : ∃ p, s = .Assign [x] y p := by
  unfold sAss at h
  split at h
  · cases h; exact ⟨_, rfl⟩
  · cases h
theorem sAug_ok {op : Operator} (h : sAug s = some (x, op, y)) : ∃ p, s = .AugAssign x op y p := by
  unfold sAug at h
  split at h
  · cases h; exact ⟨_, rfl⟩
  · cases h
theorem sExpr_ok (h : sExpr s = some x) : ∃ p, s = .Expr x p := by
  unfold sExpr at h
  split at h
  · cases h; exact ⟨_, rfl⟩
  · cases h
theorem sRet_ok {x : Option Expr} (h : sRet s = some x) : ∃ p, s = .Return x p := by
  unfold sRet at h
  split at h
  · cases h; exact ⟨_, rfl⟩
  · cases h
theorem sIf_ok (h : sIf s = some (x, a, b)) : ∃ p, s = .If x a b p := by
  unfold sIf at h
  split at h
  · cases h; exact ⟨_, rfl⟩
  · cases h
theorem sFor_ok (h : sFor s = some (x, y, a)) : ∃ p, s = .For x y a [] p := by
  unfold sFor at h
  split at h
  · cases h; exact ⟨_, rfl⟩
  · cases h
theorem sWhl_ok (h : sWhl s = some (x, a)) : ∃ p, s = .While x a [] p := by
  unfold sWhl at h
  split at h
  · cases h; exact ⟨_, rfl⟩
  · cases h
theorem sRaise_ok (h : sRaise s = some x) : ∃ p, s = .Raise (some x) none p := by
  unfold sRaise at h
  split at h
  · cases h; exact ⟨_, rfl⟩
  · cases h
theorem vBm_ok {m : Str} (h : vBm e = some (x, m, es)) : ∃ p q, e = .Call (.Attribute x m p) es [] q ∧ (p.endLine == q.line) = true := by
  unfold vBm at h
  split at h
  · split at h
    · rename_i hl
      cases h; exact ⟨_, _, rfl, hl⟩
    · cases h
  · cases h
end
def noTupD : Expr → Bool
  | .Tuple .. => false
  | .List .. => false
  | _ => true
theorem base_plain {o : Expr} {f : Str} {env : PySem.Env} {w : Sem Value} (h : noCall0 o = true) : attributeBase o f env w = w := by
  unfold noCall0 at h
  split at h
  · cases h
  · rename_i q
    unfold attributeBase
    split
    · exact absurd rfl (q _ _ _)
    · rfl
section
variable {A : Amb} {X : Cx} {E : XK} {f g : En → AH → RS} {fa fb fc : En → AH → Res D} {fl : En → AH → Res (List D)} {st : Stmt} {rest sa sb : List Stmt} {x y z : Expr} {es : List Expr} {pos p p2 : Pos}
theorem s_nil : PSs X [] (tS A E fun σ h => .nx σ h) := pss_imp pss_nil fun D σ H ⟨σD, h, m, o, S, q⟩ => q m o σ H .refl S
theorem s_seq (h1 : PS X st (tS A E f)) (h2 : PSs X rest (tS A E g)) : PSs X (st :: rest) (tS A E fun σ h => (f σ h).seq g) := by
  refine pss_imp (pss_cons h1 h2) fun D σ H ⟨σD, h, m, o, S, q⟩ => ⟨σD, h, m, o, S, ?_⟩
  change KS A m o H D E ((f σD h).seq g) at q
  cases e : f σD h with
  | nx σ1 h1 =>
    rw [e] at q
    exact fun m' o' σ' H' t S' => ⟨σ1, h1, m', o', S', q.mono t⟩
  | _ => rw [e] at q; exact q
/-- what is no code -/
theorem s_ghost (hf : ∀ D σ H, tS A E (fun σ h => (f σ h).seq g) D σ H → tS A E g D σ H) (h2 : PSs X rest (tS A E g)) : PSs X rest (tS A E fun σ h => (f σ h).seq g) := pss_imp h2 hf
theorem s_fgt {is : List Nat} (h2 : PSs X rest (tS A E g)) : PSs X rest (tS A E fun σ h => (RS.nx (fgtL σ is) h).seq g) :=
  s_ghost (fun D σ H ⟨σD, h, m, o, S, q⟩ => ⟨fgtL σD is, h, m, o, S.fgt is, q⟩) h2
theorem s_frz {i : Nat} (h2 : PSs X rest (tS A E g)) : PSs X rest (tS A E fun σ h => (match σ[i]? with
    | some (.ol xs) => RS.nx (σ.set i (.v (.lst xs))) h
    | some (.od xs) => .nx (σ.set i (.v (.dct xs))) h
    | _ => .bad).seq g) := by
  refine s_ghost (fun D σ H ⟨σD, h, m, o, S, q⟩ => ?_) h2
  change KS A m o H D E ((match σD[i]? with
    | some (.ol xs) => RS.nx (σD.set i (.v (.lst xs))) h
    | some (.od xs) => .nx (σD.set i (.v (.dct xs))) h
    | _ => .bad).seq g) at q
  split at q
  · rename_i xs es
    obtain ⟨a, vs, e1, e2, e3, r⟩ := S.slot i _ es
    obtain ⟨o', s', S'⟩ := S.frz (i := i) (d := .lst xs) (List.getElem?_eq_some_iff.mp es).1 fun o' ho => ⟨.ref a, e2, .lst e3 (fun w => by
      rcases w with w | w | ⟨j, w⟩
      · exact (S.ofr i a e1).2.2 w
      · exact S.ou i a e1 w
      · exact (ho j a w).2 (S.oinj j i a (ho j a w).1 e1)) r.1 fun k d v a1 b1 => (r.2 k d v a1 b1).w fun b w => by
        rcases w with w | w | ⟨j, w⟩
        · exact .inl w
        · exact .inr (.inl w)
        · exact .inr (.inr ⟨j, (ho j b w).1⟩)⟩
    exact ⟨_, h, m, o', S', KS.mono q s'⟩
  · rename_i xs es
    obtain ⟨a, vs, e1, e2, e3, e4, r⟩ := S.slot i _ es
    obtain ⟨o', s', S'⟩ := S.frz (i := i) (d := .dct xs) (List.getElem?_eq_some_iff.mp es).1 fun o' ho => ⟨.ref a, e2, .dct e3 (fun w => by
      rcases w with w | w | ⟨j, w⟩
      · exact (S.ofr i a e1).2.2 w
      · exact S.ou i a e1 w
      · exact (ho j a w).2 (S.oinj j i a (ho j a w).1 e1)) e4 fun k d v a1 b1 => (r k d v a1 b1).w fun b w => by
        rcases w with w | w | ⟨j, w⟩
        · exact .inl w
        · exact .inr (.inl w)
        · exact .inr (.inr ⟨j, (ho j b w).1⟩)⟩
    exact ⟨_, h, m, o', S', KS.mono q s'⟩
  · exact q.elim
theorem s_ass {t : Tg} (h : PS X st (tAsg (tD A E false fa) (gOf A.F.K t))) : PS X st (tS A E fun σ h => RS.ofR (fa σ h) fun d h => match bindT t d σ with
    | some σ' => .nx σ' h
    | none => .bad) := by
  refine ps_imp h fun D σ H ⟨σD, hh, m, o, S, q⟩ => denS S q fun d h1 m1 H1 v s1 S1 r nf q1 => ?_
  cases e : bindT t d σD with
  | none => rw [e] at q1; exact q1.elim
  | some σ' =>
    rw [e] at q1
    exact gOf_ok t S1 r e fun σ2 S2 _ _ => KS.nx1 q1 .refl S2
theorem s_own {i : Nat} (h : PS X st (tAsg (tD A E true fa) (gName i))) : PS X st (tS A E fun σ h => RS.ofR (fa σ h) fun d h => match d with
    | .lst xs => if isFree σ i then .nx (σ.set i (.ol xs)) h else .bad
    | .dct kvs => if isFree σ i then .nx (σ.set i (.od kvs)) h else .bad
    | _ => .bad) := by
  refine ps_imp h fun D σ H ⟨σD, hh, m, o, S, q⟩ => denS0 S q fun d h1 m1 H1 v s1 S1 r f q1 => ?_
  have free : isFree σD i = true → i < σD.length := fun e => by
    unfold isFree at e
    split at e
    · rename_i z; exact (List.getElem?_eq_some_iff.mp z).1
    · rename_i z; exact (List.getElem?_eq_some_iff.mp z).1
    · cases e
  obtain ⟨H2, p, st2, S2, hp, rfl, hc⟩ := f rfl
  have wr : ∀ a, Wr m1 A.U (fun j => if j = i then some p else o j) a → Wr m1 A.U o a ∨ H2 a = none := fun a w => by
    rcases w with w | w | ⟨j, w⟩
    · exact .inl (.inl w)
    · exact .inl (.inr (.inl w))
    · have w : (if j = i then some p else o j) = some a := w
      by_cases q : j = i
      · rw [if_pos q] at w; cases w; exact .inr hp
      · rw [if_neg q] at w; exact .inl (.inr (.inr ⟨j, w⟩))
  rcases hc with ⟨xs, vs, rfl, rfl, rl⟩ | ⟨kvs, kv, rfl, rfl, ek, rl⟩
  · have q1 : KS A m o H D E (if isFree σD i then .nx (σD.set i (.ol xs)) h1 else .bad) := q1
    by_cases hf : isFree σD i = true
    · rw [if_pos hf] at q1
      have hi := free hf
      have st3 : Step m1 none_ H2 m1 (upd H2 p (.lst vs)) := Step.laid hp
      obtain ⟨ss, S3⟩ := S2.own (u := .lst vs) (s := .ol xs) hi hp (fun c fs => by simp) ⟨p, vs, if_pos rfl, List.getElem?_set_self (by rw [← S2.slen]; exact hi), upd_same, rl.1, fun k d v a b => (rl.2 k d v a b).step st3 wr⟩
      exact q1.nx1 ((SStep.of st2).trans ss) S3
    · rw [if_neg hf] at q1; exact q1.elim
  · have q1 : KS A m o H D E (if isFree σD i then .nx (σD.set i (.od kvs)) h1 else .bad) := q1
    by_cases hf : isFree σD i = true
    · rw [if_pos hf] at q1
      have hi := free hf
      have st3 : Step m1 none_ H2 m1 (upd H2 p (.dK kv)) := Step.laid hp
      obtain ⟨ss, S3⟩ := S2.own (u := .dK kv) (s := .od kvs) hi hp (fun c fs => by simp) ⟨p, kv, if_pos rfl, List.getElem?_set_self (by rw [← S2.slen]; exact hi), upd_same, ek, fun k d v a b => (rl k d v a b).step st3 wr⟩
      exact q1.nx1 ((SStep.of st2).trans ss) S3
    · rw [if_neg hf] at q1; exact q1.elim
theorem few1 {y : Expr} {env : PySem.Env} {cpos : Pos} (hs : noStar y = true) : ((backTo cpos (starEach [y] env)).all (fun x => !x.1) && (backToKw cpos (keywordEach [] env)).all (fun x => x.1.isSome)
      && decide ([y].length + ([] : List Keyword).length + (if ([] : List Keyword).isEmpty then 0 else 1) < 30)) = true := by
  rw [star1 hs]; rfl
theorem s_appo {i : Nat} {s : Str} {apos cpos : Pos} (hN : X.N[i]? = some s) (hv : visB X.env.scope s = true) (hd : (s == ("__debug__" : Str)) = false) (hcd : (s == ("__classdict__" : Str)) = false) (ha : PE X y (tD A E false fa)) (hs : noStar y = true) (hl : (apos.endLine == cpos.line) = true) :
    PS X (.Expr (.Call (.Attribute (.Name s p) "append" apos) [y] [] cpos) pos) (tS A E fun σ h => match σ[i]? with
    | some (.ol xs) => RS.ofR (fa σ h) fun d h => if xs.length < 1000000 then .nx (σ.set i (.ol (xs ++ [d]))) h else .bad
    | _ => .bad) := by
  refine ps_imp (ps_expr (pe_bm PySem.F.plainAttrs_list PySem.F.slot_list_append PySem.F.type_list_append mt_append (pe_var hN (visB_ok hv) hd hcd) (pa_cons ha pa_nil (star1 hs)) rfl (few1 hs) hl (star1 hs) rfl) (sw_plain rfl)) fun D σ H ⟨σD, hh, m, o, S, q⟩ => ?_
  change KS A m o H D E (match σD[i]? with
    | some (.ol xs) => RS.ofR (fa σD hh) fun d h => if xs.length < 1000000 then .nx (σD.set i (.ol (xs ++ [d]))) h else .bad
    | _ => .bad) at q
  split at q
  · rename_i xs es
    obtain ⟨a, vs, e1, e2, e3, _⟩ := S.slot i _ es
    refine ⟨_, e2, .inl ⟨rfl, vs, SqL.of e3⟩, denS S q fun d h1 m1 H1 v s1 S1 r nf q1 => ?_⟩
    obtain ⟨a', ws, f1, f2, f3, l⟩ := S1.slot i _ es
    rw [e1] at f1; cases f1
    by_cases hz : xs.length < 1000000
    · rw [if_pos hz] at q1
      refine ⟨a, ws, v, rfl, rfl, f3, lim_lt (by rw [l.1]; exact hz), ?_⟩
      have wa : Wr m1 A.U o a := .inr (.inr ⟨i, e1⟩)
      obtain ⟨ss, S2⟩ := S1.ownW (u := .lst (ws ++ [v])) (s := .ol (xs ++ [d])) (List.getElem?_eq_some_iff.mp es).1 e1 (fun b e => by rw [f3] at e; cases e) (fun c fs => by simp)
        ⟨a, ws ++ [v], e1, e2, upd_same, (l.append (RVL.cons r RVL.nil)).off wa (fun b n => upd_ne n) fun _ z => z⟩
      exact q1.nx1 ss S2
    · rw [if_neg hz] at q1; exact q1.elim
  · exact q.elim
theorem s_exto {i : Nat} {s : Str} {apos cpos : Pos} (hN : X.N[i]? = some s) (hv : visB X.env.scope s = true) (hd : (s == ("__debug__" : Str)) = false) (hcd : (s == ("__classdict__" : Str)) = false) (ha : PE X y (tD A E false fa)) (hs : noStar y = true) (hl : (apos.endLine == cpos.line) = true) :
    PS X (.Expr (.Call (.Attribute (.Name s p) "extend" apos) [y] [] cpos) pos) (tS A E fun σ h => match σ[i]? with
    | some (.ol xs) => RS.ofR (fa σ h) fun d h => match d with
      | .lst ys => if xs.length + ys.length ≤ 1000000 then .nx (σ.set i (.ol (xs ++ ys))) h else .bad
      | _ => .bad
    | _ => .bad) := by
  refine ps_imp (ps_expr (pe_bm PySem.F.plainAttrs_list PySem.F.slot_list_extend PySem.F.type_list_extend mt_extend (pe_var hN (visB_ok hv) hd hcd) (pa_cons ha pa_nil (star1 hs)) rfl (few1 hs) hl (star1 hs) rfl) (sw_plain rfl)) fun D σ H ⟨σD, hh, m, o, S, q⟩ => ?_
  change KS A m o H D E (match σD[i]? with
    | some (.ol xs) => RS.ofR (fa σD hh) fun d h => match d with
      | .lst ys => if xs.length + ys.length ≤ 1000000 then .nx (σD.set i (.ol (xs ++ ys))) h else .bad
      | _ => .bad
    | _ => .bad) at q
  split at q
  · rename_i xs es
    obtain ⟨a, vs, e1, e2, e3, _⟩ := S.slot i _ es
    refine ⟨_, e2, .inl ⟨rfl, vs, SqL.of e3⟩, denS S q fun d h1 m1 H1 v s1 S1 r nf q1 => ?_⟩
    obtain ⟨a', ws, f1, f2, f3, l⟩ := S1.slot i _ es
    rw [e1] at f1; cases f1
    cases d with
    | lst ys =>
      have q1 : KS A m1 o H1 D E (if xs.length + ys.length ≤ 1000000 then .nx (σD.set i (.ol (xs ++ ys))) h1 else .bad) := q1
      obtain ⟨b, us, rfl, g1, g2, l2⟩ := id r.lstL
      by_cases hz : xs.length + ys.length ≤ 1000000
      · rw [if_pos hz] at q1
        refine ⟨a, b, ws, us, rfl, rfl, f3, g1, lim_le (by rw [l.1, l2.1]; exact hz), ?_⟩
        have wa : Wr m1 A.U o a := .inr (.inr ⟨i, e1⟩)
        obtain ⟨ss, S2⟩ := S1.ownW (u := .lst (ws ++ us)) (s := .ol (xs ++ ys)) (List.getElem?_eq_some_iff.mp es).1 e1 (fun b e => by rw [f3] at e; cases e) (fun c fs => by simp)
          ⟨a, ws ++ us, e1, e2, upd_same, (l.append l2).off wa (fun b n => upd_ne n) fun _ z => z⟩
        exact q1.nx1 ss S2
      · rw [if_neg hz] at q1; exact q1.elim
    | _ => exact q1.elim
  · exact q.elim
theorem PSet.or {t t' : TSet} (h : PSet X t) (h' : PSet X t') : PSet X (fun o i v H Q => t o i v H Q ∨ t' o i v H Q) := fun pins s σ H o i v ov iv u Q I ro ri rv q => by
  rcases q with q | q
  · exact h pins s σ H o i v ov iv u Q I ro ri rv q
  · exact h' pins s σ H o i v ov iv u Q I ro ri rv q
theorem putDK {F : Fix} {H : Hp} {m : List Addr} {W : Addr → Prop} {kvs : List (Key × VI.D)} {kv : List (Key × V)} {d : VI.D} {v : V} (k : Key) (e : kv.map (·.1) = kvs.map (·.1)) (h : ∀ (j : Nat) p q, kvs[j]? = some p → kv[j]? = some q → RV F H m W p.2 q.2) (r : RV F H m W d v) :
    (putK kv k v).map (·.1) = (putD kvs k d).map (·.1) ∧ ∀ (j : Nat) p q, (putD kvs k d)[j]? = some p → (putK kv k v)[j]? = some q → RV F H m W p.2 q.2 := by
  have hl : kv.length = kvs.length := by have := congrArg List.length e; simpa using this
  have ea : (kv.any fun kv => decide (kv.1 = k)) = (kvs.any fun kv => decide (kv.1 = k)) := by
    have z : ∀ {α : Type} (l : List (Key × α)), (l.any fun kv => decide (kv.1 = k)) = ((l.map (·.1)).any fun y => decide (y = k)) := fun l => by rw [List.any_map]; rfl
    rw [z, z, e]
  have key : ∀ (j : Nat) (p : Key × VI.D) (q : Key × V), kvs[j]? = some p → kv[j]? = some q → p.1 = q.1 := fun j p q e1 e2 => by
    have e3 : (kv.map (·.1))[j]? = some q.1 := by rw [List.getElem?_map, e2]; rfl
    rw [e, List.getElem?_map, e1] at e3
    exact Option.some.inj e3
  unfold putD putK
  rw [ea]
  by_cases hc : (kvs.any fun kv => decide (kv.1 = k)) = true
  · rw [if_pos hc, if_pos hc]
    refine ⟨?_, fun j p q e1 e2 => ?_⟩
    · have z : ∀ {α : Type} (l : List (Key × α)) (x : α), (l.map fun kv => if kv.1 = k then (kv.1, x) else kv).map (·.1) = l.map (·.1) := fun l x => by
        rw [List.map_map]
        apply List.map_congr_left
        intro y _
        show (if y.1 = k then (y.1, x) else y).1 = y.1
        split <;> rfl
      rw [z, z, e]
    · rw [List.getElem?_map, Option.map_eq_some_iff] at e1 e2
      obtain ⟨p', g1, rfl⟩ := e1
      obtain ⟨q', g2, rfl⟩ := e2
      have kk := key j p' q' g1 g2
      by_cases hk : p'.1 = k
      · rw [if_pos hk, if_pos (kk ▸ hk)]; exact r
      · rw [if_neg hk, if_neg (kk ▸ hk)]; exact h j p' q' g1 g2
  · rw [if_neg hc, if_neg hc]
    refine ⟨by rw [List.map_append, List.map_append, e]; rfl, fun j p q e1 e2 => ?_⟩
    by_cases hj : j < kvs.length
    · rw [List.getElem?_append_left hj] at e1
      rw [List.getElem?_append_left (by omega)] at e2
      exact h j p q e1 e2
    · rw [List.getElem?_append_right (by omega)] at e1 e2
      rw [hl] at e2
      have hz : j - kvs.length = 0 := by
        have := (List.getElem?_eq_some_iff.mp e1).1
        simp at this; omega
      rw [hz] at e1 e2
      cases e1; cases e2
      exact r
theorem sw_sub {x a b : Expr} {tp : Pos} {n : Nat} {env : PySem.Env} : swapsWithSole [.Subscript a b tp] x n env = pure false := by
  show swapsWith x (some (.Subscript a b tp)) n env = pure false
  cases x <;> rfl
theorem ss_sub {x a b : Expr} {tp : Pos} {env : PySem.Env} : swappedStores [.Subscript a b tp] x env = pure none := by
  cases x <;> rfl
theorem asg_sub {o i : Expr} {env : PySem.Env} {pos : Pos} (h : noSlice i = true) : ∀ v, assign (.Subscript o i pos) env v = (do
      let ov ← holding [v] (eval o env)
      let iv ← holding [v, ov] (eval i env)
      standAt pos
      holding [v, ov, iv] (setItem ov iv v)
      release [v, ov, iv] []) := fun v => by
  cases i <;> first | rfl | cases h
/-- a slot's list, a slot's dict under an index -/
theorem s_seto {i : Nat} {s : Str} {tp : Pos} (hN : X.N[i]? = some s) (hv : visB X.env.scope s = true) (hd : (s == ("__debug__" : Str)) = false) (hcd : (s == ("__classdict__" : Str)) = false) (hu : X.A.units + 1 < cLine) (ha : PE X x (tD A E false fa)) (hb : PE X y (tD A E false fb)) (hsl : noSlice y = true) :
    PS X (.Assign [.Subscript (.Name s p) y tp] x pos) (tS A E fun σ h => match σ[i]? with
    | some (.ol xs) => RS.ofR (fa σ h) fun d h => RS.ofR (fb σ h) fun y h => match y with
      | .int j => match ixN xs.length j with
        | some j => .nx (σ.set i (.ol (xs.set j d))) h
        | none => .bad
      | _ => .bad
    | some (.od kvs) => RS.ofR (fa σ h) fun d h => RS.ofR (fb σ h) fun y h => match keyD y with
      | some k => if kvs.length < 1000000 then .nx (σ.set i (.od (putD kvs k d))) h else .bad
      | none => .bad
    | _ => .bad) := by
  refine ps_imp (ps_asg ha (pg_sub (pe_var hN (visB_ok hv) hd hcd) hb (PSet.or set_list (set_dict hu)) (asg_sub hsl)) sw_sub ss_sub) fun D σ H ⟨σD, hh, m, o, S, q⟩ => ?_
  change KS A m o H D E (match σD[i]? with
    | some (.ol xs) => RS.ofR (fa σD hh) fun d h => RS.ofR (fb σD h) fun y h => match y with
      | .int j => match ixN xs.length j with
        | some j => .nx (σD.set i (.ol (xs.set j d))) h
        | none => .bad
      | _ => .bad
    | some (.od kvs) => RS.ofR (fa σD hh) fun d h => RS.ofR (fb σD h) fun y h => match keyD y with
      | some k => if kvs.length < 1000000 then .nx (σD.set i (.od (putD kvs k d))) h else .bad
      | none => .bad
    | _ => .bad) at q
  split at q
  · rename_i xs es
    refine denS S q fun d h1 m1 H1 v s1 S1 r nf q1 => ?_
    obtain ⟨a, _, e1, e2, _⟩ := S1.slot i _ es
    refine ⟨_, e2, denS S1 q1 fun yd h2 m2 H2 vy s2 S2 ry nf q2 => ?_⟩
    obtain ⟨a', ws, f1, f2, f3, l⟩ := S2.slot i _ es
    rw [e1] at f1; cases f1
    cases yd with
    | int j =>
      have q2 : KS A m2 o H2 D E (match ixN xs.length j with
        | some j => .nx (σD.set i (.ol (xs.set j d))) h2
        | none => .bad) := q2
      cases ej : ixN xs.length j with
      | none => rw [ej] at q2; exact q2.elim
      | some jj =>
        rw [ej] at q2
        cases ry
        refine .inl ⟨a, ws, j, jj, rfl, rfl, f3, by rw [l.1]; exact ej, ?_⟩
        have wa : Wr m2 A.U o a := .inr (.inr ⟨i, e1⟩)
        obtain ⟨ss, S3⟩ := S2.ownW (u := .lst (ws.set jj v)) (s := .ol (xs.set jj d)) (List.getElem?_eq_some_iff.mp es).1 e1 (fun b e => by rw [f3] at e; cases e) (fun c fs => by simp)
          ⟨a, ws.set jj v, e1, e2, upd_same, (l.set (r.go s2) jj).off wa (fun b n => upd_ne n) fun _ z => z⟩
        exact KS.nx1 q2 ss S3
    | _ => exact q2.elim
  · rename_i kvs es
    refine denS S q fun d h1 m1 H1 v s1 S1 r nf q1 => ?_
    obtain ⟨a, _, e1, e2, _⟩ := S1.slot i _ es
    refine ⟨_, e2, denS S1 q1 fun yd h2 m2 H2 vy s2 S2 ry nf q2 => ?_⟩
    obtain ⟨a', kv, f1, f2, f3, f4, l⟩ := S2.slot i _ es
    rw [e1] at f1; cases f1
    cases ek : keyD yd with
    | none => rw [ek] at q2; exact q2.elim
    | some kk =>
      rw [ek] at q2
      have q2 : KS A m2 o H2 D E (if kvs.length < 1000000 then .nx (σD.set i (.od (putD kvs kk d))) h2 else .bad) := q2
      by_cases hz : kvs.length < 1000000
      · rw [if_pos hz] at q2
        have hl : kv.length = kvs.length := by have := congrArg List.length f4; simpa using this
        rw [keyD_V ry ek]
        refine .inr ⟨a, _, rfl, DPut.k f3 (lim_lt (by rw [hl]; exact hz)), ?_⟩
        have wa : Wr m2 A.U o a := .inr (.inr ⟨i, e1⟩)
        obtain ⟨g1, g2⟩ := putDK kk f4 l (r.go s2)
        obtain ⟨ss, S3⟩ := S2.ownW (u := .dK (putK kv kk v)) (s := .od (putD kvs kk d)) (List.getElem?_eq_some_iff.mp es).1 e1 (fun b e => by rw [f3] at e; cases e) (fun c fs => by simp)
          ⟨a, _, e1, e2, upd_same, g1, fun j p q a b => (g2 j p q a b).off wa (fun b n => upd_ne n) fun _ z => z⟩
        exact KS.nx1 q2 ss S3
      · rw [if_neg hz] at q2; exact q2.elim
  · exact q.elim
/-- a cell's list under an index -/
theorem s_setx {tp : Pos} (ha : PE X x (tD A E false fa)) (ho : PE X z (tD A E false fc)) (hb : PE X y (tD A E false fb)) (hsl : noSlice y = true) :
    PS X (.Assign [.Subscript z y tp] x pos) (tS A E fun σ h => RS.ofR (fa σ h) fun d h => RS.ofR (fc σ h) fun x h => RS.ofR (fb σ h) fun y h => match x, y with
    | .ref n, .int i => match h[n]? with
      | some (.lst xs) => match ixN xs.length i with
        | some j => .nx σ (h.set n (.lst (xs.set j d)))
        | none => .bad
      | _ => .bad
    | _, _ => .bad) := by
  refine ps_imp (ps_asg ha (pg_sub ho hb set_list (asg_sub hsl)) sw_sub ss_sub) fun D σ H ⟨σD, hh, m, o, S, q⟩ => ?_
  refine denS S q fun d h1 m1 H1 v s1 S1 r nf q1 => denS S1 q1 fun od h2 m2 H2 vo s2 S2 ro nf q2 => denS S2 q2 fun yd h3 m3 H3 vy s3 S3 ry nf q3 => ?_
  split at q3
  · rename_i n i
    split at q3
    · rename_i xs ex
      split at q3
      · rename_i j ej
        cases ry
        obtain ⟨a, rfl, ea⟩ := (ro.go s3).cell
        obtain ⟨ws, e3, l⟩ := S3.cells.lst ex ea
        refine ⟨a, ws, _, j, rfl, rfl, e3, by rw [l.1]; exact ej, ?_⟩
        have wa : Wr m3 A.U o a := .inl (List.mem_of_getElem? ea)
        obtain ⟨ss, S4⟩ := S3.cellW (u := .lst (ws.set j v)) (c := .lst (xs.set j d)) ea (fun b e => by rw [e3] at e; cases e) ⟨_, upd_same, (l.set ((r.go s2).go s3) j).off wa (fun b n => upd_ne n) fun _ z => z⟩
        exact KS.nx1 q3 ss S4
      · exact q3.elim
    · exact q3.elim
  · exact q3.elim
/-- a cell's list lengthened -/
theorem s_app {apos cpos : Pos} (ho : PE X z (tD A E false fc)) (hz : noCall0 z = true) (ha : PE X y (tD A E false fa)) (hs : noStar y = true) (hl : (apos.endLine == cpos.line) = true) :
    PS X (.Expr (.Call (.Attribute z "append" apos) [y] [] cpos) pos) (tS A E fun σ h => RS.ofR (fc σ h) fun x h => match x with
    | .ref n => match h[n]? with
      | some (.lst _) => RS.ofR (fa σ h) fun d h => match h[n]? with
        | some (.lst xs) => if xs.length < 1000000 then .nx σ (h.set n (.lst (xs ++ [d]))) else .bad
        | _ => .bad
      | _ => .bad
    | _ => .bad) := by
  refine ps_imp (ps_expr (pe_bm PySem.F.plainAttrs_list PySem.F.slot_list_append PySem.F.type_list_append mt_append ho (pa_cons ha pa_nil (star1 hs)) (base_plain hz) (few1 hs) hl (star1 hs) rfl) (sw_plain rfl)) fun D σ H ⟨σD, hh, m, o, S, q⟩ => ?_
  refine denS S q fun od h1 m1 H1 vo s1 S1 ro nf q1 => ?_
  split at q1
  · rename_i n
    split at q1
    · rename_i xs0 ex0
      obtain ⟨a, rfl, ea⟩ := id ro.cell
      obtain ⟨ws0, e0, _⟩ := S1.cells.lst ex0 ea
      refine ⟨.inl ⟨rfl, ws0, SqL.of e0⟩, denS S1 q1 fun d h2 m2 H2 v s2 S2 r nf q2 => ?_⟩
      split at q2
      · rename_i xs ex
        split at q2
        · rename_i hlt
          have ea2 := s2.cells n a ea
          obtain ⟨ws, e3, l⟩ := S2.cells.lst ex ea2
          refine ⟨a, ws, v, rfl, rfl, e3, lim_lt (by rw [l.1]; exact hlt), ?_⟩
          have wa : Wr m2 A.U o a := .inl (List.mem_of_getElem? ea2)
          obtain ⟨ss, S3⟩ := S2.cellW (u := .lst (ws ++ [v])) (c := .lst (xs ++ [d])) ea2 (fun b e => by rw [e3] at e; cases e) ⟨_, upd_same, (l.append (RVL.cons r RVL.nil)).off wa (fun b n => upd_ne n) fun _ z => z⟩
          exact KS.nx1 q2 ss S3
        · exact q2.elim
      · exact q2.elim
    · exact q1.elim
  · exact q1.elim
theorem ip_mul : PIp X .Mult (rI CMul fun i j => .int (i * j)) := iop_mul
theorem s_aug {i : Nat} {s : Str} {o : BOp} (hN : X.N.Nodup) (hi : X.N[i]? = some s) (hx : Loc X.env.scope s) (hf : X.fn s = true ∨ X.env.scope.names.lookup s = some .local) (ho : o = .add ∨ o = .sub ∨ o = .mul) (ha : PE X x (tD A E false fa)) :
    PS X (.AugAssign (.Name s p) (bop o) x pos) (tS A E fun σ h => match getV σ i with
    | some x => RS.ofR (fa σ h) fun y h => match x, y with
      | .int a, .int b => match augI o a b with
        | some c => .nx (σ.set i (.v (.int c))) h
        | none => .bad
      | _, _ => .bad
    | none => .bad) := by
  have key : ∀ {ti : TIp}, PIp X (bop o) ti → (∀ (a b c : Int) H Q, augI o a b = some c → Q (V.int c) H → ti (V.int a) (V.int b) H Q) → PS X (.AugAssign (.Name s p) (bop o) x pos) (tS A E fun σ h => match getV σ i with
    | some x => RS.ofR (fa σ h) fun y h => match x, y with
      | .int a, .int b => match augI o a b with
        | some c => .nx (σ.set i (.v (.int c))) h
        | none => .bad
      | _, _ => .bad
    | none => .bad) := fun {ti} hp hk => by
    refine ps_imp (ps_aug hN hi hx ha hp hf) fun D σ H ⟨σD, hh, m, o', S, q⟩ => ?_
    change KS A m o' H D E (match getV σD i with
      | some x => RS.ofR (fa σD hh) fun y h => match x, y with
        | .int a, .int b => match augI o a b with
          | some c => .nx (σD.set i (.v (.int c))) h
          | none => .bad
        | _, _ => .bad
      | none => .bad) at q
    cases eg : getV σD i with
    | none => rw [eg] at q; exact q.elim
    | some dx =>
      rw [eg] at q
      unfold getV at eg
      split at eg
      · rename_i d' es
        cases eg
        obtain ⟨v, e1, r1⟩ := S.slot i _ es
        refine ⟨v, e1, denS S q fun d h1 m1 H1 w s1 S1 r nf q1 => ?_⟩
        split at q1
        · rename_i a b
          cases r1; cases r
          split at q1
          · rename_i c ec
            refine hk a b c H1 _ ec ?_
            exact KS.nx1 q1 .refl (S1.setv (List.getElem?_eq_some_iff.mp es).1 (.int c))
          · exact q1.elim
        · exact q1.elim
      · cases eg
  rcases ho with rfl | rfl | rfl
  · exact key ip_add fun a b c H Q e q => by
      cases e; exact ⟨a, b, rfl, rfl, q⟩
  · exact key ip_sub fun a b c H Q e q => by
      cases e; exact ⟨a, b, rfl, rfl, q⟩
  · exact key ip_mul fun a b c H Q e q => by
      have e : (if okMul a b then some (a * b) else none) = some c := e
      by_cases hc : okMul a b = true
      · rw [if_pos hc] at e
        cases e; exact ⟨a, b, rfl, rfl, okMul_C hc, q⟩
      · rw [if_neg hc] at e; cases e
theorem s_drop (h : noComp x = true) (ha : PE X x (tD A E false fa)) : PS X (.Expr x pos) (tS A E fun σ h => RS.ofR (fa σ h) fun _ h => .nx σ h) :=
  ps_imp (ps_expr ha (sw_plain h)) fun D σ H ⟨σD, hh, m, o, S, q⟩ => denS S q fun d h1 m1 H1 v s1 S1 r nf q1 => KS.nx1 q1 .refl S1
theorem s_ret (ha : PE X x (tD A E false fa)) : PS X (.Return (some x) pos) (tS A E fun σ h => RS.ofR (fa σ h) fun d h => .rt d h) :=
  ps_imp (ps_ret ha) fun D σ H ⟨σD, hh, m, o, S, q⟩ => denS S q fun d h1 m1 H1 v s1 S1 r nf q1 => q1 m1 o σD σ H1 v .refl S1 r
theorem s_retn : PS X (.Return none pos) (tS A E fun σ h => .rt .non h) :=
  ps_imp ps_retN fun D σ H ⟨σD, hh, m, o, S, q⟩ => q m o σD σ H .non .refl S .non
theorem s_pass : PS X (.Pass pos) (tS A E fun σ h => .nx σ h) := ps_imp ps_pass fun D σ H ⟨σD, hh, m, o, S, q⟩ => q m o σ H .refl S
theorem s_brk : PS X (.Break pos) (tS A E fun σ h => .bk σ h) := ps_imp ps_break fun D σ H ⟨σD, hh, m, o, S, q⟩ => q m o σ H .refl S
theorem s_cnt : PS X (.Continue pos) (tS A E fun σ h => .ct σ h) := ps_imp ps_continue fun D σ H ⟨σD, hh, m, o, S, q⟩ => q m o σ H .refl S
theorem s_ite (hc : PT X x (tT A E fc)) (ha : PSs X sa (tS A E f)) (hb : PSs X sb (tS A E g)) : PS X (.If x sa sb pos) (tS A E fun σ h => RS.tst (fc σ h) fun t h => if t then f σ h else g σ h) := by
  refine ps_imp (ps_if hc ha hb) fun D σ H ⟨σD, hh, m, o, S, q⟩ => denST S q fun b h1 m1 H1 s1 S1 q1 => ?_
  cases b with
  | true => exact (if_pos rfl).mpr ⟨σD, h1, m1, o, S1, q1⟩
  | false => exact (if_neg (by decide)).mpr ⟨σD, h1, m1, o, S1, q1⟩
end
end VI
namespace VI
open PySem PySem.Spec PyProof.Rows L2
section
variable {A : Amb} {X : Cx} {E : XK} {f g : En → AH → RS} {fa fb fc : En → AH → Res D} {fl : En → AH → Res (List D)} {st : Stmt} {rest sa sb : List Stmt} {x y z tg iter : Expr} {es : List Expr} {pos p p2 : Pos}
theorem s_for {k : IK} {t : Tg} {fg : List Nat} (hF : A.F.K = X.K) (hp : PassesOwn (model X.prog X.w) X.A X.env X.xe) (hc : X.calm = true) (hi : PI X tg iter (tI A E k fl)) (hg : PG X tg (gOf X.K t)) (hb : PSs X sa (tS A E f)) (hs : ∀ x, foldedSetIterable iter X.env x = pure x) :
    PS X (.For tg iter sa [] pos) (tS A E fun σ h => RS.ofR (fl σ h) fun vs h => match itD k vs h with
    | some xs => forGo t f fg xs σ h
    | none => .bad) := by
  refine ps_imp (ps_for hp hc hi hg hb hs) fun D σ H ⟨σD, h, m, o, S, q⟩ => ⟨σD, h, m, o, S, ?_⟩
  change KS A m o H D E (RS.ofR (fl σD h) fun vs h => match itD k vs h with
    | some xs => forGo t f fg xs σD h
    | none => .bad) at q
  cases ea : fl σD h with
  | bad => rw [ea] at q; exact q
  | ex c fs h' =>
    rw [ea] at q
    exact fun m' H' cv dv s S' x => q m' o σD σ H' cv dv (.of s) S' x
  | ok vs h1 =>
    rw [ea] at q
    have q : KS A m o H D E (match itD k vs h1 with
      | some xs => forGo t f fg xs σD h1
      | none => .bad) := q
    show match itD k vs h1 with
      | some xs => _
      | none => False
    cases ei : itD k vs h1 with
    | none => rw [ei] at q; exact q.elim
    | some xs =>
      rw [ei] at q
      have q : KS A m o H D E (forGo t f fg xs σD h1) := q
      intro m1 H1 J st1 S1 ⟨G, Y, wk, hY⟩
      have q := KS.mono q (.of st1)
      let Pv : Nat → L2.St → Hp → Prop := fun i σ' H' => ∃ (σD' : En) (h' : AH) (m' : List Addr) (o' : Nat → Option Addr), SStep A.F.isM m1 o H1 m' o' H' ∧ Sim A σD' h' m' o' σ' H' ∧ KS A m1 o H1 D E (forGo t f fg (xs.drop i) σD' h')
      have lat : ∀ {σD' : En} {h' : AH} {m' : List Addr} {o' : Nat → Option Addr} {σ' : L2.St} {H' : Hp}, SStep A.F.isM m1 o H1 m' o' H' → Sim A σD' h' m' o' σ' H' → Later A.F H1 m1 (Wr m1 A.U o) H' m' (Wr m' A.U o') := fun {σD' h' m' o' σ' H'} s S =>
        ⟨fun a u e n => s.keep a u e (fun z => n (.inl z)) fun i z => n (.inr (.inr ⟨i, z⟩)), s.cells, s.wr, fun a w => S.wh w⟩
      refine for_it wk Pv ⟨σD, h1, m1, o, .refl, S1, q⟩ ?_ ?_ ?_
      · rintro i σ' H' hi ⟨σD', h', m', o', s, S', _⟩
        exact (hY H' m' _ (lat s S')).1
      · rintro i x σ' H' H3 hi ⟨σD', h', m', o', s, S', kq⟩ y
        obtain ⟨d, ed, hH, rx⟩ := (hY H' m' _ (lat s S')).2 i x H3 hi y
        have S3 : Sim A σD' h' m' o' σ' H3 ∧ Step m' none_ H' m' H3 := by
          rcases hH with rfl | ⟨p, u, hp, rfl⟩
          · exact ⟨S', Step.refl⟩
          · obtain ⟨s, S2⟩ := S'.laid (u := u) hp
            exact ⟨S2, s⟩
        obtain ⟨S3, st3⟩ := S3
        have s3 : SStep A.F.isM m1 o H1 m' o' H3 := s.trans (.of st3)
        have hdrop : xs.drop i = d :: xs.drop (i + 1) := by
          obtain ⟨hlt, e⟩ := List.getElem?_eq_some_iff.mp ed
          rw [← e]; exact List.drop_eq_getElem_cons hlt
        rw [hdrop] at kq
        have kq : KS A m1 o H1 D E (match bindT t d σD' with
          | none => .bad
          | some σ1 => match f σ1 h' with
            | .nx σ2 h2 => forGo t f fg (xs.drop (i + 1)) (fgtL σ2 fg) h2
            | .ct σ2 h2 => forGo t f fg (xs.drop (i + 1)) (fgtL σ2 fg) h2
            | .bk σ2 h2 => .nx (fgtL σ2 fg) h2
            | r => r) := kq
        cases eb : bindT t d σD' with
        | none => rw [eb] at kq; exact kq.elim
        | some σ1 =>
          rw [eb] at kq
          have kq : KS A m1 o H1 D E (match f σ1 h' with
            | .nx σ2 h2 => forGo t f fg (xs.drop (i + 1)) (fgtL σ2 fg) h2
            | .ct σ2 h2 => forGo t f fg (xs.drop (i + 1)) (fgtL σ2 fg) h2
            | .bk σ2 h2 => .nx (fgtL σ2 fg) h2
            | r => r) := kq
          rw [← hF]
          refine gOf_ok t S3 rx eb fun σ4 S4 _ _ => ⟨σ1, h', m', o', S4, ?_⟩
          cases ef : f σ1 h' with
          | bad => rw [ef] at kq; exact kq
          | nx σ2 h2 =>
            rw [ef] at kq
            exact fun m5 o5 σ5 H5 s5 S5 => ⟨fgtL σ2 fg, h2, m5, o5, s3.trans s5, S5.fgt fg, kq⟩
          | ct σ2 h2 =>
            rw [ef] at kq
            exact fun m5 o5 σ5 H5 s5 S5 => ⟨fgtL σ2 fg, h2, m5, o5, s3.trans s5, S5.fgt fg, kq⟩
          | bk σ2 h2 =>
            rw [ef] at kq
            exact fun m5 o5 σ5 H5 s5 S5 => kq m5 o5 σ5 H5 (s3.trans s5) (S5.fgt fg)
          | rt d h2 =>
            rw [ef] at kq
            exact fun m5 o5 σD5 σ5 H5 v s5 S5 r => kq m5 o5 σD5 σ5 H5 v (s3.trans s5) S5 r
          | ex c fs h2 =>
            rw [ef] at kq
            exact fun m5 o5 σD5 σ5 H5 cv dv s5 S5 r => kq m5 o5 σD5 σ5 H5 cv dv (s3.trans s5) S5 r
      · rintro σ' H' ⟨σD', h', m', o', s, S', kq⟩
        rw [List.drop_length] at kq
        exact kq m' o' σ' H' s (S'.fgt fg)
theorem s_whl {n : Nat} {fg : List Nat} (hp : PassesOwn (model X.prog X.w) X.A X.env X.xe) (hc : PT X x (tT A E fc)) (hb : PSs X sa (tS A E f)) :
    PS X (.While x sa [] pos) (tS A E fun σ h => whlGo fc f fg n σ h) := by
  refine ps_imp (ps_while hp hc hb) fun D σ H ⟨σD, h, m, o, S, q⟩ => ?_
  refine ⟨fun n σ' H' => ∃ (σD' : En) (h' : AH) (m' : List Addr) (o' : Nat → Option Addr), SStep A.F.isM m o H m' o' H' ∧ Sim A σD' h' m' o' σ' H' ∧ KS A m o H D E (whlGo fc f fg n σD' h'), ⟨n, σD, h, m, o, .refl, S, q⟩, ?_⟩
  rintro n σ' H' ⟨σD', h', m', o', s, S', kq⟩
  cases n with
  | zero => exact kq.elim
  | succ n =>
    have kq : KS A m o H D E (RS.tst (fc σD' h') fun t h1 => if t then
      match f σD' h1 with
      | .nx σ2 h2 => whlGo fc f fg n (fgtL σ2 fg) h2
      | .ct σ2 h2 => whlGo fc f fg n (fgtL σ2 fg) h2
      | .bk σ2 h2 => .nx (fgtL σ2 fg) h2
      | r => r
    else .nx (fgtL σD' fg) h1) := kq
    refine ⟨σD', h', m', o', S', ?_⟩
    cases e : fc σD' h' with
    | bad => rw [e] at kq; exact kq
    | ex c fs h2 =>
      rw [e] at kq
      exact fun m5 H5 cv dv s5 S5 x => kq m5 o' σD' σ' H5 cv dv (s.trans (.of s5)) S5 x
    | ok d h1 =>
      rw [e] at kq
      cases d with
      | bl b =>
        intro m1 H1 s1 S1
        have s1 := s.trans (SStep.of s1)
        cases b with
        | false => exact (if_neg (by decide)).mpr (kq m1 o' σ' H1 s1 (S1.fgt fg))
        | true =>
          have kq : KS A m o H D E (match f σD' h1 with
            | .nx σ2 h2 => whlGo fc f fg n (fgtL σ2 fg) h2
            | .ct σ2 h2 => whlGo fc f fg n (fgtL σ2 fg) h2
            | .bk σ2 h2 => .nx (fgtL σ2 fg) h2
            | r => r) := kq
          refine (if_pos rfl).mpr ⟨_, fun σ5 H5 w => ⟨n, Nat.lt_succ_self n, w⟩, σD', h1, m1, o', S1, ?_⟩
          cases ef : f σD' h1 with
          | bad => rw [ef] at kq; exact kq
          | nx σ2 h2 =>
            rw [ef] at kq
            exact fun m5 o5 σ5 H5 s5 S5 => ⟨fgtL σ2 fg, h2, m5, o5, s1.trans s5, S5.fgt fg, kq⟩
          | ct σ2 h2 =>
            rw [ef] at kq
            exact fun m5 o5 σ5 H5 s5 S5 => ⟨fgtL σ2 fg, h2, m5, o5, s1.trans s5, S5.fgt fg, kq⟩
          | bk σ2 h2 =>
            rw [ef] at kq
            exact fun m5 o5 σ5 H5 s5 S5 => kq m5 o5 σ5 H5 (s1.trans s5) (S5.fgt fg)
          | rt d h2 =>
            rw [ef] at kq
            exact fun m5 o5 σD5 σ5 H5 v s5 S5 r => kq m5 o5 σD5 σ5 H5 v (s1.trans s5) S5 r
          | ex c fs h2 =>
            rw [ef] at kq
            exact fun m5 o5 σD5 σ5 H5 cv dv s5 S5 r => kq m5 o5 σD5 σ5 H5 cv dv (s1.trans s5) S5 r
      | _ => exact kq.elim
end
def isGhost : S → Bool
  | .frz _ => true
  | .fgt _ => true
  | _ => false
mutual
def mtS (M : Mt) (sc : Scope) : S → Stmt → Bool
  | .ass t e => fun s => V? (sAss s) fun (tg, x) => mtT M.N (locB sc) t tg && mtE M sc e x && (match t with | .nm _ => noComp x || isLc e | _ => noComp x && noTupD x)
  | .own i e => fun s => V? (sAss s) fun (tg, x) => mtT M.N (locB sc) (.nm i) tg && mtE M sc e x && mkE e && (noComp x || isLc e)
  | .setx o k e => fun s => V? (sAss s) fun (tg, x) => V? (vSub tg) fun (z, y) => mtE M sc e x && mtE M sc o z && mtE M sc k y && noSlice y
  | .seto i k e => fun s => V? (sAss s) fun (tg, x) => V? (vSub tg) fun (z, y) => mtE M sc e x && (V? (vName z) fun n => varB M.N sc i n) && mtE M sc k y && noSlice y
  | .aug i o e => fun s => V? (sAug s) fun (tg, op, x) => decide (bop o = op) && mtT M.N (locB sc) (.nm i) tg && mtE M sc e x && (decide (o = .add) || decide (o = .sub) || decide (o = .mul))
  | .app o e => fun s => V? (sExpr s) fun x => V? (vBm x) fun (z, n, es) => decide (n = ofS "append") && mtE M sc o z && noCall0 z && (match es with | [y] => mtE M sc e y && noStar y | _ => false)
  | .appo i e => fun s => V? (sExpr s) fun x => V? (vBm x) fun (z, n, es) => decide (n = ofS "append") && (V? (vName z) fun n => varB M.N sc i n) && (match es with | [y] => mtE M sc e y && noStar y | _ => false)
  | .exto i e => fun s => V? (sExpr s) fun x => V? (vBm x) fun (z, n, es) => decide (n = ofS "extend") && (V? (vName z) fun n => varB M.N sc i n) && (match es with | [y] => mtE M sc e y && noStar y | _ => false)
  | .drop e => fun s => V? (sExpr s) fun x => mtE M sc e x && noComp x
  | .ret e => fun s => V? (sRet s) fun x => match x with | some x => mtE M sc e x | none => false
  | .retn => fun s => V? (sRet s) fun x => x.isNone
  | .ite c a b => fun s => V? (sIf s) fun (x, sa, sb) => mtE M sc c x && mtSs M sc a sa && mtSs M sc b sb
  | .for_ t k a b fg => fun s => V? (sFor s) fun (tg, iter, sa) => mtT M.N (locB sc) t tg && mtIt k (fun x => mtI1 M sc a x) (fun es => mtL M sc a es) sc tg iter && mtSs M sc b sa && noSet iter
  | .whl n c b fg => fun s => V? (sWhl s) fun (x, sa) => mtE M sc c x && mtSs M sc b sa
  | .brk => fun s => match s with | .Break _ => true | _ => false
  | .cnt => fun s => match s with | .Continue _ => true | _ => false
  | .pass => fun s => match s with | .Pass _ => true | _ => false
  | _ => fun _ => false
termination_by structural s => s
def mtSs (M : Mt) (sc : Scope) : S → List Stmt → Bool
  | .nil => fun ss => ss.isEmpty
  | .seq s r => fun ss => if isGhost s then mtSs M sc r ss else match ss with
    | x :: xs => mtS M sc s x && mtSs M sc r xs
    | [] => false
  | _ => fun _ => false
termination_by structural s => s
end
structure PXS (M : Mt) (C : String → List D → AH → Res D) (CI : String → List D → AH → Res (List (String × D))) (k : Nat) (s : S) : Prop where
  ps : ∀ {A : Amb} {X : Cx} {Ex : XK} {sc : Scope} {st : Stmt}, Fit M C CI k (locB sc) sc A X Ex → mtS M sc s st = true → PS X st (tS A Ex (xc M.T C CI s))
  pss : ∀ {A : Amb} {X : Cx} {Ex : XK} {sc : Scope} {st : List Stmt}, Fit M C CI k (locB sc) sc A X Ex → mtSs M sc s st = true → PSs X st (tS A Ex (xc M.T C CI s))
section
variable {M : Mt} {C : String → List D → AH → Res D} {CI : String → List D → AH → Res (List (String × D))} {k : Nat} {tb : Str → Bool} {sc : Scope} {A : Amb} {X : Cx} {Ex : XK}
theorem PXS.of {s : S} (h : ∀ {A : Amb} {X : Cx} {Ex : XK} {sc : Scope} {st : Stmt}, Fit M C CI k (locB sc) sc A X Ex → mtS M sc s st = true → PS X st (tS A Ex (xc M.T C CI s))) (hl : ∀ {sc : Scope} {xs : List Stmt}, mtSs M sc s xs = false) : PXS M C CI k s :=
  ⟨h, fun _ q => (by rw [hl] at q; cases q)⟩
theorem PXS.none {s : S} (h1 : ∀ {sc : Scope} {x : Stmt}, mtS M sc s x = false) (h2 : ∀ {sc : Scope} {xs : List Stmt}, mtSs M sc s xs = false) : PXS M C CI k s :=
  ⟨fun _ h => (by rw [h1] at h; cases h), fun _ h => (by rw [h2] at h; cases h)⟩
theorem Fit.u1 (f : Fit M C CI k tb sc A X Ex) : X.A.units + 1 < cLine := by have := f.units; omega
theorem mtT_name {N : List Str} {i : Nat} {tg : Expr} (h : mtT N tb (.nm i) tg = true) : ∃ y p, tg = .Name y p ∧ N[i]? = some y ∧ tb y = true := by
  cases tg <;> simp only [mtT, Bool.and_eq_true, decide_eq_true_eq, Bool.false_eq_true] at h
  exact ⟨_, _, rfl, h.1, h.2⟩
theorem Fit.pg (f : Fit M C CI k tb sc A X Ex) {t : Tg} {tg : Expr} (h : mtT M.N tb t tg = true) : PG X tg (gOf X.K t) :=
  pg_of f.good.calm f.good.nd f.good.tb t (by rw [← f.N]; exact h)
theorem swl_plain {x t : Expr} {n : Nat} {env : PySem.Env} (h : noComp x = true) : swapsWithSole [t] x n env = pure false := sw_plain h
theorem ss_plain {x : Expr} {ts : List Expr} {env : PySem.Env} (h : noTupD x = true) : swappedStores ts x env = pure none := by
  cases x <;> first | (cases h; done) | skip
  all_goals (unfold swappedStores; split <;> first | rfl | (rename_i e; split at e <;> first | (rename_i z; cases z; done) | (cases e; done)))
theorem each1 {N : List Str} {t : Tg} {tg : Expr} {env : PySem.Env} (h : mtT N tb t tg = true) : (assignEach [tg] env).map (·.2) = [assign tg env] := by
  rw [mtT_each h]; rfl
theorem xs_ass {t : Tg} {e : VI.E} : PXS M C CI k (.ass t e) := by
  refine .of (fun {A X Ex sc st} f h => ?_) (by simp [mtSs])
  simp only [mtS] at h
  replace h := V?_ok h; obtain ⟨⟨tg, x⟩, e1, h⟩ := h
  obtain ⟨p, rfl⟩ := sAss_ok e1
  simp only [Bool.and_eq_true] at h
  obtain ⟨⟨h1, h2⟩, h3⟩ := h
  cases t with
  | nm i =>
    obtain ⟨y, p2, rfl, h4, h5⟩ := mtT_name h1
    exact s_ass (t := .nm i) (ps_name (fr := false) f h2 (fun z => by cases z) h3 h4 h5)
  | tp l =>
    have h3 : (noComp x && noTupD x) = true := h3
    rw [Bool.and_eq_true] at h3
    refine s_ass (t := .tp l) (ps_asg ((px_all e).1.pe f h2 (fun z => by cases z)) (by rw [f.good.K]; exact f.pg h1) (swl_plain h3.1) (ss_plain h3.2) (each1 h1))
  | nil => simp [mtT] at h1
  | cons _ _ => simp [mtT] at h1
theorem xs_own {i : Nat} {e : VI.E} : PXS M C CI k (.own i e) := by
  refine .of (fun {A X Ex sc st} f h => ?_) (by simp [mtSs])
  simp only [mtS] at h
  replace h := V?_ok h; obtain ⟨⟨tg, x⟩, e1, h⟩ := h
  obtain ⟨p, rfl⟩ := sAss_ok e1
  simp only [Bool.and_eq_true] at h
  obtain ⟨⟨⟨h1, h2⟩, h3⟩, h4⟩ := h
  obtain ⟨y, p2, rfl, h5, h6⟩ := mtT_name h1
  exact s_own (ps_name (fr := true) f h2 (fun _ => h3) h4 h5 h6)
theorem xs_setx {o kk e : VI.E} : PXS M C CI k (.setx o kk e) := by
  refine .of (fun {A X Ex sc st} f h => ?_) (by simp [mtSs])
  simp only [mtS] at h
  replace h := V?_ok h; obtain ⟨⟨tg, x⟩, e1, h⟩ := h
  obtain ⟨p, rfl⟩ := sAss_ok e1
  replace h := V?_ok h; obtain ⟨⟨z, y⟩, e2, h⟩ := h
  obtain ⟨p2, rfl⟩ := vSub_ok e2
  simp only [Bool.and_eq_true] at h
  obtain ⟨⟨⟨h1, h2⟩, h3⟩, h4⟩ := h
  exact s_setx ((px_all e).1.pe f h1 (fun z => by cases z)) ((px_all o).1.pe f h2 (fun z => by cases z)) ((px_all kk).1.pe f h3 (fun z => by cases z)) h4
theorem xs_seto {i : Nat} {kk e : VI.E} : PXS M C CI k (.seto i kk e) := by
  refine .of (fun {A X Ex sc st} f h => ?_) (by simp [mtSs])
  simp only [mtS] at h
  replace h := V?_ok h; obtain ⟨⟨tg, x⟩, e1, h⟩ := h
  obtain ⟨p, rfl⟩ := sAss_ok e1
  replace h := V?_ok h; obtain ⟨⟨z, y⟩, e2, h⟩ := h
  obtain ⟨p2, rfl⟩ := vSub_ok e2
  simp only [Bool.and_eq_true] at h
  obtain ⟨⟨⟨h1, h2⟩, h3⟩, h4⟩ := h
  replace h2 := V?_ok h2; obtain ⟨n, e3, h2⟩ := h2
  obtain ⟨p3, rfl⟩ := vName_ok e3
  obtain ⟨g1, g2, g3, g4⟩ := varB_ok h2
  exact s_seto (by rw [← f.N]; exact g1) (by rw [f.sc]; exact g2) g3 g4 f.u1 ((px_all e).1.pe f h1 (fun z => by cases z)) ((px_all kk).1.pe f h3 (fun z => by cases z)) h4
theorem xs_aug {i : Nat} {o : BOp} {e : VI.E} : PXS M C CI k (.aug i o e) := by
  refine .of (fun {A X Ex sc st} f h => ?_) (by simp [mtSs])
  simp only [mtS] at h
  replace h := V?_ok h; obtain ⟨⟨tg, op, x⟩, e1, h⟩ := h
  obtain ⟨p, rfl⟩ := sAug_ok e1
  simp only [Bool.and_eq_true, Bool.or_eq_true, decide_eq_true_eq] at h
  obtain ⟨⟨⟨rfl, h1⟩, h2⟩, h3⟩ := h
  obtain ⟨y, p2, rfl, h5, h6⟩ := mtT_name h1
  obtain ⟨hx, hf⟩ := f.good.tb y h6
  exact s_aug f.good.nd (by rw [← f.N]; exact h5) hx hf (by rcases h3 with (h3 | h3) | h3; exact .inl h3; exact .inr (.inl h3); exact .inr (.inr h3)) ((px_all e).1.pe f h2 (fun z => by cases z))
theorem xs_app {o e : VI.E} : PXS M C CI k (.app o e) := by
  refine .of (fun {A X Ex sc st} f h => ?_) (by simp [mtSs])
  simp only [mtS] at h
  replace h := V?_ok h; obtain ⟨x, e1, h⟩ := h
  obtain ⟨p, rfl⟩ := sExpr_ok e1
  replace h := V?_ok h; obtain ⟨⟨z, n, es⟩, e2, h⟩ := h
  obtain ⟨p2, p3, rfl, hl⟩ := vBm_ok e2
  simp only [Bool.and_eq_true, decide_eq_true_eq] at h
  obtain ⟨⟨⟨rfl, h1⟩, h2⟩, h3⟩ := h
  split at h3
  · rw [Bool.and_eq_true] at h3
    exact s_app ((px_all o).1.pe f h1 (fun z => by cases z)) h2 ((px_all e).1.pe f h3.1 (fun z => by cases z)) h3.2 hl
  · cases h3
theorem xs_appo {i : Nat} {e : VI.E} : PXS M C CI k (.appo i e) := by
  refine .of (fun {A X Ex sc st} f h => ?_) (by simp [mtSs])
  simp only [mtS] at h
  replace h := V?_ok h; obtain ⟨x, e1, h⟩ := h
  obtain ⟨p, rfl⟩ := sExpr_ok e1
  replace h := V?_ok h; obtain ⟨⟨z, n, es⟩, e2, h⟩ := h
  obtain ⟨p2, p3, rfl, hl⟩ := vBm_ok e2
  simp only [Bool.and_eq_true, decide_eq_true_eq] at h
  obtain ⟨⟨rfl, h1⟩, h3⟩ := h
  replace h1 := V?_ok h1; obtain ⟨n, e3, h1⟩ := h1
  obtain ⟨p4, rfl⟩ := vName_ok e3
  obtain ⟨g1, g2, g3, g4⟩ := varB_ok h1
  split at h3
  · rw [Bool.and_eq_true] at h3
    exact s_appo (by rw [← f.N]; exact g1) (by rw [f.sc]; exact g2) g3 g4 ((px_all e).1.pe f h3.1 (fun z => by cases z)) h3.2 hl
  · cases h3
theorem xs_exto {i : Nat} {e : VI.E} : PXS M C CI k (.exto i e) := by
  refine .of (fun {A X Ex sc st} f h => ?_) (by simp [mtSs])
  simp only [mtS] at h
  replace h := V?_ok h; obtain ⟨x, e1, h⟩ := h
  obtain ⟨p, rfl⟩ := sExpr_ok e1
  replace h := V?_ok h; obtain ⟨⟨z, n, es⟩, e2, h⟩ := h
  obtain ⟨p2, p3, rfl, hl⟩ := vBm_ok e2
  simp only [Bool.and_eq_true, decide_eq_true_eq] at h
  obtain ⟨⟨rfl, h1⟩, h3⟩ := h
  replace h1 := V?_ok h1; obtain ⟨n, e3, h1⟩ := h1
  obtain ⟨p4, rfl⟩ := vName_ok e3
  obtain ⟨g1, g2, g3, g4⟩ := varB_ok h1
  split at h3
  · rw [Bool.and_eq_true] at h3
    exact s_exto (by rw [← f.N]; exact g1) (by rw [f.sc]; exact g2) g3 g4 ((px_all e).1.pe f h3.1 (fun z => by cases z)) h3.2 hl
  · cases h3
theorem xs_drop {e : VI.E} : PXS M C CI k (.drop e) := by
  refine .of (fun {A X Ex sc st} f h => ?_) (by simp [mtSs])
  simp only [mtS] at h
  replace h := V?_ok h; obtain ⟨x, e1, h⟩ := h
  obtain ⟨p, rfl⟩ := sExpr_ok e1
  rw [Bool.and_eq_true] at h
  exact s_drop h.2 ((px_all e).1.pe f h.1 (fun z => by cases z))
theorem xs_ret {e : VI.E} : PXS M C CI k (.ret e) := by
  refine .of (fun {A X Ex sc st} f h => ?_) (by simp [mtSs])
  simp only [mtS] at h
  replace h := V?_ok h; obtain ⟨x, e1, h⟩ := h
  obtain ⟨p, rfl⟩ := sRet_ok e1
  cases x with
  | some x => exact s_ret ((px_all e).1.pe f h (fun z => by cases z))
  | none => cases h
theorem xs_retn : PXS M C CI k .retn := by
  refine .of (fun {A X Ex sc st} f h => ?_) (by simp [mtSs])
  simp only [mtS] at h
  replace h := V?_ok h; obtain ⟨x, e1, h⟩ := h
  obtain ⟨p, rfl⟩ := sRet_ok e1
  cases x with
  | none => exact s_retn
  | some x => cases h
theorem xs_ite {c : VI.E} {a b : S} (ha : PXS M C CI k a) (hb : PXS M C CI k b) : PXS M C CI k (.ite c a b) := by
  refine .of (fun {A X Ex sc st} f h => ?_) (by simp [mtSs])
  simp only [mtS] at h
  replace h := V?_ok h; obtain ⟨⟨x, sa, sb⟩, e1, h⟩ := h
  obtain ⟨p, rfl⟩ := sIf_ok e1
  simp only [Bool.and_eq_true] at h
  exact s_ite ((px_all c).1.pt f h.1.1) (ha.pss f h.1.2) (hb.pss f h.2)
theorem xs_for {t : Tg} {kk : IK} {a : VI.E} {b : S} {fg : List Nat} (hb : PXS M C CI k b) : PXS M C CI k (.for_ t kk a b fg) := by
  refine .of (fun {A X Ex sc st} f h => ?_) (by simp [mtSs])
  simp only [mtS] at h
  replace h := V?_ok h; obtain ⟨⟨tg, iter, sa⟩, e1, h⟩ := h
  obtain ⟨p, rfl⟩ := sFor_ok e1
  simp only [Bool.and_eq_true] at h
  obtain ⟨⟨⟨h1, h2⟩, h3⟩, h4⟩ := h
  exact s_for f.good.K f.good.own f.good.calm (pi_it (px_all a).1 (px_all a).2 f h2) (f.pg h1) (hb.pss f h3) (noSet_ok h4)
theorem xs_whl {n : Nat} {c : VI.E} {b : S} {fg : List Nat} (hb : PXS M C CI k b) : PXS M C CI k (.whl n c b fg) := by
  refine .of (fun {A X Ex sc st} f h => ?_) (by simp [mtSs])
  simp only [mtS] at h
  replace h := V?_ok h; obtain ⟨⟨x, sa⟩, e1, h⟩ := h
  obtain ⟨p, rfl⟩ := sWhl_ok e1
  simp only [Bool.and_eq_true] at h
  exact s_whl f.good.own ((px_all c).1.pt f h.1) (hb.pss f h.2)
theorem xs_brk : PXS M C CI k .brk := by
  refine .of (fun {A X Ex sc st} f h => ?_) (by simp [mtSs])
  simp only [mtS] at h
  split at h
  · exact s_brk
  · cases h
theorem xs_cnt : PXS M C CI k .cnt := by
  refine .of (fun {A X Ex sc st} f h => ?_) (by simp [mtSs])
  simp only [mtS] at h
  split at h
  · exact s_cnt
  · cases h
theorem xs_pass : PXS M C CI k .pass := by
  refine .of (fun {A X Ex sc st} f h => ?_) (by simp [mtSs])
  simp only [mtS] at h
  split at h
  · exact s_pass
  · cases h
theorem xs_nil : PXS M C CI k .nil := by
  refine ⟨fun _ h => (by simp [mtS] at h), fun {A X Ex sc st} f h => ?_⟩
  simp only [mtSs] at h
  rw [List.isEmpty_iff.mp h]
  exact s_nil
theorem xs_seq {s r : S} (hs : PXS M C CI k s) (hr : PXS M C CI k r) : PXS M C CI k (.seq s r) := by
  refine ⟨fun _ h => (by simp [mtS] at h), fun {A X Ex sc st} f h => ?_⟩
  simp only [mtSs] at h
  split at h
  · rename_i hg
    cases s <;> first | (cases hg; done) | skip
    · exact s_frz (hr.pss f h)
    · exact s_fgt (hr.pss f h)
  · cases st with
    | nil => cases h
    | cons x xs =>
      have h : (mtS M sc s x && mtSs M sc r xs) = true := h
      rw [Bool.and_eq_true] at h
      exact s_seq (hs.ps f h.1) (hr.pss f h.2)
theorem pxs_all (s : S) : PXS M C CI k s := by
  induction s with
  | nil => exact xs_nil
  | seq s r hs hr => exact xs_seq hs hr
  | ass t e => exact xs_ass
  | own i e => exact xs_own
  | setx o k e => exact xs_setx
  | seto i k e => exact xs_seto
  | aug i o e => exact xs_aug
  | app o e => exact xs_app
  | appo i e => exact xs_appo
  | exto i e => exact xs_exto
  | drop e => exact xs_drop
  | ret e => exact xs_ret
  | retn => exact xs_retn
  | ite c a b ha hb => exact xs_ite ha hb
  | for_ t kk a b fg hb => exact xs_for hb
  | whl n c b fg hb => exact xs_whl hb
  | brk => exact xs_brk
  | cnt => exact xs_cnt
  | pass => exact xs_pass
  | _ => exact .none (by simp [mtS]) (by simp [mtSs])
end
end VI
namespace VI
open PySem PySem.Spec PyProof.Rows L2
theorem zip_has : ∀ {ns : List Str} {us : List Value}, us.length = ns.length → ∀ n ∈ ns, ((ns.zip us).lookup n).isNone = false
  | [], _, _, n, h => by simp at h
  | m :: ns, [], hl, n, h => by simp at hl
  | m :: ns, u :: us, hl, n, h => by
    show (((m, u) :: ns.zip us).lookup n).isNone = false
    rw [List.lookup_cons]
    cases e : n == m with
    | true => rfl
    | false =>
      have hne : n ≠ m := by simpa using e
      exact zip_has (by simpa using hl) n (by rcases List.mem_cons.mp h with q | q; exact absurd q hne; exact q)
theorem miss_nil {ns : List Str} {us : List Value} (hl : us.length = ns.length) : (ns.filter fun n => ((ns.zip us).lookup n).isNone) = [] := by
  rw [List.filter_eq_nil_iff]
  intro n hn
  rw [zip_has hl n hn]; simp
theorem fm_congr {α β : Type} {f g : α → Option β} : ∀ {l : List α}, (∀ n ∈ l, f n = g n) → l.filterMap f = l.filterMap g
  | [], _ => rfl
  | a :: l, h => by
    rw [List.filterMap_cons, List.filterMap_cons, h a List.mem_cons_self, fm_congr fun n hn => h n (List.mem_cons_of_mem _ hn)]
theorem look_zip : ∀ {ns : List Str} {us : List Value}, ns.Nodup → us.length = ns.length → ns.filterMap (fun n => ((ns.zip us).lookup n).map fun x => (n, x)) = ns.zip us
  | [], _, _, _ => rfl
  | m :: ns, [], _, hl => by simp at hl
  | m :: ns, u :: us, nd, hl => by
    have ih := look_zip (ns := ns) (us := us) (List.nodup_cons.mp nd).2 (by simpa using hl)
    have e1 : ((m :: ns).zip (u :: us)).lookup m = some u := by
      show ((m, u) :: ns.zip us).lookup m = _
      rw [List.lookup_cons]; simp
    have e2 : ns.filterMap (fun n => (((m :: ns).zip (u :: us)).lookup n).map fun x => (n, x)) = ns.filterMap (fun n => ((ns.zip us).lookup n).map fun x => (n, x)) := by
      refine fm_congr fun n hn => ?_
      have hne : (n == m) = false := by
        have : n ≠ m := fun q => (List.nodup_cons.mp nd).1 (q ▸ hn)
        simpa using this
      show ((((m, u) :: ns.zip us).lookup n).map _) = _
      rw [List.lookup_cons, hne]
    rw [List.filterMap_cons, e1, e2, ih]
    rfl
theorem bind_plain {x qual : Str} {as : List Arg} {body : List Stmt} {scope : Scope} {kV doc pm : Value} {an : Option Addr} {cdv ct : Value} {us : List Value} (nd : (as.map (·.arg)).Nodup) (hl : us.length = as.length) :
    bindArgs (PySem.W.fnOf x qual ⟨[], as, none, [], [], none, []⟩ body scope .none kV doc pm an cdv ct) ⟨us, []⟩ = pure ((as.map (·.arg)).zip us) := by
  have hl' : us.length = (as.map (·.arg)).length := by rw [List.length_map]; exact hl
  have hm := miss_nil hl'
  have hz := look_zip nd hl'
  unfold bindArgs
  simp [seqItems?, hl, hm, -List.filterMap_map]
  rw [if_neg (by
    rw [List.take_of_length_le (by simp)]
    simp only [List.map_nil, List.nil_append]
    rw [hm]; simp)]
  rw [hz]
  rfl
theorem start_sim {F : Fix} {U : Addr → Prop} {m : List Addr} {h : AH} {H : Hp} {N : List Str} {fd : FD} {ds : List D} {vs : List V} (hns : fd.ns = N.length) (c : Cells F H m (Wr m U o0) h) (u0 : ∀ a, U a → a ∉ m ∧ ∃ u, H a = some u) (r : RVL F H m (Wr m U o0) ds vs) :
    Sim ⟨F, m, H, none_, U⟩ (startD fd ds) h m o0 (L2.start N vs) H := by
  have hl := r.1
  refine ⟨Step.refl, c, ?_, fun i s e => ?_, fun i j a e => (by cases e), fun i a e => (by cases e), u0, fun i j c fs c' fs' e => ?_, fun i a e => (by cases e)⟩
  · unfold startD L2.start
    rw [List.length_append, List.length_append, List.length_map, List.length_map, List.length_replicate, List.length_replicate, hl, hns]
  · unfold startD at e
    by_cases q : i < ds.length
    · rw [List.getElem?_append_left (by simpa using q), List.getElem?_map, Option.map_eq_some_iff] at e
      obtain ⟨d, e1, rfl⟩ := e
      obtain ⟨v, e2, rv⟩ := r.get e1
      refine ⟨v, ?_, rv⟩
      unfold L2.start
      rw [List.getElem?_append_left (by rw [List.length_map, hl]; exact q), List.getElem?_map, e2]; rfl
    · rw [List.getElem?_append_right (by simpa using q), List.getElem?_replicate] at e
      split at e
      · cases e; trivial
      · cases e
  · unfold startD at e
    by_cases q : i < ds.length
    · rw [List.getElem?_append_left (by simpa using q), List.getElem?_map, Option.map_eq_some_iff] at e
      obtain ⟨d, _, e⟩ := e
      cases e
    · rw [List.getElem?_append_right (by simpa using q), List.getElem?_replicate] at e
      split at e <;> cases e
theorem wr0o {m : List Addr} {U : Addr → Prop} {o : Nat → Option Addr} {a : Addr} (w : Wr m U o0 a) : Wr m U o a := by
  rcases wr0.mp w with w | w
  · exact .inl w
  · exact .inr (.inl w)
theorem ExcOk.w {F : Fix} {H : Hp} {m : List Addr} {W W' : Addr → Prop} {c : String} {fs : List (String × D)} {cv : Value} {dv : Option Addr} (x : ExcOk F H m W c fs cv dv) (h : ∀ a, W' a → W a) : ExcOk F H m W' c fs cv dv :=
  ⟨x.1, x.2.imp id fun ⟨d, fv, e1, e2, g, e3, e4⟩ => ⟨d, fv, e1, e2, g, e3, fun f x e => (e4 f x e).w h⟩⟩
theorem KS_of_KC {F : Fix} {U : Addr → Prop} {m : List Addr} {H : Hp} {Q : VK} {E : XK} {r : RS} (q : KC F U m H Q E (match r with
      | .nx _ h => .ok .non h
      | .rt d h => .ok d h
      | .ex c fs h => .ex c fs h
      | _ => .bad)) : KS ⟨F, m, H, none_, U⟩ m o0 H { nx := fun _ H' => Q .non H', rt := Q } E r := by
  cases r with
  | nx σ h => exact fun m' o' σ' H' _ S => q m' H' .non S.step (S.cells.w fun a w => wr0o w) .non
  | rt d h => exact fun m' o' σD' σ' H' v _ S r => q m' H' v S.step (S.cells.w fun a w => wr0o w) (r.w fun a w => wr0o w)
  | ex c fs h => exact fun m' o' σD' σ' H' cv dv _ S x => q m' H' cv dv S.step (S.cells.w fun a w => wr0o w) (x.w fun a w => wr0o w)
  | bk σ h => exact (q : False).elim
  | ct σ h => exact (q : False).elim
  | bad => exact q
/-- a def as the program has it -/
structure DefAt (G : Glb) (f : String) (fd : FD) : Prop where
  ex : ∃ (ad : Addr) (fdd : FuncData) (x qual : Str) (as : List Arg) (body : List Stmt) (scope : Scope) (N : List Str), G.mg (G.gn f) = some (.ref ad) ∧ FunD G.F.K x qual ⟨[], as, none, [], [], none, []⟩ body scope [] [] ad fdd ∧ FnScope N (as.map (·.arg)) scope ∧ as.length = fd.np ∧ fd.ns = N.length ∧ mtSs ⟨N, G.gn, G.T⟩ scope fd.body body = true
theorem scope_nd {N P : List Str} {sc : Scope} (S : FnScope N P sc) : P.Nodup := by
  have := S.pre
  rw [← this]
  exact S.nd.sublist (List.take_sublist _ _)
theorem def_body {G : Glb} {n : Nat} {f : String} {fd : FD} {ad : Addr} {fdd : FuncData} {x qual : Str} {as : List Arg} {body : List Stmt} {scope : Scope} {N : List Str} (ih : CallsOk G (2 * n) (callD G.T n) (initD G.T n)) (hf : G.T.fn f = some fd)
    (F : FunD G.F.K x qual ⟨[], as, none, [], [], none, []⟩ body scope [] [] ad fdd) (S : FnScope N (as.map (·.arg)) scope) (hnp : as.length = fd.np) (hns : fd.ns = N.length) (hm : mtSs ⟨N, G.gn, G.T⟩ scope fd.body body = true) :
    FnOk G.P G.w G.F.K G.mg G.base (L2.CX G.P G.w) (2 * n + 2) ad fdd (as.map (·.arg)) (spC G.F fd.np (callD G.T (n + 1) f)) := by
  refine F.ok (k := 2 * n + 1) S (fun vs H Q E h => ?_) fun cdv A outer s H vs Q E hr h => ?_
  · rw [h.1, List.length_map]; exact hnp.symm
  · obtain ⟨hl, m, hh, ds, U, c, u0, r, q⟩ := h
    refine ⟨tS ⟨G.F, m, H, none_, U⟩ E (xc G.T (callD G.T n) (initD G.T n) fd.body), ?_, startD fd ds, hh, m, o0, start_sim hns c u0 r, ?_⟩
    · refine (pxs_all (M := ⟨N, G.gn, G.T⟩) (k := 2 * n) fd.body).pss (sc := scope) ⟨⟨rfl, rfl, S.nd, fun y hy => ?_, hr, passes_call (W := fun cls d _ H => E cls d H) (takes_of rfl rfl rfl rfl) (fun _ _ _ _ h => h), passes_of rfl, ih⟩, rfl, rfl⟩ hm
      unfold locB at hy
      split at hy
      · rename_i e; exact ⟨.inl e, .inl rfl⟩
      · rename_i e; exact ⟨.inr e, .inl rfl⟩
      · cases hy
    · have hq : KC G.F U m H Q E (callB G.T (callD G.T n) (initD G.T n) f ds hh) := q
      unfold callB at hq
      rw [hf] at hq
      have hq : KC G.F U m H Q E (if ds.length = fd.np then
        match xc G.T (callD G.T n) (initD G.T n) fd.body (startD fd ds) hh with
        | .nx _ h => .ok .non h
        | .rt d h => .ok d h
        | .ex c fs h => .ex c fs h
        | _ => .bad
      else .bad) := hq
      rw [if_pos (by rw [← r.1]; exact hl)] at hq
      exact KS_of_KC hq
theorem def_ok {G : Glb} {n : Nat} {f : String} {fd : FD} (ih : CallsOk G (2 * n) (callD G.T n) (initD G.T n)) (hf : G.T.fn f = some fd) (d : DefAt G f fd) :
    ∃ ad, G.mg (G.gn f) = some (.ref ad) ∧ FnAt G (2 * (n + 1)) (spC G.F fd.np (callD G.T (n + 1) f)) ad fd.np := by
  obtain ⟨ad, fdd, x, qual, as, body, scope, N, e1, F, S, hnp, hns, hm⟩ := d.ex
  exact ⟨ad, e1, ⟨fdd, as.map (·.arg), def_body ih hf F S hnp hns hm, by rw [List.length_map]; exact hnp, F.bindsN fun kV doc pm an cdv ct us hl => bind_plain (scope_nd S) (by rw [List.length_map] at hl; exact hl)⟩, F.kp⟩
/-- every level -/
theorem calls_all {G : Glb} (hcls : ∀ f fd, G.T.fn f = some fd → fd.cls = none → DefAt G f fd) (bnm : ∀ b ∈ biNames, G.mg (ofS b) = none) (glo : ∀ x d, G.T.gl x = some d → ∃ u v, G.mg (G.gn x) = some u ∧ RelV v u ∧ ∀ H m W, RV G.F H m W d v) :
    ∀ n, CallsOk G (2 * n) (callD G.T n) (initD G.T n)
  | 0 => by
    refine ⟨fun f fd hf hc => ?_, fun _ _ _ _ => rfl, fun _ _ _ _ _ _ => rfl, bnm, glo⟩
    obtain ⟨ad, fdd, x, qual, as, body, scope, N, e1, F, S, hnp, hns, hm⟩ := (hcls f fd hf hc).ex
    refine ⟨ad, e1, ⟨fdd, as.map (·.arg), ⟨fun vs H Q E h => ?_, fun A outer s H args us vs Q E _ _ _ _ h => ?_⟩, by rw [List.length_map]; exact hnp, ?_⟩, F.kp⟩
    · rw [h.1, List.length_map]; exact hnp.symm
    · obtain ⟨_, _, _, _, _, _, _, _, q⟩ := h
      exact (q : False).elim
    · exact F.bindsN fun kV doc pm an cdv ct us hl => bind_plain (scope_nd S) (by rw [List.length_map] at hl; exact hl)
  | n + 1 => by
    have ih := calls_all hcls bnm glo n
    refine ⟨fun f fd hf hc => def_ok ih hf (hcls f fd hf hc), fun f hf ds h => ?_, fun f fd hf ds h hl => ?_, bnm, glo⟩
    · show callB _ _ _ f ds h = .bad
      unfold callB
      rw [hf]
    · show callB _ _ _ f ds h = .bad
      unfold callB
      rw [hf]
      exact if_neg hl
end VI
namespace VI
open PySem PySem.Spec PyProof.Rows L2
structure Row where
  key : String
  fd : FD
  d : He.DefD
  N : List Str
def plainA : Arguments → Bool
  | ⟨[], _, none, [], [], none, []⟩ => true
  | _ => false
theorem plainA_ok {a : Arguments} (h : plainA a = true) : a = ⟨[], a.args, none, [], [], none, []⟩ := by
  unfold plainA at h
  split at h
  · rfl
  · cases h
def Row.ok (gn : String → Str) (T : Tab) (r : Row) : Bool := decide (r.d.at_ = (gn r.key, none)) && r.d.dfl.isEmpty && r.d.kwd.isEmpty && plainA r.d.params && C8.scC r.N (r.d.params.args.map (·.arg)) r.d.scope &&
  (r.d.params.args.length == r.fd.np) && (r.fd.ns == r.N.length) && r.fd.cls.isNone && mtSs ⟨r.N, gn, T⟩ r.d.scope r.fd.body r.d.body
/-- what the table's rows tell -/
def rowT (rows : List Row) : List (String × FD) := rows.map fun r => (r.key, r.fd)
theorem rowT_mem {rows : List Row} {f : String} {fd : FD} (h : (rowT rows).lookup f = some fd) : ∃ r ∈ rows, r.key = f ∧ r.fd = fd := by
  induction rows with
  | nil => cases h
  | cons r rs ih =>
    have h : ((r.key, r.fd) :: rowT rs).lookup f = some fd := h
    rw [List.lookup_cons] at h
    split at h
    · rename_i e
      cases h
      exact ⟨r, List.mem_cons_self, (by simpa using e : f = r.key).symm, rfl⟩
    · obtain ⟨r', h1, h2⟩ := ih h
      exact ⟨r', List.mem_cons_of_mem _ h1, h2⟩
section
variable {P : Program} {w : World} {K : PySem.W.Frag} {mg : Str → Option Value} {h base : Heap} {fa : List He.Fa} {fn : List He.DefD} {F : Fix} {T : Tab} {gn : String → Str}
theorem row_fun {r : Row} (c : He.SaysD fa fn K) (hr : r.ok gn T = true) (hd : r.d ∈ fn) : ∃ fdd, FunD K r.d.name r.d.qual ⟨[], r.d.params.args, none, [], [], none, []⟩ r.d.body r.d.scope [] [] (He.ga K (gn r.key)) fdd := by
  obtain ⟨fdd, FF⟩ := c.defs hd
  unfold Row.ok at hr
  simp only [Bool.and_eq_true, decide_eq_true_eq, beq_iff_eq] at hr
  obtain ⟨⟨⟨⟨⟨⟨⟨⟨h1, h2⟩, h3⟩, h4⟩, h5⟩, h6⟩, h7⟩, h8⟩, h9⟩ := hr
  have e2 : r.d.dvs K = [] := by unfold He.DefD.dvs; rw [List.isEmpty_iff.mp h2]; rfl
  have e3 : r.d.kws K = [] := by unfold He.DefD.kws; rw [List.isEmpty_iff.mp h3]; rfl
  rw [e2, e3, plainA_ok h4, h1] at FF
  exact ⟨fdd, FF⟩
theorem row_at {r : Row} (X : K.In h) (G : h.Ns mainGlobals mg) (c : He.SaysD fa fn K) (hK : F.K = K) (hr : r.ok gn T = true) (hd : r.d ∈ fn) (hg : He.Fa.glo (gn r.key) ∈ fa) : DefAt ⟨P, w, mg, base, F, T, gn⟩ r.key r.fd := by
  obtain ⟨fdd, FF⟩ := row_fun c hr hd
  have e := He.glo_ok X G (c.facts hg)
  unfold Row.ok at hr
  simp only [Bool.and_eq_true, decide_eq_true_eq, beq_iff_eq] at hr
  obtain ⟨⟨⟨⟨⟨⟨⟨⟨h1, h2⟩, h3⟩, h4⟩, h5⟩, h6⟩, h7⟩, h8⟩, h9⟩ := hr
  subst hK
  exact ⟨_, fdd, r.d.name, r.d.qual, r.d.params.args, r.d.body, r.d.scope, r.N, e, FF, C8.fnScope_by h5, h6, h7, h9⟩
/-- the facts that are asked of the head -/
def faOf (gn : String → Str) (rows : List Row) (more : List He.Fa) : List He.Fa := rows.map (fun r => He.Fa.glo (gn r.key)) ++ (biNames.map (fun b => He.Fa.free (ofS b)) ++ more)
def fnOf' (rows : List Row) (more : List He.DefD) : List He.DefD := rows.map (·.d) ++ more
theorem rows_calls {rows : List Row} {faM : List He.Fa} {fnM : List He.DefD} (X : K.In h) (G : h.Ns mainGlobals mg) (c : He.SaysD (faOf gn rows faM) (fnOf' rows fnM) K) (hK : F.K = K) (hT : T.fn = fun f => (rowT rows).lookup f) (hrows : rows.all (fun r => r.ok gn T) = true)
    (glo : ∀ x d, T.gl x = some d → ∃ u v, mg (gn x) = some u ∧ RelV v u ∧ ∀ H m W, RV F H m W d v) (n : Nat) : CallsOk ⟨P, w, mg, base, F, T, gn⟩ (2 * n) (callD T n) (initD T n) := by
  refine calls_all (G := ⟨P, w, mg, base, F, T, gn⟩) (fun f fd hf hc => ?_) (fun b hb => ?_) glo n
  · have hf : T.fn f = some fd := hf
    rw [hT] at hf
    obtain ⟨r, hm, rfl, rfl⟩ := rowT_mem hf
    exact row_at X G c hK (List.all_eq_true.mp hrows r hm) (List.mem_append_left _ (List.mem_map.mpr ⟨r, hm, rfl⟩)) (List.mem_append_left _ (List.mem_map.mpr ⟨r, hm, rfl⟩))
  · exact He.free_ok X G (c.facts (List.mem_append_right _ (List.mem_append_left _ (List.mem_map.mpr ⟨b, hb, rfl⟩))))
/-- a law that answers True -/
theorem law_sp {n : Nat} {H : Hp} {a : Addr} {ns : List Int} {h' : AH} (hS : SqL F.K H a (ns.map V.int)) (hl : callD T n "law" [.scr ns] [] = .ok (.bl true) h') : spC F 1 (callD T n "law") [.ref a] H (fun v _ => v = .bl true) fun _ _ _ => False := by
  have nw : ∀ {a}, ¬ Wr [] (fun _ => False) o0 a := fun {a} w => by
    rcases wr0.mp w with w | w
    · cases w
    · exact w
  refine ⟨rfl, [], [], [.scr ns], fun _ => False, ⟨rfl, List.nodup_nil, fun n c e => by simp at e⟩, fun _ u => u.elim, ?_, ?_⟩
  · refine .cons (.scr ?_) .nil
    rcases hS with hS | hS
    · exact .inl ⟨hS, nw⟩
    · exact .inr hS
  · rw [hl]
    intro m' H' v _ _ r
    cases r; rfl
theorem law_facts {rows : List Row} {faM : List He.Fa} {fnM : List He.DefD} {fL : Addr} {n : Nat} {r : Row} {x : Str} (X : K.In h) (G : h.Ns mainGlobals mg) (c : He.SaysD (faOf gn rows faM) (fnOf' rows fnM) K) (hK : F.K = K) (hT : T.fn = fun f => (rowT rows).lookup f) (hrows : rows.all (fun r => r.ok gn T) = true)
    (glo : ∀ x d, T.gl x = some d → ∃ u v, mg (gn x) = some u ∧ RelV v u ∧ ∀ H m W, RV F H m W d v) (hr : r ∈ rows) (hk : r.key = "law") (hx : r.d.params.args.map (·.arg) = [x]) (hfa : mg (gn "law") = some (.ref fL)) (hl : (rowT rows).lookup "law" = some r.fd) (hnp : r.fd.np = 1) :
    ∃ fdd : FuncData, (∀ (s : Shared) (v : Value), BindsTo s fdd ⟨[v], []⟩ [(x, v)]) ∧ ∀ base : Heap, FnOk P w K mg base (L2.CX P w) (2 * n + 2) fL fdd [x] (spC F 1 (callD T (n + 1) "law")) := by
  have hro := List.all_eq_true.mp hrows r hr
  have hm : r.d ∈ fnOf' rows fnM := List.mem_append_left _ (List.mem_map.mpr ⟨r, hr, rfl⟩)
  have hf : T.fn "law" = some r.fd := by rw [hT]; exact hl
  obtain ⟨fdd, FF⟩ := row_fun c hro hm
  have eg := He.glo_ok X G (c.facts (f := He.Fa.glo (gn r.key)) (List.mem_append_left _ (List.mem_map.mpr ⟨r, hr, rfl⟩)))
  rw [hk] at eg FF
  have e := hfa.symm.trans eg
  cases e
  unfold Row.ok at hro
  simp only [Bool.and_eq_true, decide_eq_true_eq, beq_iff_eq] at hro
  obtain ⟨⟨⟨⟨⟨⟨⟨⟨h1, h2⟩, h3⟩, h4⟩, h5⟩, h6⟩, h7⟩, h8⟩, h9⟩ := hro
  subst hK
  have hnd : (r.d.params.args.map (·.arg)).Nodup := by rw [hx]; simp
  have hlen : r.d.params.args.length = 1 := by have := congrArg List.length hx; simpa using this
  refine ⟨fdd, fun s v => ?_, ?_⟩
  · have := FunD.bindsA (ps := r.d.params.args.map (·.arg)) FF (fun kV doc pm an cdv ct us hl => bind_plain hnd (by rw [List.length_map] at hl; exact hl)) s [v] (by rw [hx]; rfl)
    rw [hx] at this
    exact this
  · intro base
    have ih := rows_calls (P := P) (w := w) (base := base) X G c rfl hT hrows glo n
    have d : DefAt ⟨P, w, mg, base, F, T, gn⟩ "law" r.fd := ⟨_, fdd, r.d.name, r.d.qual, r.d.params.args, r.d.body, r.d.scope, r.N, eg, FF, C8.fnScope_by h5, h6, h7, h9⟩
    have S := C8.fnScope_by h5
    have := def_body (G := ⟨P, w, mg, base, F, T, gn⟩) (n := n) (f := "law") ih hf FF S h6 h7 h9
    rw [hx, hnp] at this
    exact this
/-- nothing is let out -/
theorem fn_cx0 {k : Nat} {f : Addr} {fd : FuncData} {ps : List Str} {sp : Sp} (FF : FnOk P w K mg base (L2.CX P w) k f fd ps sp) : FnOk P w K mg base L2.CX0 k f fd ps (fun vs H Q _ => sp vs H Q fun _ _ _ => False) := by
  refine ⟨fun vs H Q E h => FF.len _ _ _ _ h, fun A outer s H args us vs Q E hr he hb hv hs => codeAny_mono (FF.run A outer s H args us vs Q _ hr he hb hv hs) fun r s' q => ?_⟩
  cases r with
  | error e =>
    obtain ⟨_, _, _, _, _, _, _, _, _, _, _, _, z⟩ := (q : L2.CX P w outer H s (fun _ _ _ => False) e s')
    exact z.elim
  | ok fl => cases fl <;> exact q
end
end VI
namespace VI
open PySem
theorem cs (T : Tab) (n : Nat) (f : String) (ds : List D) (h : AH) : callD T (n + 1) f ds h = callB T (callD T n) (initD T n) f ds h := rfl
/-- a body's end as a call's -/
def fin : RS → Res D
  | .nx _ h => .ok .non h
  | .rt d h => .ok d h
  | .ex c fs h => .ex c fs h
  | _ => .bad
theorem callB_of {T : Tab} {C : String → List D → AH → Res D} {CI : String → List D → AH → Res (List (String × D))} {f : String} {fd : FD} {ds : List D} {h : AH} (hf : T.fn f = some fd) (hl : ds.length = fd.np) :
    callB T C CI f ds h = fin (xc T C CI fd.body (startD fd ds) h) := by
  unfold callB
  rw [hf]
  show (if ds.length = fd.np then _ else _) = _
  rw [if_pos hl]
  cases xc T C CI fd.body (startD fd ds) h <;> rfl
theorem call_of {T : Tab} {n : Nat} {f : String} {fd : FD} {ds : List D} {h : AH} (hf : T.fn f = some fd) (hl : ds.length = fd.np) :
    callD T (n + 1) f ds h = fin (xc T (callD T n) (initD T n) fd.body (startD fd ds) h) := callB_of hf hl
section
variable {α β : Type} {a : α} {h : AH} {f : α → AH → Res β} {g : α → AH → RS} {c : String} {fs : List (String × D)} {p : Prop} [Decidable p] {x y : Res α} {u v : RS} {k : En → AH → RS} {σ : En} {d : D} {b : Bool} {t : Bool → AH → Res β} {w : Bool → AH → RS} {m n : Res D}
@[simp] theorem bind_ok : (Res.ok a h).bind f = f a h := rfl
@[simp] theorem bind_ex : (Res.ex c fs h : Res α).bind f = .ex c fs h := rfl
@[simp] theorem bind_bad : (Res.bad : Res α).bind f = .bad := rfl
@[simp] theorem bind_ite : (if p then x else y).bind f = if p then x.bind f else y.bind f := by split <;> rfl
@[simp] theorem of_some : Res.of (some a) h = .ok a h := rfl
@[simp] theorem of_none : Res.of (none : Option α) h = .bad := rfl
@[simp] theorem tst_ok : (Res.ok (.bl b) h).tst t = t b h := rfl
@[simp] theorem tst_ex : (Res.ex c fs h : Res D).tst t = .ex c fs h := rfl
@[simp] theorem tst_bad : (Res.bad : Res D).tst t = .bad := rfl
@[simp] theorem tst_ite : (if p then m else n).tst t = if p then m.tst t else n.tst t := by split <;> rfl
@[simp] theorem ofR_ok : RS.ofR (Res.ok a h) g = g a h := rfl
@[simp] theorem ofR_ex : RS.ofR (Res.ex c fs h : Res α) g = .ex c fs h := rfl
@[simp] theorem ofR_bad : RS.ofR (Res.bad : Res α) g = .bad := rfl
@[simp] theorem ofR_ite : RS.ofR (if p then x else y) g = if p then RS.ofR x g else RS.ofR y g := by split <;> rfl
@[simp] theorem rtst_ok : RS.tst (Res.ok (.bl b) h) w = w b h := rfl
@[simp] theorem rtst_ex : RS.tst (Res.ex c fs h : Res D) w = .ex c fs h := rfl
@[simp] theorem rtst_bad : RS.tst (Res.bad : Res D) w = .bad := rfl
@[simp] theorem rtst_ite : RS.tst (if p then m else n) w = if p then RS.tst m w else RS.tst n w := by split <;> rfl
@[simp] theorem seq_nx : (RS.nx σ h).seq k = k σ h := rfl
@[simp] theorem seq_rt : (RS.rt d h).seq k = .rt d h := rfl
@[simp] theorem seq_bk : (RS.bk σ h).seq k = .bk σ h := rfl
@[simp] theorem seq_ct : (RS.ct σ h).seq k = .ct σ h := rfl
@[simp] theorem seq_ex : (RS.ex c fs h).seq k = .ex c fs h := rfl
@[simp] theorem seq_bad : RS.bad.seq k = .bad := rfl
@[simp] theorem seq_ite : (if p then u else v).seq k = if p then u.seq k else v.seq k := by split <;> rfl
@[simp] theorem fin_nx : fin (RS.nx σ h) = .ok .non h := rfl
@[simp] theorem fin_rt : fin (RS.rt d h) = .ok d h := rfl
@[simp] theorem fin_ex : fin (RS.ex c fs h) = .ex c fs h := rfl
@[simp] theorem fin_ite : fin (if p then u else v) = if p then fin u else fin v := by split <;> rfl
end
section
variable {σ : En} {s : Sl} {d e : D} {i : Nat} {xs : List D}
@[simp] theorem getV_0 : getV (.v d :: σ) 0 = some d := rfl
@[simp] theorem getV_s : getV (s :: σ) (i + 1) = getV σ i := rfl
@[simp] theorem setV_0 : setV (.v e :: σ) 0 d = some (.v d :: σ) := rfl
@[simp] theorem setV_0n : setV (.no :: σ) 0 d = some (.v d :: σ) := rfl
theorem setV_s : setV (s :: σ) (i + 1) d = (setV σ i d).map (s :: ·) := by
  unfold setV
  simp only [List.getElem?_cons_succ]
  split <;> simp_all
@[simp] theorem isFree_0 : isFree (.no :: σ) 0 = true := rfl
@[simp] theorem isFree_0v : isFree (.v d :: σ) 0 = true := rfl
@[simp] theorem isFree_s : isFree (s :: σ) (i + 1) = isFree σ i := rfl
@[simp] theorem bindT_nm : bindT (.nm i) d σ = setV σ i d := by cases d <;> rfl
@[simp] theorem bindT_tp {l : Tg} : bindT (.tp l) (.tup xs) σ = bindTs l xs σ := rfl
@[simp] theorem bindTs_nil : bindTs .nil [] σ = some σ := rfl
@[simp] theorem bindTs_cons {a r : Tg} : bindTs (.cons a r) (d :: xs) σ = match bindT a d σ with | some σ' => bindTs r xs σ' | none => none := rfl
theorem ixL_nat {α : Type} {l : List α} {i : Int} (h0 : 0 ≤ i) (h1 : i < l.length) : ixL l i = some (l[i.toNat]'(by omega)) := by
  unfold ixL L2.atI L2.ixN
  rw [if_pos h0, if_pos h1]
  exact List.getElem?_eq_getElem (by omega)
@[simp] theorem ixL_0 {α : Type} {x : α} {l : List α} : ixL (x :: l) 0 = some x := ixL_nat (by omega) (by simp)
@[simp] theorem ixL_1 {α : Type} {x y : α} {l : List α} : ixL (x :: y :: l) 1 = some y := ixL_nat (by omega) (by simp; omega)
@[simp] theorem ixL_2 {α : Type} {x y z : α} {l : List α} : ixL (x :: y :: z :: l) 2 = some z := ixL_nat (by omega) (by simp; omega)
@[simp] theorem ixL_3 {α : Type} {x y z w : α} {l : List α} : ixL (x :: y :: z :: w :: l) 3 = some w := ixL_nat (by omega) (by simp; omega)
end
section
variable {xs ys : List D} {i j : Int} {h : AH} {n : Nat} {k : D} {x y : Str} {b c : Bool} {ns : List Int} {kvs : List (L2.Key × D)} {d : D} {cn : String} {fs : List (String × D)} {v : D} {vs : List D}
theorem ix_tup : ixD (.tup xs) (.int i) h = ixL xs i := rfl
theorem ix_lst : ixD (.lst xs) (.int i) h = ixL xs i := rfl
theorem ix_scr : ixD (.scr ns) (.int i) h = (ixL ns i).map .int := rfl
theorem ix_ref : ixD (.ref n) (.int i) h = match h[n]? with | some (.lst xs) => ixL xs i | _ => none := rfl
theorem ix_dct : ixD (.dct kvs) k h = (keyD k).bind fun k => valD kvs k := rfl
theorem b_add : binD .add (.int i) (.int j) = some (.int (i + j)) := rfl
theorem b_sub : binD .sub (.int i) (.int j) = some (.int (i - j)) := rfl
theorem b_mul : binD .mul (.int i) (.int j) = if okMul i j then some (.int (i * j)) else none := rfl
theorem b_fdiv : binD .fdiv (.int i) (.int j) = if 0 < j ∧ j < 1073741824 then some (.int (i / j)) else none := rfl
theorem b_mod : binD .mod (.int i) (.int j) = if 0 < j then some (.int (i % j)) else none := rfl
theorem b_pow : binD .pow (.int i) (.int j) = if 0 ≤ j ∧ j ≤ 1000000 ∧ i.natAbs < 2 ^ 64 then some (.int (i ^ j.toNat)) else none := rfl
theorem b_addS : binD .add (.str x) (.str y) = if x.length + y.length ≤ 1000000 then some (.str (x ++ y)) else none := rfl
theorem b_addT : binD .add (.tup xs) (.tup ys) = if xs.length + ys.length ≤ 1000000 then some (.tup (xs ++ ys)) else none := rfl
theorem c_eqI : cmpD .eq (.int i) (.int j) = some (decide (i = j)) := rfl
theorem c_eqB : cmpD .eq (.bl b) (.bl c) = some (decide (b = c)) := rfl
theorem c_eqS : cmpD .eq (.str x) (.str y) = some (decide (x = y)) := rfl
theorem c_neI : cmpD .ne (.int i) (.int j) = some (!decide (i = j)) := rfl
theorem c_neB : cmpD .ne (.bl b) (.bl c) = some (!decide (b = c)) := rfl
theorem c_neS : cmpD .ne (.str x) (.str y) = some (!decide (x = y)) := rfl
theorem c_ltI : cmpD .lt (.int i) (.int j) = some (decide (i < j)) := rfl
theorem c_leI : cmpD .le (.int i) (.int j) = some (decide (i ≤ j)) := rfl
theorem c_gtI : cmpD .gt (.int i) (.int j) = some (decide (j < i)) := rfl
theorem c_geI : cmpD .ge (.int i) (.int j) = some (decide (j ≤ i)) := rfl
theorem l_tup : biD "len" [.tup xs] h = some (.int xs.length) := rfl
theorem l_lst : biD "len" [.lst xs] h = some (.int xs.length) := rfl
theorem l_scr : biD "len" [.scr ns] h = some (.int ns.length) := rfl
theorem l_ref : biD "len" [.ref n] h = match h[n]? with | some (.lst xs) => some (.int xs.length) | _ => none := rfl
theorem i_int : biD "int" [.int i] h = some (.int i) := rfl
theorem i_bl : biD "int" [.bl b] h = some (.int (if b then 1 else 0)) := rfl
theorem bi_abs' : biD "abs" [.int i] h = some (.int (if i < 0 then -i else i)) := rfl
theorem bi_max' : biD "max" [.int i, .int j] h = some (.int (if j > i then j else i)) := rfl
theorem bi_min' : biD "min" [.int i, .int j] h = some (.int (if j < i then j else i)) := rfl
theorem bi_tupL : biD "tuple" [.lst xs] h = some (.tup xs) := rfl
theorem bi_tupT : biD "tuple" [.tup xs] h = some (.tup xs) := rfl
theorem bi_lstL : biD "list" [.lst xs] h = some (.lst xs) := rfl
theorem bi_lstT : biD "list" [.tup xs] h = some (.lst xs) := rfl
theorem it_val : itD .val [d] h = seqD d h := rfl
theorem sq_tup : seqD (.tup xs) h = some xs := rfl
theorem sq_lst : seqD (.lst xs) h = some xs := rfl
theorem sq_scr : seqD (.scr ns) h = some (ns.map .int) := rfl
theorem it_r1 : itD .rng1 [.int j] h = if okR j then some (rngL 0 j.toNat) else none := rfl
theorem it_r2 : itD .rng2 [.int i, .int j] h = if okR i && okR j then some (rngL i (j - i).toNat) else none := rfl
theorem it_en : itD .enum [.lst xs] h = some (xs.mapIdx fun i x => .tup [.int i, x]) := rfl
theorem it_zpL : itD .zip [.lst xs, .lst ys] h = some (List.zipWith (fun x y => .tup [x, y]) xs ys) := rfl
theorem it_zpT : itD .zip [.tup xs, .tup ys] h = some (List.zipWith (fun x y => .tup [x, y]) xs ys) := rfl
end
/-- a turn's end -/
def RS.loop (r : RS) (fg : List Nat) (k : En → AH → RS) : RS := match r with
  | .nx σ h => k (fgtL σ fg) h
  | .ct σ h => k (fgtL σ fg) h
  | .bk σ h => .nx (fgtL σ fg) h
  | r => r
def tgt (o : Option En) (k : En → RS) : RS := match o with
  | none => .bad
  | some σ => k σ
theorem forGo_nil {t : Tg} {b : En → AH → RS} {fg : List Nat} {σ : En} {h : AH} : forGo t b fg [] σ h = .nx (fgtL σ fg) h := rfl
theorem forGo_cons {t : Tg} {b : En → AH → RS} {fg : List Nat} {σ : En} {h : AH} {d : D} {ds : List D} : forGo t b fg (d :: ds) σ h = tgt (bindT t d σ) fun σ1 => (b σ1 h).loop fg (forGo t b fg ds) := by
  show (match bindT t d σ with
    | none => RS.bad
    | some σ1 => match b σ1 h with
      | .nx σ2 h2 => forGo t b fg ds (fgtL σ2 fg) h2
      | .ct σ2 h2 => forGo t b fg ds (fgtL σ2 fg) h2
      | .bk σ2 h2 => .nx (fgtL σ2 fg) h2
      | r => r) = _
  cases bindT t d σ with
  | none => rfl
  | some σ1 =>
    show (match b σ1 h with
      | .nx σ2 h2 => forGo t b fg ds (fgtL σ2 fg) h2
      | .ct σ2 h2 => forGo t b fg ds (fgtL σ2 fg) h2
      | .bk σ2 h2 => .nx (fgtL σ2 fg) h2
      | r => r) = RS.loop (b σ1 h) fg (forGo t b fg ds)
    cases b σ1 h <;> rfl
theorem tgt_some {σ : En} {k : En → RS} : tgt (some σ) k = k σ := rfl
section
variable {σ : En} {h : AH} {fg : List Nat} {k : En → AH → RS} {d : D} {c : String} {fs : List (String × D)} {p : Prop} [Decidable p] {u v : RS}
theorem loop_nx : (RS.nx σ h).loop fg k = k (fgtL σ fg) h := rfl
theorem loop_ct : (RS.ct σ h).loop fg k = k (fgtL σ fg) h := rfl
theorem loop_bk : (RS.bk σ h).loop fg k = .nx (fgtL σ fg) h := rfl
theorem loop_rt : (RS.rt d h).loop fg k = .rt d h := rfl
theorem loop_ex : (RS.ex c fs h).loop fg k = .ex c fs h := rfl
theorem loop_bad : RS.bad.loop fg k = .bad := rfl
theorem loop_ite : (if p then u else v).loop fg k = if p then u.loop fg k else v.loop fg k := by split <;> rfl
end
theorem forGo_fold {α : Type} {t : Tg} {b : En → AH → RS} {fg : List Nat} {S : α → En} {Hh : α → AH} {f : α → D → α} (P : α → Prop) (hf : ∀ a, fgtL (S a) fg = S a) :
    ∀ (xs : List D) (a : α), P a → (∀ a d, P a → d ∈ xs → P (f a d) ∧ ∃ σ1 σ2, bindT t d (S a) = some σ1 ∧ b σ1 (Hh a) = .nx σ2 (Hh (f a d)) ∧ fgtL σ2 fg = S (f a d)) →
    forGo t b fg xs (S a) (Hh a) = .nx (S (xs.foldl f a)) (Hh (xs.foldl f a)) ∧ P (xs.foldl f a)
  | [], a, pa, _ => ⟨by show RS.nx (fgtL (S a) fg) (Hh a) = _; rw [hf]; rfl, pa⟩
  | d :: ds, a, pa, hs => by
    obtain ⟨p1, σ1, σ2, e1, e2, e3⟩ := hs a d pa List.mem_cons_self
    have ih := forGo_fold P hf ds (f a d) p1 fun a d p m => hs a d p (List.mem_cons_of_mem _ m)
    refine ⟨?_, ih.2⟩
    show (match bindT t d (S a) with
      | none => RS.bad
      | some σ1 => match b σ1 (Hh a) with
        | .nx σ2 h2 => forGo t b fg ds (fgtL σ2 fg) h2
        | .ct σ2 h2 => forGo t b fg ds (fgtL σ2 fg) h2
        | .bk σ2 h2 => .nx (fgtL σ2 fg) h2
        | r => r) = _
    rw [e1]
    show (match b σ1 (Hh a) with
        | .nx σ2 h2 => forGo t b fg ds (fgtL σ2 fg) h2
        | .ct σ2 h2 => forGo t b fg ds (fgtL σ2 fg) h2
        | .bk σ2 h2 => .nx (fgtL σ2 fg) h2
        | r => r) = _
    rw [e2]
    show forGo t b fg ds (fgtL σ2 fg) (Hh (f a d)) = _
    rw [e3]
    exact ih.1
theorem lcGo_pure {t : Tg} {c e : En → AH → Res D} {σ : En} {h : AH} {p : D → Bool} {g : D → D} : ∀ {xs : List D}, xs.length ≤ 1000000 → (∀ d ∈ xs, ∃ σ1, bindT t d σ = some σ1 ∧ c σ1 h = .ok (.bl (p d)) h ∧ (p d = true → e σ1 h = .ok (g d) h)) →
    lcGo t c e xs σ h = .ok ((xs.filter p).map g) h
  | [], _, _ => rfl
  | d :: ds, hl, hs => by
    rw [List.length_cons] at hl
    obtain ⟨σ1, e1, e2, e3⟩ := hs d List.mem_cons_self
    have ih := lcGo_pure (t := t) (c := c) (e := e) (σ := σ) (h := h) (p := p) (g := g) (xs := ds) (by omega) fun d m => hs d (List.mem_cons_of_mem _ m)
    simp only [lcGo, e1]
    rw [e2]
    cases hp : p d with
    | true =>
      simp only [e3 hp, ih]
      rw [if_pos (by
        rw [List.length_map]
        have := List.length_filter_le p ds
        omega), List.filter_cons_of_pos hp]
      rfl
    | false =>
      simp only [ih]
      rw [List.filter_cons_of_neg (by rw [hp]; decide)]
end VI
namespace Lk00
open VI
def f_meet : FD := { np := 2, ns := 2, body := (.seq (.ret (.and (.cons (.cmp .lt (.ix (.var 0) (.cint 0)) (.ix (.var 1) (.cint 1))) (.cons (.cmp .lt (.ix (.var 1) (.cint 0)) (.ix (.var 0) (.cint 1))) .nil))))
    .nil) }
def N_f_meet : List PySem.Str := [ofS "one", ofS "other"]
def f_lengthened : FD := { np := 2, ns := 2, body := (.seq (.ret (.tup (.cons (.ix (.var 0) (.cint 0)) (.cons (.bin .add (.ix (.var 0) (.cint 1)) (.var 1)) .nil))))
    .nil) }
def N_f_lengthened : List PySem.Str := [ofS "span", ofS "minutes"]
def f_has_minute : FD := { np := 2, ns := 2, body := (.seq (.ret (.chain .le .lt (.ix (.var 0) (.cint 0)) (.var 1) (.ix (.var 0) (.cint 1))))
    .nil) }
def N_f_has_minute : List PySem.Str := [ofS "span", ofS "minute"]
def b1_minutes_within : VI.S := (.seq (.aug 3 .add (.bi "max" (.cons (.cint 0) (.cons (.bin .sub (.bi "min" (.cons (.ix (.var 4) (.cint 1)) (.cons (.var 2) .nil))) (.bi "max" (.cons (.ix (.var 4) (.cint 0)) (.cons (.var 1) .nil)))) .nil))))
    .nil)
def f_minutes_within : FD := { np := 3, ns := 5, body := (.seq (.ass (.nm 3) (.cint 0))
    (.seq (.for_ (.nm 4) .val (.cons (.var 0) .nil) b1_minutes_within [4])
    (.seq (.ret (.var 3))
    .nil))) }
def N_f_minutes_within : List PySem.Str := [ofS "spans", ofS "first", ofS "end", ofS "count", ofS "span"]
def f_law_cell : FD := { np := 2, ns := 2, body := (.seq (.ite (.cmp .lt (.var 1) (.bi "len" (.cons (.var 0) .nil)))
    (.seq (.ret (.bi "int" (.cons (.ix (.var 0) (.var 1)) .nil)))
    .nil)
    .nil)
    (.seq (.ret (.cint 0))
    .nil)) }
def N_f_law_cell : List PySem.Str := [ofS "_law_script", ofS "_law_k"]
def b1_law_draws : VI.S := (.seq (.ite (.and (.cons (.cmp .lt (.var 5) (.var 1)) (.cons (.var 3) .nil)))
    (.seq (.appo 4 (.bin .mod (.var 2) (.cint 60)))
    (.seq (.ass (.nm 2) (.bin .fdiv (.var 2) (.cint 60)))
    .nil))
    (.seq (.ite (.cmp .lt (.var 5) (.var 1))
    (.seq (.ass (.nm 6) (.bin .mod (.bin .add (.bin .add (.bin .mul (.bi "int" (.cons (.var 2) .nil)) (.cint 48271)) (.bin .mul (.var 5) (.cint 69621))) (.cint 11)) (.cint 2147483647)))
    (.seq (.ass (.nm 6) (.bin .mod (.bin .add (.bin .add (.bin .mul (.bi "int" (.cons (.var 6) .nil)) (.bi "int" (.cons (.var 6) .nil))) (.bin .mul (.var 5) (.cint 7919))) (.cint 5)) (.cint 998244353)))
    (.seq (.appo 4 (.bin .mod (.bi "int" (.cons (.var 6) .nil)) (.cint 60)))
    (.seq (.fgt [6])
    .nil))))
    .nil)
    .nil))
    .nil)
def f_law_draws : FD := { np := 2, ns := 7, body := (.seq (.ass (.nm 2) (.bi "abs" (.cons (.bi "int" (.cons (.var 0) .nil)) .nil)))
    (.seq (.ass (.nm 3) (.cmp .ge (.var 2) (.bin .pow (.cint 10) (.cint 18))))
    (.seq (.own 4 (.lst .nil))
    (.seq (.for_ (.nm 5) .rng1 (.cons (.cint 60) .nil) b1_law_draws [5, 6])
    (.seq (.frz 4)
    (.seq (.ret (.var 4))
    .nil)))))) }
def N_f_law_draws : List PySem.Str := [ofS "_law_cell_here", ofS "_law_count", ofS "_law_number", ofS "_law_great", ofS "_law_found", ofS "_law_k", ofS "_law_mixed"]
def b1_law_stream : VI.S := (.seq (.exto 3 (.call "_law_draws" (.cons (.call "_law_cell" (.cons (.var 0) (.cons (.bin .add (.var 1) (.var 4)) .nil))) (.cons (.cint 12) .nil))))
    .nil)
def f_law_stream : FD := { np := 3, ns := 5, body := (.seq (.own 3 (.lst .nil))
    (.seq (.for_ (.nm 4) .rng1 (.cons (.var 2) .nil) b1_law_stream [4])
    (.seq (.frz 3)
    (.seq (.ret (.lst (.cons (.var 3) (.cons (.cell (.lst (.cons (.cint 0) .nil))) .nil))))
    .nil)))) }
def N_f_law_stream : List PySem.Str := [ofS "_law_script", ofS "_law_first", ofS "_law_count", ofS "_law_found", ofS "_law_k"]
def f_law_next : FD := { np := 2, ns := 5, body := (.seq (.ass (.nm 2) (.ix (.var 0) (.cint 0)))
    (.seq (.ass (.nm 3) (.ix (.var 0) (.cint 1)))
    (.seq (.ass (.nm 4) (.bin .mod (.bi "int" (.cons (.ix (.var 2) (.bin .mod (.bi "int" (.cons (.ix (.var 3) (.cint 0)) .nil)) (.bi "len" (.cons (.var 2) .nil)))) .nil)) (.var 1)))
    (.seq (.setx (.var 3) (.cint 0) (.bin .add (.ix (.var 3) (.cint 0)) (.cint 1)))
    (.seq (.ret (.var 4))
    .nil))))) }
def N_f_law_next : List PySem.Str := [ofS "_law_stream_here", ofS "_law_many", ofS "_law_digits", ofS "_law_place", ofS "_law_value"]
def f_law_is_integer : FD := { np := 1, ns := 1, body := (.seq (.ret (.and (.cons (.isi (.var 0) ["int"]) (.cons (.not (.isi (.var 0) ["bool"])) .nil))))
    .nil) }
def N_f_law_is_integer : List PySem.Str := [ofS "_law_actual"]
def b1_law_same : VI.S := (.seq (.ite (.not (.call "_law_same" (.cons (.ix (.var 0) (.var 2)) (.cons (.ix (.var 1) (.var 2)) .nil))))
    (.seq (.ret (.cbl false))
    .nil)
    .nil)
    .nil)
def f_law_same : FD := { np := 2, ns := 3, body := (.seq (.ite (.isN (.var 1))
    (.seq (.ret (.isN (.var 0)))
    .nil)
    .nil)
    (.seq (.ite (.isi (.var 1) ["bool"])
    (.seq (.ret (.and (.cons (.isi (.var 0) ["bool"]) (.cons (.cmp .eq (.var 0) (.var 1)) .nil))))
    .nil)
    .nil)
    (.seq (.ite (.isi (.var 1) ["int"])
    (.seq (.ret (.and (.cons (.call "_law_is_integer" (.cons (.var 0) .nil)) (.cons (.cmp .eq (.var 0) (.var 1)) .nil))))
    .nil)
    .nil)
    (.seq (.ite (.isi (.var 1) ["str"])
    (.seq (.ret (.and (.cons (.isi (.var 0) ["str"]) (.cons (.cmp .eq (.var 0) (.var 1)) .nil))))
    .nil)
    .nil)
    (.seq (.ite (.and (.cons (.isi (.var 1) ["tuple"]) (.cons (.not (.isi (.var 0) ["tuple"])) .nil)))
    (.seq (.ret (.cbl false))
    .nil)
    .nil)
    (.seq (.ite (.and (.cons (.isi (.var 1) ["list"]) (.cons (.not (.isi (.var 0) ["list"])) .nil)))
    (.seq (.ret (.cbl false))
    .nil)
    .nil)
    (.seq (.ite (.cmp .ne (.bi "len" (.cons (.var 0) .nil)) (.bi "len" (.cons (.var 1) .nil)))
    (.seq (.ret (.cbl false))
    .nil)
    .nil)
    (.seq (.for_ (.nm 2) .rng1 (.cons (.bi "len" (.cons (.var 1) .nil)) .nil) b1_law_same [2])
    (.seq (.ret (.cbl true))
    .nil))))))))) }
def N_f_law_same : List PySem.Str := [ofS "_law_actual", ofS "_law_expected", ofS "_law_k"]
def b1_law : VI.S := (.seq (.ass (.nm 4) (.bin .sub (.bin .add (.call "_law_next" (.cons (.var 1) (.cons (.cint 60) .nil))) (.call "_law_next" (.cons (.var 1) (.cons (.cint 31) .nil)))) (.cint 30)))
    (.seq (.appo 2 (.tup (.cons (.var 4) (.cons (.bin .add (.bin .add (.var 4) (.cint 1)) (.call "_law_next" (.cons (.var 1) (.cons (.cint 40) .nil)))) .nil))))
    .nil))
def c2_law : VI.E := (.inR false (.var 9) (.cons (.ix (.var 7) (.cint 0)) (.cons (.ix (.var 7) (.cint 1)) .nil)))
def x3_law : VI.E := (.var 9)
def b4_law : VI.S := (.seq (.ite (.not (.call "_law_same" (.cons (.call "has_minute" (.cons (.var 6) (.cons (.var 9) .nil))) (.cons (.inR false (.var 9) (.cons (.ix (.var 6) (.cint 0)) (.cons (.ix (.var 6) (.cint 1)) .nil))) .nil))))
    (.seq (.ret (.cbl false))
    .nil)
    .nil)
    .nil)
def b5_law : VI.S := (.seq (.ass (.nm 4) (.bin .add (.var 11) (.call "_law_next" (.cons (.var 1) (.cons (.cint 8) .nil)))))
    (.seq (.ass (.nm 11) (.bin .add (.bin .add (.var 4) (.cint 1)) (.call "_law_next" (.cons (.var 1) (.cons (.cint 9) .nil)))))
    (.seq (.appo 10 (.tup (.cons (.var 4) (.cons (.var 11) .nil))))
    .nil)))
def c6_law : VI.E := (.chain .le .lt (.ix (.var 14) (.cint 0)) (.var 9) (.ix (.var 14) (.cint 1)))
def x7_law : VI.E := (.var 14)
def b8_law : VI.S := (.seq (.ass (.nm 13) (.bin .add (.var 13) (.bi "len" (.cons (.lc (.nm 14) .val (.cons (.var 10) .nil) c6_law x7_law) .nil))))
    .nil)
def f_law : FD := { np := 1, ns := 15, body := (.seq (.ass (.nm 1) (.call "_law_stream" (.cons (.var 0) (.cons (.cint 0) (.cons (.cint 6) .nil)))))
    (.seq (.own 2 (.lst .nil))
    (.seq (.for_ (.nm 3) .rng1 (.cons (.cint 2) .nil) b1_law [3, 4])
    (.seq (.ass (.nm 5) (.call "_law_next" (.cons (.var 1) (.cons (.cint 21) .nil))))
    (.seq (.ass (.nm 6) (.ixo 2 (.cint 0)))
    (.seq (.ass (.nm 7) (.ixo 2 (.cint 1)))
    (.seq (.ass (.nm 8) (.lc (.nm 9) .rng2 (.cons (.ix (.var 6) (.cint 0)) (.cons (.ix (.var 6) (.cint 1)) .nil)) c2_law x3_law))
    (.seq (.ite (.or (.cons (.not (.call "_law_same" (.cons (.call "meet" (.cons (.var 6) (.cons (.var 7) .nil))) (.cons (.cmp .gt (.bi "len" (.cons (.var 8) .nil)) (.cint 0)) .nil)))) (.cons (.not (.call "_law_same" (.cons (.call "meet" (.cons (.var 7) (.cons (.var 6) .nil))) (.cons (.cmp .gt (.bi "len" (.cons (.var 8) .nil)) (.cint 0)) .nil)))) .nil)))
    (.seq (.ret (.cbl false))
    .nil)
    .nil)
    (.seq (.ite (.not (.call "_law_same" (.cons (.call "lengthened" (.cons (.var 6) (.cons (.var 5) .nil))) (.cons (.tup (.cons (.ix (.var 6) (.cint 0)) (.cons (.bin .add (.ix (.var 6) (.cint 1)) (.var 5)) .nil))) .nil))))
    (.seq (.ret (.cbl false))
    .nil)
    .nil)
    (.seq (.for_ (.nm 9) .rng2 (.cons (.bin .sub (.ix (.var 6) (.cint 0)) (.cint 2)) (.cons (.bin .add (.ix (.var 6) (.cint 0)) (.cint 45)) .nil)) b4_law [9])
    (.seq (.own 10 (.lst .nil))
    (.seq (.ass (.nm 11) (.cint 0))
    (.seq (.for_ (.nm 3) .rng1 (.cons (.call "_law_next" (.cons (.var 1) (.cons (.cint 6) .nil))) .nil) b5_law [3, 4])
    (.seq (.ass (.nm 4) (.call "_law_next" (.cons (.var 1) (.cons (.cint 50) .nil))))
    (.seq (.ass (.nm 12) (.bin .sub (.bin .add (.var 4) (.call "_law_next" (.cons (.var 1) (.cons (.cint 50) .nil)))) (.cint 5)))
    (.seq (.ass (.nm 13) (.cint 0))
    (.seq (.frz 10)
    (.seq (.for_ (.nm 9) .rng2 (.cons (.var 4) (.cons (.var 12) .nil)) b8_law [9])
    (.seq (.ret (.call "_law_same" (.cons (.call "minutes_within" (.cons (.bi "tuple" (.cons (.var 10) .nil)) (.cons (.var 4) (.cons (.var 12) .nil)))) (.cons (.var 13) .nil))))
    .nil))))))))))))))))))) }
def N_f_law : List PySem.Str := [ofS "_law_script", ofS "_law_stream_here", ofS "_law_spans", ofS "_law_k", ofS "_law_first", ofS "_law_more", ofS "_law_one", ofS "_law_other", ofS "_law_common", ofS "_law_m", ofS "_law_listed", ofS "_law_least", ofS "_law_end", ofS "_law_count", ofS "_law_span"]
def tb : List (String × FD) := [("meet", f_meet), ("lengthened", f_lengthened), ("has_minute", f_has_minute), ("minutes_within", f_minutes_within), ("_law_cell", f_law_cell), ("_law_draws", f_law_draws), ("_law_stream", f_law_stream), ("_law_next", f_law_next), ("_law_is_integer", f_law_is_integer), ("_law_same", f_law_same), ("law", f_law)]
def T : Tab := { fn := fun f => tb.lookup f, cl := fun _ => none, gl := fun _ => none, cc := fun _ _ => none, isM := fun _ => false }
end Lk00
namespace Lk00
open VI PySem PySem.Spec PyProof.Rows L2
def top (i : Nat) : PySem.Stmt := PySem.Challenge.pw_downpass_k00_spans.main.body.getD i (.Pass ⟨0, 0, 0, 0⟩)
def rows : List VI.Row := [⟨"meet", f_meet, ⟨(ofS "meet", none), ofS "meet", ofS "meet", defArgs (top 1), defBody (top 1), defScope (top 1), [], []⟩, N_f_meet⟩,
  ⟨"lengthened", f_lengthened, ⟨(ofS "lengthened", none), ofS "lengthened", ofS "lengthened", defArgs (top 2), defBody (top 2), defScope (top 2), [], []⟩, N_f_lengthened⟩,
  ⟨"has_minute", f_has_minute, ⟨(ofS "has_minute", none), ofS "has_minute", ofS "has_minute", defArgs (top 3), defBody (top 3), defScope (top 3), [], []⟩, N_f_has_minute⟩,
  ⟨"minutes_within", f_minutes_within, ⟨(ofS "minutes_within", none), ofS "minutes_within", ofS "minutes_within", defArgs (top 4), defBody (top 4), defScope (top 4), [], []⟩, N_f_minutes_within⟩,
  ⟨"_law_cell", f_law_cell, ⟨(ofS "_law_cell", none), ofS "_law_cell", ofS "_law_cell", defArgs (top 6), defBody (top 6), defScope (top 6), [], []⟩, N_f_law_cell⟩,
  ⟨"_law_draws", f_law_draws, ⟨(ofS "_law_draws", none), ofS "_law_draws", ofS "_law_draws", defArgs (top 7), defBody (top 7), defScope (top 7), [], []⟩, N_f_law_draws⟩,
  ⟨"_law_stream", f_law_stream, ⟨(ofS "_law_stream", none), ofS "_law_stream", ofS "_law_stream", defArgs (top 8), defBody (top 8), defScope (top 8), [], []⟩, N_f_law_stream⟩,
  ⟨"_law_next", f_law_next, ⟨(ofS "_law_next", none), ofS "_law_next", ofS "_law_next", defArgs (top 9), defBody (top 9), defScope (top 9), [], []⟩, N_f_law_next⟩,
  ⟨"_law_is_integer", f_law_is_integer, ⟨(ofS "_law_is_integer", none), ofS "_law_is_integer", ofS "_law_is_integer", defArgs (top 10), defBody (top 10), defScope (top 10), [], []⟩, N_f_law_is_integer⟩,
  ⟨"_law_same", f_law_same, ⟨(ofS "_law_same", none), ofS "_law_same", ofS "_law_same", defArgs (top 11), defBody (top 11), defScope (top 11), [], []⟩, N_f_law_same⟩,
  ⟨"law", f_law, ⟨(ofS "law", none), ofS "law", ofS "law", defArgs (top 12), defBody (top 12), defScope (top 12), [], []⟩, N_f_law⟩]
def nm : List PySem.Str := ["meet", "lengthened", "has_minute", "minutes_within", "_law_cell", "_law_draws", "_law_stream", "_law_next", "_law_is_integer", "_law_same"]
def faM : List He.Fa := []
def fnM : List He.DefD := []
def fa : List He.Fa := faOf ofS rows faM
def fn : List He.DefD := fnOf' rows fnM
abbrev R : PySem.W.OpenRow := PySem.W.OpenLaw.row PySem.Challenge.rw_downpass_k00_spans
abbrev hk : PySem.W.Hook := He.hookD 6 fa fn
def ob (s : PySem.W.SharedT) : He.AlD := He.obsDG 6 fa fn (HandSHeadRun.getT s)
theorem ob_eq (s : PySem.W.SharedT) : ob s = hk.obs s.abs := He.obsDG_eq (HandSHeadRun.getT_eq s)
theorem run (w : World) : HandSHeadRun.RunEq R (PySem.W.view R.prog [12]) hk ob 20000 nm w := by
  intro os
  kernel_rfl
theorem rows_ok : rows.all (fun r => r.ok ofS T) = true := by kernel_rfl
def lawRow : VI.Row := rows.getD 10 ⟨"", f_law, ⟨(ofS "", none), ofS "", ofS "", defArgs (top 0), [], defScope (top 0), [], []⟩, []⟩
def tg : String → PySem.Str := ofS
theorem ends (hlaw : ∀ ns : List Int, ∃ h', callD T (12 + 1) "law" [.scr ns] [] = .ok (.bl true) h') : PySem.Challenge.rw_downpass_k00_spans.Holds := by
  w_on; o_law
  refine HandSHeadRun.head_any (r := PySem.W.OpenLaw.row PySem.Challenge.rw_downpass_k00_spans) (q := PySem.W.view (PySem.W.OpenLaw.row PySem.Challenge.rw_downpass_k00_spans).prog [12]) (H := hk) (ob := ob) (M := 20000) (loose := nm) (d := HandSHeadRun.topDef (PySem.W.OpenLaw.row PySem.Challenge.rw_downpass_k00_spans).prog 12) (kwd := []) ob_eq
    (by kernel_rfl) (fun s => by kernel_rfl) run (by kernel_rfl) (by kernel_rfl) (by kernel_rfl) (by rfl) (by first | assumption | decide +kernel) (by decide +kernel) ⟨rfl, rfl, rfl, rfl, rfl, by decide +kernel⟩ ?hw ?hc
  case hw => w_witness2
  case hc =>
    refine L2.walk_ofE (l := PySem.Challenge.rw_downpass_k00_spans) (n := 63) (k := 2 * 12 + 2) (x := "_law_script") (CX := L2.CX0) rfl (by decide) (by kernel_rfl) ⟨rfl, by decide, by decide⟩ ?F (fun _ _ _ _ z => z)
    intro w mg fL h Y G hmg0
    obtain ⟨K, KX, c⟩ := Y
    have hmg : mg (ofS "law") = some (.ref fL) := by
      have e : (HandSHeadRun.topDef (PySem.W.OpenLaw.row PySem.Challenge.rw_downpass_k00_spans).prog 12).name = ofS "law" := by kernel_rfl
      rw [← e]
      exact hmg0
    obtain ⟨fdd, hb, hF⟩ := law_facts (P := (PySem.Challenge.rw_downpass_k00_spans).prog) (w := w) (n := 12) (F := ⟨K, fun _ => 0, T.isM⟩) (T := T) (rows := rows) (faM := faM) (fnM := fnM) (r := lawRow) (x := ofS "_law_script") KX G c rfl (by kernel_rfl) rows_ok (fun x d e => by cases e) (List.mem_of_getElem? (i := 10) (by kernel_rfl)) (by kernel_rfl) (by kernel_rfl) hmg (by kernel_rfl) (by kernel_rfl)
    refine ⟨K, fdd, _, KX, hb, fun H a ns hl _ hS => ?_, fun base _ _ => fn_cx0 (hF base)⟩
    obtain ⟨h', e⟩ := hlaw ns
    exact law_sp hS e
end Lk00
namespace Lk00
open VI PySem
theorem meet_ok (n : Nat) (a b c d : Int) (h : AH) : callD T (n + 1) "meet" [.tup [.int a, .int b], .tup [.int c, .int d]] h = .ok (.bl (decide (a < d) && decide (c < b))) h := by
  rw [call_of (fd := f_meet) rfl rfl]
  simp only [xc, ev, evs, evA, evO, startD, List.map, List.length, List.replicate, List.append_nil, List.cons_append, List.nil_append, getV_0, getV_s, setV_0, setV_0n, setV_s, isFree_0, isFree_0v, isFree_s, of_some, of_none, bind_ok, bind_ite, bind_bad, bind_ex, tst_ok, tst_ite, ofR_ok, ofR_ite, rtst_ok, rtst_ite, seq_nx, seq_rt, seq_ite, seq_bad, fin_nx, fin_rt, fin_ite, ixL_0, ixL_1, ixL_2, ixL_3, Option.map_some, Option.map_none, isND, isiD, inRD, bindT_nm, bindT_tp, bindTs_nil, bindTs_cons, fgtL, List.set_cons_zero, List.set_cons_succ, Tg.slots, List.getElem?_cons_zero, List.getElem?_cons_succ, augI, if_true, if_false, Bool.false_eq_true, reduceIte, Bool.not_true, Bool.not_false, ix_tup, ix_lst, ix_scr, ix_dct, b_add, b_sub, b_mul, b_fdiv, b_mod, b_pow, b_addS, b_addT, c_eqI, c_eqB, c_eqS, c_neI, c_neB, c_neS, c_ltI, c_leI, c_gtI, c_geI, l_tup, l_lst, l_scr, i_int, i_bl, bi_abs', bi_max', bi_min', bi_tupL, bi_tupT, bi_lstL, bi_lstT, it_val, sq_tup, sq_lst, sq_scr, it_r1, it_r2, it_en, it_zpL, it_zpT, loop_nx, loop_ct, loop_bk, loop_rt, loop_ex, loop_ite, tgt_some, f_meet]
  by_cases h1 : a < d <;> simp [h1]
theorem lengthened_ok (n : Nat) (a b c : Int) (h : AH) : callD T (n + 1) "lengthened" [.tup [.int a, .int b], .int c] h = .ok (.tup [.int a, .int (b + c)]) h := by
  rw [call_of (fd := f_lengthened) rfl rfl]
  simp only [xc, ev, evs, evA, evO, startD, List.map, List.length, List.replicate, List.append_nil, List.cons_append, List.nil_append, getV_0, getV_s, setV_0, setV_0n, setV_s, isFree_0, isFree_0v, isFree_s, of_some, of_none, bind_ok, bind_ite, bind_bad, bind_ex, tst_ok, tst_ite, ofR_ok, ofR_ite, rtst_ok, rtst_ite, seq_nx, seq_rt, seq_ite, seq_bad, fin_nx, fin_rt, fin_ite, ixL_0, ixL_1, ixL_2, ixL_3, Option.map_some, Option.map_none, isND, isiD, inRD, bindT_nm, bindT_tp, bindTs_nil, bindTs_cons, fgtL, List.set_cons_zero, List.set_cons_succ, Tg.slots, List.getElem?_cons_zero, List.getElem?_cons_succ, augI, if_true, if_false, Bool.false_eq_true, reduceIte, Bool.not_true, Bool.not_false, ix_tup, ix_lst, ix_scr, ix_dct, b_add, b_sub, b_mul, b_fdiv, b_mod, b_pow, b_addS, b_addT, c_eqI, c_eqB, c_eqS, c_neI, c_neB, c_neS, c_ltI, c_leI, c_gtI, c_geI, l_tup, l_lst, l_scr, i_int, i_bl, bi_abs', bi_max', bi_min', bi_tupL, bi_tupT, bi_lstL, bi_lstT, it_val, sq_tup, sq_lst, sq_scr, it_r1, it_r2, it_en, it_zpL, it_zpT, loop_nx, loop_ct, loop_bk, loop_rt, loop_ex, loop_ite, tgt_some, f_lengthened]
  rfl
theorem has_ok (n : Nat) (a b c : Int) (h : AH) : callD T (n + 1) "has_minute" [.tup [.int a, .int b], .int c] h = .ok (.bl (decide (a ≤ c) && decide (c < b))) h := by
  rw [call_of (fd := f_has_minute) rfl rfl]
  simp only [xc, ev, evs, evA, evO, startD, List.map, List.length, List.replicate, List.append_nil, List.cons_append, List.nil_append, getV_0, getV_s, setV_0, setV_0n, setV_s, isFree_0, isFree_0v, isFree_s, of_some, of_none, bind_ok, bind_ite, bind_bad, bind_ex, tst_ok, tst_ite, ofR_ok, ofR_ite, rtst_ok, rtst_ite, seq_nx, seq_rt, seq_ite, seq_bad, fin_nx, fin_rt, fin_ite, ixL_0, ixL_1, ixL_2, ixL_3, Option.map_some, Option.map_none, isND, isiD, inRD, bindT_nm, bindT_tp, bindTs_nil, bindTs_cons, fgtL, List.set_cons_zero, List.set_cons_succ, Tg.slots, List.getElem?_cons_zero, List.getElem?_cons_succ, augI, if_true, if_false, Bool.false_eq_true, reduceIte, Bool.not_true, Bool.not_false, ix_tup, ix_lst, ix_scr, ix_dct, b_add, b_sub, b_mul, b_fdiv, b_mod, b_pow, b_addS, b_addT, c_eqI, c_eqB, c_eqS, c_neI, c_neB, c_neS, c_ltI, c_leI, c_gtI, c_geI, l_tup, l_lst, l_scr, i_int, i_bl, bi_abs', bi_max', bi_min', bi_tupL, bi_tupT, bi_lstL, bi_lstT, it_val, sq_tup, sq_lst, sq_scr, it_r1, it_r2, it_en, it_zpL, it_zpT, loop_nx, loop_ct, loop_bk, loop_rt, loop_ex, loop_ite, tgt_some, f_has_minute]
  by_cases h1 : a ≤ c <;> simp [h1]
theorem isint_ok (n : Nat) (a : Int) (h : AH) : callD T (n + 1) "_law_is_integer" [.int a] h = .ok (.bl true) h := by
  rw [call_of (fd := f_law_is_integer) rfl rfl]
  simp only [xc, ev, evs, evA, evO, startD, List.map, List.length, List.replicate, List.append_nil, List.cons_append, List.nil_append, getV_0, getV_s, setV_0, setV_0n, setV_s, isFree_0, isFree_0v, isFree_s, of_some, of_none, bind_ok, bind_ite, bind_bad, bind_ex, tst_ok, tst_ite, ofR_ok, ofR_ite, rtst_ok, rtst_ite, seq_nx, seq_rt, seq_ite, seq_bad, fin_nx, fin_rt, fin_ite, ixL_0, ixL_1, ixL_2, ixL_3, Option.map_some, Option.map_none, isND, isiD, inRD, bindT_nm, bindT_tp, bindTs_nil, bindTs_cons, fgtL, List.set_cons_zero, List.set_cons_succ, Tg.slots, List.getElem?_cons_zero, List.getElem?_cons_succ, augI, if_true, if_false, Bool.false_eq_true, reduceIte, Bool.not_true, Bool.not_false, ix_tup, ix_lst, ix_scr, ix_dct, b_add, b_sub, b_mul, b_fdiv, b_mod, b_pow, b_addS, b_addT, c_eqI, c_eqB, c_eqS, c_neI, c_neB, c_neS, c_ltI, c_leI, c_gtI, c_geI, l_tup, l_lst, l_scr, i_int, i_bl, bi_abs', bi_max', bi_min', bi_tupL, bi_tupT, bi_lstL, bi_lstT, it_val, sq_tup, sq_lst, sq_scr, it_r1, it_r2, it_en, it_zpL, it_zpT, loop_nx, loop_ct, loop_bk, loop_rt, loop_ex, loop_ite, tgt_some, f_law_is_integer]
theorem same_bl (n : Nat) (a b : Bool) (h : AH) : callD T (n + 1) "_law_same" [.bl a, .bl b] h = .ok (.bl (decide (a = b))) h := by
  rw [call_of (fd := f_law_same) rfl rfl]
  simp only [xc, ev, evs, evA, evO, startD, List.map, List.length, List.replicate, List.append_nil, List.cons_append, List.nil_append, getV_0, getV_s, setV_0, setV_0n, setV_s, isFree_0, isFree_0v, isFree_s, of_some, of_none, bind_ok, bind_ite, bind_bad, bind_ex, tst_ok, tst_ite, ofR_ok, ofR_ite, rtst_ok, rtst_ite, seq_nx, seq_rt, seq_ite, seq_bad, fin_nx, fin_rt, fin_ite, ixL_0, ixL_1, ixL_2, ixL_3, Option.map_some, Option.map_none, isND, isiD, inRD, bindT_nm, bindT_tp, bindTs_nil, bindTs_cons, fgtL, List.set_cons_zero, List.set_cons_succ, Tg.slots, List.getElem?_cons_zero, List.getElem?_cons_succ, augI, if_true, if_false, Bool.false_eq_true, reduceIte, Bool.not_true, Bool.not_false, ix_tup, ix_lst, ix_scr, ix_dct, b_add, b_sub, b_mul, b_fdiv, b_mod, b_pow, b_addS, b_addT, c_eqI, c_eqB, c_eqS, c_neI, c_neB, c_neS, c_ltI, c_leI, c_gtI, c_geI, l_tup, l_lst, l_scr, i_int, i_bl, bi_abs', bi_max', bi_min', bi_tupL, bi_tupT, bi_lstL, bi_lstT, it_val, sq_tup, sq_lst, sq_scr, it_r1, it_r2, it_en, it_zpL, it_zpT, loop_nx, loop_ct, loop_bk, loop_rt, loop_ex, loop_ite, tgt_some, f_law_same]
theorem same_int (n : Nat) (a b : Int) (h : AH) : callD T (n + 2) "_law_same" [.int a, .int b] h = .ok (.bl (decide (a = b))) h := by
  rw [call_of (fd := f_law_same) rfl rfl]
  simp only [xc, ev, evs, evA, evO, startD, List.map, List.length, List.replicate, List.append_nil, List.cons_append, List.nil_append, getV_0, getV_s, setV_0, setV_0n, setV_s, isFree_0, isFree_0v, isFree_s, of_some, of_none, bind_ok, bind_ite, bind_bad, bind_ex, tst_ok, tst_ite, ofR_ok, ofR_ite, rtst_ok, rtst_ite, seq_nx, seq_rt, seq_ite, seq_bad, fin_nx, fin_rt, fin_ite, ixL_0, ixL_1, ixL_2, ixL_3, Option.map_some, Option.map_none, isND, isiD, inRD, bindT_nm, bindT_tp, bindTs_nil, bindTs_cons, fgtL, List.set_cons_zero, List.set_cons_succ, Tg.slots, List.getElem?_cons_zero, List.getElem?_cons_succ, augI, if_true, if_false, Bool.false_eq_true, reduceIte, Bool.not_true, Bool.not_false, ix_tup, ix_lst, ix_scr, ix_dct, b_add, b_sub, b_mul, b_fdiv, b_mod, b_pow, b_addS, b_addT, c_eqI, c_eqB, c_eqS, c_neI, c_neB, c_neS, c_ltI, c_leI, c_gtI, c_geI, l_tup, l_lst, l_scr, i_int, i_bl, bi_abs', bi_max', bi_min', bi_tupL, bi_tupT, bi_lstL, bi_lstT, it_val, sq_tup, sq_lst, sq_scr, it_r1, it_r2, it_en, it_zpL, it_zpT, loop_nx, loop_ct, loop_bk, loop_rt, loop_ex, loop_ite, tgt_some, f_law_same, isint_ok]
theorem same_tup (n : Nat) (a b c d : Int) (h : AH) : callD T (n + 3) "_law_same" [.tup [.int a, .int b], .tup [.int c, .int d]] h = .ok (.bl (decide (a = c) && decide (b = d))) h := by
  rw [call_of (fd := f_law_same) rfl rfl]
  simp only [xc, ev, evs, evA, evO, startD, List.map, List.length, List.replicate, List.append_nil, List.cons_append, List.nil_append, getV_0, getV_s, setV_0, setV_0n, setV_s, isFree_0, isFree_0v, isFree_s, of_some, of_none, bind_ok, bind_ite, bind_bad, bind_ex, tst_ok, tst_ite, ofR_ok, ofR_ite, rtst_ok, rtst_ite, seq_nx, seq_rt, seq_ite, seq_bad, fin_nx, fin_rt, fin_ite, ixL_0, ixL_1, ixL_2, ixL_3, Option.map_some, Option.map_none, isND, isiD, inRD, bindT_nm, bindT_tp, bindTs_nil, bindTs_cons, fgtL, List.set_cons_zero, List.set_cons_succ, Tg.slots, List.getElem?_cons_zero, List.getElem?_cons_succ, augI, if_true, if_false, Bool.false_eq_true, reduceIte, Bool.not_true, Bool.not_false, ix_tup, ix_lst, ix_scr, ix_dct, b_add, b_sub, b_mul, b_fdiv, b_mod, b_pow, b_addS, b_addT, c_eqI, c_eqB, c_eqS, c_neI, c_neB, c_neS, c_ltI, c_leI, c_gtI, c_geI, l_tup, l_lst, l_scr, i_int, i_bl, bi_abs', bi_max', bi_min', bi_tupL, bi_tupT, bi_lstL, bi_lstT, it_val, sq_tup, sq_lst, sq_scr, it_r1, it_r2, it_en, it_zpL, it_zpT, loop_nx, loop_ct, loop_bk, loop_rt, loop_ex, loop_ite, tgt_some, f_law_same]
  have e : (if okR ((0 + 1 + 1 : Nat) : Int) = true then some (rngL 0 ((0 + 1 + 1 : Nat) : Int).toNat) else none) = some [.int 0, .int 1] := rfl
  rw [e]
  simp only [xc, ev, evs, evA, evO, startD, List.map, List.length, List.replicate, List.append_nil, List.cons_append, List.nil_append, getV_0, getV_s, setV_0, setV_0n, setV_s, isFree_0, isFree_0v, isFree_s, of_some, of_none, bind_ok, bind_ite, bind_bad, bind_ex, tst_ok, tst_ite, ofR_ok, ofR_ite, rtst_ok, rtst_ite, seq_nx, seq_rt, seq_ite, seq_bad, fin_nx, fin_rt, fin_ite, ixL_0, ixL_1, ixL_2, ixL_3, Option.map_some, Option.map_none, isND, isiD, inRD, bindT_nm, bindT_tp, bindTs_nil, bindTs_cons, fgtL, List.set_cons_zero, List.set_cons_succ, Tg.slots, List.getElem?_cons_zero, List.getElem?_cons_succ, augI, if_true, if_false, Bool.false_eq_true, reduceIte, Bool.not_true, Bool.not_false, ix_tup, ix_lst, ix_scr, ix_dct, b_add, b_sub, b_mul, b_fdiv, b_mod, b_pow, b_addS, b_addT, c_eqI, c_eqB, c_eqS, c_neI, c_neB, c_neS, c_ltI, c_leI, c_gtI, c_geI, l_tup, l_lst, l_scr, i_int, i_bl, bi_abs', bi_max', bi_min', bi_tupL, bi_tupT, bi_lstL, bi_lstT, it_val, sq_tup, sq_lst, sq_scr, it_r1, it_r2, it_en, it_zpL, it_zpT, loop_nx, loop_ct, loop_bk, loop_rt, loop_ex, loop_ite, tgt_some, forGo_cons, forGo_nil, same_int, b1_law_same]
  by_cases h1 : a = c <;> by_cases h2 : b = d <;> simp [h1, h2]
/-- a pair as data -/
abbrev pr (p : Int × Int) : D := .tup [.int p.1, .int p.2]
def part1 (f e : Int) (p : Int × Int) : Int := let a := (if e < p.2 then e else p.2) - (if f > p.1 then f else p.1); if a > 0 then a else 0
theorem within_ok (n : Nat) (ps : List (Int × Int)) (f e : Int) (h : AH) : callD T (n + 1) "minutes_within" [.tup (ps.map pr), .int f, .int e] h = .ok (.int ((ps.map (part1 f e)).sum)) h := by
  rw [call_of (fd := f_minutes_within) rfl rfl]
  simp only [xc, ev, evs, evA, evO, startD, List.map, List.length, List.replicate, List.append_nil, List.cons_append, List.nil_append, getV_0, getV_s, setV_0, setV_0n, setV_s, isFree_0, isFree_0v, isFree_s, of_some, of_none, bind_ok, bind_ite, bind_bad, bind_ex, tst_ok, tst_ite, ofR_ok, ofR_ite, rtst_ok, rtst_ite, seq_nx, seq_rt, seq_ite, seq_bad, fin_nx, fin_rt, fin_ite, ixL_0, ixL_1, ixL_2, ixL_3, Option.map_some, Option.map_none, isND, isiD, inRD, bindT_nm, bindT_tp, bindTs_nil, bindTs_cons, fgtL, List.set_cons_zero, List.set_cons_succ, Tg.slots, List.getElem?_cons_zero, List.getElem?_cons_succ, augI, if_true, if_false, Bool.false_eq_true, reduceIte, Bool.not_true, Bool.not_false, ix_tup, ix_lst, ix_scr, ix_dct, b_add, b_sub, b_mul, b_fdiv, b_mod, b_pow, b_addS, b_addT, c_eqI, c_eqB, c_eqS, c_neI, c_neB, c_neS, c_ltI, c_leI, c_gtI, c_geI, l_tup, l_lst, l_scr, i_int, i_bl, bi_abs', bi_max', bi_min', bi_tupL, bi_tupT, bi_lstL, bi_lstT, it_val, sq_tup, sq_lst, sq_scr, it_r1, it_r2, it_en, it_zpL, it_zpT, loop_nx, loop_ct, loop_bk, loop_rt, loop_ex, loop_ite, tgt_some, f_minutes_within]
  have turn : ∀ (c : Int) (q : Int × Int), xc T (callD T n) (initD T n) b1_minutes_within [.v (.tup (ps.map pr)), .v (.int f), .v (.int e), .v (.int c), .v (pr q)] h = .nx [.v (.tup (ps.map pr)), .v (.int f), .v (.int e), .v (.int (c + part1 f e q)), .v (pr q)] h := by
    intro c q
    simp only [xc, ev, evs, evA, evO, startD, List.map, List.length, List.replicate, List.append_nil, List.cons_append, List.nil_append, getV_0, getV_s, setV_0, setV_0n, setV_s, isFree_0, isFree_0v, isFree_s, of_some, of_none, bind_ok, bind_ite, bind_bad, bind_ex, tst_ok, tst_ite, ofR_ok, ofR_ite, rtst_ok, rtst_ite, seq_nx, seq_rt, seq_ite, seq_bad, fin_nx, fin_rt, fin_ite, ixL_0, ixL_1, ixL_2, ixL_3, Option.map_some, Option.map_none, isND, isiD, inRD, bindT_nm, bindT_tp, bindTs_nil, bindTs_cons, fgtL, List.set_cons_zero, List.set_cons_succ, Tg.slots, List.getElem?_cons_zero, List.getElem?_cons_succ, augI, if_true, if_false, Bool.false_eq_true, reduceIte, Bool.not_true, Bool.not_false, ix_tup, ix_lst, ix_scr, ix_dct, b_add, b_sub, b_mul, b_fdiv, b_mod, b_pow, b_addS, b_addT, c_eqI, c_eqB, c_eqS, c_neI, c_neB, c_neS, c_ltI, c_leI, c_gtI, c_geI, l_tup, l_lst, l_scr, i_int, i_bl, bi_abs', bi_max', bi_min', bi_tupL, bi_tupT, bi_lstL, bi_lstT, it_val, sq_tup, sq_lst, sq_scr, it_r1, it_r2, it_en, it_zpL, it_zpT, loop_nx, loop_ct, loop_bk, loop_rt, loop_ex, loop_ite, tgt_some, b1_minutes_within]
    rfl
  have key : ∀ (qs : List (Int × Int)) (c : Int), forGo (.nm 4) (fun σ h => xc T (callD T n) (initD T n) b1_minutes_within σ h) [4] (qs.map pr) [.v (.tup (ps.map pr)), .v (.int f), .v (.int e), .v (.int c), .no] h =
      .nx [.v (.tup (ps.map pr)), .v (.int f), .v (.int e), .v (.int (c + (qs.map (part1 f e)).sum)), .no] h := by
    intro qs
    induction qs with
    | nil => intro c; simp [forGo_nil, fgtL]
    | cons q qs ih =>
      intro c
      rw [List.map_cons, forGo_cons]
      simp only [xc, ev, evs, evA, evO, startD, List.map, List.length, List.replicate, List.append_nil, List.cons_append, List.nil_append, getV_0, getV_s, setV_0, setV_0n, setV_s, isFree_0, isFree_0v, isFree_s, of_some, of_none, bind_ok, bind_ite, bind_bad, bind_ex, tst_ok, tst_ite, ofR_ok, ofR_ite, rtst_ok, rtst_ite, seq_nx, seq_rt, seq_ite, seq_bad, fin_nx, fin_rt, fin_ite, ixL_0, ixL_1, ixL_2, ixL_3, Option.map_some, Option.map_none, isND, isiD, inRD, bindT_nm, bindT_tp, bindTs_nil, bindTs_cons, fgtL, List.set_cons_zero, List.set_cons_succ, Tg.slots, List.getElem?_cons_zero, List.getElem?_cons_succ, augI, if_true, if_false, Bool.false_eq_true, reduceIte, Bool.not_true, Bool.not_false, ix_tup, ix_lst, ix_scr, ix_dct, b_add, b_sub, b_mul, b_fdiv, b_mod, b_pow, b_addS, b_addT, c_eqI, c_eqB, c_eqS, c_neI, c_neB, c_neS, c_ltI, c_leI, c_gtI, c_geI, l_tup, l_lst, l_scr, i_int, i_bl, bi_abs', bi_max', bi_min', bi_tupL, bi_tupT, bi_lstL, bi_lstT, it_val, sq_tup, sq_lst, sq_scr, it_r1, it_r2, it_en, it_zpL, it_zpT, loop_nx, loop_ct, loop_bk, loop_rt, loop_ex, loop_ite, tgt_some, turn]
      rw [ih]
      simp [Int.add_assoc]
  rw [key ps 0, Int.zero_add]
  simp only [xc, ev, evs, evA, evO, startD, List.map, List.length, List.replicate, List.append_nil, List.cons_append, List.nil_append, getV_0, getV_s, setV_0, setV_0n, setV_s, isFree_0, isFree_0v, isFree_s, of_some, of_none, bind_ok, bind_ite, bind_bad, bind_ex, tst_ok, tst_ite, ofR_ok, ofR_ite, rtst_ok, rtst_ite, seq_nx, seq_rt, seq_ite, seq_bad, fin_nx, fin_rt, fin_ite, ixL_0, ixL_1, ixL_2, ixL_3, Option.map_some, Option.map_none, isND, isiD, inRD, bindT_nm, bindT_tp, bindTs_nil, bindTs_cons, fgtL, List.set_cons_zero, List.set_cons_succ, Tg.slots, List.getElem?_cons_zero, List.getElem?_cons_succ, augI, if_true, if_false, Bool.false_eq_true, reduceIte, Bool.not_true, Bool.not_false, ix_tup, ix_lst, ix_scr, ix_dct, b_add, b_sub, b_mul, b_fdiv, b_mod, b_pow, b_addS, b_addT, c_eqI, c_eqB, c_eqS, c_neI, c_neB, c_neS, c_ltI, c_leI, c_gtI, c_geI, l_tup, l_lst, l_scr, i_int, i_bl, bi_abs', bi_max', bi_min', bi_tupL, bi_tupT, bi_lstL, bi_lstT, it_val, sq_tup, sq_lst, sq_scr, it_r1, it_r2, it_en, it_zpL, it_zpT, loop_nx, loop_ct, loop_bk, loop_rt, loop_ex, loop_ite, tgt_some]
theorem cell_ok (n : Nat) (ns : List Int) (k : Int) (hk : 0 ≤ k) (h : AH) : ∃ c, callD T (n + 1) "_law_cell" [.scr ns, .int k] h = .ok (.int c) h := by
  rw [call_of (fd := f_law_cell) rfl rfl]
  by_cases hl : k < (ns.length : Int)
  · refine ⟨ns[k.toNat]'(by omega), ?_⟩
    simp only [xc, ev, evs, evA, evO, startD, List.map, List.length, List.replicate, List.append_nil, List.cons_append, List.nil_append, getV_0, getV_s, setV_0, setV_0n, setV_s, isFree_0, isFree_0v, isFree_s, of_some, of_none, bind_ok, bind_ite, bind_bad, bind_ex, tst_ok, tst_ite, ofR_ok, ofR_ite, rtst_ok, rtst_ite, seq_nx, seq_rt, seq_ite, seq_bad, fin_nx, fin_rt, fin_ite, ixL_0, ixL_1, ixL_2, ixL_3, Option.map_some, Option.map_none, isND, isiD, inRD, bindT_nm, bindT_tp, bindTs_nil, bindTs_cons, fgtL, List.set_cons_zero, List.set_cons_succ, Tg.slots, List.getElem?_cons_zero, List.getElem?_cons_succ, augI, if_true, if_false, Bool.false_eq_true, reduceIte, Bool.not_true, Bool.not_false, ix_tup, ix_lst, ix_scr, ix_dct, b_add, b_sub, b_mul, b_fdiv, b_mod, b_pow, b_addS, b_addT, c_eqI, c_eqB, c_eqS, c_neI, c_neB, c_neS, c_ltI, c_leI, c_gtI, c_geI, l_tup, l_lst, l_scr, i_int, i_bl, bi_abs', bi_max', bi_min', bi_tupL, bi_tupT, bi_lstL, bi_lstT, it_val, sq_tup, sq_lst, sq_scr, it_r1, it_r2, it_en, it_zpL, it_zpT, loop_nx, loop_ct, loop_bk, loop_rt, loop_ex, loop_ite, tgt_some, f_law_cell, ixL_nat hk hl, hl, decide_true]
  · refine ⟨0, ?_⟩
    simp only [xc, ev, evs, evA, evO, startD, List.map, List.length, List.replicate, List.append_nil, List.cons_append, List.nil_append, getV_0, getV_s, setV_0, setV_0n, setV_s, isFree_0, isFree_0v, isFree_s, of_some, of_none, bind_ok, bind_ite, bind_bad, bind_ex, tst_ok, tst_ite, ofR_ok, ofR_ite, rtst_ok, rtst_ite, seq_nx, seq_rt, seq_ite, seq_bad, fin_nx, fin_rt, fin_ite, ixL_0, ixL_1, ixL_2, ixL_3, Option.map_some, Option.map_none, isND, isiD, inRD, bindT_nm, bindT_tp, bindTs_nil, bindTs_cons, fgtL, List.set_cons_zero, List.set_cons_succ, Tg.slots, List.getElem?_cons_zero, List.getElem?_cons_succ, augI, if_true, if_false, Bool.false_eq_true, reduceIte, Bool.not_true, Bool.not_false, ix_tup, ix_lst, ix_scr, ix_dct, b_add, b_sub, b_mul, b_fdiv, b_mod, b_pow, b_addS, b_addT, c_eqI, c_eqB, c_eqS, c_neI, c_neB, c_neS, c_ltI, c_leI, c_gtI, c_geI, l_tup, l_lst, l_scr, i_int, i_bl, bi_abs', bi_max', bi_min', bi_tupL, bi_tupT, bi_lstL, bi_lstT, it_val, sq_tup, sq_lst, sq_scr, it_r1, it_r2, it_en, it_zpL, it_zpT, loop_nx, loop_ct, loop_bk, loop_rt, loop_ex, loop_ite, tgt_some, f_law_cell, hl, decide_false]
/-- the state: great, the cell, number, found -/
def drS (cell : Int) (g : Bool) (a : Int × List Int) : En := [.v (.int cell), .v (.int 12), .v (.int a.1), .v (.bl g), .ol (a.2.map .int), .no, .no]
def mix1 (n k : Int) : Int := (n * 48271 + k * 69621 + 11) % 2147483647
def mix2 (n k : Int) : Int := (mix1 n k * mix1 n k + k * 7919 + 5) % 998244353
def drF (g : Bool) (a : Int × List Int) (k : Int) : Int × List Int := if k < 12 then (if g then (a.1 / 60, a.2 ++ [a.1 % 60]) else (a.1, a.2 ++ [mix2 a.1 k % 60])) else a
theorem okMul_c {i j : Int} (h : -(2 ^ 64) < j ∧ j < 2 ^ 64) : okMul i j = true := by
  unfold okMul
  rw [decide_eq_true h, Bool.or_true]
theorem mix1_b (n k : Int) : -(2 ^ 64) < mix1 n k ∧ mix1 n k < 2 ^ 64 := by
  unfold mix1
  omega
theorem dr_turn (n : Nat) (cell : Int) (g : Bool) (h : AH) (a : Int × List Int) (hl : a.2.length ≤ 60) (k : Int) : ∃ σ2, xc T (callD T n) (initD T n) b1_law_draws [.v (.int cell), .v (.int 12), .v (.int a.1), .v (.bl g), .ol (a.2.map .int), .v (.int k), .no] h = .nx σ2 h ∧ fgtL σ2 [5, 6] = drS cell g (drF g a k) := by
  have hl2 : (a.2.map D.int).length < 1000000 := by rw [List.length_map]; omega
  by_cases hk : k < 12
  · cases g with
    | true =>
      refine ⟨_, by simp only [xc, ev, evs, evA, evO, startD, List.map, List.length, List.replicate, List.append_nil, List.cons_append, List.nil_append, getV_0, getV_s, setV_0, setV_0n, setV_s, isFree_0, isFree_0v, isFree_s, of_some, of_none, bind_ok, bind_ite, bind_bad, bind_ex, tst_ok, tst_ite, ofR_ok, ofR_ite, rtst_ok, rtst_ite, seq_nx, seq_rt, seq_ite, seq_bad, fin_nx, fin_rt, fin_ite, ixL_0, ixL_1, ixL_2, ixL_3, Option.map_some, Option.map_none, isND, isiD, inRD, bindT_nm, bindT_tp, bindTs_nil, bindTs_cons, fgtL, List.set_cons_zero, List.set_cons_succ, Tg.slots, List.getElem?_cons_zero, List.getElem?_cons_succ, augI, if_true, if_false, Bool.false_eq_true, reduceIte, Bool.not_true, Bool.not_false, ix_tup, ix_lst, ix_scr, ix_dct, b_add, b_sub, b_mul, b_fdiv, b_mod, b_pow, b_addS, b_addT, c_eqI, c_eqB, c_eqS, c_neI, c_neB, c_neS, c_ltI, c_leI, c_gtI, c_geI, l_tup, l_lst, l_scr, i_int, i_bl, bi_abs', bi_max', bi_min', bi_tupL, bi_tupT, bi_lstL, bi_lstT, it_val, sq_tup, sq_lst, sq_scr, it_r1, it_r2, it_en, it_zpL, it_zpT, loop_nx, loop_ct, loop_bk, loop_rt, loop_ex, loop_ite, tgt_some, b1_law_draws, hk, decide_true, hl2, if_pos (show (0:Int) < 60 by omega), if_pos (show (0:Int) < 60 ∧ (60:Int) < 1073741824 by omega)]; rfl, ?_⟩
      simp [drS, drF, hk, fgtL]
    | false =>
      have e0 : okMul ((a.1 * 48271 + k * 69621 + 11) % 2147483647) ((a.1 * 48271 + k * 69621 + 11) % 2147483647) = true := okMul_c (mix1_b a.1 k)
      refine ⟨_, by simp only [xc, ev, evs, evA, evO, startD, List.map, List.length, List.replicate, List.append_nil, List.cons_append, List.nil_append, getV_0, getV_s, setV_0, setV_0n, setV_s, isFree_0, isFree_0v, isFree_s, of_some, of_none, bind_ok, bind_ite, bind_bad, bind_ex, tst_ok, tst_ite, ofR_ok, ofR_ite, rtst_ok, rtst_ite, seq_nx, seq_rt, seq_ite, seq_bad, fin_nx, fin_rt, fin_ite, ixL_0, ixL_1, ixL_2, ixL_3, Option.map_some, Option.map_none, isND, isiD, inRD, bindT_nm, bindT_tp, bindTs_nil, bindTs_cons, fgtL, List.set_cons_zero, List.set_cons_succ, Tg.slots, List.getElem?_cons_zero, List.getElem?_cons_succ, augI, if_true, if_false, Bool.false_eq_true, reduceIte, Bool.not_true, Bool.not_false, ix_tup, ix_lst, ix_scr, ix_dct, b_add, b_sub, b_mul, b_fdiv, b_mod, b_pow, b_addS, b_addT, c_eqI, c_eqB, c_eqS, c_neI, c_neB, c_neS, c_ltI, c_leI, c_gtI, c_geI, l_tup, l_lst, l_scr, i_int, i_bl, bi_abs', bi_max', bi_min', bi_tupL, bi_tupT, bi_lstL, bi_lstT, it_val, sq_tup, sq_lst, sq_scr, it_r1, it_r2, it_en, it_zpL, it_zpT, loop_nx, loop_ct, loop_bk, loop_rt, loop_ex, loop_ite, tgt_some, b1_law_draws, hk, decide_true, hl2, if_pos (show (0:Int) < 60 by omega), if_pos (show (0:Int) < 2147483647 by omega), if_pos (show (0:Int) < 998244353 by omega), if_pos (okMul_c (i := a.1) (j := 48271) (by omega)), if_pos (okMul_c (i := k) (j := 69621) (by omega)), if_pos (okMul_c (i := k) (j := 7919) (by omega)), e0]; rfl, ?_⟩
      simp [drS, drF, hk, fgtL, mix1, mix2]
  · refine ⟨_, by simp only [xc, ev, evs, evA, evO, startD, List.map, List.length, List.replicate, List.append_nil, List.cons_append, List.nil_append, getV_0, getV_s, setV_0, setV_0n, setV_s, isFree_0, isFree_0v, isFree_s, of_some, of_none, bind_ok, bind_ite, bind_bad, bind_ex, tst_ok, tst_ite, ofR_ok, ofR_ite, rtst_ok, rtst_ite, seq_nx, seq_rt, seq_ite, seq_bad, fin_nx, fin_rt, fin_ite, ixL_0, ixL_1, ixL_2, ixL_3, Option.map_some, Option.map_none, isND, isiD, inRD, bindT_nm, bindT_tp, bindTs_nil, bindTs_cons, fgtL, List.set_cons_zero, List.set_cons_succ, Tg.slots, List.getElem?_cons_zero, List.getElem?_cons_succ, augI, if_true, if_false, Bool.false_eq_true, reduceIte, Bool.not_true, Bool.not_false, ix_tup, ix_lst, ix_scr, ix_dct, b_add, b_sub, b_mul, b_fdiv, b_mod, b_pow, b_addS, b_addT, c_eqI, c_eqB, c_eqS, c_neI, c_neB, c_neS, c_ltI, c_leI, c_gtI, c_geI, l_tup, l_lst, l_scr, i_int, i_bl, bi_abs', bi_max', bi_min', bi_tupL, bi_tupT, bi_lstL, bi_lstT, it_val, sq_tup, sq_lst, sq_scr, it_r1, it_r2, it_en, it_zpL, it_zpT, loop_nx, loop_ct, loop_bk, loop_rt, loop_ex, loop_ite, tgt_some, b1_law_draws, hk, decide_false]; rfl, ?_⟩
    simp [drS, drF, hk, fgtL]
theorem drF_len (g : Bool) (a : Int × List Int) (k : Int) : (drF g a k).2.length = a.2.length + if k < 12 then 1 else 0 := by
  unfold drF
  by_cases hk : k < 12 <;> cases g <;> simp [hk]
theorem drF_rng (g : Bool) (a : Int × List Int) (k : Int) (h : ∀ x ∈ a.2, 0 ≤ x ∧ x < 60) : ∀ x ∈ (drF g a k).2, 0 ≤ x ∧ x < 60 := by
  unfold drF
  intro x hx
  split at hx
  · split at hx
    · rcases List.mem_append.mp hx with q | q
      · exact h x q
      · rw [List.mem_singleton] at q; subst q; omega
    · rcases List.mem_append.mp hx with q | q
      · exact h x q
      · rw [List.mem_singleton] at q; subst q; omega
  · exact h x hx
theorem dr_loop (n : Nat) (cell : Int) (g : Bool) (h : AH) : ∀ (ks : List Int) (a : Int × List Int), a.2.length + ks.length ≤ 60 → (∀ x ∈ a.2, 0 ≤ x ∧ x < 60) →
    ∃ b : Int × List Int, forGo (.nm 5) (fun σ h => xc T (callD T n) (initD T n) b1_law_draws σ h) [5, 6] (ks.map .int) (drS cell g a) h = .nx (drS cell g b) h ∧ b.2.length = a.2.length + (ks.filter fun k => decide (k < 12)).length ∧ ∀ x ∈ b.2, 0 ≤ x ∧ x < 60
  | [], a, _, hr => ⟨a, rfl, by simp, hr⟩
  | k :: ks, a, hl, hr => by
    rw [List.length_cons] at hl
    obtain ⟨σ2, e1, e2⟩ := dr_turn n cell g h a (by omega) k
    have hd := drF_len g a k
    obtain ⟨b, e3, e4, e5⟩ := dr_loop n cell g h ks (drF g a k) (by rw [hd]; split <;> omega) (drF_rng g a k hr)
    refine ⟨b, ?_, ?_, e5⟩
    · rw [List.map_cons, forGo_cons]
      show tgt (bindT (.nm 5) (.int k) [.v (.int cell), .v (.int 12), .v (.int a.1), .v (.bl g), .ol (a.2.map .int), .no, .no]) _ = _
      simp only [xc, ev, evs, evA, evO, startD, List.map, List.length, List.replicate, List.append_nil, List.cons_append, List.nil_append, getV_0, getV_s, setV_0, setV_0n, setV_s, isFree_0, isFree_0v, isFree_s, of_some, of_none, bind_ok, bind_ite, bind_bad, bind_ex, tst_ok, tst_ite, ofR_ok, ofR_ite, rtst_ok, rtst_ite, seq_nx, seq_rt, seq_ite, seq_bad, fin_nx, fin_rt, fin_ite, ixL_0, ixL_1, ixL_2, ixL_3, Option.map_some, Option.map_none, isND, isiD, inRD, bindT_nm, bindT_tp, bindTs_nil, bindTs_cons, fgtL, List.set_cons_zero, List.set_cons_succ, Tg.slots, List.getElem?_cons_zero, List.getElem?_cons_succ, augI, if_true, if_false, Bool.false_eq_true, reduceIte, Bool.not_true, Bool.not_false, ix_tup, ix_lst, ix_scr, ix_dct, b_add, b_sub, b_mul, b_fdiv, b_mod, b_pow, b_addS, b_addT, c_eqI, c_eqB, c_eqS, c_neI, c_neB, c_neS, c_ltI, c_leI, c_gtI, c_geI, l_tup, l_lst, l_scr, i_int, i_bl, bi_abs', bi_max', bi_min', bi_tupL, bi_tupT, bi_lstL, bi_lstT, it_val, sq_tup, sq_lst, sq_scr, it_r1, it_r2, it_en, it_zpL, it_zpT, loop_nx, loop_ct, loop_bk, loop_rt, loop_ex, loop_ite, tgt_some]
      rw [e1]
      show forGo _ _ _ _ (fgtL σ2 [5, 6]) h = _
      rw [e2]
      exact e3
    · rw [e4, hd, List.filter_cons]
      by_cases hk : k < 12 <;> simp [hk] <;> omega
theorem rng_map (lo : Int) (n : Nat) : rngL lo n = ((List.range n).map fun k : Nat => lo + (k : Int)).map .int := by
  unfold rngL
  rw [List.map_map]; rfl
theorem draws_ok (n : Nat) (cell : Int) (h : AH) : ∃ ds : List Int, callD T (n + 1) "_law_draws" [.int cell, .int 12] h = .ok (.lst (ds.map .int)) h ∧ ds.length = 12 ∧ ∀ x ∈ ds, 0 ≤ x ∧ x < 60 := by
  rw [call_of (fd := f_law_draws) rfl rfl]
  obtain ⟨b, e1, e2, e3⟩ := dr_loop n cell (decide ((10 : Int) ^ (18 : Int).toNat ≤ if cell < 0 then -cell else cell)) h ((List.range 60).map fun k : Nat => 0 + (k : Int)) (if cell < 0 then -cell else cell, []) (by simp) (by simp)
  refine ⟨b.2, ?_, ?_, e3⟩
  · simp only [xc, ev, evs, evA, evO, startD, List.map, List.length, List.replicate, List.append_nil, List.cons_append, List.nil_append, getV_0, getV_s, setV_0, setV_0n, setV_s, isFree_0, isFree_0v, isFree_s, of_some, of_none, bind_ok, bind_ite, bind_bad, bind_ex, tst_ok, tst_ite, ofR_ok, ofR_ite, rtst_ok, rtst_ite, seq_nx, seq_rt, seq_ite, seq_bad, fin_nx, fin_rt, fin_ite, ixL_0, ixL_1, ixL_2, ixL_3, Option.map_some, Option.map_none, isND, isiD, inRD, bindT_nm, bindT_tp, bindTs_nil, bindTs_cons, fgtL, List.set_cons_zero, List.set_cons_succ, Tg.slots, List.getElem?_cons_zero, List.getElem?_cons_succ, augI, if_true, if_false, Bool.false_eq_true, reduceIte, Bool.not_true, Bool.not_false, ix_tup, ix_lst, ix_scr, ix_dct, b_add, b_sub, b_mul, b_fdiv, b_mod, b_pow, b_addS, b_addT, c_eqI, c_eqB, c_eqS, c_neI, c_neB, c_neS, c_ltI, c_leI, c_gtI, c_geI, l_tup, l_lst, l_scr, i_int, i_bl, bi_abs', bi_max', bi_min', bi_tupL, bi_tupT, bi_lstL, bi_lstT, it_val, sq_tup, sq_lst, sq_scr, it_r1, it_r2, it_en, it_zpL, it_zpT, loop_nx, loop_ct, loop_bk, loop_rt, loop_ex, loop_ite, tgt_some, f_law_draws, if_pos (show (0:Int) ≤ 18 ∧ (18:Int) ≤ 1000000 ∧ (10:Int).natAbs < 2 ^ 64 by decide), if_pos (show okR 60 = true from rfl)]
    rw [if_pos (show (0:Nat) ≤ 1000000 by decide), rng_map]
    rw [show (60 : Int).toNat = 60 from rfl]
    unfold drS at e1
    simp only [List.map_nil] at e1
    rw [e1]
    simp only [xc, ev, evs, evA, evO, startD, List.map, List.length, List.replicate, List.append_nil, List.cons_append, List.nil_append, getV_0, getV_s, setV_0, setV_0n, setV_s, isFree_0, isFree_0v, isFree_s, of_some, of_none, bind_ok, bind_ite, bind_bad, bind_ex, tst_ok, tst_ite, ofR_ok, ofR_ite, rtst_ok, rtst_ite, seq_nx, seq_rt, seq_ite, seq_bad, fin_nx, fin_rt, fin_ite, ixL_0, ixL_1, ixL_2, ixL_3, Option.map_some, Option.map_none, isND, isiD, inRD, bindT_nm, bindT_tp, bindTs_nil, bindTs_cons, fgtL, List.set_cons_zero, List.set_cons_succ, Tg.slots, List.getElem?_cons_zero, List.getElem?_cons_succ, augI, if_true, if_false, Bool.false_eq_true, reduceIte, Bool.not_true, Bool.not_false, ix_tup, ix_lst, ix_scr, ix_dct, b_add, b_sub, b_mul, b_fdiv, b_mod, b_pow, b_addS, b_addT, c_eqI, c_eqB, c_eqS, c_neI, c_neB, c_neS, c_ltI, c_leI, c_gtI, c_geI, l_tup, l_lst, l_scr, i_int, i_bl, bi_abs', bi_max', bi_min', bi_tupL, bi_tupT, bi_lstL, bi_lstT, it_val, sq_tup, sq_lst, sq_scr, it_r1, it_r2, it_en, it_zpL, it_zpT, loop_nx, loop_ct, loop_bk, loop_rt, loop_ex, loop_ite, tgt_some]
  · rw [e2]
    show 0 + (List.filter (fun k => decide (k < 12)) (List.map (fun k : Nat => 0 + (k : Int)) (List.range 60))).length = 12
    decide
theorem st_loop (n : Nat) (ns : List Int) : ∀ (ks : List Int) (a : List Int), (∀ k ∈ ks, 0 ≤ k) → a.length + 12 * ks.length ≤ 1000 →
    ∃ b : List Int, forGo (.nm 4) (fun σ h => xc T (callD T (n + 1)) (initD T (n + 1)) b1_law_stream σ h) [4] (ks.map .int) [.v (.scr ns), .v (.int 0), .v (.int 6), .ol (a.map .int), .no] [] = .nx [.v (.scr ns), .v (.int 0), .v (.int 6), .ol (b.map .int), .no] [] ∧ b.length = a.length + 12 * ks.length
  | [], a, _, _ => ⟨a, rfl, by simp⟩
  | k :: ks, a, hk, hl => by
    rw [List.length_cons] at hl
    obtain ⟨c, e1⟩ := cell_ok n ns (0 + k) (by have := hk k List.mem_cons_self; omega) []
    obtain ⟨ds, e2, e3, _⟩ := draws_ok n c []
    obtain ⟨b, e4, e5⟩ := st_loop n ns ks (a ++ ds) (fun x hx => hk x (List.mem_cons_of_mem _ hx)) (by rw [List.length_append, e3]; omega)
    refine ⟨b, ?_, ?_⟩
    · rw [List.map_cons, forGo_cons]
      have turn : xc T (callD T (n + 1)) (initD T (n + 1)) b1_law_stream [.v (.scr ns), .v (.int 0), .v (.int 6), .ol (a.map .int), .v (.int k)] [] = .nx [.v (.scr ns), .v (.int 0), .v (.int 6), .ol ((a ++ ds).map .int), .v (.int k)] [] := by
        simp only [xc, ev, evs, evA, evO, startD, List.map, List.length, List.replicate, List.append_nil, List.cons_append, List.nil_append, getV_0, getV_s, setV_0, setV_0n, setV_s, isFree_0, isFree_0v, isFree_s, of_some, of_none, bind_ok, bind_ite, bind_bad, bind_ex, tst_ok, tst_ite, ofR_ok, ofR_ite, rtst_ok, rtst_ite, seq_nx, seq_rt, seq_ite, seq_bad, fin_nx, fin_rt, fin_ite, ixL_0, ixL_1, ixL_2, ixL_3, Option.map_some, Option.map_none, isND, isiD, inRD, bindT_nm, bindT_tp, bindTs_nil, bindTs_cons, fgtL, List.set_cons_zero, List.set_cons_succ, Tg.slots, List.getElem?_cons_zero, List.getElem?_cons_succ, augI, if_true, if_false, Bool.false_eq_true, reduceIte, Bool.not_true, Bool.not_false, ix_tup, ix_lst, ix_scr, ix_dct, b_add, b_sub, b_mul, b_fdiv, b_mod, b_pow, b_addS, b_addT, c_eqI, c_eqB, c_eqS, c_neI, c_neB, c_neS, c_ltI, c_leI, c_gtI, c_geI, l_tup, l_lst, l_scr, i_int, i_bl, bi_abs', bi_max', bi_min', bi_tupL, bi_tupT, bi_lstL, bi_lstT, it_val, sq_tup, sq_lst, sq_scr, it_r1, it_r2, it_en, it_zpL, it_zpT, loop_nx, loop_ct, loop_bk, loop_rt, loop_ex, loop_ite, tgt_some, b1_law_stream, e1, e2]
        rw [if_pos (by rw [List.length_map, List.length_map]; omega), ← List.map_append]
      simp only [xc, ev, evs, evA, evO, startD, List.map, List.length, List.replicate, List.append_nil, List.cons_append, List.nil_append, getV_0, getV_s, setV_0, setV_0n, setV_s, isFree_0, isFree_0v, isFree_s, of_some, of_none, bind_ok, bind_ite, bind_bad, bind_ex, tst_ok, tst_ite, ofR_ok, ofR_ite, rtst_ok, rtst_ite, seq_nx, seq_rt, seq_ite, seq_bad, fin_nx, fin_rt, fin_ite, ixL_0, ixL_1, ixL_2, ixL_3, Option.map_some, Option.map_none, isND, isiD, inRD, bindT_nm, bindT_tp, bindTs_nil, bindTs_cons, fgtL, List.set_cons_zero, List.set_cons_succ, Tg.slots, List.getElem?_cons_zero, List.getElem?_cons_succ, augI, if_true, if_false, Bool.false_eq_true, reduceIte, Bool.not_true, Bool.not_false, ix_tup, ix_lst, ix_scr, ix_dct, b_add, b_sub, b_mul, b_fdiv, b_mod, b_pow, b_addS, b_addT, c_eqI, c_eqB, c_eqS, c_neI, c_neB, c_neS, c_ltI, c_leI, c_gtI, c_geI, l_tup, l_lst, l_scr, i_int, i_bl, bi_abs', bi_max', bi_min', bi_tupL, bi_tupT, bi_lstL, bi_lstT, it_val, sq_tup, sq_lst, sq_scr, it_r1, it_r2, it_en, it_zpL, it_zpT, loop_nx, loop_ct, loop_bk, loop_rt, loop_ex, loop_ite, tgt_some, turn]
      exact e4
    · rw [e5, List.length_append, e3, List.length_cons]; omega
theorem stream_ok (n : Nat) (ns : List Int) : ∃ ds : List Int, callD T (n + 2) "_law_stream" [.scr ns, .int 0, .int 6] [] = .ok (.lst [.lst (ds.map .int), .ref 0]) [.lst [.int 0]] ∧ ds.length = 72 := by
  rw [call_of (fd := f_law_stream) rfl rfl]
  obtain ⟨b, e1, e2⟩ := st_loop n ns ((List.range 6).map fun k : Nat => 0 + (k : Int)) [] (by
    intro k hk
    obtain ⟨j, _, rfl⟩ := List.mem_map.mp hk
    omega) (by simp)
  refine ⟨b, ?_, by rw [e2]; simp⟩
  simp only [xc, ev, evs, evA, evO, startD, List.map, List.length, List.replicate, List.append_nil, List.cons_append, List.nil_append, getV_0, getV_s, setV_0, setV_0n, setV_s, isFree_0, isFree_0v, isFree_s, of_some, of_none, bind_ok, bind_ite, bind_bad, bind_ex, tst_ok, tst_ite, ofR_ok, ofR_ite, rtst_ok, rtst_ite, seq_nx, seq_rt, seq_ite, seq_bad, fin_nx, fin_rt, fin_ite, ixL_0, ixL_1, ixL_2, ixL_3, Option.map_some, Option.map_none, isND, isiD, inRD, bindT_nm, bindT_tp, bindTs_nil, bindTs_cons, fgtL, List.set_cons_zero, List.set_cons_succ, Tg.slots, List.getElem?_cons_zero, List.getElem?_cons_succ, augI, if_true, if_false, Bool.false_eq_true, reduceIte, Bool.not_true, Bool.not_false, ix_tup, ix_lst, ix_scr, ix_dct, b_add, b_sub, b_mul, b_fdiv, b_mod, b_pow, b_addS, b_addT, c_eqI, c_eqB, c_eqS, c_neI, c_neB, c_neS, c_ltI, c_leI, c_gtI, c_geI, l_tup, l_lst, l_scr, i_int, i_bl, bi_abs', bi_max', bi_min', bi_tupL, bi_tupT, bi_lstL, bi_lstT, it_val, sq_tup, sq_lst, sq_scr, it_r1, it_r2, it_en, it_zpL, it_zpT, loop_nx, loop_ct, loop_bk, loop_rt, loop_ex, loop_ite, tgt_some, f_law_stream, if_pos (show okR 6 = true from rfl)]
  rw [if_pos (show (0:Nat) ≤ 1000000 by decide), rng_map]
  rw [show (6 : Int).toNat = 6 from rfl]
  simp only [List.map_nil] at e1
  simp only [xc, ev, evs, evA, evO, startD, List.map, List.length, List.replicate, List.append_nil, List.cons_append, List.nil_append, getV_0, getV_s, setV_0, setV_0n, setV_s, isFree_0, isFree_0v, isFree_s, of_some, of_none, bind_ok, bind_ite, bind_bad, bind_ex, tst_ok, tst_ite, ofR_ok, ofR_ite, rtst_ok, rtst_ite, seq_nx, seq_rt, seq_ite, seq_bad, fin_nx, fin_rt, fin_ite, ixL_0, ixL_1, ixL_2, ixL_3, Option.map_some, Option.map_none, isND, isiD, inRD, bindT_nm, bindT_tp, bindTs_nil, bindTs_cons, fgtL, List.set_cons_zero, List.set_cons_succ, Tg.slots, List.getElem?_cons_zero, List.getElem?_cons_succ, augI, if_true, if_false, Bool.false_eq_true, reduceIte, Bool.not_true, Bool.not_false, ix_tup, ix_lst, ix_scr, ix_dct, b_add, b_sub, b_mul, b_fdiv, b_mod, b_pow, b_addS, b_addT, c_eqI, c_eqB, c_eqS, c_neI, c_neB, c_neS, c_ltI, c_leI, c_gtI, c_geI, l_tup, l_lst, l_scr, i_int, i_bl, bi_abs', bi_max', bi_min', bi_tupL, bi_tupT, bi_lstL, bi_lstT, it_val, sq_tup, sq_lst, sq_scr, it_r1, it_r2, it_en, it_zpL, it_zpT, loop_nx, loop_ct, loop_bk, loop_rt, loop_ex, loop_ite, tgt_some, e1, if_pos (show (0 + 1 : Nat) ≤ 1000000 by decide), if_pos (show (0 + 1 + 1 : Nat) ≤ 1000000 by decide)]
theorem next_ok (n : Nat) (ds : List Int) (hd : ds.length = 72) (many p : Int) (hm : 0 < many) (hp : 0 ≤ p) : ∃ v, 0 ≤ v ∧ v < many ∧ callD T (n + 1) "_law_next" [.lst [.lst (ds.map .int), .ref 0], .int many] [.lst [.int p]] = .ok (.int v) [.lst [.int (p + 1)]] := by
  rw [call_of (fd := f_law_next) rfl rfl]
  have h1 : 0 ≤ p % ((ds.map D.int).length : Int) := by rw [List.length_map, hd]; omega
  have h2 : p % ((ds.map D.int).length : Int) < ((ds.map D.int).length : Int) := by rw [List.length_map, hd]; omega
  have e := ixL_nat h1 h2
  rw [List.getElem_map] at e
  refine ⟨ds[(p % ((ds.map D.int).length : Int)).toNat]'(by rw [List.length_map] at h2 ⊢; omega) % many, Int.emod_nonneg _ (by omega), Int.emod_lt_of_pos _ hm, ?_⟩
  simp only [xc, ev, evs, evA, evO, startD, List.map, List.length, List.replicate, List.append_nil, List.cons_append, List.nil_append, getV_0, getV_s, setV_0, setV_0n, setV_s, isFree_0, isFree_0v, isFree_s, of_some, of_none, bind_ok, bind_ite, bind_bad, bind_ex, tst_ok, tst_ite, ofR_ok, ofR_ite, rtst_ok, rtst_ite, seq_nx, seq_rt, seq_ite, seq_bad, fin_nx, fin_rt, fin_ite, ixL_0, ixL_1, ixL_2, ixL_3, Option.map_some, Option.map_none, isND, isiD, inRD, bindT_nm, bindT_tp, bindTs_nil, bindTs_cons, fgtL, List.set_cons_zero, List.set_cons_succ, Tg.slots, List.getElem?_cons_zero, List.getElem?_cons_succ, augI, if_true, if_false, Bool.false_eq_true, reduceIte, Bool.not_true, Bool.not_false, ix_tup, ix_lst, ix_scr, ix_dct, b_add, b_sub, b_mul, b_fdiv, b_mod, b_pow, b_addS, b_addT, c_eqI, c_eqB, c_eqS, c_neI, c_neB, c_neS, c_ltI, c_leI, c_gtI, c_geI, l_tup, l_lst, l_scr, i_int, i_bl, bi_abs', bi_max', bi_min', bi_tupL, bi_tupT, bi_lstL, bi_lstT, it_val, sq_tup, sq_lst, sq_scr, it_r1, it_r2, it_en, it_zpL, it_zpT, loop_nx, loop_ct, loop_bk, loop_rt, loop_ex, loop_ite, tgt_some, f_law_next, ix_ref, e, if_pos hm, if_pos (show (0:Int) < ((ds.map D.int).length : Int) by rw [List.length_map, hd]; omega), show L2.ixN (0 + 1) 0 = some 0 from rfl]
end Lk00
namespace Lk00
open VI PySem
def hit (m : Int) (p : Int × Int) : Bool := decide (p.1 ≤ m) && decide (m < p.2)
def cntm (m : Int) (ps : List (Int × Int)) : Nat := (ps.filter (hit m)).length
theorem part_step (f : Int) (N : Nat) (p : Int × Int) : part1 f (f + ((N + 1 : Nat) : Int)) p = part1 f (f + (N : Int)) p + if hit (f + (N : Int)) p then 1 else 0 := by
  obtain ⟨a, b⟩ := p
  unfold part1 hit
  simp only [Bool.and_eq_true, decide_eq_true_eq]
  repeat' split
  all_goals omega
theorem part_zero (f e : Int) (h : e ≤ f) (p : Int × Int) : part1 f e p = 0 := by
  obtain ⟨a, b⟩ := p
  unfold part1
  simp only
  repeat' split
  all_goals omega
theorem sum_step (f : Int) (N : Nat) : ∀ ps : List (Int × Int), (ps.map (part1 f (f + ((N + 1 : Nat) : Int)))).sum = (ps.map (part1 f (f + (N : Int)))).sum + (cntm (f + (N : Int)) ps : Int)
  | [] => rfl
  | p :: ps => by
    have ih := sum_step f N ps
    simp only [List.map_cons, List.sum_cons, ih, part_step]
    unfold cntm
    rw [List.filter_cons]
    by_cases hh : hit (f + (N : Int)) p = true
    · rw [if_pos hh, if_pos hh, List.length_cons]; omega
    · rw [if_neg hh, if_neg hh]; omega
theorem sum_zero (f e : Int) (h : e ≤ f) : ∀ ps : List (Int × Int), (ps.map (part1 f e)).sum = 0
  | [] => rfl
  | p :: ps => by rw [List.map_cons, List.sum_cons, part_zero f e h, sum_zero f e h ps]; rfl
/-- the count, minute by minute -/
def cntR (f : Int) (ps : List (Int × Int)) (N : Nat) : Int := (((List.range N).map fun k : Nat => (cntm (f + (k : Int)) ps : Int))).sum
theorem cntR_eq (f : Int) (ps : List (Int × Int)) : ∀ N : Nat, cntR f ps N = (ps.map (part1 f (f + (N : Int)))).sum
  | 0 => by rw [sum_zero f _ (by simp)]; rfl
  | N + 1 => by
    rw [sum_step, ← cntR_eq f ps N]
    unfold cntR
    rw [List.range_succ, List.map_append, List.sum_append]
    simp
theorem count_eq (f e : Int) (ps : List (Int × Int)) : cntR f ps (e - f).toNat = (ps.map (part1 f e)).sum := by
  rw [cntR_eq]
  by_cases h : f ≤ e
  · rw [show f + ((e - f).toNat : Int) = e by omega]
  · rw [show (e - f).toNat = 0 by omega, sum_zero f e (by omega), sum_zero f _ (by simp)]
theorem meet_len (a b c d : Int) (hab : a < b) (hcd : c < d) : decide (0 < ((((rngL a (b - a).toNat).filter fun x => match x with | .int m => decide (c ≤ m ∧ m < d) | _ => false).length : Nat) : Int)) = (decide (a < d) && decide (c < b)) := by
  have key : (0 < ((rngL a (b - a).toNat).filter fun x => match x with | .int m => decide (c ≤ m ∧ m < d) | _ => false).length) ↔ (a < d ∧ c < b) := by
    rw [List.length_pos_iff_exists_mem]
    constructor
    · rintro ⟨x, hx⟩
      obtain ⟨h1, h2⟩ := List.mem_filter.mp hx
      unfold rngL at h1
      obtain ⟨k, hk, rfl⟩ := List.mem_map.mp h1
      rw [List.mem_range] at hk
      simp only [decide_eq_true_eq] at h2
      omega
    · intro h
      refine ⟨.int (if a ≤ c then c else a), List.mem_filter.mpr ⟨?_, ?_⟩⟩
      · unfold rngL
        refine List.mem_map.mpr ⟨((if a ≤ c then c else a) - a).toNat, List.mem_range.mpr (by split <;> omega), ?_⟩
        congr 1
        split <;> omega
      · simp only [decide_eq_true_eq]
        split <;> omega
  by_cases h : a < d ∧ c < b
  · rw [decide_eq_true h.1, decide_eq_true h.2, decide_eq_true (by have := key.mpr h; omega)]; rfl
  · rw [decide_eq_false (fun q => h (key.mp (by omega)))]
    by_cases h1 : a < d
    · rw [decide_eq_true h1, decide_eq_false (fun q => h ⟨h1, q⟩)]; rfl
    · rw [decide_eq_false h1]; rfl
end Lk00
namespace Lk00
open VI PySem
abbrev stm (ds : List Int) : D := .lst [.lst (ds.map .int), .ref 0]
/-- one drawn span -/
theorem span_turn (n : Nat) (ds : List Int) (hd : ds.length = 72) (sc : D) (acc : List (Int × Int)) (hacc : acc.length ≤ 100) (p : Int) (hp : 0 ≤ p) : ∃ a l : Int, 0 < l ∧ l ≤ 40 ∧ -100 ≤ a ∧ a ≤ 100 ∧ ∀ k : Int,
    xc T (callD T (n + 1)) (initD T (n + 1)) b1_law [.v sc, .v (stm ds), .ol (acc.map pr), .v (.int k), .no, .no, .no, .no, .no, .no, .no, .no, .no, .no, .no] [.lst [.int p]] =
      .nx [.v sc, .v (stm ds), .ol ((acc ++ [(a, a + l)]).map pr), .v (.int k), .v (.int a), .no, .no, .no, .no, .no, .no, .no, .no, .no, .no] [.lst [.int (p + 3)]] := by
  obtain ⟨v0, a0, b0, e0⟩ := next_ok n ds hd 60 p (by omega) hp
  obtain ⟨v1, a1, b1, e1⟩ := next_ok n ds hd 31 (p + 1) (by omega) (by omega)
  obtain ⟨v2, a2, b2, e2⟩ := next_ok n ds hd 40 (p + 1 + 1) (by omega) (by omega)
  refine ⟨v0 + v1 - 30, 1 + v2, by omega, by omega, by omega, by omega, fun k => ?_⟩
  have hl : (acc.map pr).length < 1000000 := by rw [List.length_map]; omega
  simp only [xc, ev, evs, evA, evO, startD, List.map, List.length, List.replicate, List.append_nil, List.cons_append, List.nil_append, getV_0, getV_s, setV_0, setV_0n, setV_s, isFree_0, isFree_0v, isFree_s, of_some, of_none, bind_ok, bind_ite, bind_bad, bind_ex, tst_ok, tst_ite, ofR_ok, ofR_ite, rtst_ok, rtst_ite, seq_nx, seq_rt, seq_ite, seq_bad, fin_nx, fin_rt, fin_ite, ixL_0, ixL_1, ixL_2, ixL_3, Option.map_some, Option.map_none, isND, isiD, inRD, bindT_nm, bindT_tp, bindTs_nil, bindTs_cons, fgtL, List.set_cons_zero, List.set_cons_succ, Tg.slots, List.getElem?_cons_zero, List.getElem?_cons_succ, augI, if_true, if_false, Bool.false_eq_true, reduceIte, Bool.not_true, Bool.not_false, ix_tup, ix_lst, ix_scr, ix_dct, b_add, b_sub, b_mul, b_fdiv, b_mod, b_pow, b_addS, b_addT, c_eqI, c_eqB, c_eqS, c_neI, c_neB, c_neS, c_ltI, c_leI, c_gtI, c_geI, l_tup, l_lst, l_scr, i_int, i_bl, bi_abs', bi_max', bi_min', bi_tupL, bi_tupT, bi_lstL, bi_lstT, it_val, sq_tup, sq_lst, sq_scr, it_r1, it_r2, it_en, it_zpL, it_zpT, loop_nx, loop_ct, loop_bk, loop_rt, loop_ex, loop_ite, tgt_some, b1_law, e0, e1, e2, if_pos (show (0 + 1 + 1 : Nat) ≤ 1000000 by decide), if_pos hl]
  rw [List.map_append, show p + 1 + 1 + 1 = p + 3 by omega]
  rw [show v0 + v1 - 30 + 1 + v2 = v0 + v1 - 30 + (1 + v2) by omega]
  rfl
/-- a listed span -/
theorem list_turn (n : Nat) (ds : List Int) (hd : ds.length = 72) (sc s2 s5 s6 s7 s8 s9 : Sl) (acc : List (Int × Int)) (hacc : acc.length ≤ 100) (p least : Int) (hp : 0 ≤ p) : ∃ a l : Int, ∀ k : Int,
    xc T (callD T (n + 1)) (initD T (n + 1)) b5_law [sc, .v (stm ds), s2, .v (.int k), .no, s5, s6, s7, s8, s9, .ol (acc.map pr), .v (.int least), .no, .no, .no] [.lst [.int p]] =
      .nx [sc, .v (stm ds), s2, .v (.int k), .v (.int a), s5, s6, s7, s8, s9, .ol ((acc ++ [(a, l)]).map pr), .v (.int l), .no, .no, .no] [.lst [.int (p + 2)]] := by
  obtain ⟨v0, a0, b0, e0⟩ := next_ok n ds hd 8 p (by omega) hp
  obtain ⟨v1, a1, b1, e1⟩ := next_ok n ds hd 9 (p + 1) (by omega) (by omega)
  refine ⟨least + v0, least + v0 + 1 + v1, fun k => ?_⟩
  have hl : (acc.map pr).length < 1000000 := by rw [List.length_map]; omega
  simp only [xc, ev, evs, evA, evO, startD, List.map, List.length, List.replicate, List.append_nil, List.cons_append, List.nil_append, getV_0, getV_s, setV_0, setV_0n, setV_s, isFree_0, isFree_0v, isFree_s, of_some, of_none, bind_ok, bind_ite, bind_bad, bind_ex, tst_ok, tst_ite, ofR_ok, ofR_ite, rtst_ok, rtst_ite, seq_nx, seq_rt, seq_ite, seq_bad, fin_nx, fin_rt, fin_ite, ixL_0, ixL_1, ixL_2, ixL_3, Option.map_some, Option.map_none, isND, isiD, inRD, bindT_nm, bindT_tp, bindTs_nil, bindTs_cons, fgtL, List.set_cons_zero, List.set_cons_succ, Tg.slots, List.getElem?_cons_zero, List.getElem?_cons_succ, augI, if_true, if_false, Bool.false_eq_true, reduceIte, Bool.not_true, Bool.not_false, ix_tup, ix_lst, ix_scr, ix_dct, b_add, b_sub, b_mul, b_fdiv, b_mod, b_pow, b_addS, b_addT, c_eqI, c_eqB, c_eqS, c_neI, c_neB, c_neS, c_ltI, c_leI, c_gtI, c_geI, l_tup, l_lst, l_scr, i_int, i_bl, bi_abs', bi_max', bi_min', bi_tupL, bi_tupT, bi_lstL, bi_lstT, it_val, sq_tup, sq_lst, sq_scr, it_r1, it_r2, it_en, it_zpL, it_zpT, loop_nx, loop_ct, loop_bk, loop_rt, loop_ex, loop_ite, tgt_some, b5_law, e0, e1, if_pos (show (0 + 1 + 1 : Nat) ≤ 1000000 by decide), if_pos hl]
  rw [List.map_append, show p + 1 + 1 = p + 2 by omega]
  rfl
theorem list_loop (n : Nat) (ds : List Int) (hd : ds.length = 72) (sc s2 s5 s6 s7 s8 s9 : Sl) : ∀ (ks : List Int) (acc : List (Int × Int)) (p least : Int), acc.length + ks.length ≤ 100 → 0 ≤ p →
    ∃ (b : List (Int × Int)) (l p' : Int), 0 ≤ p' ∧ b.length ≤ 100 ∧ forGo (.nm 3) (fun σ h => xc T (callD T (n + 1)) (initD T (n + 1)) b5_law σ h) [3, 4] (ks.map .int) [sc, .v (stm ds), s2, .no, .no, s5, s6, s7, s8, s9, .ol (acc.map pr), .v (.int least), .no, .no, .no] [.lst [.int p]] =
      .nx [sc, .v (stm ds), s2, .no, .no, s5, s6, s7, s8, s9, .ol (b.map pr), .v (.int l), .no, .no, .no] [.lst [.int p']]
  | [], acc, p, least, hl, hp => ⟨acc, least, p, hp, by simpa using hl, rfl⟩
  | k :: ks, acc, p, least, hl, hp => by
    rw [List.length_cons] at hl
    obtain ⟨a, l, e⟩ := list_turn n ds hd sc s2 s5 s6 s7 s8 s9 acc (by omega) p least hp
    obtain ⟨b, l', p', h1, h2, e2⟩ := list_loop n ds hd sc s2 s5 s6 s7 s8 s9 ks (acc ++ [(a, l)]) (p + 2) l (by rw [List.length_append, List.length_singleton]; omega) (by omega)
    refine ⟨b, l', p', h1, h2, ?_⟩
    rw [List.map_cons, forGo_cons]
    simp only [xc, ev, evs, evA, evO, startD, List.map, List.length, List.replicate, List.append_nil, List.cons_append, List.nil_append, getV_0, getV_s, setV_0, setV_0n, setV_s, isFree_0, isFree_0v, isFree_s, of_some, of_none, bind_ok, bind_ite, bind_bad, bind_ex, tst_ok, tst_ite, ofR_ok, ofR_ite, rtst_ok, rtst_ite, seq_nx, seq_rt, seq_ite, seq_bad, fin_nx, fin_rt, fin_ite, ixL_0, ixL_1, ixL_2, ixL_3, Option.map_some, Option.map_none, isND, isiD, inRD, bindT_nm, bindT_tp, bindTs_nil, bindTs_cons, fgtL, List.set_cons_zero, List.set_cons_succ, Tg.slots, List.getElem?_cons_zero, List.getElem?_cons_succ, augI, if_true, if_false, Bool.false_eq_true, reduceIte, Bool.not_true, Bool.not_false, ix_tup, ix_lst, ix_scr, ix_dct, b_add, b_sub, b_mul, b_fdiv, b_mod, b_pow, b_addS, b_addT, c_eqI, c_eqB, c_eqS, c_neI, c_neB, c_neS, c_ltI, c_leI, c_gtI, c_geI, l_tup, l_lst, l_scr, i_int, i_bl, bi_abs', bi_max', bi_min', bi_tupL, bi_tupT, bi_lstL, bi_lstT, it_val, sq_tup, sq_lst, sq_scr, it_r1, it_r2, it_en, it_zpL, it_zpT, loop_nx, loop_ct, loop_bk, loop_rt, loop_ex, loop_ite, tgt_some, e]
    exact e2
/-- has_minute, minute by minute -/
theorem has_loop (n : Nat) (a b : Int) (s0 s1 s2 s5 s7 s8 : Sl) (h : AH) : ∀ ks : List Int,
    forGo (.nm 9) (fun σ h => xc T (callD T (n + 1)) (initD T (n + 1)) b4_law σ h) [9] (ks.map .int) [s0, s1, s2, .no, .no, s5, .v (pr (a, b)), s7, s8, .no, .no, .no, .no, .no, .no] h =
      .nx [s0, s1, s2, .no, .no, s5, .v (pr (a, b)), s7, s8, .no, .no, .no, .no, .no, .no] h
  | [] => rfl
  | k :: ks => by
    rw [List.map_cons, forGo_cons]
    have turn : xc T (callD T (n + 1)) (initD T (n + 1)) b4_law [s0, s1, s2, .no, .no, s5, .v (pr (a, b)), s7, s8, .v (.int k), .no, .no, .no, .no, .no] h = .nx [s0, s1, s2, .no, .no, s5, .v (pr (a, b)), s7, s8, .v (.int k), .no, .no, .no, .no, .no] h := by
      simp only [xc, ev, evs, evA, evO, startD, List.map, List.length, List.replicate, List.append_nil, List.cons_append, List.nil_append, getV_0, getV_s, setV_0, setV_0n, setV_s, isFree_0, isFree_0v, isFree_s, of_some, of_none, bind_ok, bind_ite, bind_bad, bind_ex, tst_ok, tst_ite, ofR_ok, ofR_ite, rtst_ok, rtst_ite, seq_nx, seq_rt, seq_ite, seq_bad, fin_nx, fin_rt, fin_ite, ixL_0, ixL_1, ixL_2, ixL_3, Option.map_some, Option.map_none, isND, isiD, inRD, bindT_nm, bindT_tp, bindTs_nil, bindTs_cons, fgtL, List.set_cons_zero, List.set_cons_succ, Tg.slots, List.getElem?_cons_zero, List.getElem?_cons_succ, augI, if_true, if_false, Bool.false_eq_true, reduceIte, Bool.not_true, Bool.not_false, ix_tup, ix_lst, ix_scr, ix_dct, b_add, b_sub, b_mul, b_fdiv, b_mod, b_pow, b_addS, b_addT, c_eqI, c_eqB, c_eqS, c_neI, c_neB, c_neS, c_ltI, c_leI, c_gtI, c_geI, l_tup, l_lst, l_scr, i_int, i_bl, bi_abs', bi_max', bi_min', bi_tupL, bi_tupT, bi_lstL, bi_lstT, it_val, sq_tup, sq_lst, sq_scr, it_r1, it_r2, it_en, it_zpL, it_zpT, loop_nx, loop_ct, loop_bk, loop_rt, loop_ex, loop_ite, tgt_some, b4_law, has_ok, same_bl]
      rw [if_neg (by
        by_cases h1 : a ≤ k <;> by_cases h2 : k < b <;> simp [h1, h2])]
    simp only [xc, ev, evs, evA, evO, startD, List.map, List.length, List.replicate, List.append_nil, List.cons_append, List.nil_append, getV_0, getV_s, setV_0, setV_0n, setV_s, isFree_0, isFree_0v, isFree_s, of_some, of_none, bind_ok, bind_ite, bind_bad, bind_ex, tst_ok, tst_ite, ofR_ok, ofR_ite, rtst_ok, rtst_ite, seq_nx, seq_rt, seq_ite, seq_bad, fin_nx, fin_rt, fin_ite, ixL_0, ixL_1, ixL_2, ixL_3, Option.map_some, Option.map_none, isND, isiD, inRD, bindT_nm, bindT_tp, bindTs_nil, bindTs_cons, fgtL, List.set_cons_zero, List.set_cons_succ, Tg.slots, List.getElem?_cons_zero, List.getElem?_cons_succ, augI, if_true, if_false, Bool.false_eq_true, reduceIte, Bool.not_true, Bool.not_false, ix_tup, ix_lst, ix_scr, ix_dct, b_add, b_sub, b_mul, b_fdiv, b_mod, b_pow, b_addS, b_addT, c_eqI, c_eqB, c_eqS, c_neI, c_neB, c_neS, c_ltI, c_leI, c_gtI, c_geI, l_tup, l_lst, l_scr, i_int, i_bl, bi_abs', bi_max', bi_min', bi_tupL, bi_tupT, bi_lstL, bi_lstT, it_val, sq_tup, sq_lst, sq_scr, it_r1, it_r2, it_en, it_zpL, it_zpT, loop_nx, loop_ct, loop_bk, loop_rt, loop_ex, loop_ite, tgt_some, turn]
    exact has_loop n a b s0 s1 s2 s5 s7 s8 h ks
/-- the count's turns -/
theorem cnt_turn (n : Nat) (ps : List (Int × Int)) (hps : ps.length ≤ 1000) (s0 s1 s2 s4 s5 s6 s7 s8 s11 s12 : Sl) (c m : Int) (h : AH) :
    xc T (callD T n) (initD T n) b8_law [s0, s1, s2, .no, s4, s5, s6, s7, s8, .v (.int m), .v (.lst (ps.map pr)), s11, s12, .v (.int c), .no] h =
      .nx [s0, s1, s2, .no, s4, s5, s6, s7, s8, .v (.int m), .v (.lst (ps.map pr)), s11, s12, .v (.int (c + (cntm m ps : Int))), .no] h := by
  have e : lcGo (.nm 14) (fun σ h => ev T (callD T n) (initD T n) c6_law σ h) (fun σ h => ev T (callD T n) (initD T n) x7_law σ h) (ps.map pr) [s0, s1, s2, .no, s4, s5, s6, s7, s8, .v (.int m), .v (.lst (ps.map pr)), s11, s12, .v (.int c), .no] h = .ok (((ps.map pr).filter fun d => match d with | .tup [.int a, .int b] => hit m (a, b) | _ => false).map id) h := by
    refine lcGo_pure (by rw [List.length_map]; omega) fun d hd => ?_
    obtain ⟨q, _, rfl⟩ := List.mem_map.mp hd
    refine ⟨_, rfl, ?_, fun _ => ?_⟩
    · simp only [xc, ev, evs, evA, evO, startD, List.map, List.length, List.replicate, List.append_nil, List.cons_append, List.nil_append, getV_0, getV_s, setV_0, setV_0n, setV_s, isFree_0, isFree_0v, isFree_s, of_some, of_none, bind_ok, bind_ite, bind_bad, bind_ex, tst_ok, tst_ite, ofR_ok, ofR_ite, rtst_ok, rtst_ite, seq_nx, seq_rt, seq_ite, seq_bad, fin_nx, fin_rt, fin_ite, ixL_0, ixL_1, ixL_2, ixL_3, Option.map_some, Option.map_none, isND, isiD, inRD, bindT_nm, bindT_tp, bindTs_nil, bindTs_cons, fgtL, List.set_cons_zero, List.set_cons_succ, Tg.slots, List.getElem?_cons_zero, List.getElem?_cons_succ, augI, if_true, if_false, Bool.false_eq_true, reduceIte, Bool.not_true, Bool.not_false, ix_tup, ix_lst, ix_scr, ix_dct, b_add, b_sub, b_mul, b_fdiv, b_mod, b_pow, b_addS, b_addT, c_eqI, c_eqB, c_eqS, c_neI, c_neB, c_neS, c_ltI, c_leI, c_gtI, c_geI, l_tup, l_lst, l_scr, i_int, i_bl, bi_abs', bi_max', bi_min', bi_tupL, bi_tupT, bi_lstL, bi_lstT, it_val, sq_tup, sq_lst, sq_scr, it_r1, it_r2, it_en, it_zpL, it_zpT, loop_nx, loop_ct, loop_bk, loop_rt, loop_ex, loop_ite, tgt_some, c6_law]
      unfold hit
      by_cases h1 : q.1 ≤ m <;> simp [h1]
    · simp only [xc, ev, evs, evA, evO, startD, List.map, List.length, List.replicate, List.append_nil, List.cons_append, List.nil_append, getV_0, getV_s, setV_0, setV_0n, setV_s, isFree_0, isFree_0v, isFree_s, of_some, of_none, bind_ok, bind_ite, bind_bad, bind_ex, tst_ok, tst_ite, ofR_ok, ofR_ite, rtst_ok, rtst_ite, seq_nx, seq_rt, seq_ite, seq_bad, fin_nx, fin_rt, fin_ite, ixL_0, ixL_1, ixL_2, ixL_3, Option.map_some, Option.map_none, isND, isiD, inRD, bindT_nm, bindT_tp, bindTs_nil, bindTs_cons, fgtL, List.set_cons_zero, List.set_cons_succ, Tg.slots, List.getElem?_cons_zero, List.getElem?_cons_succ, augI, if_true, if_false, Bool.false_eq_true, reduceIte, Bool.not_true, Bool.not_false, ix_tup, ix_lst, ix_scr, ix_dct, b_add, b_sub, b_mul, b_fdiv, b_mod, b_pow, b_addS, b_addT, c_eqI, c_eqB, c_eqS, c_neI, c_neB, c_neS, c_ltI, c_leI, c_gtI, c_geI, l_tup, l_lst, l_scr, i_int, i_bl, bi_abs', bi_max', bi_min', bi_tupL, bi_tupT, bi_lstL, bi_lstT, it_val, sq_tup, sq_lst, sq_scr, it_r1, it_r2, it_en, it_zpL, it_zpT, loop_nx, loop_ct, loop_bk, loop_rt, loop_ex, loop_ite, tgt_some, x7_law]
      rfl
  simp only [xc, ev, evs, evA, evO, startD, List.map, List.length, List.replicate, List.append_nil, List.cons_append, List.nil_append, getV_0, getV_s, setV_0, setV_0n, setV_s, isFree_0, isFree_0v, isFree_s, of_some, of_none, bind_ok, bind_ite, bind_bad, bind_ex, tst_ok, tst_ite, ofR_ok, ofR_ite, rtst_ok, rtst_ite, seq_nx, seq_rt, seq_ite, seq_bad, fin_nx, fin_rt, fin_ite, ixL_0, ixL_1, ixL_2, ixL_3, Option.map_some, Option.map_none, isND, isiD, inRD, bindT_nm, bindT_tp, bindTs_nil, bindTs_cons, fgtL, List.set_cons_zero, List.set_cons_succ, Tg.slots, List.getElem?_cons_zero, List.getElem?_cons_succ, augI, if_true, if_false, Bool.false_eq_true, reduceIte, Bool.not_true, Bool.not_false, ix_tup, ix_lst, ix_scr, ix_dct, b_add, b_sub, b_mul, b_fdiv, b_mod, b_pow, b_addS, b_addT, c_eqI, c_eqB, c_eqS, c_neI, c_neB, c_neS, c_ltI, c_leI, c_gtI, c_geI, l_tup, l_lst, l_scr, i_int, i_bl, bi_abs', bi_max', bi_min', bi_tupL, bi_tupT, bi_lstL, bi_lstT, it_val, sq_tup, sq_lst, sq_scr, it_r1, it_r2, it_en, it_zpL, it_zpT, loop_nx, loop_ct, loop_bk, loop_rt, loop_ex, loop_ite, tgt_some, b8_law, e]
  rw [List.map_id, List.filter_map, List.length_map]
  rfl
theorem cnt_loop (n : Nat) (ps : List (Int × Int)) (hps : ps.length ≤ 1000) (s0 s1 s2 s4 s5 s6 s7 s8 s11 s12 : Sl) (h : AH) : ∀ (ks : List Int) (c : Int),
    forGo (.nm 9) (fun σ h => xc T (callD T n) (initD T n) b8_law σ h) [9] (ks.map .int) [s0, s1, s2, .no, s4, s5, s6, s7, s8, .no, .v (.lst (ps.map pr)), s11, s12, .v (.int c), .no] h =
      .nx [s0, s1, s2, .no, s4, s5, s6, s7, s8, .no, .v (.lst (ps.map pr)), s11, s12, .v (.int (c + (ks.map fun m => (cntm m ps : Int)).sum)), .no] h
  | [], c => by
    show RS.nx [s0, s1, s2, .no, s4, s5, s6, s7, s8, .no, .v (.lst (ps.map pr)), s11, s12, .v (.int c), .no] h = _
    simp
  | m :: ks, c => by
    rw [List.map_cons, forGo_cons]
    simp only [xc, ev, evs, evA, evO, startD, List.map, List.length, List.replicate, List.append_nil, List.cons_append, List.nil_append, getV_0, getV_s, setV_0, setV_0n, setV_s, isFree_0, isFree_0v, isFree_s, of_some, of_none, bind_ok, bind_ite, bind_bad, bind_ex, tst_ok, tst_ite, ofR_ok, ofR_ite, rtst_ok, rtst_ite, seq_nx, seq_rt, seq_ite, seq_bad, fin_nx, fin_rt, fin_ite, ixL_0, ixL_1, ixL_2, ixL_3, Option.map_some, Option.map_none, isND, isiD, inRD, bindT_nm, bindT_tp, bindTs_nil, bindTs_cons, fgtL, List.set_cons_zero, List.set_cons_succ, Tg.slots, List.getElem?_cons_zero, List.getElem?_cons_succ, augI, if_true, if_false, Bool.false_eq_true, reduceIte, Bool.not_true, Bool.not_false, ix_tup, ix_lst, ix_scr, ix_dct, b_add, b_sub, b_mul, b_fdiv, b_mod, b_pow, b_addS, b_addT, c_eqI, c_eqB, c_eqS, c_neI, c_neB, c_neS, c_ltI, c_leI, c_gtI, c_geI, l_tup, l_lst, l_scr, i_int, i_bl, bi_abs', bi_max', bi_min', bi_tupL, bi_tupT, bi_lstL, bi_lstT, it_val, sq_tup, sq_lst, sq_scr, it_r1, it_r2, it_en, it_zpL, it_zpT, loop_nx, loop_ct, loop_bk, loop_rt, loop_ex, loop_ite, tgt_some, cnt_turn n ps hps]
    rw [cnt_loop n ps hps s0 s1 s2 s4 s5 s6 s7 s8 s11 s12 h ks]
    simp [Int.add_assoc]
end Lk00
namespace Lk00
open VI PySem
def inF (c d : Int) (x : D) : Bool := match x with | .int m => decide (c ≤ m ∧ m < d) | _ => false
theorem common_ok (n : Nat) (a c d : Int) (N : Nat) (hN : N ≤ 1000) (s0 s1 s2 s3 s4 s5 s6 : Sl) (h : AH) :
    lcGo (.nm 9) (fun σ h => ev T (callD T n) (initD T n) c2_law σ h) (fun σ h => ev T (callD T n) (initD T n) x3_law σ h) (rngL a N) [s0, s1, s2, s3, s4, s5, s6, .v (pr (c, d)), .no, .no, .no, .no, .no, .no, .no] h = .ok ((rngL a N).filter (inF c d)) h := by
  have := lcGo_pure (t := .nm 9) (c := fun σ h => ev T (callD T n) (initD T n) c2_law σ h) (e := fun σ h => ev T (callD T n) (initD T n) x3_law σ h) (σ := [s0, s1, s2, s3, s4, s5, s6, .v (pr (c, d)), .no, .no, .no, .no, .no, .no, .no]) (h := h) (p := inF c d) (g := id) (xs := rngL a N) (by rw [rngL_len]; omega) fun x hx => by
    rw [rng_map] at hx
    obtain ⟨m, _, rfl⟩ := List.mem_map.mp hx
    refine ⟨_, rfl, ?_, fun _ => ?_⟩
    · simp only [xc, ev, evs, evA, evO, startD, List.map, List.length, List.replicate, List.append_nil, List.cons_append, List.nil_append, getV_0, getV_s, setV_0, setV_0n, setV_s, isFree_0, isFree_0v, isFree_s, of_some, of_none, bind_ok, bind_ite, bind_bad, bind_ex, tst_ok, tst_ite, ofR_ok, ofR_ite, rtst_ok, rtst_ite, seq_nx, seq_rt, seq_ite, seq_bad, fin_nx, fin_rt, fin_ite, ixL_0, ixL_1, ixL_2, ixL_3, Option.map_some, Option.map_none, isND, isiD, inRD, bindT_nm, bindT_tp, bindTs_nil, bindTs_cons, fgtL, List.set_cons_zero, List.set_cons_succ, Tg.slots, List.getElem?_cons_zero, List.getElem?_cons_succ, augI, if_true, if_false, Bool.false_eq_true, reduceIte, Bool.not_true, Bool.not_false, ix_tup, ix_lst, ix_scr, ix_dct, b_add, b_sub, b_mul, b_fdiv, b_mod, b_pow, b_addS, b_addT, c_eqI, c_eqB, c_eqS, c_neI, c_neB, c_neS, c_ltI, c_leI, c_gtI, c_geI, l_tup, l_lst, l_scr, i_int, i_bl, bi_abs', bi_max', bi_min', bi_tupL, bi_tupT, bi_lstL, bi_lstT, it_val, sq_tup, sq_lst, sq_scr, it_r1, it_r2, it_en, it_zpL, it_zpT, loop_nx, loop_ct, loop_bk, loop_rt, loop_ex, loop_ite, tgt_some, c2_law]
      rfl
    · simp only [xc, ev, evs, evA, evO, startD, List.map, List.length, List.replicate, List.append_nil, List.cons_append, List.nil_append, getV_0, getV_s, setV_0, setV_0n, setV_s, isFree_0, isFree_0v, isFree_s, of_some, of_none, bind_ok, bind_ite, bind_bad, bind_ex, tst_ok, tst_ite, ofR_ok, ofR_ite, rtst_ok, rtst_ite, seq_nx, seq_rt, seq_ite, seq_bad, fin_nx, fin_rt, fin_ite, ixL_0, ixL_1, ixL_2, ixL_3, Option.map_some, Option.map_none, isND, isiD, inRD, bindT_nm, bindT_tp, bindTs_nil, bindTs_cons, fgtL, List.set_cons_zero, List.set_cons_succ, Tg.slots, List.getElem?_cons_zero, List.getElem?_cons_succ, augI, if_true, if_false, Bool.false_eq_true, reduceIte, Bool.not_true, Bool.not_false, ix_tup, ix_lst, ix_scr, ix_dct, b_add, b_sub, b_mul, b_fdiv, b_mod, b_pow, b_addS, b_addT, c_eqI, c_eqB, c_eqS, c_neI, c_neB, c_neS, c_ltI, c_leI, c_gtI, c_geI, l_tup, l_lst, l_scr, i_int, i_bl, bi_abs', bi_max', bi_min', bi_tupL, bi_tupT, bi_lstL, bi_lstT, it_val, sq_tup, sq_lst, sq_scr, it_r1, it_r2, it_en, it_zpL, it_zpT, loop_nx, loop_ct, loop_bk, loop_rt, loop_ex, loop_ite, tgt_some, x3_law]
      rfl
  rw [this, List.map_id]
theorem okR_s {i : Int} (h : -1000 ≤ i ∧ i ≤ 1000) : okR i = true := by
  unfold okR
  exact decide_eq_true (by omega)
theorem law_ok (ns : List Int) : ∃ h', callD T 13 "law" [.scr ns] [] = .ok (.bl true) h' := by
  obtain ⟨ds, es, hd⟩ := stream_ok 10 ns
  obtain ⟨a, l, l1, l2, l3, l4, e1⟩ := span_turn 11 ds hd (.scr ns) [] (by simp) 0 (by omega)
  obtain ⟨c, k, k1, k2, k3, k4, e2⟩ := span_turn 11 ds hd (.scr ns) [(a, a + l)] (by simp) 3 (by omega)
  obtain ⟨v6, _, _, e3⟩ := next_ok 11 ds hd 21 6 (by omega) (by omega)
  obtain ⟨v7, w1, w2, e4⟩ := next_ok 11 ds hd 6 7 (by omega) (by omega)
  rw [call_of (fd := f_law) rfl rfl]
  simp only [List.map, List.append_nil, List.nil_append, List.cons_append, Int.zero_add, Nat.reduceAdd, Int.reduceAdd] at e1 e2 e3 e4 es
  have hr1 : (okR a && okR (a + l)) = true := by rw [okR_s (by omega), okR_s (by omega)]; rfl
  have hr2 : (okR (a - 2) && okR (a + 45)) = true := by rw [okR_s (by omega), okR_s (by omega)]; rfl
  have hc : (decide (((((rngL a (a + l - a).toNat).filter (inF c (c + k))).length : Nat) : Int) > 0)) = (decide (a < c + k) && decide (c < a + l)) := meet_len a (a + l) c (c + k) (by omega) (by omega)
  have hc2 : (decide (a < c + k) && decide (c < a + l)) = (decide (c < a + l) && decide (a < c + k)) := Bool.and_comm _ _
  have m1 : callD T 12 "meet" [pr (a, a + l), pr (c, c + k)] [Cl.lst [D.int 7]] = .ok (.bl (decide (a < c + k) && decide (c < a + l))) [Cl.lst [D.int 7]] := meet_ok 11 _ _ _ _ _
  have m2 : callD T 12 "meet" [pr (c, c + k), pr (a, a + l)] [Cl.lst [D.int 7]] = .ok (.bl (decide (c < a + l) && decide (a < c + k))) [Cl.lst [D.int 7]] := meet_ok 11 _ _ _ _ _
  have sb : ∀ x y : Bool, callD T 12 "_law_same" [.bl x, .bl y] [Cl.lst [D.int 7]] = .ok (.bl (decide (x = y))) [Cl.lst [D.int 7]] := fun x y => same_bl 11 _ _ _
  have le : callD T 12 "lengthened" [pr (a, a + l), .int v6] [Cl.lst [D.int 7]] = .ok (.tup [.int a, .int (a + l + v6)]) [Cl.lst [D.int 7]] := lengthened_ok 11 _ _ _ _
  have st : callD T 12 "_law_same" [.tup [.int a, .int (a + l + v6)], .tup [.int a, .int (a + l + v6)]] [Cl.lst [D.int 7]] = .ok (.bl true) [Cl.lst [D.int 7]] := by
    rw [same_tup 9]; simp
  obtain ⟨b, lL, p', p0, hb, e5⟩ := list_loop 11 ds hd (.v (.scr ns)) (.ol [pr (a, a + l), pr (c, c + k)]) (.v (.int v6)) (.v (pr (a, a + l))) (.v (pr (c, c + k))) (.v (.lst ((rngL a (a + l - a).toNat).filter (inF c (c + k))))) .no ((List.range v7.toNat).map fun j : Nat => 0 + (j : Int)) [] 8 0 (by simp; omega) (by omega)
  obtain ⟨v8, f1, f2, e6⟩ := next_ok 11 ds hd 50 p' (by omega) p0
  obtain ⟨v9, f3, f4, e7⟩ := next_ok 11 ds hd 50 (p' + 1) (by omega) (by omega)
  simp only [Nat.reduceAdd, Int.reduceAdd, List.map_nil] at e5 e6 e7
  have hr3 : (okR v8 && okR (v8 + v9 - 5)) = true := by rw [okR_s (by omega), okR_s (by omega)]; rfl
  have hl := has_loop 11 a (a + l) (.v (.scr ns)) (.v (stm ds)) (.ol [pr (a, a + l), pr (c, c + k)]) (.v (.int v6)) (.v (pr (c, c + k))) (.v (.lst ((rngL a (a + l - a).toNat).filter (inF c (c + k))))) [Cl.lst [D.int 7]]
  simp only [Nat.reduceAdd] at hl
  simp only [xc, ev, evs, evA, evO, startD, List.map, List.length, List.replicate, List.append_nil, List.cons_append, List.nil_append, getV_0, getV_s, setV_0, setV_0n, setV_s, isFree_0, isFree_0v, isFree_s, of_some, of_none, bind_ok, bind_ite, bind_bad, bind_ex, tst_ok, tst_ite, ofR_ok, ofR_ite, rtst_ok, rtst_ite, seq_nx, seq_rt, seq_ite, seq_bad, fin_nx, fin_rt, fin_ite, ixL_0, ixL_1, ixL_2, ixL_3, Option.map_some, Option.map_none, isND, isiD, inRD, bindT_nm, bindT_tp, bindTs_nil, bindTs_cons, fgtL, List.set_cons_zero, List.set_cons_succ, Tg.slots, List.getElem?_cons_zero, List.getElem?_cons_succ, augI, if_true, if_false, Bool.false_eq_true, reduceIte, Bool.not_true, Bool.not_false, ix_tup, ix_lst, ix_scr, ix_dct, b_add, b_sub, b_mul, b_fdiv, b_mod, b_pow, b_addS, b_addT, c_eqI, c_eqB, c_eqS, c_neI, c_neB, c_neS, c_ltI, c_leI, c_gtI, c_geI, l_tup, l_lst, l_scr, i_int, i_bl, bi_abs', bi_max', bi_min', bi_tupL, bi_tupT, bi_lstL, bi_lstT, it_val, sq_tup, sq_lst, sq_scr, it_r1, it_r2, it_en, it_zpL, it_zpT, loop_nx, loop_ct, loop_bk, loop_rt, loop_ex, loop_ite, tgt_some, f_law, es, if_pos (show okR 2 = true from rfl), if_pos (show (0:Nat) ≤ 1000000 by decide), show rngL 0 (2 : Int).toNat = [.int 0, .int 1] from rfl, forGo_cons, forGo_nil, e1, e2, e3, ixOl, if_pos hr1, common_ok 12 a c (c + k) _ (show (a + l - a).toNat ≤ 1000 by omega), m1, m2, sb]
  have hc' : (decide (0 < ((((rngL a (a + l - a).toNat).filter (inF c (c + k))).length : Nat) : Int))) = (decide (a < c + k) && decide (c < a + l)) := hc
  rw [hc']
  simp only [xc, ev, evs, evA, evO, startD, List.map, List.length, List.replicate, List.append_nil, List.cons_append, List.nil_append, getV_0, getV_s, setV_0, setV_0n, setV_s, isFree_0, isFree_0v, isFree_s, of_some, of_none, bind_ok, bind_ite, bind_bad, bind_ex, tst_ok, tst_ite, ofR_ok, ofR_ite, rtst_ok, rtst_ite, seq_nx, seq_rt, seq_ite, seq_bad, fin_nx, fin_rt, fin_ite, ixL_0, ixL_1, ixL_2, ixL_3, Option.map_some, Option.map_none, isND, isiD, inRD, bindT_nm, bindT_tp, bindTs_nil, bindTs_cons, fgtL, List.set_cons_zero, List.set_cons_succ, Tg.slots, List.getElem?_cons_zero, List.getElem?_cons_succ, augI, if_true, if_false, Bool.false_eq_true, reduceIte, Bool.not_true, Bool.not_false, ix_tup, ix_lst, ix_scr, ix_dct, b_add, b_sub, b_mul, b_fdiv, b_mod, b_pow, b_addS, b_addT, c_eqI, c_eqB, c_eqS, c_neI, c_neB, c_neS, c_ltI, c_leI, c_gtI, c_geI, l_tup, l_lst, l_scr, i_int, i_bl, bi_abs', bi_max', bi_min', bi_tupL, bi_tupT, bi_lstL, bi_lstT, it_val, sq_tup, sq_lst, sq_scr, it_r1, it_r2, it_en, it_zpL, it_zpT, loop_nx, loop_ct, loop_bk, loop_rt, loop_ex, loop_ite, tgt_some, hc2, decide_true, le, if_pos (show (0 + 1 + 1 : Nat) ≤ 1000000 by decide), st, if_pos hr2, rng_map (a - 2), hl, e4, if_pos (okR_s (i := v7) (by omega)), rng_map 0, e5, e6, e7]
  rw [if_pos hr3, rng_map v8]
  have cl := cnt_loop 12 b (by omega) (.v (.scr ns)) (.v (stm ds)) (.ol [pr (a, a + l), pr (c, c + k)]) (.v (.int v8)) (.v (.int v6)) (.v (pr (a, a + l))) (.v (pr (c, c + k))) (.v (.lst ((rngL a (a + l - a).toNat).filter (inF c (c + k))))) (.v (.int lL)) (.v (.int (v8 + v9 - 5))) [Cl.lst [D.int (p' + 1 + 1)]] ((List.range (v8 + v9 - 5 - v8).toNat).map fun j : Nat => v8 + (j : Int)) 0
  have w : callD T 12 "minutes_within" [.tup (b.map pr), .int v8, .int (v8 + v9 - 5)] [Cl.lst [D.int (p' + 1 + 1)]] = .ok (.int ((b.map (part1 v8 (v8 + v9 - 5))).sum)) [Cl.lst [D.int (p' + 1 + 1)]] := within_ok 11 _ _ _ _
  have si : ∀ x y : Int, callD T 12 "_law_same" [.int x, .int y] [Cl.lst [D.int (p' + 1 + 1)]] = .ok (.bl (decide (x = y))) [Cl.lst [D.int (p' + 1 + 1)]] := fun x y => same_int 10 _ _ _
  simp only [xc, ev, evs, evA, evO, startD, List.map, List.length, List.replicate, List.append_nil, List.cons_append, List.nil_append, getV_0, getV_s, setV_0, setV_0n, setV_s, isFree_0, isFree_0v, isFree_s, of_some, of_none, bind_ok, bind_ite, bind_bad, bind_ex, tst_ok, tst_ite, ofR_ok, ofR_ite, rtst_ok, rtst_ite, seq_nx, seq_rt, seq_ite, seq_bad, fin_nx, fin_rt, fin_ite, ixL_0, ixL_1, ixL_2, ixL_3, Option.map_some, Option.map_none, isND, isiD, inRD, bindT_nm, bindT_tp, bindTs_nil, bindTs_cons, fgtL, List.set_cons_zero, List.set_cons_succ, Tg.slots, List.getElem?_cons_zero, List.getElem?_cons_succ, augI, if_true, if_false, Bool.false_eq_true, reduceIte, Bool.not_true, Bool.not_false, ix_tup, ix_lst, ix_scr, ix_dct, b_add, b_sub, b_mul, b_fdiv, b_mod, b_pow, b_addS, b_addT, c_eqI, c_eqB, c_eqS, c_neI, c_neB, c_neS, c_ltI, c_leI, c_gtI, c_geI, l_tup, l_lst, l_scr, i_int, i_bl, bi_abs', bi_max', bi_min', bi_tupL, bi_tupT, bi_lstL, bi_lstT, it_val, sq_tup, sq_lst, sq_scr, it_r1, it_r2, it_en, it_zpL, it_zpT, loop_nx, loop_ct, loop_bk, loop_rt, loop_ex, loop_ite, tgt_some, cl, w, si]
  have e : (0 : Int) + (((List.range (v8 + v9 - 5 - v8).toNat).map fun j : Nat => v8 + (j : Int)).map fun m => (cntm m b : Int)).sum = (b.map (part1 v8 (v8 + v9 - 5))).sum := by
    rw [Int.zero_add, ← count_eq, List.map_map]
    rfl
  rw [e]
  exact ⟨_, by rw [decide_eq_true rfl]⟩
end Lk00
theorem PySem.Challenge.cw_downpass_k00_spans_holds : PySem.Challenge.rw_downpass_k00_spans.Holds := by
  exact Lk00.ends Lk00.law_ok
