import PyProof.Rows.All
import Wide.All
import OpenK.AllK
import Wide.FinOn
import HandS.ForMost
import HandS.ForExc
import HandS.Wide
import HandS.Walk
import HandS.Star
import HandS.Style
import HandS.Flow
import HandS.TupAny
import HandS.TupMul
import HandS.SortInts
import HandS.IsInst
import HandS.Text
import HandS.FStr
import HandS.MakeKw
import HandS.Strs
import HandS.CallSlots
import HandS.Zip
import HandS.Conv
import HandS.WordsExc
import HandS.Defaults
import KE.IntBitsLaws
import PySem.Challenge.RW_lockerwall_k10_book_texts
import HandS.EndBits
set_option Elab.async false
set_option linter.all false
set_option maxRecDepth 100000
/-! Lw: a small interpreter of the programs' texts over values as trees and cells. -/
namespace Lw
open PySem

/-- values: trees; ptr: a cell (a list or an object that is still changed); tok: a source of draws; scr: the script -/
inductive W where
  | non | bl (b : Bool) | int (i : Int) | str (s : Str)
  | lst (xs : List W) | tup (xs : List W)
  | obj (c : Nat) (ks : List Str) (vs : List W)
  | ptr (n : Nat) | tok | scr (ns : List Int) | dic0 | bad
  deriving Inhabited

inductive Cell where
  | lst (xs : List W) | ins (c : Nat) (ks : List Str) (vs : List W) | dead
  deriving Inhabited

abbrev Mem := List Cell
abbrev Env := List (Option W)
structure Exn where
  cls : Nat
  arg : Option W

inductive R (α : Type) where
  | ok (a : α) (m : Mem) (c : Nat)
  | exc (x : Exn) (ρ : Env) (m : Mem) (c : Nat)
  | no
def R.bind {α β : Type} (r : R α) (k : α → Mem → Nat → R β) : R β := match r with
  | .ok a m c => k a m c
  | .exc x ρ m c => .exc x ρ m c
  | .no => .no
theorem R.bind_ok {α β : Type} (a : α) (m : Mem) (c : Nat) (k : α → Mem → Nat → R β) : R.bind (.ok a m c) k = k a m c := rfl
theorem R.bind_exc {α β : Type} (x : Exn) (ρ : Env) (m : Mem) (c : Nat) (k : α → Mem → Nat → R β) : R.bind (.exc x ρ m c) k = .exc x ρ m c := rfl
theorem R.bind_no {α β : Type} (k : α → Mem → Nat → R β) : R.bind (.no : R α) k = .no := rfl

/-- written constants -/
inductive Lit where
  | non | bl (b : Bool) | int (i : Int) | str (s : Str)
def Lit.w : Lit → W
  | .non => .non | .bl b => .bl b | .int i => .int i | .str s => .str s

inductive BOp where
  | add | sub | mul | fdiv | mod | pow
inductive COp where
  | eq | ne | lt | le | gt | ge | isIn | notIn | isN | notN
/-- built-in functions, by name and number of arguments -/
inductive Blt where
  | len | int | abs | max2 | min2 | sorted | list | tuple | str | all | any | sum
/-- what isinstance asks -/
inductive Ty where
  | int | bool | str | list | tuple | tupList | cls (c : Nat)
/-- methods of built-in types -/
inductive Bm where
  | append | extend | index | pop | popAt | clear | reverse | insert | count

mutual
inductive E where
  | var (i : Nat)
  | con (k : Lit)
  | glob (g : Nat)
  | tup (es : Es)
  | lst (cell : Bool) (es : Es)
  | attr (e : E) (f : Str)
  | bin (cell : Bool) (op : BOp) (a b : E)
  | neg (a : E)
  | not (a : T)
  | and (a b : E)
  | or (a b : E)
  | cmp (op : COp) (a b : E)
  | chain (op op' : COp) (a b d : E)
  | ife (t : T) (a b : E)
  | idx (a i : E)
  | slc (cell : Bool) (a : E) (lo hi : O)
  | rev (cell : Bool) (a : E)
  | call (f : Nat) (es : Es)
  | meth (f : Nat) (o : E) (es : Es)
  /-- all arguments by name, told in another order -/
  | callK (f : Nat) (ks : List Str) (ord : List Nat) (es : Es)
  | make (c : Nat) (fz : Bool) (es : Es)
  /-- C(e, .., k = v, ..): nd defaults, each () ; ord: where each parameter's value stands among self, the values, the named ones, the defaults -/
  | makeK (c : Nat) (fz : Bool) (nd : Nat) (ks : List Str) (ord : List Nat) (es kes : Es)
  | blt (cell : Bool) (b : Blt) (es : Es)
  | isi (e : E) (t : Ty)
  | bm (m : Bm) (o : E) (es : Es)
  | lc (cell : Bool) (tg : List Nat) (pat : Bool) (it : It) (cond : T) (elt : E)
  | frz (e : E)
  | gidx (g : Nat) (e : E)
  /-- list(range(a, b)) -/
  | lrng (cell : Bool) (a b : E)
  /-- len(set(a list of unlike ints, or a tuple of unlike texts)) -/
  | lset (e : E)
  /-- o.f(k = v, ..), all by name -/
  | methK (f : Nat) (ks : List Str) (ord : List Nat) (o : E) (es : Es)
  /-- a.join(b) -/
  | sjoin (a b : E)
  /-- f'..': constant texts, and values that are texts or whole numbers -/
  | fstr (es : Es)
  /-- f(e, ..), the last parameter by its default, a whole number -/
  | callD (f : Nat) (z : Int) (es : Es)
inductive Es where
  | nil
  | cons (e : E) (es : Es)
  | star (e : E) (es : Es)
inductive It where
  | lst (e : E) | tup (e : E) | rng (e : E) | rng2 (a b : E) | enum (e : E) | zip (a b : E)
  /-- range(a, b, c) -/
  | rng3 (es : Es)
/-- a test -/
inductive T where
  | yes | e (e : E) | not (a : T) | and (a b : T) | or (a b : T)
/-- a part of a slice -/
inductive O where
  | none | some (e : E)
end

inductive Tg where
  | name (i : Nat) | attr (o : E) (f : Str) | sub (o i : E)

mutual
inductive S where
  | asg (i : Nat) (e : E)
  | asgT (t : Tg) (e : E)
  | par (ts : List Tg) (es : Es)
  | unp (ts : List Tg) (e : E)
  | aug (i : Nat) (op : BOp) (e : E)
  | augA (o : E) (f : Str) (op : BOp) (e : E)
  | ex (e : E)
  | ife (t : T) (a b : Ss)
  | for (tg : List Nat) (pat : Bool) (it : It) (body : Ss)
  | whl (t : T) (body : Ss)
  | ret (e : E)
  | retN
  | raise (c : Nat) (arg : O)
  | pass | brk | cont | never
inductive Ss where
  | nil
  | cons (s : S) (r : Ss)
  /-- no statement of the text: the cells in a variable are frozen -/
  | frz (i : Nat) (r : Ss)
end

inductive Fl where
  | nx (ρ : Env) | rt (w : W) | bk (ρ : Env) | ct (ρ : Env)

/-- a class: its fields are told by its objects; init: the def of __init__ -/
structure ClsRec where
  init : Nat
structure FnRec where
  /-- of which class it is a method -/
  cls : Option Nat
  arity : Nat
  slots : Nat
  /-- keeps its cells (its result may point to them); else all that it hands back is frozen -/
  keep : Bool
  body : Ss
/-- the program's table -/
structure Cfg where
  glob : Nat → W
  fn : Nat → Option FnRec
  cls : Nat → Option ClsRec
  /-- turns of a while at most -/
  fuel : Nat

abbrev Call := Nat → List W → Mem → Nat → R W

/-! ### looks -/
def vw (m : Mem) : W → W
  | .ptr n => match m[n]? with
    | some (.lst xs) => .lst xs
    | some (.ins c ks vs) => .obj c ks vs
    | _ => .bad
  | w => w
def fieldOf (f : Str) : List Str → List W → Option W
  | k :: ks, v :: vs => if f = k then some v else fieldOf f ks vs
  | _, _ => none
def putField (f : Str) (w : W) : List Str → List W → List Str × List W
  | k :: ks, v :: vs => if k = f then (k :: ks, w :: vs) else let r := putField f w ks vs; (k :: r.1, v :: r.2)
  | _, _ => ([f], [w])

/-- as data that == looks through -/
def datL (f : W → Option PyData) : List W → Option (List PyData)
  | [] => some []
  | w :: ws => match f w with
    | none => none
    | some d => match datL f ws with
      | none => none
      | some ds => some (d :: ds)
def dat (m : Mem) : Nat → W → Option PyData
  | 0, _ => none
  | n + 1, w => match vw m w with
    | .non => some .none
    | .bl b => some (.bool b)
    | .int i => some (.int i)
    | .str s => some (.str s)
    | .lst xs => (datL (dat m n) xs).map .list
    | .tup xs => (datL (dat m n) xs).map .tuple
    | _ => none
def depthMax : Nat := 30
def eqW (m : Mem) (a b : W) : Option Bool := match dat m depthMax a, dat m depthMax b with
  | some d, some e => if SeqAt.shaped d && SeqAt.shaped e then some (PyData.eqv d e) else none
  | _, _ => none

def flatW : W → Bool
  | .non => true | .bl _ => true | .int _ => true | .str _ => true | _ => false
def flatEq : W → W → Bool
  | .non, .non => true
  | .bl a, .bl b => a == b
  | .bl a, .int b => (if a then (1 : Int) else 0) == b
  | .int a, .bl b => a == (if b then (1 : Int) else 0)
  | .int a, .int b => a == b
  | .str a, .str b => decide (a = b)
  | _, _ => false
def inW (x : W) (xs : List W) : Bool := xs.any fun y => flatEq y x
def indexW (x : W) : List W → Option Nat
  | [] => none
  | y :: ys => if flatEq y x then some 0 else (indexW x ys).map (· + 1)

def strsOf : List W → Option (List Str)
  | [] => some []
  | .str s :: ws => (strsOf ws).map (s :: ·)
  | _ :: _ => none
def idxStr (z : Str) : List Str → Option Nat
  | [] => none
  | y :: ys => if y = z then some 0 else (idxStr z ys).map (· + 1)
def gidxW (t x : W) : Option Nat := match t, x with
  | .tup xs, .str z => (strsOf xs).bind (idxStr z)
  | _, _ => none

/-! ### new lists -/
def mkL (cell : Bool) (ws : List W) (m : Mem) (c : Nat) : R W :=
  if ws.length ≤ sizeLine then (if cell then .ok (.ptr m.length) (m ++ [.lst ws]) c else .ok (.lst ws) m c) else .no
def mkT (ws : List W) (m : Mem) (c : Nat) : R W := if ws.length ≤ sizeLine then .ok (.tup ws) m c else .no

def intsOf : List W → Option (List Int)
  | [] => some []
  | .int i :: ws => (intsOf ws).map (i :: ·)
  | _ :: _ => none
def blsOf : List W → Option (List Bool)
  | [] => some []
  | .bl b :: ws => (blsOf ws).map (b :: ·)
  | _ :: _ => none

/-! ### operators -/
def sizeI (i : Int) : Nat := i.natAbs.log2
def binW (cell : Bool) (op : BOp) (a b : W) (m : Mem) (c : Nat) : R W :=
  match op, vw m a, vw m b with
  | .add, .int i, .int j => .ok (.int (i + j)) m c
  | .add, .str s, .str t => if s.length + t.length ≤ sizeLine then .ok (.str (s ++ t)) m c else .no
  | .add, .tup xs, .tup ys => mkT (xs ++ ys) m c
  | .add, .lst xs, .lst ys => mkL cell (xs ++ ys) m c
  | .sub, .int i, .int j => .ok (.int (i - j)) m c
  | .mul, .int i, .int j => if sizeI i + sizeI j < 1000000 then .ok (.int (i * j)) m c else .no
  | .mul, .lst xs, .int k => if -(2 ^ 63) ≤ k ∧ k < 2 ^ 63 ∧ xs.length * k.toNat ≤ sizeLine then mkL cell (List.replicate k.toNat xs).flatten m c else .no
  | .mul, .tup xs, .int k => if xs.length ≠ 0 ∧ 0 ≤ k ∧ k ≤ 1000 ∧ xs.length ≤ 1000 then mkT (List.replicate k.toNat xs).flatten m c else .no
  | .fdiv, .int i, .int j => if 0 < j ∧ sizeI j < 9000 then .ok (.int (i / j)) m c else .no
  | .mod, .int i, .int j => if 0 < j then .ok (.int (i % j)) m c else .no
  | .pow, .int i, .int j => if 0 ≤ j ∧ (Builtin.Int.intBits i : Int) * j ≤ 2 ^ 27 then .ok (.int (i ^ j.toNat)) m c else .no
  | _, _, _ => .no
def cmpW (op : COp) (a b : W) (m : Mem) : Option Bool :=
  match op with
  | .eq => eqW m a b
  | .ne => (eqW m a b).map (!·)
  | .lt => match a, b with | .int i, .int j => some (decide (i < j)) | _, _ => none
  | .le => match a, b with | .int i, .int j => some (decide (i ≤ j)) | _, _ => none
  | .gt => match a, b with | .int i, .int j => some (decide (j < i)) | _, _ => none
  | .ge => match a, b with | .int i, .int j => some (decide (j ≤ i)) | _, _ => none
  | .isIn => match vw m b with
    | .lst xs => if flatW a && xs.all flatW then some (inW a xs) else none
    | .tup xs => if flatW a && xs.all flatW then some (inW a xs) else none
    | _ => none
  | .notIn => match vw m b with
    | .lst xs => if flatW a && xs.all flatW then some (!inW a xs) else none
    | .tup xs => if flatW a && xs.all flatW then some (!inW a xs) else none
    | _ => none
  | .isN => match a, b with | .non, .non => some true | .bad, .non => none | _, .non => some false | _, _ => none
  | .notN => match a, b with | .non, .non => some false | .bad, .non => none | _, .non => some true | _, _ => none
def blR (o : Option Bool) (m : Mem) (c : Nat) : R W := match o with
  | some b => .ok (.bl b) m c
  | none => .no
/-- truth of a value -/
def truW (m : Mem) (w : W) : Option Bool := match vw m w with
  | .non => some false
  | .bl b => some b
  | .int i => some (i != 0)
  | .str s => if s.length ≤ sizeLine then some ((s.length : Int) != 0) else none
  | .lst xs => some (!xs.isEmpty)
  | .tup xs => some (!xs.isEmpty)
  | _ => none
/-- the place that an index means -/
def place (n : Nat) (i : Int) : Option Nat := if 0 ≤ i then (if i < n then some i.toNat else none) else if -(n : Int) ≤ i then some (i + n).toNat else none
def idxW (m : Mem) (a i : W) : Option W := match vw m a, i with
  | .lst xs, .int k => (place xs.length k).bind fun j => xs[j]?
  | .tup xs, .int k => (place xs.length k).bind fun j => xs[j]?
  | .scr ns, .int k => ((place ns.length k).bind fun j => ns[j]?).map .int
  | _, _ => none
def cutIx (n d : Nat) : Option Int → Nat
  | none => d
  | some v => if v < 0 then (v + (n : Int)).toNat else min v.toNat n
def cutW (xs : List W) (lo hi : Option Int) : List W := (xs.drop (cutIx xs.length 0 lo)).take (cutIx xs.length xs.length hi - cutIx xs.length 0 lo)
def slcW (cell : Bool) (a : W) (lo hi : Option Int) (m : Mem) (c : Nat) : R W := match vw m a with
  | .lst xs => mkL cell (cutW xs lo hi) m c
  | .tup xs => mkT (cutW xs lo hi) m c
  | _ => .no
def revW (cell : Bool) (a : W) (m : Mem) (c : Nat) : R W := match vw m a with
  | .lst xs => mkL cell xs.reverse m c
  | .tup xs => mkT xs.reverse m c
  | _ => .no
def sortI (ns : List Int) : List Int := ns.mergeSort (fun a b => decide (a ≤ b))
def bltW (cell : Bool) (b : Blt) (ws : List W) (m : Mem) (c : Nat) : R W :=
  match b, ws with
  | .len, [x] => match vw m x with
    | .lst xs => .ok (.int (xs.length : Nat)) m c
    | .tup xs => .ok (.int (xs.length : Nat)) m c
    | .scr ns => .ok (.int (ns.length : Nat)) m c
    | .str s => if s.length ≤ sizeLine then .ok (.int (s.length : Nat)) m c else .no
    | _ => .no
  | .int, [.int i] => .ok (.int i) m c
  | .int, [.bl k] => .ok (.int (if k then 1 else 0)) m c
  | .abs, [.int i] => .ok (.int (if i < 0 then -i else i)) m c
  | .max2, [.int i, .int j] => .ok (.int (if j > i then j else i)) m c
  | .min2, [.int i, .int j] => .ok (.int (if j < i then j else i)) m c
  | .sorted, [x] => match vw m x with
    | .lst xs => match intsOf xs with
      | some ns => mkL cell ((sortI ns).map .int) m c
      | none => .no
    | .tup xs => match intsOf xs with
      | some ns => mkL cell ((sortI ns).map .int) m c
      | none => .no
    | _ => .no
  | .list, [x] => match vw m x with
    | .lst xs => mkL cell xs m c
    | .tup xs => mkL cell xs m c
    | _ => .no
  | .tuple, [x] => match vw m x with
    | .lst xs => mkT xs m c
    | .tup xs => mkT xs m c
    | _ => .no
  | .str, [.int i] => if sizeI i < 1920 then .ok (.str (toString i)) m c else .no
  | .all, [x] => match vw m x with
    | .lst xs => match blsOf xs with
      | some bs => .ok (.bl (bs.all id)) m c
      | none => .no
    | _ => .no
  | .any, [x] => match vw m x with
    | .lst xs => match blsOf xs with
      | some bs => .ok (.bl (bs.any id)) m c
      | none => .no
    | _ => .no
  | .sum, [x] => match vw m x with
    | .lst xs => match intsOf xs with
      | some ns => .ok (.int ns.sum) m c
      | none => .no
    | _ => .no
  | _, _ => .no
def isiW (m : Mem) (w : W) (t : Ty) : Option Bool := match vw m w, t with
  | .non, .cls _ => none | .non, _ => some false
  | .int _, .int => some true | .int _, .cls _ => none | .int _, _ => some false
  | .bl _, .int => some true | .bl _, .bool => some true | .bl _, .cls _ => none | .bl _, _ => some false
  | .str _, .str => some true | .str _, .cls _ => none | .str _, _ => some false
  | .lst _, .list => some true | .lst _, .tupList => some true | .lst _, .cls _ => none | .lst _, _ => some false
  | .tup _, .tuple => some true | .tup _, .tupList => some true | .tup _, .cls _ => none | .tup _, _ => some false
  | .dic0, .cls _ => none | .dic0, _ => some false
  | _, _ => none
def isLstW : W → Bool
  | .lst _ => true
  | _ => false
def setCell (m : Mem) (n : Nat) (x : Cell) : Mem := m.set n x
def bmL (b : Bm) (xs ws : List W) (n : Nat) (m : Mem) (c : Nat) : R W := match b, ws with
  | .append, [x] => if xs.length < sizeLine then .ok .non (m.set n (.lst (xs ++ [x]))) c else .no
  | .extend, [y] => match vw m y with
    | .lst ys => if xs.length + ys.length ≤ sizeLine then .ok .non (m.set n (.lst (xs ++ ys))) c else .no
    | _ => .no
  | .pop, [] => match xs[xs.length - 1]? with
    | some y => .ok y (m.set n (.lst xs.dropLast)) c
    | none => .no
  | .popAt, [.int i] => match place xs.length i with
    | some j => if -(2 ^ 63) ≤ i ∧ i < 2 ^ 63 then (match xs[j]? with
      | some y => .ok y (m.set n (.lst (xs.eraseIdx j))) c
      | none => .no) else .no
    | none => .no
  | .clear, [] => .ok .non (m.set n (.lst [])) c
  | .reverse, [] => .ok .non (m.set n (.lst xs.reverse)) c
  | _, _ => .no
def idxL (x : W) (xs : List W) (m : Mem) (c : Nat) : R W := if flatW x && xs.all flatW then (match indexW x xs with | some j => .ok (.int (j : Nat)) m c | none => .no) else .no
def isIdx : Bm → Bool
  | .index => true
  | _ => false
def bmW (b : Bm) (o : W) (ws : List W) (m : Mem) (c : Nat) : R W :=
  if isIdx b then match ws with
    | [x] => match vw m o with
      | .lst xs => idxL x xs m c
      | _ => .no
    | _ => .no
  else match o with
    | .ptr n => match m[n]? with
      | some (.lst xs) => bmL b xs ws n m c
      | _ => .no
    | _ => .no

/-! ### freezing -/
def frzL (f : W → Mem → Option (W × Mem)) : List W → Mem → Option (List W × Mem)
  | [], m => some ([], m)
  | w :: ws, m => match f w m with
    | none => none
    | some (w', m') => match frzL f ws m' with
      | none => none
      | some (ws', m'') => some (w' :: ws', m'')
def frz : Nat → W → Mem → Option (W × Mem)
  | 0, _, _ => none
  | k + 1, w, m => match w with
    | .ptr n => match m[n]? with
      | some (.lst xs) => match frzL (frz k) xs (m.set n .dead) with
        | some (xs', m') => some (.lst xs', m')
        | none => none
      | some (.ins c ks vs) => match frzL (frz k) vs (m.set n .dead) with
        | some (vs', m') => some (.obj c ks vs', m')
        | none => none
      | _ => none
    | .lst xs => match frzL (frz k) xs m with
      | some (xs', m') => some (.lst xs', m')
      | none => none
    | .tup xs => match frzL (frz k) xs m with
      | some (xs', m') => some (.tup xs', m')
      | none => none
    | .obj c ks vs => match frzL (frz k) vs m with
      | some (vs', m') => some (.obj c ks vs', m')
      | none => none
    | w => some (w, m)
def frzR (w : W) (m : Mem) (c : Nat) : R W := match frz 12 w m with
  | some (w', m') => .ok w' m' c
  | none => .no
/-- no pointer to a cell from n on -/
def okL (f : W → Bool) (ws : List W) : Bool := ws.all f
def okW (n : Nat) : Nat → W → Bool
  | 0, _ => false
  | k + 1, w => match w with
    | .ptr j => decide (j < n)
    | .lst xs => xs.all (okW n k)
    | .tup xs => xs.all (okW n k)
    | .obj _ _ vs => vs.all (okW n k)
    | _ => true
def okC (n : Nat) : Cell → Bool
  | .lst xs => xs.all (okW n 12)
  | .ins _ _ vs => vs.all (okW n 12)
  | .dead => true

/-! ### the interpreter -/
def bindTg (tg : List Nat) (pat : Bool) (w : W) (ρ : Env) : Option Env :=
  if pat then match w with
    | .tup xs => if xs.length = tg.length then some ((tg.zip xs).foldl (fun ρ p => ρ.set p.1 (some p.2)) ρ) else none
    | _ => none
  else match tg with
    | [i] => some (ρ.set i (some w))
    | _ => none
def wipeE (ρ : Env) : List Nat → Env
  | [] => ρ
  | i :: is => (wipeE ρ is).set i none
mutual
def beqW : W → W → Bool
  | .non, .non => true
  | .bl a, .bl b => a == b
  | .int a, .int b => a == b
  | .str a, .str b => decide (a = b)
  | .lst a, .lst b => beqL a b
  | .tup a, .tup b => beqL a b
  | .obj c ks a, .obj d ls b => c == d && decide (ks = ls) && beqL a b
  | .ptr a, .ptr b => a == b
  | .tok, .tok => true
  | .dic0, .dic0 => true
  | _, _ => false
def beqL : List W → List W → Bool
  | [], [] => true
  | x :: xs, y :: ys => beqW x y && beqL xs ys
  | _, _ => false
end
/-- what is walked: the things that come, and what must stay true of the memory for that -/
structure ItV where
  ws : List W
  gd : Mem → Bool
def gdL (x : W) (ws : List W) (m : Mem) : Bool := match x with
  | .ptr n => (match m[n]? with
    | some (.lst xs) => beqL xs ws
    | _ => false)
  | _ => true
/-- a comprehension's turns -/
def lcGo (gd : Mem → Bool) (bt : W → Option Env) (cond : Env → Mem → Nat → R Bool) (elt : Env → Mem → Nat → R W) : List W → List W → Mem → Nat → R (List W)
  | [], acc, m, c => if gd m then .ok acc m c else .no
  | w :: ws, acc, m, c => if gd m then (match bt w with
    | none => .no
    | some ρ => (cond ρ m c).bind fun b m c =>
      if b then (elt ρ m c).bind fun x m c => if acc.length < sizeLine then lcGo gd bt cond elt ws (acc ++ [x]) m c else .no
      else lcGo gd bt cond elt ws acc m c) else .no
def noExc {α : Type} : R α → R α
  | .exc _ _ _ _ => .no
  | r => r
def enumW : Nat → List W → List W
  | _, [] => []
  | i, w :: ws => .tup [.int (i : Nat), w] :: enumW (i + 1) ws
def zipW : List W → List W → List W
  | x :: xs, y :: ys => .tup [x, y] :: zipW xs ys
  | _, _ => []
def joinS (a : Str) (xs : List W) (m : Mem) (c : Nat) : R W := match strsOf xs with
  | some ys => if (ys.map (·.length)).sum + ys.length * a.length ≤ 16777216 then .ok (.str (Txt.join a ys)) m c else .no
  | none => .no
def sjoinW (a : Str) (y : W) (m : Mem) (c : Nat) : R W := match vw m y with
  | .lst xs => joinS a xs m c
  | .tup xs => joinS a xs m c
  | _ => .no
def fmtW : W → Option Str
  | .str y => if y.length ≤ sizeLine then some y else none
  | .int i => if sizeI i < 1920 then some (toString i) else none
  | _ => none
def rngS (lo k : Int) : Nat → List W
  | 0 => []
  | n + 1 => .int lo :: rngS (lo + k) k n
def stepN (i j k : Int) : Option Nat := if 0 < k ∧ k < 1000000 ∧ Builtin.Range.small i j k = true then some (Builtin.Range.rangeSize i j k).toNat else none
def rngW (lo : Int) : Nat → List W
  | 0 => []
  | n + 1 => .int lo :: rngW (lo + 1) n
def lim62 (i : Int) : Bool := decide (-(2 ^ 62) ≤ i) && decide (i < 2 ^ 62)
def reEnv {α : Type} (ρ : Env) : R α → R α
  | .exc x _ m c => .exc x ρ m c
  | r => r
/-- truth as a step -/
def truR (w : W) (m : Mem) (c : Nat) : R Bool := match truW m w with
  | some b => .ok b m c
  | none => .no

def selL {α : Type} (l : List α) : List Nat → Option (List α)
  | [] => some []
  | i :: is => match l[i]?, selL l is with
    | some x, some r => some (x :: r)
    | _, _ => none
mutual
def evE (C : Cfg) (cl : Call) : E → Env → Mem → Nat → R W
  | .var i, ρ, m, c => match ρ[i]? with
    | some (some w) => .ok w m c
    | _ => .no
  | .con k, _, m, c => .ok k.w m c
  | .glob g, _, m, c => .ok (C.glob g) m c
  | .tup es, ρ, m, c => (evEs C cl es ρ m c).bind fun ws m c => mkT ws m c
  | .lst cell es, ρ, m, c => (evEs C cl es ρ m c).bind fun ws m c => mkL cell ws m c
  | .attr e f, ρ, m, c => (evE C cl e ρ m c).bind fun w m c => match vw m w with
    | .obj _ ks vs => match fieldOf f ks vs with
      | some x => .ok x m c
      | none => .no
    | _ => .no
  | .bin cell op a b, ρ, m, c => (evE C cl a ρ m c).bind fun x m c => (evE C cl b ρ m c).bind fun y m c => binW cell op x y m c
  | .neg a, ρ, m, c => (evE C cl a ρ m c).bind fun x m c => match x with
    | .int i => .ok (.int (-i)) m c
    | _ => .no
  | .not a, ρ, m, c => (evT C cl a ρ m c).bind fun b m c => .ok (.bl (!b)) m c
  | .and a b, ρ, m, c => (evE C cl a ρ m c).bind fun x m c => match x with
    | .bl k => if k then evE C cl b ρ m c else .ok (.bl false) m c
    | _ => .no
  | .or a b, ρ, m, c => (evE C cl a ρ m c).bind fun x m c => match x with
    | .bl k => if k then .ok (.bl true) m c else evE C cl b ρ m c
    | _ => .no
  | .cmp op a b, ρ, m, c => (evE C cl a ρ m c).bind fun x m c => (evE C cl b ρ m c).bind fun y m c => blR (cmpW op x y m) m c
  | .chain op op' a b d, ρ, m, c => (evE C cl a ρ m c).bind fun x m c => (evE C cl b ρ m c).bind fun y m c => match cmpW op x y m with
    | some k => if k then (evE C cl d ρ m c).bind fun u m c => blR (cmpW op' y u m) m c else .ok (.bl false) m c
    | none => .no
  | .ife t a b, ρ, m, c => (evT C cl t ρ m c).bind fun k m c => if k then evE C cl a ρ m c else evE C cl b ρ m c
  | .idx a i, ρ, m, c => (evE C cl a ρ m c).bind fun x m c => (evE C cl i ρ m c).bind fun y m c => match idxW m x y with
    | some w => .ok w m c
    | none => .no
  | .slc cell a lo hi, ρ, m, c => (evE C cl a ρ m c).bind fun x m c => (evO C cl lo ρ m c).bind fun l m c => (evO C cl hi ρ m c).bind fun h m c => slcW cell x l h m c
  | .rev cell a, ρ, m, c => (evE C cl a ρ m c).bind fun x m c => revW cell x m c
  | .call f es, ρ, m, c => (evEs C cl es ρ m c).bind fun ws m c => reEnv ρ (cl f ws m c)
  | .meth f o es, ρ, m, c => (evE C cl o ρ m c).bind fun x m c => match C.fn f, vw m x with
    | some r, .obj d _ _ => if r.cls = some d then (evEs C cl es ρ m c).bind fun ws m c => reEnv ρ (cl f (x :: ws) m c) else .no
    | _, _ => .no
  | .callK f _ ord es, ρ, m, c => (evEs C cl es ρ m c).bind fun ws m c => match selL ws ord with
    | some as => reEnv ρ (cl f as m c)
    | none => .no
  | .make k fz es, ρ, m, c => match C.cls k with
    | none => .no
    | some r => (evEs C cl es ρ m c).bind fun ws m c => (reEnv ρ (cl r.init (.ptr m.length :: ws) (m ++ [.ins k [] []]) c)).bind fun w m' c' => match w with
        | .non => if fz then frzR (.ptr m.length) m' c' else .ok (.ptr m.length) m' c'
        | _ => .no
  | .makeK k fz nd _ ord es kes, ρ, m, c => match C.cls k with
    | none => .no
    | some r => (evEs C cl es ρ m c).bind fun ws m c => (evEs C cl kes ρ m c).bind fun zs m c => match selL ((.ptr m.length :: ws) ++ zs ++ List.replicate nd (.tup [])) ord with
      | none => .no
      | some as => (reEnv ρ (cl r.init as (m ++ [.ins k [] []]) c)).bind fun w m' c' => match w with
        | .non => if fz then frzR (.ptr m.length) m' c' else .ok (.ptr m.length) m' c'
        | _ => .no
  | .blt cell b es, ρ, m, c => (evEs C cl es ρ m c).bind fun ws m c => bltW cell b ws m c
  | .isi e t, ρ, m, c => (evE C cl e ρ m c).bind fun x m c => blR (isiW m x t) m c
  | .bm b o es, ρ, m, c => (evE C cl o ρ m c).bind fun x m c => if isLstW (vw m x) then (evEs C cl es ρ m c).bind fun ws m c => bmW b x ws m c else .no
  | .lc cell tg pat it cond elt, ρ, m, c => (evIt C cl it ρ m c).bind fun v m c =>
      (noExc (lcGo v.gd (fun w => bindTg tg pat w (wipeE ρ tg)) (fun ρ m c => evT C cl cond ρ m c) (fun ρ m c => evE C cl elt ρ m c) v.ws [] m c)).bind fun xs m c => mkL cell xs m c
  | .frz e, ρ, m, c => (evE C cl e ρ m c).bind fun x m c => frzR x m c
  | .gidx g e, ρ, m, c => (evE C cl e ρ m c).bind fun x m c => match gidxW (C.glob g) x with
    | some j => .ok (.int (j : Nat)) m c
    | none => .no
  | .lrng cell a b, ρ, m, c => (evE C cl a ρ m c).bind fun x m c => (evE C cl b ρ m c).bind fun y m c => match x, y with
    | .int i, .int j => if lim62 i && lim62 j then mkL cell (rngW i (j - i).toNat) m c else .no
    | _, _ => .no
  | .lset e, ρ, m, c => (evE C cl e ρ m c).bind fun x m c => match vw m x with
    | .lst xs => match intsOf xs with
      | some ns => if ns.Nodup ∧ ns.length ≤ 4000 then .ok (.int (ns.length : Nat)) m c else .no
      | none => .no
    | .tup xs => match strsOf xs with
      | some ns => if ns.Nodup ∧ ns.length ≤ 4000 then .ok (.int (ns.length : Nat)) m c else .no
      | none => .no
    | _ => .no
  | .methK f _ ord o es, ρ, m, c => (evE C cl o ρ m c).bind fun x m c => match C.fn f, vw m x with
    | some r, .obj d _ _ => if r.cls = some d then (evEs C cl es ρ m c).bind fun ws m c => match selL ws ord with
      | some as => reEnv ρ (cl f (x :: as) m c)
      | none => .no else .no
    | _, _ => .no
  | .callD f z es, ρ, m, c => (evEs C cl es ρ m c).bind fun ws m c => reEnv ρ (cl f (ws ++ [.int z]) m c)
  | .sjoin a b, ρ, m, c => (evE C cl a ρ m c).bind fun x m c => match x with
    | .str s => (evE C cl b ρ m c).bind fun y m c => sjoinW s y m c
    | _ => .no
  | .fstr es, ρ, m, c => evFs C cl es Str.empty ρ m c
def evFs (C : Cfg) (cl : Call) : Es → Str → Env → Mem → Nat → R W
  | .nil, acc, _, m, c => .ok (.str acc) m c
  | .cons e es, acc, ρ, m, c => (evE C cl e ρ m c).bind fun x m c => match fmtW x with
    | some y => if (acc ++ y).length ≤ sizeLine then evFs C cl es (acc ++ y) ρ m c else .no
    | none => .no
  | .star _ _, _, _, _, _ => .no
def evEs (C : Cfg) (cl : Call) : Es → Env → Mem → Nat → R (List W)
  | .nil, _, m, c => .ok [] m c
  | .cons e es, ρ, m, c => (evE C cl e ρ m c).bind fun x m c => (evEs C cl es ρ m c).bind fun xs m c => .ok (x :: xs) m c
  | .star e es, ρ, m, c => (evE C cl e ρ m c).bind fun x m c => match vw m x with
    | .lst ws => (evEs C cl es ρ m c).bind fun xs m c => .ok (ws ++ xs) m c
    | .tup ws => (evEs C cl es ρ m c).bind fun xs m c => .ok (ws ++ xs) m c
    | _ => .no
def evIt (C : Cfg) (cl : Call) : It → Env → Mem → Nat → R ItV
  | .lst e, ρ, m, c => (evE C cl e ρ m c).bind fun x m c => match vw m x with
    | .lst ws => .ok ⟨ws, gdL x ws⟩ m c
    | _ => .no
  | .tup e, ρ, m, c => (evE C cl e ρ m c).bind fun x m c => match x with
    | .tup ws => .ok ⟨ws, fun _ => true⟩ m c
    | _ => .no
  | .rng e, ρ, m, c => (evE C cl e ρ m c).bind fun x m c => match x with
    | .int i => if lim62 i then .ok ⟨rngW 0 i.toNat, fun _ => true⟩ m c else .no
    | _ => .no
  | .rng2 a b, ρ, m, c => (evE C cl a ρ m c).bind fun x m c => (evE C cl b ρ m c).bind fun y m c => match x, y with
    | .int i, .int j => if lim62 i && lim62 j then .ok ⟨rngW i (j - i).toNat, fun _ => true⟩ m c else .no
    | _, _ => .no
  | .rng3 es, ρ, m, c => (evEs C cl es ρ m c).bind fun ws m c => match ws with
    | [.int i, .int j, .int k] => (match stepN i j k with
      | some n => .ok ⟨rngS i k n, fun _ => true⟩ m c
      | none => .no)
    | _ => .no
  | .enum e, ρ, m, c => (evE C cl e ρ m c).bind fun x m c => match vw m x with
    | .lst ws => .ok ⟨enumW 0 ws, gdL x ws⟩ m c
    | _ => .no
  | .zip a b, ρ, m, c => (evE C cl a ρ m c).bind fun x m c => (evE C cl b ρ m c).bind fun y m c => match vw m x, vw m y with
    | .lst xs, .lst ys => .ok ⟨zipW xs ys, fun m => gdL x xs m && gdL y ys m⟩ m c
    | .tup xs, .tup ys => .ok ⟨zipW xs ys, fun _ => true⟩ m c
    | _, _ => .no
def evO (C : Cfg) (cl : Call) : O → Env → Mem → Nat → R (Option Int)
  | .none, _, m, c => .ok none m c
  | .some e, ρ, m, c => (evE C cl e ρ m c).bind fun x m c => match x with
    | .int i => .ok (some i) m c
    | _ => .no
/-- as a test -/
def evT (C : Cfg) (cl : Call) : T → Env → Mem → Nat → R Bool
  | .yes, _, m, c => .ok true m c
  | .e e, ρ, m, c => (evE C cl e ρ m c).bind fun w m c => truR w m c
  | .not a, ρ, m, c => (evT C cl a ρ m c).bind fun b m c => .ok (!b) m c
  | .and a b, ρ, m, c => (evT C cl a ρ m c).bind fun k m c => if k then evT C cl b ρ m c else .ok false m c
  | .or a b, ρ, m, c => (evT C cl a ρ m c).bind fun k m c => if k then .ok true m c else evT C cl b ρ m c
end

/-! ### statements -/
def setA (o w : W) (f : Str) (m : Mem) : Option Mem := match o with
  | .ptr n => match m[n]? with
    | some (.ins k ks vs) => if ks.length < 900 then some (m.set n (.ins k (putField f w ks vs).1 (putField f w ks vs).2)) else none
    | _ => none
  | _ => none
def setI (o i w : W) (m : Mem) : Option Mem := match o, i with
  | .ptr n, .int k => match m[n]? with
    | some (.lst xs) => match place xs.length k with
      | some j => some (m.set n (.lst (xs.set j w)))
      | none => none
    | _ => none
  | _, _ => none
def evTg (C : Cfg) (cl : Call) (w : W) : Tg → Env → Mem → Nat → R Env
  | .name i, ρ, m, c => .ok (ρ.set i (some w)) m c
  | .attr o f, ρ, m, c => (evE C cl o ρ m c).bind fun x m c => match setA x w f m with
    | some m => .ok ρ m c
    | none => .no
  | .sub o i, ρ, m, c => (evE C cl o ρ m c).bind fun x m c => (evE C cl i ρ m c).bind fun y m c => match setI x y w m with
    | some m => .ok ρ m c
    | none => .no
def evTgs (C : Cfg) (cl : Call) : List Tg → List W → Env → Mem → Nat → R Env
  | [], [], ρ, m, c => .ok ρ m c
  | t :: ts, w :: ws, ρ, m, c => (evTg C cl w t ρ m c).bind fun ρ m c => evTgs C cl ts ws ρ m c
  | _, _, _, _, _ => .no
def forGo (gd : Mem → Bool) (bt : W → Env → Option Env) (body : Env → Mem → Nat → R Fl) : List W → Env → Mem → Nat → R Fl
  | [], ρ, m, c => if gd m then .ok (.nx ρ) m c else .no
  | w :: ws, ρ, m, c => if gd m then (match bt w ρ with
    | none => .no
    | some ρ => (body ρ m c).bind fun f m c => match f with
      | .nx ρ => forGo gd bt body ws ρ m c
      | .ct ρ => forGo gd bt body ws ρ m c
      | .bk ρ => .ok (.nx ρ) m c
      | .rt w => .ok (.rt w) m c) else .no
def whlGo (t : Env → Mem → Nat → R Bool) (body : Env → Mem → Nat → R Fl) : Nat → Env → Mem → Nat → R Fl
  | 0, _, _, _ => .no
  | n + 1, ρ, m, c => (t ρ m c).bind fun b m c => if b then (body ρ m c).bind fun f m c => (match f with
      | .nx ρ => whlGo t body n ρ m c
      | .ct ρ => whlGo t body n ρ m c
      | .bk ρ => .ok (.nx ρ) m c
      | .rt w => .ok (.rt w) m c) else .ok (.nx ρ) m c
mutual
def exS (C : Cfg) (cl : Call) : S → Env → Mem → Nat → R Fl
  | .asg i e, ρ, m, c => (evE C cl e ρ m c).bind fun w m c => .ok (.nx (ρ.set i (some w))) m c
  | .asgT t e, ρ, m, c => (evE C cl e ρ m c).bind fun w m c => (evTg C cl w t ρ m c).bind fun ρ m c => .ok (.nx ρ) m c
  | .par ts es, ρ, m, c => (evEs C cl es ρ m c).bind fun ws m c => if ws.length = ts.length then (evTgs C cl ts ws ρ m c).bind fun ρ m c => .ok (.nx ρ) m c else .no
  | .unp ts e, ρ, m, c => (evE C cl e ρ m c).bind fun w m c => match vw m w with
    | .tup ws => if ws.length = ts.length then (evTgs C cl ts ws ρ m c).bind fun ρ m c => .ok (.nx ρ) m c else .no
    | .lst ws => if ws.length = ts.length then (evTgs C cl ts ws ρ m c).bind fun ρ m c => .ok (.nx ρ) m c else .no
    | _ => .no
  | .aug i op e, ρ, m, c => (evE C cl (.var i) ρ m c).bind fun x m c => (evE C cl e ρ m c).bind fun y m c => match x, y with
    | .int _, .int _ => (binW false op x y m c).bind fun w m c => .ok (.nx (ρ.set i (some w))) m c
    | _, _ => .no
  | .augA o f op e, ρ, m, c => (evE C cl o ρ m c).bind fun x m c => match vw m x with
    | .obj _ ks vs => match fieldOf f ks vs with
      | some v => (evE C cl e ρ m c).bind fun y m c => match v, y with
        | .int _, .int _ => (binW false op v y m c).bind fun w m c => match setA x w f m with
          | some m => .ok (.nx ρ) m c
          | none => .no
        | _, _ => .no
      | none => .no
    | _ => .no
  | .ex e, ρ, m, c => (evE C cl e ρ m c).bind fun _ m c => .ok (.nx ρ) m c
  | .ife t a b, ρ, m, c => (evT C cl t ρ m c).bind fun k m c => if k then exSs C cl a ρ m c else exSs C cl b ρ m c
  | .for tg pat it body, ρ, m, c => (evIt C cl it ρ m c).bind fun v m c => forGo v.gd (fun w ρ => bindTg tg pat w ρ) (fun ρ m c => exSs C cl body ρ m c) v.ws ρ m c
  | .whl t body, ρ, m, c => whlGo (fun ρ m c => evT C cl t ρ m c) (fun ρ m c => exSs C cl body ρ m c) C.fuel ρ m c
  | .ret e, ρ, m, c => (evE C cl e ρ m c).bind fun w m c => .ok (.rt w) m c
  | .retN, _, m, c => .ok (.rt .non) m c
  | .raise k .none, ρ, m, c => .exc ⟨k, none⟩ ρ m c
  | .raise k (.some e), ρ, m, c => (evE C cl e ρ m c).bind fun w m c => .exc ⟨k, some w⟩ ρ m c
  | .pass, ρ, m, c => .ok (.nx ρ) m c
  | .brk, ρ, m, c => .ok (.bk ρ) m c
  | .cont, ρ, m, c => .ok (.ct ρ) m c
  | .never, _, _, _ => .no
def exSs (C : Cfg) (cl : Call) : Ss → Env → Mem → Nat → R Fl
  | .nil, ρ, m, c => .ok (.nx ρ) m c
  | .cons s r, ρ, m, c => (exS C cl s ρ m c).bind fun f m c => match f with
    | .nx ρ => exSs C cl r ρ m c
    | f => .ok f m c
  | .frz i r, ρ, m, c => match ρ[i]? with
    | some (some w) => (match frz 12 w m with
      | some (w', m') => exSs C cl r (ρ.set i (some w')) m' c
      | none => .no)
    | _ => .no
end

/-! ### defs -/
/-- at a def's end, where its cells go: all that it hands back is frozen, and no older cell points to a newer one -/
def exitR (keep : Bool) (n : Nat) (r : R Fl) : R W := match r with
  | .ok (.rt w) m c => if keep then .ok w m c else match frz 12 w m with
    | some (w', m') => if okW n 12 w' && (m'.take n).all (okC n) then .ok w' (m'.take n) c else .no
    | none => .no
  | .ok (.nx _) m c => if keep then .ok .non m c else if (m.take n).all (okC n) then .ok .non (m.take n) c else .no
  | .ok _ _ _ => .no
  | .exc x _ m c => match x.arg with
    | none => if keep then .exc ⟨x.cls, none⟩ [] m c else if (m.take n).all (okC n) then .exc ⟨x.cls, none⟩ [] (m.take n) c else .no
    | some w => if okW n 12 w then (if keep then .exc ⟨x.cls, some w⟩ [] m c else if (m.take n).all (okC n) then .exc ⟨x.cls, some w⟩ [] (m.take n) c else .no) else .no
  | .no => .no
/-- the draws' most number -/
def drawMax : Nat := 1000000000000
def startE (slots : Nat) (ws : List W) : Env := ws.map some ++ List.replicate (slots - ws.length) none
/-- what a primitive does -/
inductive Prim where
  | draw
  | spring
def runP (p : Prim) (ω : Nat → Nat) (ws : List W) (m : Mem) (c : Nat) : R W := match p, ws with
  | .draw, [.tok, .int i] => if 0 < i ∧ sizeI i < 9000 ∧ c < drawMax then .ok (.int ((ω c : Int) % i)) m (c + 1) else .no
  | .spring, [.scr ns, .int k] => if 0 ≤ k ∧ k < 100000 then .ok .tok m c else .no
  | _, _ => .no
def run (C : Cfg) (prim : Nat → Option Prim) (ω : Nat → Nat) : Nat → Call
  | 0, _, _, _, _ => .no
  | n + 1, f, ws, m, c => match C.fn f with
    | none => .no
    | some r => if ws.length = r.arity then (match prim f with
      | some p => runP p ω ws m c
      | none => exitR r.keep m.length (exSs C (run C prim ω n) r.body (startE r.slots ws) m c)) else .no
end Lw

namespace Lw
open PySem PySem.Spec PyProof.Rows L2

/-- the ghost: what is frozen, where the cells stand, which lists are sources of draws -/
structure G where
  S : Hp
  μ : Nat → Option Addr
  T : Addr → Prop

/-- where the classes stand, and the names of fields -/
structure CA where
  at_ : Nat → Addr
  flds : List Str
instance : CoeFun CA (fun _ => Nat → Addr) := ⟨CA.at_⟩
def KsOk (ca : CA) (ks : List Str) (ws : List W) : Prop := ks.length = ws.length ∧ ∀ f ∈ ks, ca.flds.contains f = true
section
variable (K : PySem.W.Frag) (ca : CA)
mutual
/-- v stands for w -/
def Rep (g : G) : W → V → Prop
  | .non, v => v = .non
  | .bl b, v => v = .bl b
  | .int i, v => v = .int i
  | .str s, v => v = .str s
  | .lst xs, v => ∃ a vs, v = .ref a ∧ g.S a = some (.lst vs) ∧ Reps g xs vs
  | .tup xs, v => ∃ a vs, v = .ref a ∧ SqT K g.S a vs ∧ Reps g xs vs
  | .obj c ks ws, v => ∃ a dx vs, v = .ref a ∧ g.S a = some (.ins (ca c) dx (ks.zip vs)) ∧ KsOk ca ks ws ∧ Reps g ws vs
  | .ptr n, v => ∃ a, v = .ref a ∧ g.μ n = some a
  | .tok, v => ∃ a, v = .ref a ∧ g.T a
  | .scr ns, v => ∃ a, v = .ref a ∧ SqL K g.S a (ns.map V.int)
  | .dic0, v => ∃ a, v = .ref a ∧ g.S a = some (.dK [])
  | .bad, _ => False
def Reps (g : G) : List W → List V → Prop
  | [], vs => vs = []
  | w :: ws, vs => ∃ v r, vs = v :: r ∧ Rep g w v ∧ Reps g ws r
end
/-- a cell at a -/
def CellAt (g : G) (H : Hp) (a : Addr) : Cell → Prop
  | .lst xs => ∃ vs, H a = some (.lst vs) ∧ Reps K ca g xs vs
  | .ins c ks ws => ∃ dx vs, H a = some (.ins (ca c) dx (ks.zip vs)) ∧ KsOk ca ks ws ∧ Reps K ca g ws vs
  | .dead => True
/-- what a source of draws holds -/
def TokAt (H : Hp) (a : Addr) (c : Nat) : Prop := ∃ x y z : Int, H a = some (.lst [.int x, .int y, .int z]) ∧ 0 ≤ x ∧ 0 ≤ y ∧ y < 2 ^ 200 ∧ 0 ≤ z ∧ z ≤ (c : Int) + 1
/-- the heap H is as the ghost and the cells say; c draws were made -/
structure RelM (g : G) (m : Mem) (c : Nat) (H : Hp) : Prop where
  sub : ∀ b o, g.S b = some o → H b = some o
  lt : ∀ n a, g.μ n = some a → n < m.length
  live : ∀ n x, m[n]? = some x → ∃ a, g.μ n = some a ∧ CellAt K ca g H a x
  off : ∀ n x a, m[n]? = some x → x ≠ .dead → g.μ n = some a → g.S a = none
  there : ∀ n a, g.μ n = some a → ∃ o, H a = some o
  inj : ∀ n n' a, g.μ n = some a → g.μ n' = some a → n = n'
  tok : ∀ a, g.T a → TokAt H a c ∧ g.S a = none ∧ ∀ n, g.μ n ≠ some a
end
/-- from one ghost and heap to the next -/
structure Step (g : G) (H : Hp) (g' : G) (H' : Hp) : Prop where
  S : ∀ b o, g.S b = some o → g'.S b = some o
  μ : ∀ n a, g.μ n = some a → g'.μ n = some a
  T : ∀ a, g.T a → g'.T a
  frame : ∀ b o, H b = some o → (∀ n, g.μ n ≠ some b) → ¬ g.T b → H' b = some o
  newS : ∀ b o, g'.S b = some o → g.S b = some o ∨ H b = none ∨ ∃ n, g.μ n = some b
  newμ : ∀ n a, g'.μ n = some a → g.μ n = some a ∨ H a = none
  newT : ∀ a, g'.T a → g.T a ∨ H a = none
  grow : ∀ b o, H b = some o → ∃ o', H' b = some o'

theorem Step.refl (g : G) (H : Hp) : Step g H g H :=
  ⟨fun _ _ h => h, fun _ _ h => h, fun _ h => h, fun _ _ h _ _ => h, fun _ _ h => .inl h, fun _ _ h => .inl h, fun _ h => .inl h, fun _ o h => ⟨o, h⟩⟩
theorem Step.trans {g g1 g2 : G} {H H1 H2 : Hp} (a : Step g H g1 H1) (b : Step g1 H1 g2 H2) : Step g H g2 H2 where
  S := fun x o h => b.S x o (a.S x o h)
  μ := fun n x h => b.μ n x (a.μ n x h)
  T := fun x h => b.T x (a.T x h)
  frame := fun x o h h1 h2 => b.frame x o (a.frame x o h h1 h2) (fun n q => by
    rcases a.newμ n x q with z | z
    · exact h1 n z
    · rw [h] at z; cases z) (fun q => by
    rcases a.newT x q with z | z
    · exact h2 z
    · rw [h] at z; cases z)
  newS := fun x o h => by
    rcases b.newS x o h with z | z | ⟨n, z⟩
    · exact a.newS x o z
    · refine .inr (.inl ?_)
      cases q : H x with
      | none => rfl
      | some u =>
        obtain ⟨u', e⟩ := a.grow x u q
        rw [e] at z; cases z
    · rcases a.newμ n x z with y | y
      · exact .inr (.inr ⟨n, y⟩)
      · exact .inr (.inl y)
  newμ := fun n x h => by
    rcases b.newμ n x h with z | z
    · exact a.newμ n x z
    · refine .inr ?_
      cases q : H x with
      | none => rfl
      | some u =>
        obtain ⟨u', e⟩ := a.grow x u q
        rw [e] at z; cases z
  newT := fun x h => by
    rcases b.newT x h with z | z
    · exact a.newT x z
    · refine .inr ?_
      cases q : H x with
      | none => rfl
      | some u =>
        obtain ⟨u', e⟩ := a.grow x u q
        rw [e] at z; cases z
  grow := fun x o h => by
    obtain ⟨o', e⟩ := a.grow x o h
    exact b.grow x o' e

section
variable {K : PySem.W.Frag} {ca : CA} {g g' : G} {H H' : Hp} {m m' : Mem} {c : Nat}
/-- the ghost has grown -/
structure Le (g g' : G) : Prop where
  S : ∀ b o, g.S b = some o → g'.S b = some o
  μ : ∀ n a, g.μ n = some a → g'.μ n = some a
  T : ∀ a, g.T a → g'.T a
theorem Step.le (s : Step g H g' H') : Le g g' := ⟨s.S, s.μ, s.T⟩
theorem Le.refl (g : G) : Le g g := ⟨fun _ _ h => h, fun _ _ h => h, fun _ h => h⟩
theorem SqT.sub {S S' : Hp} (l : ∀ b o, S b = some o → S' b = some o) {a : Addr} {vs : List V} (h : SqT K S a vs) : SqT K S' a vs := by
  rcases h with (h | ⟨o, h⟩) | h
  · exact .inl (.inl (l _ _ h))
  · exact .inl (.inr ⟨o, l _ _ h⟩)
  · exact .inr h
theorem SqL.sub {S S' : Hp} (l : ∀ b o, S b = some o → S' b = some o) {a : Addr} {vs : List V} (h : SqL K S a vs) : SqL K S' a vs := by
  rcases h with (h | ⟨o, h⟩) | h
  · exact .inl (.inl (l _ _ h))
  · exact .inl (.inr ⟨o, l _ _ h⟩)
  · exact .inr h
mutual
theorem Rep.mono (l : Le g g') : ∀ (w : W) (v : V), Rep K ca g w v → Rep K ca g' w v
  | .non, _, h => by simpa only [Rep] using h
  | .bl _, _, h => by simpa only [Rep] using h
  | .int _, _, h => by simpa only [Rep] using h
  | .str _, _, h => by simpa only [Rep] using h
  | .lst xs, v, h => by
    simp only [Rep] at h ⊢
    obtain ⟨a, vs, e, q, r⟩ := h
    exact ⟨a, vs, e, l.S _ _ q, Reps.mono l xs vs r⟩
  | .tup xs, v, h => by
    simp only [Rep] at h ⊢
    obtain ⟨a, vs, e, q, r⟩ := h
    exact ⟨a, vs, e, SqT.sub l.S q, Reps.mono l xs vs r⟩
  | .obj c ks ws, v, h => by
    simp only [Rep] at h ⊢
    obtain ⟨a, dx, vs, e, q, z, r⟩ := h
    exact ⟨a, dx, vs, e, l.S _ _ q, z, Reps.mono l ws vs r⟩
  | .ptr n, v, h => by
    simp only [Rep] at h ⊢
    obtain ⟨a, e, q⟩ := h
    exact ⟨a, e, l.μ _ _ q⟩
  | .tok, v, h => by
    simp only [Rep] at h ⊢
    obtain ⟨a, e, q⟩ := h
    exact ⟨a, e, l.T _ q⟩
  | .scr ns, v, h => by
    simp only [Rep] at h ⊢
    obtain ⟨a, e, q⟩ := h
    exact ⟨a, e, SqL.sub l.S q⟩
  | .dic0, v, h => by
    simp only [Rep] at h ⊢
    obtain ⟨a, e, q⟩ := h
    exact ⟨a, e, l.S _ _ q⟩
  | .bad, _, h => by simp only [Rep] at h
theorem Reps.mono (l : Le g g') : ∀ (ws : List W) (vs : List V), Reps K ca g ws vs → Reps K ca g' ws vs
  | [], vs, h => by simpa only [Reps] using h
  | w :: ws, vs, h => by
    simp only [Reps] at h ⊢
    obtain ⟨v, r, e, p, q⟩ := h
    exact ⟨v, r, e, Rep.mono l w v p, Reps.mono l ws r q⟩
end
theorem Reps.length : ∀ {ws : List W} {vs : List V}, Reps K ca g ws vs → vs.length = ws.length
  | [], vs, h => by simp only [Reps] at h; rw [h]; rfl
  | w :: ws, vs, h => by
    simp only [Reps] at h
    obtain ⟨v, r, e, p, q⟩ := h
    rw [e, List.length_cons, List.length_cons, Reps.length q]
theorem Reps.nil : Reps K ca g [] [] := by simp only [Reps]
theorem Reps.cons {w : W} {v : V} {ws : List W} {vs : List V} (p : Rep K ca g w v) (q : Reps K ca g ws vs) : Reps K ca g (w :: ws) (v :: vs) := by
  simp only [Reps]
  exact ⟨v, vs, rfl, p, q⟩
theorem Reps.append : ∀ {ws : List W} {vs : List V} {ws' : List W} {vs' : List V}, Reps K ca g ws vs → Reps K ca g ws' vs' → Reps K ca g (ws ++ ws') (vs ++ vs')
  | [], vs, ws', vs', h, h' => by simp only [Reps] at h; rw [h]; exact h'
  | w :: ws, vs, ws', vs', h, h' => by
    simp only [Reps] at h
    obtain ⟨v, r, e, p, q⟩ := h
    rw [e]
    exact Reps.cons p (Reps.append q h')
theorem Reps.at : ∀ {ws : List W} {vs : List V} {i : Nat} {w : W}, Reps K ca g ws vs → ws[i]? = some w → ∃ v, vs[i]? = some v ∧ Rep K ca g w v
  | [], vs, i, w, h, e => by simp at e
  | w0 :: ws, vs, 0, w, h, e => by
    simp only [Reps] at h
    obtain ⟨v, r, e1, p, q⟩ := h
    simp at e
    subst e e1
    exact ⟨v, rfl, p⟩
  | w0 :: ws, vs, i + 1, w, h, e => by
    simp only [Reps] at h
    obtain ⟨v, r, e1, p, q⟩ := h
    subst e1
    obtain ⟨v', h1, h2⟩ := Reps.at (i := i) q (by simpa using e)
    exact ⟨v', by simpa using h1, h2⟩
theorem Reps.set : ∀ {ws : List W} {vs : List V} (i : Nat) {w : W} {v : V}, Reps K ca g ws vs → Rep K ca g w v → Reps K ca g (ws.set i w) (vs.set i v)
  | [], vs, i, w, v, h, p => by simp only [Reps] at h; rw [h]; simp only [List.set_nil]; exact Reps.nil
  | w0 :: ws, vs, 0, w, v, h, p => by
    simp only [Reps] at h
    obtain ⟨v0, r, e1, p0, q⟩ := h
    subst e1
    exact Reps.cons p q
  | w0 :: ws, vs, i + 1, w, v, h, p => by
    simp only [Reps] at h
    obtain ⟨v0, r, e1, p0, q⟩ := h
    subst e1
    exact Reps.cons p0 (Reps.set i q p)
theorem Reps.take : ∀ {ws : List W} {vs : List V} (n : Nat), Reps K ca g ws vs → Reps K ca g (ws.take n) (vs.take n)
  | ws, vs, 0, h => by simp only [List.take_zero]; exact Reps.nil
  | [], vs, n + 1, h => by simp only [Reps] at h; rw [h]; simp only [List.take_nil]; exact Reps.nil
  | w :: ws, vs, n + 1, h => by
    simp only [Reps] at h
    obtain ⟨v, r, e, p, q⟩ := h
    subst e
    exact Reps.cons p (Reps.take n q)
theorem Reps.drop : ∀ {ws : List W} {vs : List V} (n : Nat), Reps K ca g ws vs → Reps K ca g (ws.drop n) (vs.drop n)
  | ws, vs, 0, h => by simpa only [List.drop_zero] using h
  | [], vs, n + 1, h => by simp only [Reps] at h; rw [h]; simp only [List.drop_nil]; exact Reps.nil
  | w :: ws, vs, n + 1, h => by
    simp only [Reps] at h
    obtain ⟨v, r, e, p, q⟩ := h
    subst e
    exact Reps.drop n q
theorem Reps.rev : ∀ {ws : List W} {vs : List V}, Reps K ca g ws vs → Reps K ca g ws.reverse vs.reverse
  | [], vs, h => by simp only [Reps] at h; rw [h]; exact Reps.nil
  | w :: ws, vs, h => by
    simp only [Reps] at h
    obtain ⟨v, r, e, p, q⟩ := h
    subst e
    rw [List.reverse_cons, List.reverse_cons]
    exact Reps.append (Reps.rev q) (Reps.cons p Reps.nil)
theorem Reps.erase : ∀ {ws : List W} {vs : List V} (i : Nat), Reps K ca g ws vs → Reps K ca g (ws.eraseIdx i) (vs.eraseIdx i)
  | [], vs, i, h => by simp only [Reps] at h; rw [h]; exact Reps.nil
  | w0 :: ws, vs, 0, h => by
    simp only [Reps] at h
    obtain ⟨v0, r, e1, p0, q⟩ := h
    subst e1
    exact q
  | w0 :: ws, vs, i + 1, h => by
    simp only [Reps] at h
    obtain ⟨v0, r, e1, p0, q⟩ := h
    subst e1
    exact Reps.cons p0 (Reps.erase i q)
theorem Reps.rep {ws : List W} {vs : List V} (h : Reps K ca g ws vs) : ∀ n : Nat, Reps K ca g (List.replicate n ws).flatten (List.replicate n vs).flatten
  | 0 => Reps.nil
  | n + 1 => by
    rw [List.replicate_succ, List.replicate_succ, List.flatten_cons, List.flatten_cons]
    exact Reps.append h (Reps.rep h n)
theorem Reps.ints : ∀ {ws : List W} {vs : List V} {ns : List Int}, Reps K ca g ws vs → intsOf ws = some ns → vs = ns.map V.int
  | [], vs, ns, h, e => by simp only [Reps] at h; simp [intsOf] at e; subst e; rw [h]; rfl
  | w :: ws, vs, ns, h, e => by
    simp only [Reps] at h
    obtain ⟨v, r, e1, p, q⟩ := h
    cases w <;> simp [intsOf] at e
    obtain ⟨l, e2, e3⟩ := e
    simp only [Rep] at p
    subst e1 e3 p
    rw [Reps.ints q e2]
    rfl
theorem Reps.bls : ∀ {ws : List W} {vs : List V} {bs : List Bool}, Reps K ca g ws vs → blsOf ws = some bs → vs = bs.map V.bl
  | [], vs, ns, h, e => by simp only [Reps] at h; simp [blsOf] at e; subst e; rw [h]; rfl
  | w :: ws, vs, ns, h, e => by
    simp only [Reps] at h
    obtain ⟨v, r, e1, p, q⟩ := h
    cases w <;> simp [blsOf] at e
    obtain ⟨l, e2, e3⟩ := e
    simp only [Rep] at p
    subst e1 e3 p
    rw [Reps.bls q e2]
    rfl
theorem Reps.ofInts : ∀ (ns : List Int), Reps K ca g (ns.map W.int) (ns.map V.int)
  | [] => Reps.nil
  | n :: ns => Reps.cons (by simp only [Rep]) (Reps.ofInts ns)
/-- flat values -/
theorem Rep.flat {w : W} {v : V} (h : Rep K ca g w v) (f : flatW w = true) : flatV v = true := by
  cases w <;> simp [flatW] at f <;> simp only [Rep] at h <;> subst h <;> rfl
theorem Rep.flatEq {w u : W} {v x : V} (h : Rep K ca g w v) (h' : Rep K ca g u x) (f : flatW w = true) (f' : flatW u = true) : eqV v x = Lw.flatEq w u := by
  cases w <;> simp [flatW] at f <;> cases u <;> simp [flatW] at f' <;> simp only [Rep] at h h' <;> subst h h' <;> rfl
theorem Reps.flat : ∀ {ws : List W} {vs : List V}, Reps K ca g ws vs → ws.all flatW = true → vs.all flatV = true
  | [], vs, h, f => by simp only [Reps] at h; rw [h]; rfl
  | w :: ws, vs, h, f => by
    simp only [Reps] at h
    obtain ⟨v, r, e, p, q⟩ := h
    subst e
    rw [List.all_cons, Bool.and_eq_true] at f ⊢
    exact ⟨Rep.flat p f.1, Reps.flat q f.2⟩
theorem Reps.inV : ∀ {ws : List W} {vs : List V} {w : W} {v : V}, Reps K ca g ws vs → Rep K ca g w v → flatW w = true → ws.all flatW = true → L2.inV v vs = inW w ws
  | [], vs, w, v, h, p, f, fs => by simp only [Reps] at h; rw [h]; rfl
  | w0 :: ws, vs, w, v, h, p, f, fs => by
    simp only [Reps] at h
    obtain ⟨v0, r, e, p0, q⟩ := h
    subst e
    rw [List.all_cons, Bool.and_eq_true] at fs
    have ih := Reps.inV q p f fs.2
    unfold L2.inV inW at ih ⊢
    rw [List.any_cons, List.any_cons, ih, Rep.flatEq p0 p fs.1 f]
end
end Lw

namespace Lw
open PySem PySem.Spec PyProof.Rows L2

/-- the oracle says what was drawn so far -/
def Agree (ω : Nat → Nat) (d : List Nat) : Prop := ∀ i r, d[i]? = some r → ω i = r
def Ext (d d' : List Nat) : Prop := ∃ t, d' = d ++ t
theorem Ext.refl (d : List Nat) : Ext d d := ⟨[], by simp⟩
theorem Ext.trans {a b c : List Nat} (h : Ext a b) (h' : Ext b c) : Ext a c := by
  obtain ⟨t, rfl⟩ := h
  obtain ⟨u, rfl⟩ := h'
  exact ⟨t ++ u, by rw [List.append_assoc]⟩
theorem Agree.of {ω : Nat → Nat} {d d' : List Nat} (a : Agree ω d') (h : Ext d d') : Agree ω d := by
  obtain ⟨t, rfl⟩ := h
  intro i r e
  refine a i r ?_
  have hi : i < d.length := (List.getElem?_eq_some_iff.mp e).1
  rw [List.getElem?_append_left hi]
  exact e
theorem Agree.ex (d : List Nat) : ∃ ω, Agree ω d := ⟨fun i => (d[i]?).getD 0, fun i r e => by simp [e]⟩

/-- steps of the interpreter, by the oracle -/
abbrev Sm (α : Type) := (Nat → Nat) → Mem → Nat → R α

section
variable (K : PySem.W.Frag) (ca : CA) (ef : Nat → Str)
/-- what an exception in the air stands for -/
def ExcRel (g : G) (H : Hp) (x : Exn) (cls : Value) (dd : Option Addr) : Prop :=
  cls = .ref (ca x.cls) ∧ match x.arg with
    | none => dd = none
    | some w => ∃ dx v, dd = some dx ∧ H dx = some (.xd [(ef x.cls, v)]) ∧ Rep K ca g w v
/-- f runs from here: it comes to no bad end, and whatever the machine comes to as f does, is wanted -/
structure Fin {α β : Type} (rel : G → α → β → Prop) (WX : Exn → Env → Value → Option Addr → Hp → G → Mem → List Nat → Prop) (f : Sm α) (g : G) (m : Mem) (d : List Nat) (H : Hp) (Q : β → Hp → G → Mem → List Nat → α → Prop) : Prop where
  good : ∀ ω, Agree ω d → f ω m d.length ≠ .no
  ok : ∀ (v : β) (H' : Hp) (g' : G) (m' : Mem) (d' : List Nat) (a : α), Step g H g' H' → Ext d d' → RelM K ca g' m' d'.length H' → rel g' a v → (∀ ω, Agree ω d' → f ω m d.length = .ok a m' d'.length) → Q v H' g' m' d' a
  exc : ∀ (x : Exn) (ρ : Env) (H' : Hp) (g' : G) (m' : Mem) (d' : List Nat) (cls : Value) (dd : Option Addr), Step g H g' H' → Ext d d' → RelM K ca g' m' d'.length H' → (∀ ω, Agree ω d' → f ω m d.length = .exc x ρ m' d'.length) →
    ExcRel K ca ef g' H' x cls dd → WX x ρ cls dd H' g' m' d'
end
section
variable {K : PySem.W.Frag} {ca : CA} {ef : Nat → Str} {α β α' β' : Type} {rel : G → α → β → Prop} {rel' : G → α' → β' → Prop} {WX : Exn → Env → Value → Option Addr → Hp → G → Mem → List Nat → Prop} {g : G} {m : Mem} {d : List Nat} {H : Hp}
theorem Fin.imp {f : Sm α} {Q Q' : β → Hp → G → Mem → List Nat → α → Prop} (h : Fin K ca ef rel WX f g m d H Q) (i : ∀ v H' g' m' d' a, Q v H' g' m' d' a → Q' v H' g' m' d' a) : Fin K ca ef rel WX f g m d H Q' :=
  ⟨h.good, fun v H' g' m' d' a s e r q z => i _ _ _ _ _ _ (h.ok v H' g' m' d' a s e r q z), h.exc⟩
theorem Fin.bind {f : Sm α} {k : (Nat → Nat) → α → Mem → Nat → R α'} {Q : β' → Hp → G → Mem → List Nat → α' → Prop} (h : Fin K ca ef rel' WX (fun ω m c => (f ω m c).bind (k ω)) g m d H Q) :
    Fin K ca ef rel WX f g m d H (fun v1 H1 g1 m1 d1 a1 => RelM K ca g1 m1 d1.length H1 ∧ rel g1 a1 v1 ∧ Step g H g1 H1 ∧ Ext d d1 ∧ Fin K ca ef rel' WX (fun ω m c => k ω a1 m c) g1 m1 d1 H1 Q) where
  good := fun ω a e => h.good ω a (by show (f ω m d.length).bind _ = _; rw [e]; rfl)
  ok := fun v1 H1 g1 m1 d1 a1 s e r q z => by
    refine ⟨r, q, s, e, ⟨fun ω a e1 => h.good ω (a.of e) ?_, fun v2 H2 g2 m2 d2 a2 s2 e2 r2 q2 z2 => h.ok v2 H2 g2 m2 d2 a2 (s.trans s2) (e.trans e2) r2 q2 fun ω a => ?_, fun x ρ H2 g2 m2 d2 cls dd s2 e2 r2 z2 xr => h.exc x ρ H2 g2 m2 d2 cls dd (s.trans s2) (e.trans e2) r2 (fun ω a => ?_) xr⟩⟩
    · show (f ω m d.length).bind _ = _
      rw [z ω a]
      exact e1
    · show (f ω m d.length).bind _ = _
      rw [z ω (a.of e2)]
      exact z2 ω a
    · show (f ω m d.length).bind _ = _
      rw [z ω (a.of e2)]
      exact z2 ω a
  exc := fun x ρ H1 g1 m1 d1 cls dd s e r z xr => h.exc x ρ H1 g1 m1 d1 cls dd s e r (fun ω a => by show (f ω m d.length).bind _ = _; rw [z ω a]; rfl) xr
theorem Fin.bindZ {f : Sm α} {k : (Nat → Nat) → α → Mem → Nat → R α'} {Q : β' → Hp → G → Mem → List Nat → α' → Prop} (h : Fin K ca ef rel' WX (fun ω m c => (f ω m c).bind (k ω)) g m d H Q) :
    Fin K ca ef rel WX f g m d H (fun v1 H1 g1 m1 d1 a1 => RelM K ca g1 m1 d1.length H1 ∧ rel g1 a1 v1 ∧ Step g H g1 H1 ∧ Ext d d1 ∧ (∀ ω, Agree ω d1 → f ω m d.length = .ok a1 m1 d1.length) ∧ Fin K ca ef rel' WX (fun ω m c => k ω a1 m c) g1 m1 d1 H1 Q) :=
  ⟨(Fin.bind (rel := rel) h).good, fun v1 H1 g1 m1 d1 a1 s e r q z => by
    have y := (Fin.bind (rel := rel) h).ok v1 H1 g1 m1 d1 a1 s e r q z
    exact ⟨y.1, y.2.1, y.2.2.1, y.2.2.2.1, z, y.2.2.2.2⟩, (Fin.bind (rel := rel) h).exc⟩
/-- f is a plain answer -/
theorem Fin.fin {f : Sm α} {Q : β → Hp → G → Mem → List Nat → α → Prop} (h : Fin K ca ef rel WX f g m d H Q) {a : α} {m' : Mem} (e : ∀ ω, f ω m d.length = .ok a m' d.length) {v : β} {H' : Hp} {g' : G} (s : Step g H g' H') (r : RelM K ca g' m' d.length H') (q : rel g' a v) : Q v H' g' m' d a :=
  h.ok v H' g' m' d a s (Ext.refl d) r q fun ω _ => e ω
theorem Fin.not {f : Sm α} {Q : β → Hp → G → Mem → List Nat → α → Prop} {P : Prop} (h : Fin K ca ef rel WX f g m d H Q) (e : ∀ ω, f ω m d.length = .no) : P := by
  obtain ⟨ω, a⟩ := Agree.ex d
  exact (h.good ω a (e ω)).elim
theorem Fin.congr {f f' : Sm α} {Q : β → Hp → G → Mem → List Nat → α → Prop} (h : Fin K ca ef rel WX f g m d H Q) (e : ∀ ω, f ω m d.length = f' ω m d.length) : Fin K ca ef rel WX f' g m d H Q :=
  ⟨fun ω a z => h.good ω a ((e ω).trans z), fun v H' g' m' d' x s e1 r q z => h.ok v H' g' m' d' x s e1 r q fun ω a => (e ω).trans (z ω a), fun x ρ H' g' m' d' cls dd s e1 r z xr => h.exc x ρ H' g' m' d' cls dd s e1 r (fun ω a => (e ω).trans (z ω a)) xr⟩
theorem Fin.step {f : Sm α} {Q : β → Hp → G → Mem → List Nat → α → Prop} {g0 : G} {H0 : Hp} {d0 : List Nat} {m0 : Mem} {f0 : Sm α} (s0 : Step g0 H0 g H) (e0 : Ext d0 d) (z0 : ∀ ω, Agree ω d → f0 ω m0 d0.length = f ω m d.length) (h : Fin K ca ef rel WX f0 g0 m0 d0 H0 Q) : Fin K ca ef rel WX f g m d H Q :=
  ⟨fun ω a z => h.good ω (a.of e0) ((z0 ω a).trans z), fun v H' g' m' d' x s e1 r q z => h.ok v H' g' m' d' x (s0.trans s) (e0.trans e1) r q fun ω a => (z0 ω (a.of e1)).trans (z ω a),
    fun x ρ H' g' m' d' cls dd s e1 r z xr => h.exc x ρ H' g' m' d' cls dd (s0.trans s) (e0.trans e1) r (fun ω a => (z0 ω (a.of e1)).trans (z ω a)) xr⟩
end

/-! ### the frame's slots -/
def REnv (K : PySem.W.Frag) (ca : CA) (g : G) (ρ : Env) (σ : L2.St) : Prop := ρ.length = σ.length ∧ ∀ (i : Nat) (w : W), ρ[i]? = some (some w) → ∃ v, σ[i]? = some (some v) ∧ Rep K ca g w v
section
variable {K : PySem.W.Frag} {ca : CA} {g g' : G} {ρ : Env} {σ : L2.St}
theorem REnv.mono (h : REnv K ca g ρ σ) (l : Le g g') : REnv K ca g' ρ σ := ⟨h.1, fun i w e => by
  obtain ⟨v, e1, r⟩ := h.2 i w e
  exact ⟨v, e1, Rep.mono l w v r⟩⟩
theorem REnv.set (h : REnv K ca g ρ σ) {i : Nat} {w : W} {v : V} (r : Rep K ca g w v) : REnv K ca g (ρ.set i (some w)) (σ.set i (some v)) := ⟨by rw [List.length_set, List.length_set]; exact h.1, fun j u e => by
  by_cases hj : j = i
  · subst hj
    by_cases hl : j < ρ.length
    · rw [List.getElem?_set_self hl] at e
      cases e
      exact ⟨v, by rw [List.getElem?_set_self (h.1 ▸ hl)], r⟩
    · rw [List.getElem?_eq_none (by simpa using hl)] at e
      cases e
  · rw [List.getElem?_set_ne (Ne.symm hj)] at e
    obtain ⟨x, e1, r1⟩ := h.2 j u e
    exact ⟨x, by rw [List.getElem?_set_ne (Ne.symm hj)]; exact e1, r1⟩⟩
theorem wipeE_length (ρ : Env) : ∀ is : List Nat, (wipeE ρ is).length = ρ.length
  | [] => rfl
  | i :: is => by unfold wipeE; rw [List.length_set, wipeE_length ρ is]
theorem REnv.wipe (h : REnv K ca g ρ σ) : ∀ is : List Nat, REnv K ca g (wipeE ρ is) (wipe σ is)
  | [] => h
  | i :: is => ⟨by rw [wipeE_length, L2.wipe_length]; exact h.1, fun j u e => by
    unfold wipeE at e
    unfold L2.wipe
    by_cases hj : j = i
    · subst hj
      by_cases hl : j < (wipeE ρ is).length
      · rw [List.getElem?_set_self hl] at e
        cases e
      · rw [List.getElem?_eq_none (by simpa using hl)] at e
        cases e
    · rw [List.getElem?_set_ne (Ne.symm hj)] at e ⊢
      exact (REnv.wipe h is).2 j u e⟩
end

/-! ### readings -/
section
variable (K : PySem.W.Frag) (ca : CA) (ef : Nat → Str) (WX : L2.WX)
/-- the wish for exceptions, of an expression at σ -/
abbrev wxE (σ : L2.St) : Exn → Env → Value → Option Addr → Hp → G → Mem → List Nat → Prop := fun _ _ cls dd H' _ _ _ => WX cls dd σ H'
/-- an expression's reading by its interpreter -/
def tI (f : Env → Sm W) : TE := fun σ H Q => ∃ (g : G) (ρ : Env) (m : Mem) (d : List Nat), RelM K ca g m d.length H ∧ REnv K ca g ρ σ ∧ Fin K ca ef (Rep K ca) (wxE WX σ) (f ρ) g m d H (fun v H' _ _ _ _ => Q v H')
/-- an argument list's -/
def tIs (f : Env → Sm (List W)) : TA := fun σ H Q => ∃ (g : G) (ρ : Env) (m : Mem) (d : List Nat), RelM K ca g m d.length H ∧ REnv K ca g ρ σ ∧ Fin K ca ef (Reps K ca) (wxE WX σ) (f ρ) g m d H (fun v H' _ _ _ _ => Q v H')
/-- a test's -/
def tIb (f : Env → Sm Bool) : TT := fun σ H Q => ∃ (g : G) (ρ : Env) (m : Mem) (d : List Nat), RelM K ca g m d.length H ∧ REnv K ca g ρ σ ∧ Fin K ca ef (fun _ a b => a = b) (wxE WX σ) (f ρ) g m d H (fun v H' _ _ _ _ => Q v H')
/-- an optional part of a slice -/
def tIo (f : Env → Sm (Option Int)) : TO := fun σ H Q => ∃ (g : G) (ρ : Env) (m : Mem) (d : List Nat), RelM K ca g m d.length H ∧ REnv K ca g ρ σ ∧ Fin K ca ef (fun _ a b => a = b) (wxE WX σ) (f ρ) g m d H (fun v H' _ _ _ _ => Q v H')
end
section
variable {K : PySem.W.Frag} {ca : CA} {ef : Nat → Str} {WX : L2.WX} {X : Cx}
theorem PE.weak {e : Expr} {t t' : TE} (h : PE X e t) (i : ∀ σ H Q, t' σ H Q → t σ H Q) : PE X e t' := ⟨fun pins s σ H Q I q => h.run pins s σ H Q I (i σ H Q q)⟩
theorem PT.weak {e : Expr} {t t' : TT} (h : PT X e t) (i : ∀ σ H Q, t' σ H Q → t σ H Q) : PT X e t' := ⟨fun pins s σ H Q I q => h.run pins s σ H Q I (i σ H Q q)⟩
theorem PA.weak {es : List Expr} {t t' : TA} (h : PA X es t) (i : ∀ σ H Q, t' σ H Q → t σ H Q) : PA X es t' := ⟨fun pos pins s σ H Q I q => h.run pos pins s σ H Q I (i σ H Q q)⟩
theorem PW.weak {e : Expr} {t t' : TT} (h : PW X e t) (i : ∀ σ H Q, t' σ H Q → t σ H Q) : PW X e t' := ⟨fun whole pins s σ H Q I q => h.run whole pins s σ H Q I (i σ H Q q)⟩
theorem PS.weak {st : Stmt} {t t' : TS} (h : PS X st t) (i : ∀ D σ H, t' D σ H → t D σ H) : PS X st t' := ⟨fun pins s σ H D I q => h.run pins s σ H D I (i D σ H q)⟩
theorem PSs.weak {st : List Stmt} {t t' : TS} (h : PSs X st t) (i : ∀ D σ H, t' D σ H → t D σ H) : PSs X st t' := ⟨fun pins s σ H D I q => h.run pins s σ H D I (i D σ H q)⟩
/-- what stands behind a first part: its value, and the rest runs from there -/
structure Then (K : PySem.W.Frag) (ca : CA) (ef : Nat → Str) (WX : L2.WX) {α β : Type} (rel' : G → α → β → Prop) (ρ : Env) (σ : L2.St) (k : W → Sm α) (v : V) (H1 : Hp) (Q : β → Hp → Prop) : Prop where
  ex : ∃ (g1 : G) (m1 : Mem) (d1 : List Nat) (w : W), RelM K ca g1 m1 d1.length H1 ∧ REnv K ca g1 ρ σ ∧ Rep K ca g1 w v ∧ Fin K ca ef rel' (wxE WX σ) (k w) g1 m1 d1 H1 (fun v H' _ _ _ _ => Q v H')
/-- the rule of all of these: a first part f, then k -/
theorem tI_first {α β : Type} {rel' : G → α → β → Prop} {f : Env → Sm W} {k : (Nat → Nat) → W → Mem → Nat → R α} {g : G} {ρ : Env} {m : Mem} {d : List Nat} {σ : L2.St} {H : Hp} {Q : β → Hp → Prop}
    (r : RelM K ca g m d.length H) (e : REnv K ca g ρ σ) (h : Fin K ca ef rel' (wxE WX σ) (fun ω m c => (f ρ ω m c).bind (k ω)) g m d H (fun v H' _ _ _ _ => Q v H')) :
    tI K ca ef WX f σ H (fun v H1 => ∃ (g1 : G) (m1 : Mem) (d1 : List Nat) (w : W), RelM K ca g1 m1 d1.length H1 ∧ Step g H g1 H1 ∧ REnv K ca g1 ρ σ ∧ Rep K ca g1 w v ∧ Fin K ca ef rel' (wxE WX σ) (fun ω m c => k ω w m c) g1 m1 d1 H1 (fun v H' _ _ _ _ => Q v H')) :=
  ⟨g, ρ, m, d, r, e, (Fin.bind (rel := Rep K ca) h).imp fun v1 H1 g1 m1 d1 a1 z => ⟨g1, m1, d1, a1, z.1, z.2.2.1, e.mono z.2.2.1.le, z.2.1, z.2.2.2.2⟩⟩
theorem tIs_first {α β : Type} {rel' : G → α → β → Prop} {f : Env → Sm (List W)} {k : (Nat → Nat) → List W → Mem → Nat → R α} {g : G} {ρ : Env} {m : Mem} {d : List Nat} {σ : L2.St} {H : Hp} {Q : β → Hp → Prop}
    (r : RelM K ca g m d.length H) (e : REnv K ca g ρ σ) (h : Fin K ca ef rel' (wxE WX σ) (fun ω m c => (f ρ ω m c).bind (k ω)) g m d H (fun v H' _ _ _ _ => Q v H')) :
    tIs K ca ef WX f σ H (fun vs H1 => ∃ (g1 : G) (m1 : Mem) (d1 : List Nat) (ws : List W), RelM K ca g1 m1 d1.length H1 ∧ Step g H g1 H1 ∧ REnv K ca g1 ρ σ ∧ Reps K ca g1 ws vs ∧ Fin K ca ef rel' (wxE WX σ) (fun ω m c => k ω ws m c) g1 m1 d1 H1 (fun v H' _ _ _ _ => Q v H')) :=
  ⟨g, ρ, m, d, r, e, (Fin.bind (rel := Reps K ca) h).imp fun v1 H1 g1 m1 d1 a1 z => ⟨g1, m1, d1, a1, z.1, z.2.2.1, e.mono z.2.2.1.le, z.2.1, z.2.2.2.2⟩⟩
theorem tIb_first {α β : Type} {rel' : G → α → β → Prop} {f : Env → Sm Bool} {k : (Nat → Nat) → Bool → Mem → Nat → R α} {g : G} {ρ : Env} {m : Mem} {d : List Nat} {σ : L2.St} {H : Hp} {Q : β → Hp → Prop}
    (r : RelM K ca g m d.length H) (e : REnv K ca g ρ σ) (h : Fin K ca ef rel' (wxE WX σ) (fun ω m c => (f ρ ω m c).bind (k ω)) g m d H (fun v H' _ _ _ _ => Q v H')) :
    tIb K ca ef WX f σ H (fun b H1 => ∃ (g1 : G) (m1 : Mem) (d1 : List Nat), RelM K ca g1 m1 d1.length H1 ∧ Step g H g1 H1 ∧ REnv K ca g1 ρ σ ∧ Fin K ca ef rel' (wxE WX σ) (fun ω m c => k ω b m c) g1 m1 d1 H1 (fun v H' _ _ _ _ => Q v H')) :=
  ⟨g, ρ, m, d, r, e, (Fin.bind (rel := fun _ a b => a = b) h).imp fun v1 H1 g1 m1 d1 a1 z => by
    have q := z.2.1
    subst q
    exact ⟨g1, m1, d1, z.1, z.2.2.1, e.mono z.2.2.1.le, z.2.2.2.2⟩⟩
theorem tIo_first {α β : Type} {rel' : G → α → β → Prop} {f : Env → Sm (Option Int)} {k : (Nat → Nat) → Option Int → Mem → Nat → R α} {g : G} {ρ : Env} {m : Mem} {d : List Nat} {σ : L2.St} {H : Hp} {Q : β → Hp → Prop}
    (r : RelM K ca g m d.length H) (e : REnv K ca g ρ σ) (h : Fin K ca ef rel' (wxE WX σ) (fun ω m c => (f ρ ω m c).bind (k ω)) g m d H (fun v H' _ _ _ _ => Q v H')) :
    tIo K ca ef WX f σ H (fun b H1 => ∃ (g1 : G) (m1 : Mem) (d1 : List Nat), RelM K ca g1 m1 d1.length H1 ∧ Step g H g1 H1 ∧ REnv K ca g1 ρ σ ∧ Fin K ca ef rel' (wxE WX σ) (fun ω m c => k ω b m c) g1 m1 d1 H1 (fun v H' _ _ _ _ => Q v H')) :=
  ⟨g, ρ, m, d, r, e, (Fin.bind (rel := fun _ a b => a = b) h).imp fun v1 H1 g1 m1 d1 a1 z => by
    have q := z.2.1
    subst q
    exact ⟨g1, m1, d1, z.1, z.2.2.1, e.mono z.2.2.1.le, z.2.2.2.2⟩⟩
end

/-! ### new objects -/
section
variable {K : PySem.W.Frag} {ca : CA} {g : G} {m : Mem} {c : Nat} {H : Hp} {p : Addr} {o : HO}
/-- something new is laid that nobody speaks of -/
theorem CellAt.keep {g' : G} {H' : Hp} (l : Le g g') {a : Addr} {x : Cell} (h : CellAt K ca g H a x) (k : ∀ o, H a = some o → H' a = some o) : CellAt K ca g' H' a x := by
  cases x with
  | lst xs =>
    obtain ⟨vs, e, r⟩ := h
    exact ⟨vs, k _ e, Reps.mono l _ _ r⟩
  | ins c ks ws =>
    obtain ⟨dx, vs, e, z, r⟩ := h
    exact ⟨dx, vs, k _ e, z, Reps.mono l _ _ r⟩
  | dead => trivial
theorem TokAt.keep {H H' : Hp} {a : Addr} {c c' : Nat} (h : TokAt H a c) (k : ∀ o, H a = some o → H' a = some o) (hc : c ≤ c') : TokAt H' a c' := by
  obtain ⟨x, y, z, e, h1, h2, h3, h4, h5⟩ := h
  exact ⟨x, y, z, k _ e, h1, h2, h3, h4, by omega⟩
theorem up {H : Hp} {p b : Addr} {o u : HO} (n : H p = none) (e : H b = some u) : upd H p o b = some u := by rw [upd_ne (ne_of_none e n)]; exact e
/-- frozen at once -/
def G.frz (g : G) (p : Addr) (o : HO) : G := { g with S := upd g.S p o }
def G.cell (g : G) (n : Nat) (p : Addr) : G := { g with μ := fun k => if k = n then some p else g.μ k }
theorem RelM.Snone (r : RelM K ca g m c H) (n : H p = none) : g.S p = none := by
  cases e : g.S p with
  | none => rfl
  | some u => rw [r.sub _ _ e] at n; cases n
theorem Le.frz (n : g.S p = none) : Le g (g.frz p o) := ⟨fun b u e => up n e, fun _ _ h => h, fun _ h => h⟩
theorem step_frz (r : RelM K ca g m c H) (n : H p = none) : Step g H (g.frz p o) (upd H p o) where
  S := (Le.frz (r.Snone n)).S
  μ := fun _ _ h => h
  T := fun _ h => h
  frame := fun b u e _ _ => up n e
  newS := fun b u e => by
    by_cases hb : b = p
    · subst hb; exact .inr (.inl n)
    · have e' : upd g.S p o b = some u := e
      rw [upd_ne hb] at e'
      exact .inl e'
  newμ := fun _ _ h => .inl h
  newT := fun _ h => .inl h
  grow := fun b u e => ⟨u, up n e⟩
theorem rel_frz (r : RelM K ca g m c H) (n : H p = none) : RelM K ca (g.frz p o) m c (upd H p o) where
  sub := fun b u e => by
    by_cases hb : b = p
    · subst hb
      have e' : upd g.S b o b = some u := e
      rw [upd_same] at e' ⊢
      exact e'
    · have e' : upd g.S p o b = some u := e
      rw [upd_ne hb] at e' ⊢
      exact r.sub _ _ e'
  lt := r.lt
  live := fun k x e => by
    obtain ⟨a, h1, h2⟩ := r.live k x e
    exact ⟨a, h1, h2.keep (Le.frz (r.Snone n)) fun u q => up n q⟩
  off := fun k x a e hx h1 => by
    have h := r.off k x a e hx h1
    obtain ⟨u, q⟩ := r.there k a h1
    show upd g.S p o a = none
    rw [upd_ne (ne_of_none q n)]
    exact h
  there := fun k a h1 => by
    obtain ⟨u, q⟩ := r.there k a h1
    exact ⟨u, up n q⟩
  inj := r.inj
  tok := fun a h => by
    obtain ⟨h1, h2, h3⟩ := r.tok a h
    obtain ⟨x, y, z, e, _⟩ := id h1
    refine ⟨h1.keep (fun u q => up n q) (Nat.le_refl _), ?_, h3⟩
    show upd g.S p o a = none
    rw [upd_ne (ne_of_none e n)]
    exact h2
/-- laid, and of no matter -/
theorem step_lay (r : RelM K ca g m c H) (n : H p = none) : Step g H g (upd H p o) where
  S := fun _ _ h => h
  μ := fun _ _ h => h
  T := fun _ h => h
  frame := fun b u e _ _ => up n e
  newS := fun b u e => .inl e
  newμ := fun _ _ h => .inl h
  newT := fun _ h => .inl h
  grow := fun b u e => ⟨u, up n e⟩
theorem rel_lay (r : RelM K ca g m c H) (n : H p = none) : RelM K ca g m c (upd H p o) where
  sub := fun b u e => up n (r.sub _ _ e)
  lt := r.lt
  live := fun k x e => by
    obtain ⟨a, h1, h2⟩ := r.live k x e
    exact ⟨a, h1, h2.keep (Le.refl _) fun u q => up n q⟩
  off := r.off
  there := fun k a h1 => by
    obtain ⟨u, q⟩ := r.there k a h1
    exact ⟨u, up n q⟩
  inj := r.inj
  tok := fun a h => by
    obtain ⟨h1, h2, h3⟩ := r.tok a h
    exact ⟨h1.keep (fun u q => up n q) (Nat.le_refl _), h2, h3⟩
/-- a new cell -/
theorem RelM.μnone (r : RelM K ca g m c H) {k : Nat} (h : m.length ≤ k) : g.μ k = none := by
  cases e : g.μ k with
  | none => rfl
  | some a => exact absurd (r.lt k a e) (Nat.not_lt.mpr h)
theorem Le.cell (n : g.μ k = none) : Le g (g.cell k p) := ⟨fun _ _ h => h, fun j a h => by
  show (if j = k then some p else g.μ j) = some a
  rw [if_neg (fun z => by subst z; rw [n] at h; cases h)]
  exact h, fun _ h => h⟩
theorem step_cell (r : RelM K ca g m c H) (n : H p = none) : Step g H (g.cell m.length p) (upd H p o) where
  S := fun _ _ h => h
  μ := (Le.cell (r.μnone (Nat.le_refl _))).μ
  T := fun _ h => h
  frame := fun b u e _ _ => up n e
  newS := fun b u e => .inl e
  newμ := fun j a h => by
    have h' : (if j = m.length then some p else g.μ j) = some a := h
    split at h'
    · cases h'; exact .inr n
    · exact .inl h'
  newT := fun _ h => .inl h
  grow := fun b u e => ⟨u, up n e⟩
theorem rel_cell (r : RelM K ca g m c H) (n : H p = none) {x : Cell} (hx : CellAt K ca (g.cell m.length p) (upd H p o) p x) : RelM K ca (g.cell m.length p) (m ++ [x]) c (upd H p o) where
  sub := fun b u e => up n (r.sub _ _ e)
  lt := fun j a h => by
    have h' : (if j = m.length then some p else g.μ j) = some a := h
    rw [List.length_append, List.length_singleton]
    split at h'
    · omega
    · have := r.lt j a h'; omega
  live := fun j y e => by
    by_cases hj : j = m.length
    · subst hj
      rw [List.getElem?_append_right (Nat.le_refl _), Nat.sub_self] at e
      simp at e
      subst e
      exact ⟨p, if_pos rfl, hx⟩
    · have hl : j < m.length := by
        have := (List.getElem?_eq_some_iff.mp e).1
        rw [List.length_append, List.length_singleton] at this
        omega
      rw [List.getElem?_append_left hl] at e
      obtain ⟨a, h1, h2⟩ := r.live j y e
      exact ⟨a, (if_neg hj).trans h1, h2.keep (Le.cell (r.μnone (Nat.le_refl _))) fun u q => up n q⟩
  off := fun j y a e hy h => by
    have h' : (if j = m.length then some p else g.μ j) = some a := h
    split at h'
    · cases h'; exact r.Snone n
    · rename_i hj
      have hl : j < m.length := r.lt j a h'
      rw [List.getElem?_append_left hl] at e
      exact r.off j y a e hy h'
  there := fun j a h => by
    have h' : (if j = m.length then some p else g.μ j) = some a := h
    split at h'
    · cases h'; exact ⟨o, upd_same⟩
    · obtain ⟨u, q⟩ := r.there j a h'
      exact ⟨u, up n q⟩
  inj := fun j j' a h h' => by
    have z : (if j = m.length then some p else g.μ j) = some a := h
    have z' : (if j' = m.length then some p else g.μ j') = some a := h'
    split at z <;> split at z'
    · omega
    · cases z
      obtain ⟨u, q⟩ := r.there j' _ z'
      rw [n] at q; cases q
    · cases z'
      obtain ⟨u, q⟩ := r.there j _ z
      rw [n] at q; cases q
    · exact r.inj j j' a z z'
  tok := fun a h => by
    obtain ⟨h1, h2, h3⟩ := r.tok a h
    obtain ⟨x0, y0, z0, e0, _⟩ := id h1
    refine ⟨h1.keep (fun u q => up n q) (Nat.le_refl _), h2, fun j z => ?_⟩
    have z' : (if j = m.length then some p else g.μ j) = some a := z
    split at z'
    · cases z'; rw [n] at e0; cases e0
    · exact h3 j z'
end
end Lw

namespace Lw
open PySem

/-- the names of the table's things, as the text calls them -/
structure Tab where
  gn : Nat → Str
  ng : Nat
  fnm : Nat → Str
  cn : Nat → Str
  nc : Nat
  xn : Nat → Str
  /-- names of fields of objects -/
  flds : List Str
  /-- calls by name: the def, its keywords as told, where each parameter's value stands among them -/
  kws : List (Nat × List Str × List Nat)
  /-- new instances by name: the class, its defaults' number, the values', the keywords, where each parameter's value stands -/
  mkk : List (Nat × Nat × Nat × List Str × List Nat) := []
  /-- methods called by name -/
  kwm : List (Nat × List Str × List Nat) := []
  /-- calls that leave the last parameter to its default, a whole number -/
  dfs : List (Nat × Int) := []

def okName (x : Str) : Bool := !(x == ("__debug__" : Str)) && !(x == ("__classdict__" : Str)) && !decide (x = ("__name__" : Str))
def visB (sc : Scope) (x : Str) : Bool := match sc.names.lookup x with
  | some .local => true | some .cell => true | some .free => true | _ => false
def locB (sc : Scope) (x : Str) : Bool := match sc.names.lookup x with
  | some .local => true | some .cell => true | _ => false
def celB (sc : Scope) (x : Str) : Bool := match sc.names.lookup x with
  | some .cell => true | _ => false
def lclB (sc : Scope) (x : Str) : Bool := match sc.names.lookup x with
  | some .local => true | _ => false
def glB (sc : Scope) (x : Str) : Bool := match sc.names.lookup x with
  | some .globalImplicit => true | _ => false

/-! ### what an expression is -/
def asName : Expr → Option Str | .Name x _ => some x | _ => none
def asConst : Expr → Option Const | .Constant c _ _ => some c | _ => none
def asTuple : Expr → Option (List Expr) | .Tuple es _ _ => some es | _ => none
def asList : Expr → Option (List Expr) | .List es _ => some es | _ => none
def asAttr : Expr → Option (Expr × Str × Pos) | .Attribute e f p => some (e, f, p) | _ => none
def asBin : Expr → Option (Expr × Operator × Expr) | .BinOp a o b _ => some (a, o, b) | _ => none
def asUn : Expr → Option (UnaryOp × Expr) | .UnaryOp o a _ => some (o, a) | _ => none
def asBool : Expr → Option (BoolOp × List Expr × Pos) | .BoolOp o es p => some (o, es, p) | _ => none
def asCmp : Expr → Option (Expr × List CmpOp × List Expr) | .Compare a os es _ => some (a, os, es) | _ => none
def asIf : Expr → Option (Expr × Expr × Expr) | .IfExp t a b _ => some (t, a, b) | _ => none
def asSub : Expr → Option (Expr × Expr) | .Subscript a i _ => some (a, i) | _ => none
def asCall : Expr → Option (Expr × List Expr × List Keyword × Pos) | .Call f es ks p => some (f, es, ks, p) | _ => none
def asJoined : Expr → Option (List Expr) | .JoinedStr es _ => some es | _ => none
def asFmt : Expr → Option Expr | .FormattedValue e (-1) .none _ => some e | _ => none
theorem asJoined_of {e : Expr} {es : List Expr} (h : asJoined e = some es) : ∃ p, e = .JoinedStr es p := by cases e <;> simp [asJoined] at h; subst h; exact ⟨_, rfl⟩
theorem asFmt_of {e x : Expr} (h : asFmt e = some x) : ∃ p, e = .FormattedValue x (-1) .none p := by
  unfold asFmt at h
  split at h
  · injection h with h; subst h; exact ⟨_, rfl⟩
  · cases h
def asLc : Expr → Option (Expr × List Comprehension × Scope × Pos) | .ListComp e g s p => some (e, g, s, p) | _ => none
def asStar : Expr → Option Expr | .Starred e _ => some e | _ => none
def asSlice : Expr → Option (Option Expr × Option Expr × Option Expr) | .Slice a b c _ => some (a, b, c) | _ => none
theorem asName_of {e : Expr} {x : Str} (h : asName e = some x) : ∃ p, e = .Name x p := by cases e <;> simp [asName] at h; exact ⟨_, by rw [h]⟩
theorem asConst_of {e : Expr} {x : Const} (h : asConst e = some x) : ∃ k p, e = .Constant x k p := by cases e <;> simp [asConst] at h; exact ⟨_, _, by rw [h]⟩
theorem asTuple_of {e : Expr} {x : List Expr} (h : asTuple e = some x) : ∃ k p, e = .Tuple x k p := by cases e <;> simp [asTuple] at h; exact ⟨_, _, by rw [h]⟩
theorem asList_of {e : Expr} {x : List Expr} (h : asList e = some x) : ∃ p, e = .List x p := by cases e <;> simp [asList] at h; exact ⟨_, by rw [h]⟩
theorem asAttr_of {e a : Expr} {f : Str} {p : Pos} (h : asAttr e = some (a, f, p)) : e = .Attribute a f p := by cases e <;> simp [asAttr] at h; obtain ⟨rfl, rfl, rfl⟩ := h; rfl
theorem asBin_of {e a b : Expr} {o : Operator} (h : asBin e = some (a, o, b)) : ∃ p, e = .BinOp a o b p := by cases e <;> simp [asBin] at h; obtain ⟨rfl, rfl, rfl⟩ := h; exact ⟨_, rfl⟩
theorem asUn_of {e a : Expr} {o : UnaryOp} (h : asUn e = some (o, a)) : ∃ p, e = .UnaryOp o a p := by cases e <;> simp [asUn] at h; obtain ⟨rfl, rfl⟩ := h; exact ⟨_, rfl⟩
theorem asBool_of {e : Expr} {o : BoolOp} {es : List Expr} {p : Pos} (h : asBool e = some (o, es, p)) : e = .BoolOp o es p := by cases e <;> simp [asBool] at h; obtain ⟨rfl, rfl, rfl⟩ := h; rfl
theorem asCmp_of {e a : Expr} {os : List CmpOp} {es : List Expr} (h : asCmp e = some (a, os, es)) : ∃ p, e = .Compare a os es p := by cases e <;> simp [asCmp] at h; obtain ⟨rfl, rfl, rfl⟩ := h; exact ⟨_, rfl⟩
theorem asIf_of {e t a b : Expr} (h : asIf e = some (t, a, b)) : ∃ p, e = .IfExp t a b p := by cases e <;> simp [asIf] at h; obtain ⟨rfl, rfl, rfl⟩ := h; exact ⟨_, rfl⟩
theorem asSub_of {e a i : Expr} (h : asSub e = some (a, i)) : ∃ p, e = .Subscript a i p := by cases e <;> simp [asSub] at h; obtain ⟨rfl, rfl⟩ := h; exact ⟨_, rfl⟩
theorem asCall_of {e f : Expr} {es : List Expr} {ks : List Keyword} {p : Pos} (h : asCall e = some (f, es, ks, p)) : e = .Call f es ks p := by cases e <;> simp [asCall] at h; obtain ⟨rfl, rfl, rfl, rfl⟩ := h; rfl
theorem asLc_of {e x : Expr} {g : List Comprehension} {s : Scope} {p : Pos} (h : asLc e = some (x, g, s, p)) : e = .ListComp x g s p := by cases e <;> simp [asLc] at h; obtain ⟨rfl, rfl, rfl, rfl⟩ := h; rfl
theorem asStar_of {e x : Expr} (h : asStar e = some x) : ∃ p, e = .Starred x p := by cases e <;> simp [asStar] at h; exact ⟨_, by rw [h]⟩
theorem asSlice_of {e : Expr} {a b c : Option Expr} (h : asSlice e = some (a, b, c)) : ∃ p, e = .Slice a b c p := by cases e <;> simp [asSlice] at h; obtain ⟨rfl, rfl, rfl⟩ := h; exact ⟨_, rfl⟩

/-- not starred, no set display, no slice: an expression of a plain kind -/
def plainE : Expr → Bool
  | .Starred _ _ => false | .Set _ _ _ => false | .Slice _ _ _ _ => false | _ => true
/-- no f() without arguments: what stands ahead of a dot is its expression -/
def baseOk : Expr → Bool
  | .Call (.Name _ _) [] [] _ => false
  | _ => true
/-- e, *e -/
def lastStar : List Expr → Bool
  | [x, y] => plainE x && (asStar y).isSome
  | _ => false
/-- a test that is its expression's truth -/
def plainT : Expr → Bool
  | .UnaryOp .Not _ _ => false | .BoolOp _ _ _ => false | .IfExp _ _ _ _ => false | .Compare _ _ _ _ => false | _ => true

def opOf : BOp → Operator
  | .add => .Add | .sub => .Sub | .mul => .Mult | .fdiv => .FloorDiv | .mod => .Mod | .pow => .Pow
def cmpOf : COp → CmpOp
  | .eq => .Eq | .ne => .NotEq | .lt => .Lt | .le => .LtE | .gt => .Gt | .ge => .GtE | .isIn => .In | .notIn => .NotIn | .isN => .Is | .notN => .IsNot
def litOk : Lit → Const → Bool
  | .non, .none => true
  | .bl b, .bool b' => b == b'
  | .int i, .int j => i == j
  | .str s, .str t => decide (s = t)
  | _, _ => false
def bltName : Blt → Str
  | .len => "len" | .int => "int" | .abs => "abs" | .max2 => "max" | .min2 => "min" | .sorted => "sorted" | .list => "list" | .tuple => "tuple" | .str => "str" | .all => "all" | .any => "any" | .sum => "sum"
def bmName : Bm → Str
  | .append => "append" | .extend => "extend" | .index => "index" | .pop => "pop" | .popAt => "pop" | .clear => "clear" | .reverse => "reverse" | .insert => "insert" | .count => "count"
def noKw : List Keyword → Bool
  | [] => true
  | _ => false
/-- is e the number -1 as written -/
def isM1 : Expr → Bool
  | .UnaryOp .USub (.Constant (.int 1) _ _) _ => true
  | _ => false
theorem isM1_of {e : Expr} (h : isM1 e = true) : ∃ k p1 p2, e = .UnaryOp .USub (.Constant (.int 1) k p1) p2 := by
  unfold isM1 at h
  split at h
  · exact ⟨_, _, _, rfl⟩
  · cases h
def noneE : Option Expr → Bool
  | none => true
  | _ => false

/-- one for, no more -/
def asGen : List Comprehension → Option (Expr × Expr × List Expr)
  | [g] => if g.is_async = 0 then some (g.target, g.iter, g.ifs) else none
  | _ => none
theorem asGen_of {gs : List Comprehension} {t i : Expr} {c : List Expr} (h : asGen gs = some (t, i, c)) : gs = [⟨t, i, c, 0⟩] := by
  unfold asGen at h
  split at h
  · rename_i g
    obtain ⟨t', i', c', a⟩ := g
    simp at h
    obtain ⟨rfl, rfl, rfl, rfl⟩ := h
    rfl
  · cases h
/-- the targets of a loop: names at slots -/
def chkTgs (N : List Str) (sc : Scope) : List Nat → List Expr → Bool
  | [], [] => true
  | i :: is, e :: es => (match asName e with
    | some x => decide (N[i]? = some x) && locB sc x
    | none => false) && chkTgs N sc is es
  | _, _ => false
def chkTg (N : List Str) (sc : Scope) (tg : List Nat) (pat : Bool) (e : Expr) : Bool :=
  if pat then match asTuple e with
    | some es => chkTgs N sc tg es
    | none => false
  else match tg with
    | [i] => (match asName e with
      | some x => decide (N[i]? = some x) && locB sc x
      | none => false)
    | _ => false

def tyName : Ty → Str
  | .int => "int" | .bool => "bool" | .str => "str" | .list => "list" | .tuple => "tuple" | _ => "object"
def isNm (e : Expr) (x : Str) : Bool := match asName e with
  | some y => decide (y = x)
  | none => false
def chkTy (Z : Tab) (sc : Scope) : Ty → Expr → Bool
  | .cls _, _ => false
  | .tupList, e => match asTuple e with
    | some [a, b] => isNm a "tuple" && isNm b "list" && glB sc "tuple" && glB sc "list"
    | _ => false
  | t, e => isNm e (tyName t) && glB sc (tyName t)

/-- the loop's own names -/
def ownOf (N : List Str) (tg : List Nat) : List (Str × Nat) := tg.map fun k => ((N[k]?).getD Str.empty, k)
/-- pairs come only to a pattern -/
def itPat : It → Bool → Bool
  | .enum _, p => p
  | .zip _ _, p => p
  | _, _ => true
def isTupW : W → Bool
  | .tup _ => true
  | _ => false
theorem isNm_of {e : Expr} {x : Str} (h : isNm e x = true) : ∃ p, e = .Name x p := by
  unfold isNm at h
  cases z : asName e with
  | none => simp [z] at h
  | some y =>
    simp [z] at h
    subst h
    exact asName_of z
def isCmpE : E → Bool
  | .cmp _ _ _ => true | .chain _ _ _ _ _ => true | _ => false
def isStrE : E → Bool
  | .con (.str _) => true
  | _ => false
mutual
def chkE (Z : Tab) (C : Cfg) (N : List Str) : Scope → E → Expr → Bool
  | sc, .var i, e => match asName e with
    | some x => decide (N[i]? = some x) && visB sc x && okName x
    | none => false
  | sc, .con k, e => match asConst e with
    | some c => litOk k c
    | none => false
  | sc, .glob g, e => match asName e with
    | some x => decide (Z.gn g = x) && decide (g < Z.ng) && glB sc x && okName x
    | none => false
  | sc, .tup es, e => match asTuple e with
    | some xs => chkEs Z C N sc es xs
    | none => false
  | sc, .lst _ es, e => match asList e with
    | some xs => chkEs Z C N sc es xs
    | none => false
  | sc, .attr o f, e => match asAttr e with
    | some (x, y, _) => decide (f = y) && Z.flds.contains f && chkE Z C N sc o x && plainE x && baseOk x
    | none => false
  | sc, .bin _ op a b, e => match asBin e with
    | some (x, o, y) => decide (opOf op = o) && chkE Z C N sc a x && chkE Z C N sc b y
    | none => false
  | sc, .neg a, e => match asUn e with
    | some (o, x) => decide (o = .USub) && chkE Z C N sc a x
    | none => false
  | sc, .not t, e => match asUn e with
    | some (o, x) => decide (o = .Not) && chkV Z C N sc t x
    | none => false
  | sc, .and a b, e => match asBool e with
    | some (o, x :: y :: r, p) => decide (o = .And) && chkE Z C N sc a x && (if r.isEmpty then chkE Z C N sc b y else chkE Z C N sc b (.BoolOp .And (y :: r) p))
    | _ => false
  | sc, .or a b, e => match asBool e with
    | some (o, x :: y :: r, p) => decide (o = .Or) && chkE Z C N sc a x && (if r.isEmpty then chkE Z C N sc b y else chkE Z C N sc b (.BoolOp .Or (y :: r) p))
    | _ => false
  | sc, .cmp op a b, e => match asCmp e with
    | some (x, [o], [y]) => decide (cmpOf op = o) && chkE Z C N sc a x && chkE Z C N sc b y && plainE y
    | _ => false
  | sc, .chain op op' a b d, e => match asCmp e with
    | some (x, [o, o'], [y, z]) => decide (cmpOf op = o) && decide (cmpOf op' = o') && chkE Z C N sc a x && chkE Z C N sc b y && chkE Z C N sc d z && plainE z
    | _ => false
  | sc, .ife t a b, e => match asIf e with
    | some (x, y, z) => chkT Z C N sc t x && chkE Z C N sc a y && chkE Z C N sc b z
    | none => false
  | sc, .idx a i, e => match asSub e with
    | some (x, y) => chkE Z C N sc a x && chkE Z C N sc i y && plainE y
    | none => false
  | sc, .slc _ a lo hi, e => match asSub e with
    | some (x, y) => (match asSlice y with
      | some (l, h, st) => chkE Z C N sc a x && chkO Z C N sc lo l && chkO Z C N sc hi h && noneE st
      | none => false)
    | none => false
  | sc, .rev _ a, e => match asSub e with
    | some (x, y) => (match asSlice y with
      | some (none, none, some s) => chkE Z C N sc a x && isM1 s
      | _ => false)
    | none => false
  | sc, .call f es, e => match asCall e with
    | some (x, xs, ks, _) => (match asName x with
      | some y => decide (Z.fnm f = y) && glB sc y && okName y && noKw ks && chkEs Z C N sc es xs && xs.all plainE && (match C.fn f with | some r => decide (r.cls = none) | none => false)
      | none => false)
    | none => false
  | sc, .callD f dz es, e => match asCall e with
    | some (x, xs, ks, _) => (match asName x with
      | some y => decide (Z.fnm f = y) && glB sc y && okName y && noKw ks && chkEs Z C N sc es xs && xs.all plainE && !xs.isEmpty && decide ((f, dz) ∈ Z.dfs) && (match C.fn f with | some r => decide (r.cls = none) | none => false)
      | none => false)
    | none => false
  | sc, .meth f o es, e => match asCall e with
    | some (x, xs, ks, p) => (match asAttr x with
      | some (y, m, q) => decide (Z.fnm f = m) && noKw ks && chkE Z C N sc o y && baseOk y && decide (q.endLine = p.line) && decide (xs.length < 20) && chkEs Z C N sc es xs && xs.all plainE && (C.fn f).isSome
      | none => false)
    | none => false
  | sc, .callK f ks ord es, e => match asCall e with
    | some (x, xs, kw, _) => (match asName x with
      | some y => decide (Z.fnm f = y) && glB sc y && okName y && xs.isEmpty && chkKs Z C N sc es ks kw && decide ((f, ks, ord) ∈ Z.kws) && (match C.fn f with | some r => decide (r.cls = none) | none => false)
      | none => false)
    | none => false
  | sc, .make c _ es, e => match asCall e with
    | some (x, xs, ks, _) => (match asName x with
      | some y => decide (Z.cn c = y) && decide (c < Z.nc) && glB sc y && okName y && noKw ks && chkEs Z C N sc es xs && (xs.all plainE || lastStar xs) && (match C.cls c with | some r => (C.fn r.init).isSome | none => false)
      | none => false)
    | none => false
  | sc, .makeK c _ nd ks ord es kes, e => match asCall e with
    | some (x, xs, kw, _) => (match asName x with
      | some y => decide (Z.cn c = y) && decide (c < Z.nc) && glB sc y && okName y && decide (xs.length < 20) && chkEs Z C N sc es xs && xs.all plainE && chkKs Z C N sc kes ks kw && decide ((c, nd, xs.length, ks, ord) ∈ Z.mkk) && (match C.cls c with | some r => (C.fn r.init).isSome | none => false)
      | none => false)
    | none => false
  | sc, .blt _ b es, e => match asCall e with
    | some (x, xs, ks, _) => (match asName x with
      | some y => decide (bltName b = y) && glB sc y && noKw ks && chkEs Z C N sc es xs && xs.all plainE && !xs.isEmpty
      | none => false)
    | none => false
  | sc, .isi o t, e => match asCall e with
    | some (x, [y, z], ks, _) => (match asName x with
      | some w => decide (w = ("isinstance" : Str)) && glB sc w && noKw ks && chkE Z C N sc o y && plainE y && chkTy Z sc t z
      | none => false)
    | _ => false
  | sc, .bm m o es, e => match asCall e with
    | some (x, xs, ks, p) => (match asAttr x with
      | some (y, n, q) => decide (bmName m = n) && noKw ks && chkE Z C N sc o y && plainE y && baseOk y && chkEs Z C N sc es xs && xs.all plainE && decide (q.endLine = p.line) && decide (xs.length < 20)
      | none => false)
    | none => false
  | sc, .lc _ tg pat it cond elt, e => match asLc e with
    | some (x, gs, s, _) => (match asGen gs with
      | some (t, i, ifs) => chkTg N s tg pat t && chkIt Z C N sc it i && itPat it pat && plainE i && L2.blkC N sc s (ownOf N tg) && (tg.all fun k => (N[k]?).isSome) &&
          (match ifs with
          | [] => (match cond with | .yes => true | _ => false)
          | [q] => chkT Z C N (L2.relS s sc) cond q
          | _ => false) && chkE Z C N (L2.relS s sc) elt x
      | none => false)
    | none => false
  | sc, .frz o, e => chkE Z C N sc o e
  | sc, .lrng _ a b, e => match asCall e with
    | some (f, [w], ks, _) => (match asName f with
      | some n => decide (n = ("list" : Str)) && glB sc n && noKw ks && (match asCall w with
        | some (g, [y, z], ks2, _) => (match asName g with
          | some n2 => decide (n2 = ("range" : Str)) && glB sc n2 && noKw ks2 && chkE Z C N sc a y && plainE y && chkE Z C N sc b z && plainE z
          | none => false)
        | _ => false)
      | none => false)
    | _ => false
  | sc, .sjoin a b, e => match asCall e with
    | some (x, [y], ks, p) => (match asAttr x with
      | some (z, n, q) => decide (n = ("join" : Str)) && noKw ks && chkE Z C N sc a z && plainE z && baseOk z && chkE Z C N sc b y && plainE y && decide (q.endLine = p.line)
      | none => false)
    | _ => false
  | sc, .fstr es, e => match asJoined e with
    | some xs => decide (2 ≤ xs.length) && chkFs Z C N sc es xs
    | none => false
  | sc, .lset a, e => match asCall e with
    | some (f, [w], ks, _) => (match asName f with
      | some n => decide (n = ("len" : Str)) && glB sc n && noKw ks && (match asCall w with
        | some (g, [y], ks2, _) => (match asName g with
          | some n2 => decide (n2 = ("set" : Str)) && glB sc n2 && noKw ks2 && chkE Z C N sc a y && plainE y
          | none => false)
        | _ => false)
      | none => false)
    | _ => false
  | sc, .methK f ks ord o es, e => match asCall e with
    | some (x, xs, kw, p) => (match asAttr x with
      | some (y, m, q) => decide (Z.fnm f = m) && xs.isEmpty && chkE Z C N sc o y && baseOk y && decide (q.endLine = p.line) && chkKs Z C N sc es ks kw && decide (kw.length < 20) && decide ((f, ks, ord) ∈ Z.kwm) && (C.fn f).isSome
      | none => false)
    | none => false
  | sc, .gidx g o, e => match asCall e with
    | some (x, [y], ks, p) => (match asAttr x with
      | some (z, n, q) => isNm z (Z.gn g) && decide (g < Z.ng) && glB sc (Z.gn g) && okName (Z.gn g) && decide (n = ("index" : Str)) && noKw ks && chkE Z C N sc o y && plainE y && decide (q.endLine = p.line) && isTupW (C.glob g)
      | none => false)
    | _ => false
def chkFs (Z : Tab) (C : Cfg) (N : List Str) : Scope → Es → List Expr → Bool
  | sc, .nil, xs => xs.isEmpty
  | sc, .cons e es, xs => match xs with
    | x :: r => (match asFmt x with
      | some y => chkE Z C N sc e y
      | none => isStrE e && chkE Z C N sc e x) && chkFs Z C N sc es r
    | [] => false
  | sc, .star _ _, _ => false
def chkEs (Z : Tab) (C : Cfg) (N : List Str) : Scope → Es → List Expr → Bool
  | sc, .nil, xs => xs.isEmpty
  | sc, .cons e es, xs => match xs with
    | x :: r => chkE Z C N sc e x && plainE x && chkEs Z C N sc es r
    | [] => false
  | sc, .star e es, xs => match xs with
    | x :: r => (match asStar x with
      | some y => chkE Z C N sc e y && chkEs Z C N sc es r
      | none => false)
    | [] => false
def chkKs (Z : Tab) (C : Cfg) (N : List Str) : Scope → Es → List Str → List Keyword → Bool
  | sc, .nil, ks, kw => ks.isEmpty && kw.isEmpty
  | sc, .cons e es, ks, kw => match ks, kw with
    | k :: ks, q :: kw => decide (q.arg = some k) && chkE Z C N sc e q.value && chkKs Z C N sc es ks kw
    | _, _ => false
  | _, .star _ _, _, _ => false
def chkIt (Z : Tab) (C : Cfg) (N : List Str) : Scope → It → Expr → Bool
  | sc, .lst e, x => chkE Z C N sc e x
  | sc, .tup e, x => chkE Z C N sc e x
  | sc, .rng e, x => match asCall x with
    | some (f, [y], ks, _) => (match asName f with
      | some n => decide (n = ("range" : Str)) && glB sc n && noKw ks && chkE Z C N sc e y && plainE y
      | none => false)
    | _ => false
  | sc, .rng2 a b, x => match asCall x with
    | some (f, [y, z], ks, _) => (match asName f with
      | some n => decide (n = ("range" : Str)) && glB sc n && noKw ks && chkE Z C N sc a y && plainE y && chkE Z C N sc b z && plainE z
      | none => false)
    | _ => false
  | sc, .rng3 es, x => match asCall x with
    | some (f, [y, z, w], ks, _) => (match asName f with
      | some n => decide (n = ("range" : Str)) && glB sc n && noKw ks && chkEs Z C N sc es [y, z, w] && plainE y && plainE z && plainE w
      | none => false)
    | _ => false
  | sc, .enum e, x => match asCall x with
    | some (f, [y], ks, _) => (match asName f with
      | some n => decide (n = ("enumerate" : Str)) && glB sc n && noKw ks && chkE Z C N sc e y && plainE y
      | none => false)
    | _ => false
  | sc, .zip a b, x => match asCall x with
    | some (f, [y, z], ks, _) => (match asName f with
      | some n => decide (n = ("zip" : Str)) && glB sc n && noKw ks && chkE Z C N sc a y && plainE y && chkE Z C N sc b z && plainE z
      | none => false)
    | _ => false
def chkO (Z : Tab) (C : Cfg) (N : List Str) : Scope → O → Option Expr → Bool
  | sc, .none, x => noneE x
  | sc, .some e, x => match x with
    | some y => chkE Z C N sc e y
    | none => false
/-- as a value under not -/
def chkV (Z : Tab) (C : Cfg) (N : List Str) : Scope → T → Expr → Bool
  | sc, .e e, x => chkE Z C N sc e x
  | _, _, _ => false
def chkT (Z : Tab) (C : Cfg) (N : List Str) : Scope → T → Expr → Bool
  | sc, .yes, x => false
  | sc, .e e, x => chkE Z C N sc e x && (plainT x || isCmpE e)
  | sc, .not t, x => match asUn x with
    | some (o, y) => decide (o = .Not) && chkT Z C N sc t y
    | none => false
  | sc, .and a b, x => match asBool x with
    | some (o, u :: v :: r, p) => decide (o = .And) && chkT Z C N sc a u && (if r.isEmpty then chkT Z C N sc b v else chkT Z C N sc b (.BoolOp .And (v :: r) p))
    | _ => false
  | sc, .or a b, x => match asBool x with
    | some (o, u :: v :: r, p) => decide (o = .Or) && chkT Z C N sc a u && (if r.isEmpty then chkT Z C N sc b v else chkT Z C N sc b (.BoolOp .Or (v :: r) p))
    | _ => false
end

/-! ### statements -/
def asAssign : Stmt → Option (Expr × Expr × Pos) | .Assign [t] v p => some (t, v, p) | _ => none
theorem asAssign_of {s : Stmt} {t v : Expr} {p : Pos} (h : asAssign s = some (t, v, p)) : s = .Assign [t] v p := by
  unfold asAssign at h
  split at h
  · cases h; rfl
  · cases h
def asAug : Stmt → Option (Expr × Operator × Expr × Pos) | .AugAssign t o v p => some (t, o, v, p) | _ => none
theorem asAug_of {s : Stmt} {t v : Expr} {o : Operator} {p : Pos} (h : asAug s = some (t, o, v, p)) : s = .AugAssign t o v p := by
  cases s <;> simp [asAug] at h
  obtain ⟨rfl, rfl, rfl, rfl⟩ := h
  rfl
def asExpr : Stmt → Option (Expr × Pos) | .Expr e p => some (e, p) | _ => none
theorem asExpr_of {s : Stmt} {e : Expr} {p : Pos} (h : asExpr s = some (e, p)) : s = .Expr e p := by
  cases s <;> simp [asExpr] at h
  obtain ⟨rfl, rfl⟩ := h
  rfl
def asIfS : Stmt → Option (Expr × List Stmt × List Stmt) | .If t a b _ => some (t, a, b) | _ => none
theorem asIfS_of {s : Stmt} {t : Expr} {a b : List Stmt} (h : asIfS s = some (t, a, b)) : ∃ p, s = .If t a b p := by
  cases s <;> simp [asIfS] at h
  obtain ⟨rfl, rfl, rfl⟩ := h
  exact ⟨_, rfl⟩
def asFor : Stmt → Option (Expr × Expr × List Stmt) | .For t i b [] _ => some (t, i, b) | _ => none
theorem asFor_of {s : Stmt} {t i : Expr} {b : List Stmt} (h : asFor s = some (t, i, b)) : ∃ p, s = .For t i b [] p := by
  unfold asFor at h
  split at h
  · cases h; exact ⟨_, rfl⟩
  · cases h
def asWhile : Stmt → Option (Expr × List Stmt) | .While t b [] _ => some (t, b) | _ => none
theorem asWhile_of {s : Stmt} {t : Expr} {b : List Stmt} (h : asWhile s = some (t, b)) : ∃ p, s = .While t b [] p := by
  unfold asWhile at h
  split at h
  · cases h; exact ⟨_, rfl⟩
  · cases h
def asRet : Stmt → Option (Option Expr) | .Return e _ => some e | _ => none
theorem asRet_of {s : Stmt} {e : Option Expr} (h : asRet s = some e) : ∃ p, s = .Return e p := by
  cases s <;> simp [asRet] at h
  subst h
  exact ⟨_, rfl⟩
def asRaise : Stmt → Option Expr | .Raise (some e) none _ => some e | _ => none
theorem asRaise_of {s : Stmt} {e : Expr} (h : asRaise s = some e) : ∃ p, s = .Raise (some e) none p := by
  unfold asRaise at h
  split at h
  · cases h; exact ⟨_, rfl⟩
  · cases h
def isPass : Stmt → Bool | .Pass _ => true | _ => false
def isBrk : Stmt → Bool | .Break _ => true | _ => false
def isCont : Stmt → Bool | .Continue _ => true | _ => false
theorem isPass_of {s : Stmt} (h : isPass s = true) : ∃ p, s = .Pass p := by cases s <;> simp [isPass] at h; exact ⟨_, rfl⟩
theorem isBrk_of {s : Stmt} (h : isBrk s = true) : ∃ p, s = .Break p := by cases s <;> simp [isBrk] at h; exact ⟨_, rfl⟩
theorem isCont_of {s : Stmt} (h : isCont s = true) : ∃ p, s = .Continue p := by cases s <;> simp [isCont] at h; exact ⟨_, rfl⟩
/-- no comprehension: its value is stored as it comes -/
def notComp : Expr → Bool
  | .ListComp _ _ _ _ => false | .SetComp _ _ _ _ => false | .DictComp _ _ _ _ _ => false | _ => true
/-- how a target is written -/
def chkG (Z : Tab) (C : Cfg) (N : List Str) (sc : Scope) : Tg → Expr → Bool
  | .name i, e => match asName e with
    | some x => decide (N[i]? = some x) && locB sc x
    | none => false
  | .attr o f, e => match asAttr e with
    | some (x, y, _) => decide (f = y) && Z.flds.contains f && chkE Z C N sc o x
    | none => false
  | .sub o i, e => match asSub e with
    | some (x, y) => chkE Z C N sc o x && chkE Z C N sc i y && plainE y
    | none => false
def chkGs (Z : Tab) (C : Cfg) (N : List Str) (sc : Scope) : List Tg → List Expr → Bool
  | [], [] => true
  | t :: ts, e :: es => chkG Z C N sc t e && plainE e && chkGs Z C N sc ts es
  | _, _ => false
def tgName : Tg → Option Nat | .name i => some i | _ => none
/-- the targets are two or three plain local names on one line: the stores are swapped -/
def posLine : Expr → Nat := fun e => e.pos.line
def nmLocal (sc : Scope) (l : Nat) (e : Expr) : Bool := match e with
  | .Name x p => lclB sc x && decide (p.line = l)
  | _ => false
/-- no store is swapped: a target that is no plain local name of the first one's line, or four and more -/
def noSwap (sc : Scope) (ts : List Expr) : Bool := match ts with
  | [] => true
  | t :: _ => !(decide (ts.length = 2) || decide (ts.length = 3)) || !(ts.all (nmLocal sc (posLine t)))
def chkAug (op : BOp) (o : Operator) : Bool := match op, o with
  | .add, .Add => true | .sub, .Sub => true | _, _ => false
def chkRaise (Z : Tab) (C : Cfg) (N : List Str) (sc : Scope) (k : Nat) : O → Expr → Bool
  | .none, e => match asCall e with
    | some (f, [a], ks, _) => isNm f (Z.xn k) && glB sc (Z.xn k) && okName (Z.xn k) && noKw ks && (match asConst a with | some (.str _) => true | _ => false)
    | _ => false
  | .some a, e => match asCall e with
    | some (f, [x], ks, _) => isNm f (Z.xn k) && glB sc (Z.xn k) && okName (Z.xn k) && noKw ks && chkE Z C N sc a x && plainE x
    | _ => false
def isLcE : E → Bool
  | .lc _ _ _ _ _ _ => true | _ => false
def isFnK (sc : Scope) : Bool := match sc.kind with | .function => true | _ => false
/-- the names whose stores are swapped -/
def swNames (sc : Scope) (ts : List Expr) : List Str := ts.filterMap fun
    | .Name id pos => if sc.names.lookup id == some .local && pos.line == (ts.head?.map (·.pos.line)).getD 0 then some id else none
    | _ => none
def isStarX : Expr → Bool
  | .Starred _ _ => true | _ => false
/-- what swappedStores says -/
def swOpt (sc : Scope) (ts vs : List Expr) : Option (Option (List Str)) :=
  if !(ts.length == 2 || ts.length == 3) || vs.length != ts.length then some none else
  if vs.any isStarX then some none else
  if (swNames sc ts).length != ts.length || (swNames sc ts).eraseDups.length != (swNames sc ts).length then some none else
  if vs.all (foldedForSure 8) then some none else
  if vs.all (constantsAlone 8) then none else some (some (swNames sc ts))
def chkSwap (N : List Str) (sc : Scope) (ts : List Tg) (xs vs : List Expr) : Bool := match swOpt sc xs vs with
  | none => false
  | some none => true
  | some (some ns) => (match xs, vs, ts with
    | [a, b], [_, _], [.name i, .name j] => (match asName a, asName b with
      | some x, some y => decide (ns = [x, y]) && lclB sc x && lclB sc y && decide (N[i]? = some x) && decide (N[j]? = some y) && decide (i ≠ j)
      | _, _ => false)
    | [a, b, d], [_, _, _], [.name i, .name j, .name k] => (match asName a, asName b, asName d with
      | some x, some y, some z => decide (ns = [x, y, z]) && lclB sc x && lclB sc y && lclB sc z && decide (N[i]? = some x) && decide (N[j]? = some y) && decide (N[k]? = some z) && decide (i ≠ j) && decide (i ≠ k) && decide (j ≠ k)
      | _, _, _ => false)
    | _, _, _ => false)
def chkInt : E → Expr → Bool
  | .con (.int k), e => (match asConst e with
    | some (.int j) => k == j
    | _ => false)
  | _, _ => false
mutual
def chkS (Z : Tab) (C : Cfg) (N : List Str) (sc : Scope) : S → Stmt → Bool
  | .asg i e, s => match asAssign s with
    | some (t, v, p) => (match asName t with
      | some x => decide (N[i]? = some x) && locB sc x && chkE Z C N sc e v && ((notComp v || celB sc x) || (lclB sc x && (match asLc v with
          | some (_, _, sc2, _) => decide ((Expr.pos t).line = (Expr.pos v).line) && !(sc2.names.any fun (n, k) => n == x && (k == .local || k == .cell)) && isLcE e && isFnK sc
          | none => false)))
      | none => false)
    | none => false
  | .asgT t e, s => match asAssign s with
    | some (x, v, _) => chkG Z C N sc t x && chkE Z C N sc e v && (asName x).isNone
    | none => false
  | .par ts es, s => match asAssign s with
    | some (x, v, _) => (match asTuple x, asTuple v with
      | some xs, some vs => chkGs Z C N sc ts xs && chkEs Z C N sc es vs && decide (xs.length = vs.length) && decide (xs.length < 20) && isFnK sc && chkSwap N sc ts xs vs
      | _, _ => false)
    | none => false
  | .unp ts e, s => match asAssign s with
    | some (x, v, _) => (match asTuple x with
      | some xs => chkGs Z C N sc ts xs && chkE Z C N sc e v && (asTuple v).isNone
      | none => false)
    | none => false
  | .aug i op e, s => match asAug s with
    | some (t, o, v, _) => (match asName t with
      | some x => decide (N[i]? = some x) && locB sc x && okName x && chkAug op o && chkE Z C N sc e v
      | none => false)
    | none => false
  | .augA o f op e, s => match asAug s with
    | some (t, q, v, _) => (match asAttr t with
      | some (x, y, _) => decide (f = y) && Z.flds.contains f && chkE Z C N sc o x && chkAug op q && chkInt e v
      | none => false)
    | none => false
  | .ex e, s => match asExpr s with
    | some (x, _) => chkE Z C N sc e x && notComp x
    | none => false
  | .ife t a b, s => match asIfS s with
    | some (x, y, z) => chkT Z C N sc t x && chkSs Z C N sc a y && chkSs Z C N sc b z
    | none => false
  | .for tg pat it body, s => match asFor s with
    | some (t, i, b) => chkTg N sc tg pat t && chkIt Z C N sc it i && itPat it pat && plainE i && chkSs Z C N sc body b
    | none => false
  | .whl t body, s => match asWhile s with
    | some (x, b) => chkT Z C N sc t x && chkSs Z C N sc body b
    | none => false
  | .ret e, s => match asRet s with
    | some (some x) => chkE Z C N sc e x
    | _ => false
  | .retN, s => match asRet s with
    | some none => true
    | _ => false
  | .raise _ _, _ => false
  | .pass, s => isPass s
  | .brk, s => isBrk s
  | .cont, s => isCont s
  | .never, _ => true
def chkSs (Z : Tab) (C : Cfg) (N : List Str) (sc : Scope) : Ss → List Stmt → Bool
  | .nil, ss => ss.isEmpty
  | .cons s r, ss => match ss with
    | x :: xs => chkS Z C N sc s x && chkSs Z C N sc r xs
    | [] => false
  | .frz _ r, ss => chkSs Z C N sc r ss
end
end Lw

set_option maxHeartbeats 1000000
namespace Lw
open PySem PySem.Spec PyProof.Rows L2

/-! ### what the scope says -/
theorem visB_of {sc : Scope} {x : Str} (h : visB sc x = true) : L2.Vis sc x := by
  unfold visB at h
  split at h
  · exact .inl (by assumption)
  · exact .inr (.inl (by assumption))
  · exact .inr (.inr (by assumption))
  · cases h
theorem locB_of {sc : Scope} {x : Str} (h : locB sc x = true) : L2.Loc sc x := by
  unfold locB at h
  split at h
  · exact .inl (by assumption)
  · exact .inr (by assumption)
  · cases h
theorem lclB_of {sc : Scope} {x : Str} (h : lclB sc x = true) : sc.names.lookup x = some .local := by
  unfold lclB at h
  split at h
  · assumption
  · cases h
theorem glB_of {sc : Scope} {x : Str} (h : glB sc x = true) : sc.names.lookup x = some .globalImplicit := by
  unfold glB at h
  split at h
  · assumption
  · cases h
theorem okName_dbg {x : Str} (h : okName x = true) : (x == ("__debug__" : Str)) = false := by
  unfold okName at h
  simp only [Bool.and_eq_true, Bool.not_eq_true'] at h
  exact h.1.1
theorem okName_cd {x : Str} (h : okName x = true) : (x == ("__classdict__" : Str)) = false := by
  unfold okName at h
  simp only [Bool.and_eq_true, Bool.not_eq_true'] at h
  exact h.1.2
theorem okName_nm {x : Str} (h : okName x = true) : x ≠ "__name__" := by
  unfold okName at h
  simp only [Bool.and_eq_true, Bool.not_eq_true', decide_eq_false_iff_not] at h
  exact h.2

/-! ### plain expressions -/
theorem star_of {e : Expr} (h : plainE e = true) (es : List Expr) (env : PySem.Env) : starEach (e :: es) env = (false, eval e env) :: starEach es env := by
  cases e <;> first | rfl | (simp [plainE] at h)
theorem nostar {es : List Expr} (h : es.all plainE = true) (pos : Pos) (env : PySem.Env) : (backTo pos (starEach es env)).any (·.1) = false := by
  induction es with
  | nil => rfl
  | cons e es ih =>
    rw [List.all_cons, Bool.and_eq_true] at h
    rw [star_of h.1]
    show (false || (backTo pos (starEach es env)).any (·.1)) = false
    rw [ih h.2]
    rfl
theorem behind_of {e : Expr} (h : plainE e = true) (op : CmpOp) : behindInMarks op e = false := by
  cases e <;> first | rfl | (simp [plainE] at h)
theorem sub_of {e : Expr} (h : plainE e = true) : PlainIx e := by
  cases e <;> first | (intro _ _; rfl) | (simp [plainE] at h)
theorem iter_of {e : Expr} (h : plainE e = true) (env : PySem.Env) : ∀ x, foldedSetIterable e env x = pure x := by
  cases e <;> first | (intro _; rfl) | (simp [plainE] at h)
theorem abase_of {e : Expr} {f : Str} (h : baseOk e = true) (env : PySem.Env) : attributeBase e f env (eval e env) = eval e env := by
  cases e <;> try rfl
  rename_i f es ks p
  cases f <;> try rfl
  cases es <;> try rfl
  cases ks <;> try rfl
  cases h
theorem plainT_of {e : Expr} (h : plainT e = true) (env : PySem.Env) : ∀ whole, isTrue e env whole = (do let v ← whole; standAt e.pos; holding [v] (truthy v)) := by
  intro whole
  cases e <;> first | rfl | (simp [plainT] at h) | skip
  rename_i o a p
  cases o <;> first | rfl | (simp [plainT] at h)

section
variable {K : PySem.W.Frag} {ca : CA} {ef : Nat → Str} {WX : L2.WX} {X : Cx} {g : G} {m : Mem} {d : List Nat} {H : Hp}
variable {WE : Exn → Env → Value → Option Addr → Hp → G → Mem → List Nat → Prop}
/-! ### ends -/
theorem fin_mkT {ws : List W} {vs : List V} {Q : V → Hp → G → Mem → List Nat → W → Prop} (h : Fin K ca ef (Rep K ca) WE (fun ω m c => mkT ws m c) g m d H Q) (r : RelM K ca g m d.length H) (q : Reps K ca g ws vs) :
    vs.length ≤ sizeLine ∧ ∀ p, H p = none → ∃ g', Step g H g' (upd H p (.tup vs)) ∧ RelM K ca g' m d.length (upd H p (.tup vs)) ∧ Q (.ref p) (upd H p (.tup vs)) g' m d (.tup ws) := by
  have hl := Reps.length q
  by_cases z : ws.length ≤ sizeLine
  · refine ⟨by omega, fun p n => ⟨g.frz p (.tup vs), step_frz r n, rel_frz r n, ?_⟩⟩
    refine h.fin (fun ω => by show mkT ws m d.length = _; unfold mkT; rw [if_pos z]) (step_frz r n) (rel_frz r n) ?_
    simp only [Rep]
    exact ⟨p, vs, rfl, SqT.of (show upd g.S p (.tup vs) p = _ from upd_same), Reps.mono (Le.frz (r.Snone n)) _ _ q⟩
  · exact h.not (fun ω => by show mkT ws m d.length = _; unfold mkT; rw [if_neg z])
theorem fin_mkL {cell : Bool} {ws : List W} {vs : List V} {Q : V → Hp → G → Mem → List Nat → W → Prop} (h : Fin K ca ef (Rep K ca) WE (fun ω m c => mkL cell ws m c) g m d H Q) (r : RelM K ca g m d.length H) (q : Reps K ca g ws vs) :
    vs.length ≤ sizeLine ∧ ∀ p, H p = none → ∃ g' m' w, Q (.ref p) (upd H p (.lst vs)) g' m' d w := by
  have hl := Reps.length q
  by_cases z : ws.length ≤ sizeLine
  · refine ⟨by omega, fun p n => ?_⟩
    cases cell with
    | false =>
      refine ⟨g.frz p (.lst vs), m, .lst ws, h.fin (fun ω => by show mkL false ws m d.length = _; unfold mkL; rw [if_pos z]; rfl) (step_frz r n) (rel_frz r n) ?_⟩
      simp only [Rep]
      exact ⟨p, vs, rfl, (show upd g.S p (.lst vs) p = _ from upd_same), Reps.mono (Le.frz (r.Snone n)) _ _ q⟩
    | true =>
      have l := Le.cell (p := p) (r.μnone (Nat.le_refl m.length))
      have rc := rel_cell (o := .lst vs) r n (x := .lst ws) ⟨vs, upd_same, Reps.mono l _ _ q⟩
      refine ⟨g.cell m.length p, m ++ [.lst ws], .ptr m.length, h.fin (fun ω => by show mkL true ws m d.length = _; unfold mkL; rw [if_pos z]; rfl) (step_cell r n) rc ?_⟩
      simp only [Rep]
      exact ⟨p, rfl, if_pos rfl⟩
  · exact h.not (fun ω => by show mkL cell ws m d.length = _; unfold mkL; rw [if_neg z])
/-! ### looks through a pointer -/
/-- what stands behind a value now -/
theorem Rep.view {w : W} {v : V} (r : RelM K ca g m c H) (q : Rep K ca g w v) :
    (∀ xs, vw m w = .lst xs → ∃ a vs, v = .ref a ∧ H a = some (.lst vs) ∧ Reps K ca g xs vs) ∧
    (∀ xs, vw m w = .tup xs → ∃ a vs, v = .ref a ∧ SqT K H a vs ∧ Reps K ca g xs vs) ∧
    (∀ k ks ws, vw m w = .obj k ks ws → ∃ a dx vs, v = .ref a ∧ H a = some (.ins (ca k) dx (ks.zip vs)) ∧ KsOk ca ks ws ∧ Reps K ca g ws vs) ∧
    (∀ ns, vw m w = .scr ns → ∃ a, v = .ref a ∧ SqL K H a (ns.map V.int)) := by
  cases w with
  | ptr n =>
    simp only [Rep] at q
    obtain ⟨a, rfl, hμ⟩ := q
    cases e : m[n]? with
    | none =>
      have hv : vw m (.ptr n) = .bad := by simp [vw, e]
      rw [hv]
      refine ⟨?_, ?_, ?_, ?_⟩ <;> intros <;> rename_i z <;> simp at z
    | some x =>
      obtain ⟨a', h1, h2⟩ := r.live n x e
      rw [hμ] at h1
      cases h1
      cases x with
      | lst xs =>
        have hv : vw m (.ptr n) = .lst xs := by simp [vw, e]
        rw [hv]
        refine ⟨fun ys z => ?_, fun _ z => by simp at z, fun _ _ _ z => by simp at z, fun _ z => by simp at z⟩
        simp at z
        subst z
        obtain ⟨vs, h3, h4⟩ := h2
        exact ⟨a, vs, rfl, h3, h4⟩
      | ins k ks ws =>
        have hv : vw m (.ptr n) = .obj k ks ws := by simp [vw, e]
        rw [hv]
        refine ⟨fun ys z => by simp at z, fun _ z => by simp at z, fun _ _ _ z => ?_, fun _ z => by simp at z⟩
        simp at z
        obtain ⟨rfl, rfl, rfl⟩ := z
        obtain ⟨dx, vs, h3, h4, h5⟩ := h2
        exact ⟨a, dx, vs, rfl, h3, h4, h5⟩
      | dead =>
        have hv : vw m (.ptr n) = .bad := by simp [vw, e]
        rw [hv]
        refine ⟨?_, ?_, ?_, ?_⟩ <;> intros <;> rename_i z <;> simp at z
  | lst xs =>
    simp only [Rep] at q
    obtain ⟨a, vs, e, h1, h2⟩ := q
    refine ⟨fun ys z => ?_, fun _ z => by simp [vw] at z, fun _ _ _ z => by simp [vw] at z, fun _ z => by simp [vw] at z⟩
    simp [vw] at z
    subst z
    exact ⟨a, vs, e, r.sub _ _ h1, h2⟩
  | tup xs =>
    simp only [Rep] at q
    obtain ⟨a, vs, e, h1, h2⟩ := q
    refine ⟨fun ys z => by simp [vw] at z, fun ys z => ?_, fun _ _ _ z => by simp [vw] at z, fun _ z => by simp [vw] at z⟩
    simp [vw] at z
    subst z
    exact ⟨a, vs, e, SqT.sub r.sub h1, h2⟩
  | obj k ks ws =>
    simp only [Rep] at q
    obtain ⟨a, dx, vs, e, h1, h3, h2⟩ := q
    refine ⟨fun ys z => by simp [vw] at z, fun _ z => by simp [vw] at z, fun _ _ _ z => ?_, fun _ z => by simp [vw] at z⟩
    simp [vw] at z
    obtain ⟨rfl, rfl, rfl⟩ := z
    exact ⟨a, dx, vs, e, r.sub _ _ h1, h3, h2⟩
  | scr ns =>
    simp only [Rep] at q
    obtain ⟨a, e, h1⟩ := q
    refine ⟨fun ys z => by simp [vw] at z, fun _ z => by simp [vw] at z, fun _ _ _ z => by simp [vw] at z, fun _ z => ?_⟩
    simp [vw] at z
    subst z
    exact ⟨a, e, SqL.sub r.sub h1⟩
  | _ => refine ⟨?_, ?_, ?_, ?_⟩ <;> intros <;> rename_i z <;> simp [vw] at z
/-- as flat things -/
theorem vw_flat {w : W} (h : ∀ n, w ≠ .ptr n) : vw m w = w := by
  cases w <;> first | rfl | (exact absurd rfl (h _))
theorem Rep.int {i : Int} {w : W} {v : V} (q : Rep K ca g w v) (e : vw m w = .int i) : v = .int i := by
  cases w <;> simp [vw] at e
  · subst e; simpa only [Rep] using q
  · split at e <;> simp at e
theorem Rep.str {i : Str} {w : W} {v : V} (q : Rep K ca g w v) (e : vw m w = .str i) : v = .str i := by
  cases w <;> simp [vw] at e
  · subst e; simpa only [Rep] using q
  · split at e <;> simp at e
theorem Rep.bl {i : Bool} {w : W} {v : V} (q : Rep K ca g w v) (e : vw m w = .bl i) : v = .bl i := by
  cases w <;> simp [vw] at e
  · subst e; simpa only [Rep] using q
  · split at e <;> simp at e
theorem Rep.non {w : W} {v : V} (q : Rep K ca g w v) (e : vw m w = .non) : v = .non := by
  cases w <;> simp [vw] at e
  · simpa only [Rep] using q
  · split at e <;> simp at e
end
end Lw

set_option maxHeartbeats 1000000
namespace Lw
open PySem PySem.Spec PyProof.Rows L2

/-- where the defs stand -/
structure FT where
  fa : Nat → Addr
  fd : Nat → FuncData
  ps : Nat → List Str
def lev (n : Nat) : Nat := 2 * n + 2
def g0 : G := ⟨fun _ => none, fun _ => none, fun _ => False⟩
theorem Le.of0 (g : G) : Le Lw.g0 g := ⟨fun _ _ h => (nomatch h), fun _ _ h => (nomatch h), fun _ h => h.elim⟩

section
variable (Z : Tab) (C : Cfg) (prim : Nat → Option Prim) (ca : CA) (ef : Nat → Str) (F : FT)
/-- what the top has left -/
structure Facts (K : PySem.W.Frag) (mg : Str → Option Value) : Prop where
  gl : ∀ i, i < Z.ng → ∃ u v, mg (Z.gn i) = some u ∧ RelV v u ∧ Rep K ca Lw.g0 (C.glob i) v
  gd : ∀ i, i < Z.ng → isTupW (C.glob i) = true → ∀ t, mg (Z.gn i) = some (.ref t) → ∃ o, K.lookup t = some o ∧ o.cls = .type "tuple" ∧ o.dict = none
  blt : ∀ b : Blt, mg (bltName b) = none
  isin : mg "isinstance" = none
  rng : mg "range" = none
  enu : mg "enumerate" = none
  zip : mg "zip" = none
  boo : mg "bool" = none
  set : mg "set" = none
  hfl : ca.flds = Z.flds
  cls : ∀ c f, ca.flds.contains f = true → Cls K (ca c) ∧ NoAttr K (ca c) f
  cgl : ∀ c, c < Z.nc → mg (Z.cn c) = some (.ref (ca c))
  fnG : ∀ f r, C.fn f = some r → r.cls = none → mg (Z.fnm f) = some (.ref (F.fa f)) ∧ PySem.W.keepIn K (.ref (F.fa f)) = true
  fnM : ∀ f r c, C.fn f = some r → r.cls = some c → Cls K (ca c) ∧ Meth K (ca c) (Z.fnm f) (F.fa f) ∧ ca.flds.contains (Z.fnm f) = false
  fnB : ∀ f r, C.fn f = some r → Binds K (F.fd f) (F.ps f) []
  fnP : ∀ f r, C.fn f = some r → (F.ps f).length = r.arity
  mks : ∀ c r, C.cls c = some r → c < Z.nc → Mk K (ca c) (F.fa r.init)
  kwd : ∀ f ks ord, (f, ks, ord) ∈ Z.kws → ∀ (s : Shared) (us as : List Value), K.In s.heap → us.length = ks.length → selL us ord = some as → BindsTo s (F.fd f) ⟨[], ks.zip us⟩ ((F.ps f).zip as)
  kwm : ∀ f ks ord, (f, ks, ord) ∈ Z.kwm → ∀ (s : Shared) (u : Value) (us as : List Value), K.In s.heap → us.length = ks.length → selL us ord = some as → BindsTo s (F.fd f) ⟨[u], ks.zip us⟩ ((F.ps f).zip (u :: as))
  mkd : ∀ k rc nd n ks ord, (k, nd, n, ks, ord) ∈ Z.mkk → C.cls k = some rc → ∃ (dvs : List V) (its : List Value), Reps K ca Lw.g0 (List.replicate nd (.tup [])) dvs ∧ KBn K (F.fd rc.init) (F.ps rc.init) (n + 1) ks (fun us ws => (selL (us ++ ws ++ its) ord).getD []) (fun vs zs => (selL (vs ++ zs ++ dvs) ord).getD [])
  dfl : ∀ f z, (f, z) ∈ Z.dfs → ∃ ds : List Value, Vals [V.int z] ds ∧ Binds K (F.fd f) (F.ps f) ds
/-- what a def promises: it does what its interpreter does -/
def spF (K : PySem.W.Frag) (n : Nat) (f : Nat) : Sp := fun vs H Q E => ∃ (g : G) (m : Mem) (d : List Nat) (ws : List W), RelM K ca g m d.length H ∧ Reps K ca g ws vs ∧ ws.length = (F.ps f).length ∧
  Fin K ca ef (Rep K ca) (fun _ _ cls dd H' _ _ _ => E cls dd H') (fun ω m c => run C prim ω n f ws m c) g m d H (fun v H' _ _ _ _ => Q v H')
/-- the defs at depth n -/
def Fns (P : Program) (w : World) (K : PySem.W.Frag) (mg : Str → Option Value) (base : Heap) (n : Nat) : Prop :=
  ∀ f r, C.fn f = some r → FnOk P w K mg base (L2.CX P w) (lev n) (F.fa f) (F.fd f) (F.ps f) (spF C prim ca ef F K n f)
/-- a context in which a def's body runs -/
structure Okx (X : Cx) (N : List Str) (sc : Scope) (WX : L2.WX) (n : Nat) : Prop where
  hN : X.N = N
  hsc : X.env.scope = sc
  nd : N.Nodup
  calm : X.calm = true
  room : Room (lev n + 1) X.A
  tk : Takes X WX
  fx : Facts Z C ca F X.K X.mg
  fn : Fns C prim ca ef F X.prog X.w X.K X.mg X.base n
end

section
variable {Z : Tab} {C : Cfg} {prim : Nat → Option Prim} {ca : CA} {ef : Nat → Str} {F : FT} {X : Cx} {N : List Str} {sc : Scope} {WX : L2.WX} {n : Nat}
abbrev eI (C : Cfg) (prim : Nat → Option Prim) (n : Nat) (e : E) : Env → Sm W := fun ρ ω m c => evE C (run C prim ω n) e ρ m c
abbrev esI (C : Cfg) (prim : Nat → Option Prim) (n : Nat) (e : Es) : Env → Sm (List W) := fun ρ ω m c => evEs C (run C prim ω n) e ρ m c
abbrev tbI (C : Cfg) (prim : Nat → Option Prim) (n : Nat) (e : T) : Env → Sm Bool := fun ρ ω m c => evT C (run C prim ω n) e ρ m c
abbrev oI (C : Cfg) (prim : Nat → Option Prim) (n : Nat) (e : O) : Env → Sm (Option Int) := fun ρ ω m c => evO C (run C prim ω n) e ρ m c
theorem Okx.vis (o : Okx Z C prim ca ef F X N sc WX n) {x : Str} (h : visB sc x = true) : L2.Vis X.env.scope x := by rw [o.hsc]; exact visB_of h
theorem Okx.loc (o : Okx Z C prim ca ef F X N sc WX n) {x : Str} (h : locB sc x = true) : L2.Loc X.env.scope x := by rw [o.hsc]; exact locB_of h
theorem Okx.gl (o : Okx Z C prim ca ef F X N sc WX n) {x : Str} (h : glB sc x = true) : L2.Gl X x := by
  show X.env.scope.names.lookup x = _
  rw [o.hsc]; exact glB_of h
theorem Okx.slot (o : Okx Z C prim ca ef F X N sc WX n) {x : Str} {i : Nat} (h : N[i]? = some x) : X.N[i]? = some x := by rw [o.hN]; exact h
theorem Okx.ndX (o : Okx Z C prim ca ef F X N sc WX n) : X.N.Nodup := by rw [o.hN]; exact o.nd

/-! ### names and constants -/
theorem s_var (o : Okx Z C prim ca ef F X N sc WX n) {i : Nat} {x : Str} {p : Pos} (h1 : N[i]? = some x) (h2 : visB sc x = true) (h3 : okName x = true) : PE X (.Name x p) (tI X.K ca ef WX (eI C prim n (.var i))) := by
  refine PE.weak (pe_var (o.slot h1) (o.vis h2) (okName_dbg h3) (okName_cd h3)) fun σ H Q h => ?_
  obtain ⟨g, ρ, m, d, r, e, h⟩ := h
  cases q : ρ[i]? with
  | none => exact h.not fun ω => by show evE C _ (.var i) ρ m _ = _; simp [evE, q]
  | some u => cases u with
    | none => exact h.not fun ω => by show evE C _ (.var i) ρ m _ = _; simp [evE, q]
    | some w =>
      obtain ⟨v, e1, rp⟩ := e.2 i w q
      exact ⟨v, e1, h.fin (a := w) (m' := m) (fun ω => by show evE C _ (.var i) ρ m _ = _; simp [evE, q]) (Step.refl g H) r rp⟩
theorem s_con {k : Lit} {c : Const} {j : Nat} {p : Pos} (h : litOk k c = true) : PE X (.Constant c j p) (tI X.K ca ef WX (eI C prim n (.con k))) := by
  cases k <;> cases c <;> simp [litOk] at h
  · refine PE.weak pe_non fun σ H Q ⟨g, ρ, m, d, r, e, h⟩ => h.fin (a := .non) (m' := m) (fun ω => by show evE C _ (.con _) ρ m _ = _; simp [evE, Lit.w]) (Step.refl g H) r (by simp only [Rep])
  · subst h
    refine PE.weak pe_bl fun σ H Q ⟨g, ρ, m, d, r, e, h⟩ => h.fin (a := .bl _) (m' := m) (fun ω => by show evE C _ (.con _) ρ m _ = _; simp [evE, Lit.w]; rfl) (Step.refl g H) r (by simp only [Rep])
  · subst h
    refine PE.weak pe_int fun σ H Q ⟨g, ρ, m, d, r, e, h⟩ => h.fin (a := .int _) (m' := m) (fun ω => by show evE C _ (.con _) ρ m _ = _; simp [evE, Lit.w]; rfl) (Step.refl g H) r (by simp only [Rep])
  · subst h
    refine PE.weak pe_str fun σ H Q ⟨g, ρ, m, d, r, e, h⟩ => h.fin (a := .str _) (m' := m) (fun ω => by show evE C _ (.con _) ρ m _ = _; simp [evE, Lit.w]; rfl) (Step.refl g H) r (by simp only [Rep])
theorem s_glob (o : Okx Z C prim ca ef F X N sc WX n) {i : Nat} {x : Str} {p : Pos} (h1 : Z.gn i = x) (h2 : i < Z.ng) (h3 : glB sc x = true) (h4 : okName x = true) : PE X (.Name x p) (tI X.K ca ef WX (eI C prim n (.glob i))) := by
  obtain ⟨u, v, hm, rv, rp⟩ := o.fx.gl i h2
  rw [h1] at hm
  refine PE.weak (pe_glob (o.gl h3) hm rv (okName_dbg h4)) fun σ H Q ⟨g, ρ, m, d, r, e, h⟩ => ?_
  exact h.fin (a := C.glob i) (m' := m) (fun ω => by show evE C _ (.glob i) ρ m _ = _; simp [evE]) (Step.refl g H) r (Rep.mono (Le.of0 g) _ _ rp)

/-! ### argument lists -/
theorem s_nil : PA X [] (tIs X.K ca ef WX (esI C prim n .nil)) := PA.weak pa_nil fun σ H Q ⟨g, ρ, m, d, r, e, h⟩ =>
  h.fin (a := []) (m' := m) (fun ω => by show evEs C _ .nil ρ m _ = _; simp [evEs]) (Step.refl g H) r Reps.nil
theorem s_cons {e : E} {es : Es} {x : Expr} {xs : List Expr} (ha : PE X x (tI X.K ca ef WX (eI C prim n e))) (hb : PA X xs (tIs X.K ca ef WX (esI C prim n es))) (hp : plainE x = true) : PA X (x :: xs) (tIs X.K ca ef WX (esI C prim n (.cons e es))) := by
  refine PA.weak (pa_cons ha hb (star_of hp xs X.env)) fun σ H Q ⟨g, ρ, m, d, r, en, h⟩ => ?_
  have h' := h.congr (f' := fun ω m c => (eI C prim n e ρ ω m c).bind fun w m c => (esI C prim n es ρ ω m c).bind fun ws m c => .ok (w :: ws) m c) fun ω => by show evEs C _ (.cons e es) ρ m _ = _; simp only [evEs]
  obtain ⟨ga, ρa, ma, da, ra, ea, ha'⟩ := tI_first r en h'
  refine ⟨ga, ρa, ma, da, ra, ea, ha'.imp fun v1 H1 _ _ _ _ z => ?_⟩
  obtain ⟨g1, m1, d1, w, r1, s1, e1, q1, f1⟩ := z
  obtain ⟨gb, ρb, mb, db, rb, eb, hb'⟩ := tIs_first r1 e1 f1
  refine ⟨gb, ρb, mb, db, rb, eb, hb'.imp fun v2 H2 _ _ _ _ z => ?_⟩
  obtain ⟨g2, m2, d2, ws, r2, s2, e2, q2, f2⟩ := z
  exact f2.fin (a := w :: ws) (m' := m2) (fun ω => rfl) (Step.refl g2 H2) r2 (Reps.cons (Rep.mono s2.le _ _ q1) q2)
theorem s_star {e : E} {es : Es} {x : Expr} {p : Pos} {xs : List Expr} (ha : PE X x (tI X.K ca ef WX (eI C prim n e))) (hb : PA X xs (tIs X.K ca ef WX (esI C prim n es))) : PA X (.Starred x p :: xs) (tIs X.K ca ef WX (esI C prim n (.star e es))) := by
  refine PA.weak (StX.pa_star ha hb rfl) fun σ H Q ⟨g, ρ, m, d, r, en, h⟩ => ?_
  have h' := h.congr (f' := fun ω m c => (eI C prim n e ρ ω m c).bind fun w m c => match vw m w with
    | .lst ws => (esI C prim n es ρ ω m c).bind fun xs m c => .ok (ws ++ xs) m c
    | .tup ws => (esI C prim n es ρ ω m c).bind fun xs m c => .ok (ws ++ xs) m c
    | _ => .no) fun ω => by show evEs C _ (.star e es) ρ m _ = _; rw [evEs] <;> rfl
  obtain ⟨ga, ρa, ma, da, ra, ea, ha'⟩ := tI_first r en h'
  refine ⟨ga, ρa, ma, da, ra, ea, ha'.imp fun v1 H1 _ _ _ _ z => ?_⟩
  obtain ⟨g1, m1, d1, w, r1, s1, e1, q1, f1⟩ := z
  obtain ⟨hl, ht, _, _⟩ := Rep.view r1 q1
  cases hv : vw m1 w with
  | lst ws =>
    obtain ⟨a, vs, ev, ha1, ra1⟩ := hl ws hv
    refine ⟨a, vs, ev, .inr (SqL.of ha1), ?_⟩
    have f1' := f1.congr (f' := fun ω m c => (esI C prim n es ρ ω m c).bind fun xs m c => .ok (ws ++ xs) m c) fun ω => by show (match vw m1 w with | .lst ws => _ | .tup ws => _ | _ => _) = _; rw [hv]
    obtain ⟨gb, ρb, mb, db, rb, eb, hb'⟩ := tIs_first r1 e1 f1'
    refine ⟨gb, ρb, mb, db, rb, eb, hb'.imp fun v2 H2 _ _ _ _ z => ?_⟩
    obtain ⟨g2, m2, d2, xs, r2, s2, e2, q2, f2⟩ := z
    exact f2.fin (a := ws ++ xs) (m' := m2) (fun ω => rfl) (Step.refl g2 H2) r2 (Reps.append (Reps.mono s2.le _ _ ra1) q2)
  | tup ws =>
    obtain ⟨a, vs, ev, ha1, ra1⟩ := ht ws hv
    refine ⟨a, vs, ev, .inl ha1, ?_⟩
    have f1' := f1.congr (f' := fun ω m c => (esI C prim n es ρ ω m c).bind fun xs m c => .ok (ws ++ xs) m c) fun ω => by show (match vw m1 w with | .lst ws => _ | .tup ws => _ | _ => _) = _; rw [hv]
    obtain ⟨gb, ρb, mb, db, rb, eb, hb'⟩ := tIs_first r1 e1 f1'
    refine ⟨gb, ρb, mb, db, rb, eb, hb'.imp fun v2 H2 _ _ _ _ z => ?_⟩
    obtain ⟨g2, m2, d2, xs, r2, s2, e2, q2, f2⟩ := z
    exact f2.fin (a := ws ++ xs) (m' := m2) (fun ω => rfl) (Step.refl g2 H2) r2 (Reps.append (Reps.mono s2.le _ _ ra1) q2)
  | _ => exact f1.not fun ω => by show (match vw m1 w with | .lst ws => _ | .tup ws => _ | _ => _) = _; rw [hv]

/-! ### displays -/
theorem s_tup {es : Es} {xs : List Expr} {j : Nat} {p : Pos} (ha : PA X xs (tIs X.K ca ef WX (esI C prim n es))) : PE X (.Tuple xs j p) (tI X.K ca ef WX (eI C prim n (.tup es))) := by
  refine PE.weak (pe_tup ha) fun σ H Q ⟨g, ρ, m, d, r, en, h⟩ => ?_
  have h' := h.congr (f' := fun ω m c => (esI C prim n es ρ ω m c).bind fun ws m c => mkT ws m c) fun ω => by show evE C _ (.tup es) ρ m _ = _; simp only [evE]
  obtain ⟨ga, ρa, ma, da, ra, ea, ha'⟩ := tIs_first r en h'
  refine ⟨ga, ρa, ma, da, ra, ea, ha'.imp fun v1 H1 _ _ _ _ z => ?_⟩
  obtain ⟨g1, m1, d1, ws, r1, s1, e1, q1, f1⟩ := z
  obtain ⟨hl, hk⟩ := fin_mkT f1 r1 q1
  exact ⟨hl, fun p np => (hk p np).elim fun _ z => z.2.2⟩
theorem s_lst {cell : Bool} {es : Es} {xs : List Expr} {p : Pos} (ha : PA X xs (tIs X.K ca ef WX (esI C prim n es))) : PE X (.List xs p) (tI X.K ca ef WX (eI C prim n (.lst cell es))) := by
  refine PE.weak (pe_lst ha) fun σ H Q ⟨g, ρ, m, d, r, en, h⟩ => ?_
  have h' := h.congr (f' := fun ω m c => (esI C prim n es ρ ω m c).bind fun ws m c => mkL cell ws m c) fun ω => by show evE C _ (.lst cell es) ρ m _ = _; simp only [evE]
  obtain ⟨ga, ρa, ma, da, ra, ea, ha'⟩ := tIs_first r en h'
  refine ⟨ga, ρa, ma, da, ra, ea, ha'.imp fun v1 H1 _ _ _ _ z => ?_⟩
  obtain ⟨g1, m1, d1, ws, r1, s1, e1, q1, f1⟩ := z
  obtain ⟨hl, hk⟩ := fin_mkL f1 r1 q1
  refine ⟨hl, fun p np => ?_⟩
  obtain ⟨_, _, _, z⟩ := hk p np
  exact z
end
end Lw

set_option maxHeartbeats 1000000
namespace Lw
open PySem PySem.Spec PyProof.Rows L2

section
variable {K : PySem.W.Frag} {ca : CA} {ef : Nat → Str} {WX : L2.WX} {X : Cx} {g : G} {m : Mem} {c : Nat} {H : Hp}
/-! ### data -/
mutual
theorem Dp.up {H H' : Hp} (l : ∀ b o, H b = some o → H' b = some o) : ∀ {v : V} {d : PyData}, Dp K H v d → Dp K H' v d
  | _, _, .non => .non
  | _, _, .bl b => .bl b
  | _, _, .int i => .int i
  | _, _, .str x => .str x
  | _, _, .lst h q => .lst (SqL.sub l h) (DpAll.up l q)
  | _, _, .tup h q => .tup (SqT.sub l h) (DpAll.up l q)
theorem DpAll.up {H H' : Hp} (l : ∀ b o, H b = some o → H' b = some o) : ∀ {vs : List V} {ds : List PyData}, DpAll K H vs ds → DpAll K H' vs ds
  | _, _, .nil => .nil
  | _, _, .cons p q => .cons (Dp.up l p) (DpAll.up l q)
end
theorem dat_all (r : RelM K ca g m c H) {n : Nat} (ih : ∀ (w : W) (v : V) (d : PyData), Rep K ca g w v → dat m n w = some d → Dp K H v d) : ∀ (ws : List W) (vs : List V) (ds : List PyData), Reps K ca g ws vs → datL (dat m n) ws = some ds → DpAll K H vs ds
  | [], vs, ds, q, e => by
    simp only [Reps] at q
    simp [datL] at e
    subst q e
    exact .nil
  | w :: ws, vs, ds, q, e => by
    simp only [Reps] at q
    obtain ⟨v, r', e1, p, q⟩ := q
    subst e1
    simp only [datL] at e
    cases h1 : dat m n w with
    | none => rw [h1] at e; cases e
    | some d1 =>
      rw [h1] at e
      cases h2 : datL (dat m n) ws with
      | none => rw [h2] at e; cases e
      | some d2 =>
        rw [h2] at e
        cases e
        exact .cons (ih w v d1 p h1) (dat_all r ih ws r' d2 q h2)
theorem dat_ok (r : RelM K ca g m c H) : ∀ (n : Nat) (w : W) (v : V) (d : PyData), Rep K ca g w v → dat m n w = some d → Dp K H v d
  | 0, w, v, d, q, e => by simp [dat] at e
  | n + 1, w, v, d, q, e => by
    simp only [dat] at e
    obtain ⟨hl, ht, _, _⟩ := Rep.view r q
    cases hv : vw m w with
    | non => rw [hv] at e; cases e; cases Rep.non q hv; exact .non
    | bl b => rw [hv] at e; cases e; cases Rep.bl q hv; exact .bl b
    | int i => rw [hv] at e; cases e; cases Rep.int q hv; exact .int i
    | str s => rw [hv] at e; cases e; cases Rep.str q hv; exact .str s
    | lst xs =>
      rw [hv] at e
      obtain ⟨a, vs, rfl, ha, ra⟩ := hl xs hv
      cases h2 : datL (dat m n) xs with
      | none => simp [h2] at e
      | some ds =>
        simp [h2] at e
        subst e
        exact .lst (SqL.of ha) (dat_all r (dat_ok r n) xs vs ds ra h2)
    | tup xs =>
      rw [hv] at e
      obtain ⟨a, vs, rfl, ha, ra⟩ := ht xs hv
      cases h2 : datL (dat m n) xs with
      | none => simp [h2] at e
      | some ds =>
        simp [h2] at e
        subst e
        exact .tup ha (dat_all r (dat_ok r n) xs vs ds ra h2)
    | _ => rw [hv] at e; cases e
/-! ### truth -/
theorem Reps.isEmpty {ws : List W} {vs : List V} (q : Reps K ca g ws vs) : vs.isEmpty = ws.isEmpty := by
  have h := Reps.length q
  cases ws <;> cases vs <;> simp at h <;> rfl
theorem tru_okW (r : RelM K ca g m c H) {w : W} {v : V} {b : Bool} (q : Rep K ca g w v) (e : truW m w = some b) : TruV K v H b := by
  unfold truW at e
  obtain ⟨hl, ht, _, _⟩ := Rep.view r q
  cases hv : vw m w with
  | non => rw [hv] at e; cases e; cases Rep.non q hv; rfl
  | bl b => rw [hv] at e; cases e; cases Rep.bl q hv; rfl
  | int i => rw [hv] at e; cases e; cases Rep.int q hv; rfl
  | str s =>
    rw [hv] at e
    cases Rep.str q hv
    simp at e
    obtain ⟨h1, h2⟩ := e
    exact ⟨h1, h2.symm⟩
  | lst xs =>
    rw [hv] at e
    cases e
    obtain ⟨a, vs, rfl, ha, ra⟩ := hl xs hv
    exact .inl ⟨vs, SqL.of ha, by rw [Reps.isEmpty ra]⟩
  | tup xs =>
    rw [hv] at e
    cases e
    obtain ⟨a, vs, rfl, ha, ra⟩ := ht xs hv
    exact .inr (.inl ⟨vs, ha, by rw [Reps.isEmpty ra]⟩)
  | _ => rw [hv] at e; cases e
/-! ### comparisons -/
def rC (K : PySem.W.Frag) : COp → R2
  | .eq => rEqD K
  | .ne => rNeD K
  | .lt => rI0 fun i j => .bl (decide (i < j))
  | .le => rI0 fun i j => .bl (decide (i ≤ j))
  | .gt => rI0 fun i j => .bl (decide (j < i))
  | .ge => rI0 fun i j => .bl (decide (j ≤ i))
  | .isIn => rIn K false
  | .notIn => rIn K true
  | .isN => fun x y H Q => y = .non ∧ Q (.bl (decide (x = .non))) H
  | .notN => fun x y H Q => y = .non ∧ Q (.bl (!decide (x = .non))) H
theorem opC (hu : X.A.units + 64 < cLine) : ∀ op, OpR X (compareOp (cmpOf op)) (rC X.K op)
  | .eq => op_eqD hu
  | .ne => op_neD hu
  | .lt => op_lt
  | .le => op_le
  | .gt => op_gt
  | .ge => op_ge
  | .isIn => op_in_seq
  | .notIn => op_notIn_seq
  | .isN => op_isN
  | .notN => op_notN
theorem Rep.nonIff {w : W} {v : V} (q : Rep K ca g w v) (h : w ≠ .non) : v ≠ .non := by
  cases w <;> simp only [Rep] at q <;> first | (exact absurd rfl h) | (subst q; intro z; cases z) | (obtain ⟨_, e, _⟩ := q; subst e; intro z; cases z) | (obtain ⟨_, _, e, _⟩ := q; subst e; intro z; cases z) | (obtain ⟨_, _, _, e, _⟩ := q; subst e; intro z; cases z) | skip
theorem cmp_okW (r : RelM K ca g m c H) {op : COp} {w u : W} {x y : V} {b : Bool} {Q : VK} (q1 : Rep K ca g w x) (q2 : Rep K ca g u y) (e : cmpW op w u m = some b) (h : Q (.bl b) H) : rC K op x y H Q := by
  have eqs : ∀ b', eqW m w u = some b' → ∃ d e', Dp K H x d ∧ Dp K H y e' ∧ SeqAt.shaped d = true ∧ SeqAt.shaped e' = true ∧ PyData.eqv d e' = b' := fun b' z => by
    unfold eqW at z
    cases h1 : dat m depthMax w with
    | none => simp [h1] at z
    | some d1 => cases h2 : dat m depthMax u with
      | none => simp [h1, h2] at z
      | some d2 =>
        simp [h1, h2] at z
        exact ⟨d1, d2, dat_ok r _ _ _ _ q1 h1, dat_ok r _ _ _ _ q2 h2, z.1.1, z.1.2, z.2⟩
  cases op with
  | eq =>
    obtain ⟨d1, d2, h1, h2, h3, h4, h5⟩ := eqs b e
    exact ⟨d1, d2, h1, h2, h3, h4, by rw [h5]; exact h⟩
  | ne =>
    simp only [cmpW] at e
    cases z : eqW m w u with
    | none => simp [z] at e
    | some b' =>
      simp [z] at e
      obtain ⟨d1, d2, h1, h2, h3, h4, h5⟩ := eqs b' z
      exact ⟨d1, d2, h1, h2, h3, h4, by rw [h5, e, Bool.not_not]; exact h⟩
  | lt =>
    simp only [cmpW] at e
    split at e
    · simp only [Rep] at q1 q2
      subst q1 q2
      cases e
      exact ⟨_, _, rfl, rfl, h⟩
    · cases e
  | le =>
    simp only [cmpW] at e
    split at e
    · simp only [Rep] at q1 q2
      subst q1 q2
      cases e
      exact ⟨_, _, rfl, rfl, h⟩
    · cases e
  | gt =>
    simp only [cmpW] at e
    split at e
    · simp only [Rep] at q1 q2
      subst q1 q2
      cases e
      exact ⟨_, _, rfl, rfl, h⟩
    · cases e
  | ge =>
    simp only [cmpW] at e
    split at e
    · simp only [Rep] at q1 q2
      subst q1 q2
      cases e
      exact ⟨_, _, rfl, rfl, h⟩
    · cases e
  | isIn =>
    simp only [cmpW] at e
    obtain ⟨hl, ht, _, _⟩ := Rep.view r q2
    cases hv : vw m u with
    | lst xs =>
      rw [hv] at e
      simp at e
      obtain ⟨⟨f1, f2⟩, f3⟩ := e
      obtain ⟨a, vs, rfl, ha, ra⟩ := hl xs hv
      have f2' : xs.all flatW = true := List.all_eq_true.mpr f2
      exact ⟨a, vs, rfl, .inl (SqL.of ha), Rep.flat q1 f1, Reps.flat ra f2', by rw [if_neg (by decide), Reps.inV ra q1 f1 f2', f3]; exact h⟩
    | tup xs =>
      rw [hv] at e
      simp at e
      obtain ⟨⟨f1, f2⟩, f3⟩ := e
      obtain ⟨a, vs, rfl, ha, ra⟩ := ht xs hv
      have f2' : xs.all flatW = true := List.all_eq_true.mpr f2
      exact ⟨a, vs, rfl, .inr ha, Rep.flat q1 f1, Reps.flat ra f2', by rw [if_neg (by decide), Reps.inV ra q1 f1 f2', f3]; exact h⟩
    | _ => rw [hv] at e; cases e
  | notIn =>
    simp only [cmpW] at e
    obtain ⟨hl, ht, _, _⟩ := Rep.view r q2
    cases hv : vw m u with
    | lst xs =>
      rw [hv] at e
      simp at e
      obtain ⟨⟨f1, f2⟩, f3⟩ := e
      obtain ⟨a, vs, rfl, ha, ra⟩ := hl xs hv
      have f2' : xs.all flatW = true := List.all_eq_true.mpr f2
      exact ⟨a, vs, rfl, .inl (SqL.of ha), Rep.flat q1 f1, Reps.flat ra f2', by rw [if_pos rfl, Reps.inV ra q1 f1 f2', f3, Bool.not_not]; exact h⟩
    | tup xs =>
      rw [hv] at e
      simp at e
      obtain ⟨⟨f1, f2⟩, f3⟩ := e
      obtain ⟨a, vs, rfl, ha, ra⟩ := ht xs hv
      have f2' : xs.all flatW = true := List.all_eq_true.mpr f2
      exact ⟨a, vs, rfl, .inr ha, Rep.flat q1 f1, Reps.flat ra f2', by rw [if_pos rfl, Reps.inV ra q1 f1 f2', f3, Bool.not_not]; exact h⟩
    | _ => rw [hv] at e; cases e
  | isN =>
    simp only [cmpW] at e
    split at e
    · cases e; simp only [Rep] at q1 q2; subst q1 q2; exact ⟨rfl, h⟩
    · cases e
    · cases e
      simp only [Rep] at q2
      subst q2
      rename_i h1 h2
      refine ⟨rfl, ?_⟩
      rw [decide_eq_false (Rep.nonIff q1 h1)]
      exact h
    · cases e
  | notN =>
    simp only [cmpW] at e
    split at e
    · cases e; simp only [Rep] at q1 q2; subst q1 q2; exact ⟨rfl, h⟩
    · cases e
    · cases e
      simp only [Rep] at q2
      subst q2
      rename_i h1 h2
      refine ⟨rfl, ?_⟩
      rw [decide_eq_false (Rep.nonIff q1 h1)]
      exact h
    · cases e
end
end Lw

set_option maxHeartbeats 4000000
namespace Lw
open PySem PySem.Spec PyProof.Rows L2
theorem tuple_mul1 (l : Addr) (items : Array Value) (n : Nat) (dd : Option Addr) (sl : Array (Option Value)) (u : Tok) :
    Meets (Builtin.«tuple.__mul__» ⟨[.ref l, .int 1 u], []⟩) (fun _ R s => s.heap.get? l = some { cls := .type "tuple", dict := dd, data := .seq items n, slots := sl } ∧ R (.ok (.ret (Value.ref l))) s) :=
  .of_wp fun prog w A R s h => by
    obtain ⟨hp, g, d, tk, os⟩ := s
    obtain ⟨hl, h⟩ := h
    have f1 := AutoSeq1.idx_int
    wp_walk using wpAny_loadPart' hl
    repeat (first
      | (refine wpAny_ite_false (by decide) ?_; wp_walk using wpAny_loadPart' hl)
      | (refine wpAny_ite_true (decide_eq_true (by rw [Bool.or_eq_true]; exact .inr rfl)) ?_; wp_walk using wpAny_loadPart' hl)
      | (refine wpAny_ite_true (by decide) ?_; wp_walk using wpAny_loadPart' hl))
    exact ⟨_, rfl, h⟩
theorem tuple_mul0 (l : Addr) (items : Array Value) (n : Nat) (dd : Option Addr) (sl : Array (Option Value)) (u : Tok) (hne : items.isEmpty = false) :
    Meets (Builtin.«tuple.__mul__» ⟨[.ref l, .int 0 u], []⟩) (fun _ R s => s.heap.get? l = some { cls := .type "tuple", dict := dd, data := .seq items n, slots := sl } ∧
      R (.ok (.ret (Value.ref s.heap.objs.size))) { s with heap := s.heap.push { cls := Value.type "tuple", data := Data.seq #[] }, toks := s.toks }) :=
  .of_wp fun prog w A R s h => by
    obtain ⟨hp, g, d, tk, os⟩ := s
    obtain ⟨hl, h⟩ := h
    have f1 := AutoSeq1.idx_int
    wp_walk using wpAny_loadPart' hl
    repeat (first
      | (refine wpAny_ite_false (by decide) ?_; wp_walk using wpAny_loadPart' hl)
      | (refine wpAny_ite_false (decide_eq_false (by rw [hne]; exact Bool.false_ne_true)) ?_; wp_walk using wpAny_loadPart' hl)
      | (refine wpAny_ite_true (by decide) ?_; wp_walk using wpAny_loadPart' hl))
    exact ⟨_, rfl, h⟩
def rRepT01 (K : PySem.W.Frag) : R2 := fun x y H Q => ∃ l k xs, x = .ref l ∧ y = .int k ∧ SqT K H l xs ∧ xs ≠ [] ∧ ((k = 1 ∧ Q (.ref l) H) ∨ (k = 0 ∧ ∀ p, H p = none → Q (.ref p) (upd H p (.tup []))))
section
variable {X : Cx}
theorem op_repT01 : OpR X (binaryOp .Mult) (rRepT01 X.K) := by
  intro pins s σ H x y v u Q I rx ry h
  obtain ⟨l, k, xs, rfl, rfl, hT, hne, hk⟩ := h
  cases rx
  obtain ⟨t, rfl⟩ := ry
  obtain ⟨its, r, ⟨⟨cls, dd, data, sl⟩, ho, hc, n, hd⟩, hs⟩ := I.tuple hT
  simp only at hc hd
  subst hc hd
  have hle : its.length = xs.length := r.length.symm
  have hn : its ≠ [] := fun e => hne (by
    rw [e] at hle
    exact List.eq_nil_of_length_eq_zero hle.symm)
  have hi : its.toArray.isEmpty = false := by
    cases its with
    | nil => exact absurd rfl hn
    | cons a b => rfl
  rcases hk with ⟨rfl, q⟩ | ⟨rfl, q⟩
  · refine wpAny_binaryOp_repeat_ref (T := "tuple") (U := "int") (by decide) ⟨_, ho, rfl⟩ (fun s' => typeIs_int s' 1 t) noFill_tuple_mul F.fills_int_mul F.slot_int_rmul repeat_tuple F.slot_int_index.lookup
      (call_meets F.slot_int_rmul (typeIs_int s 1 t) F.entry_int_rmul (F.args_int_rmul_2 _ _) (int_rmul_tuple 1 t l its.toArray n dd sl)
        ⟨ho, rfl, ⟨_, ho, rfl⟩, call_meets F.slot_tuple_mul ⟨_, ho, rfl⟩ F.entry_tuple_mul (F.args_tuple_mul_2 _ _) (tuple_mul1 l its.toArray n dd sl t) ⟨ho, ?_⟩⟩)
    exact ⟨.ref l, H, I, rfl, q⟩
  · refine wpAny_binaryOp_repeat_ref (T := "tuple") (U := "int") (by decide) ⟨_, ho, rfl⟩ (fun s' => typeIs_int s' 0 t) noFill_tuple_mul F.fills_int_mul F.slot_int_rmul repeat_tuple F.slot_int_index.lookup
      (call_meets F.slot_int_rmul (typeIs_int s 0 t) F.entry_int_rmul (F.args_int_rmul_2 _ _) (int_rmul_tuple 0 t l its.toArray n dd sl)
        ⟨ho, rfl, ⟨_, ho, rfl⟩, call_meets F.slot_tuple_mul ⟨_, ho, rfl⟩ F.entry_tuple_mul (F.args_tuple_mul_2 _ _) (tuple_mul0 l its.toArray n dd sl t hi) ⟨ho, ?_⟩⟩)
    refine ⟨.ref s.heap.objs.size, _, I.laid (t' := s.toks) (o := .tup []) (fun b ob q => Heap.get?_push_of_some _ q) (Nat.le_refl _) ?_, rfl, q _ (I.hok.fresh (Nat.le_refl _))⟩
    exact ⟨by rw [sizeLine_eq]; simp, _, .nil, IsTup.new _ _⟩
end
end Lw

set_option maxHeartbeats 1000000
namespace Lw
open PySem PySem.Spec PyProof.Rows L2

section
variable {Z : Tab} {C : Cfg} {prim : Nat → Option Prim} {ca : CA} {ef : Nat → Str} {F : FT} {X : Cx} {N : List Str} {sc : Scope} {WX : L2.WX} {n : Nat}
theorem tI_imp {f : Env → Sm W} {σ : L2.St} {H : Hp} {Q Q' : VK} (h : tI X.K ca ef WX f σ H Q) (i : ∀ v H', Q v H' → Q' v H') : tI X.K ca ef WX f σ H Q' := by
  obtain ⟨g, ρ, m, d, r, e, h⟩ := h
  exact ⟨g, ρ, m, d, r, e, h.imp fun v H' _ _ _ _ z => i v H' z⟩
theorem tIs_imp {f : Env → Sm (List W)} {σ : L2.St} {H : Hp} {Q Q' : List V → Hp → Prop} (h : tIs X.K ca ef WX f σ H Q) (i : ∀ v H', Q v H' → Q' v H') : tIs X.K ca ef WX f σ H Q' := by
  obtain ⟨g, ρ, m, d, r, e, h⟩ := h
  exact ⟨g, ρ, m, d, r, e, h.imp fun v H' _ _ _ _ z => i v H' z⟩
theorem tIb_imp {f : Env → Sm Bool} {σ : L2.St} {H : Hp} {Q Q' : Bool → Hp → Prop} (h : tIb X.K ca ef WX f σ H Q) (i : ∀ v H', Q v H' → Q' v H') : tIb X.K ca ef WX f σ H Q' := by
  obtain ⟨g, ρ, m, d, r, e, h⟩ := h
  exact ⟨g, ρ, m, d, r, e, h.imp fun v H' _ _ _ _ z => i v H' z⟩
theorem R.bind_bind {α β γ : Type} (r : R α) (f : α → Mem → Nat → R β) (k : β → Mem → Nat → R γ) : (r.bind f).bind k = r.bind fun a m c => (f a m c).bind k := by cases r <;> rfl
theorem R.bind_pure {α : Type} (r : R α) : (r.bind fun a m c => .ok a m c) = r := by cases r <;> rfl
theorem vw_tup {m : Mem} {w : W} {xs : List W} (h : vw m w = .tup xs) : w = .tup xs := by
  cases w <;> simp [vw] at h
  · rw [h]
  · split at h <;> simp at h
/-- two parts -/
theorem tI_two {β α : Type} {rel' : G → α → β → Prop} {fa fb : Env → Sm W} {k : (Nat → Nat) → W → W → Mem → Nat → R α} {g : G} {ρ : Env} {m : Mem} {d : List Nat} {σ : L2.St} {H : Hp} {Q : β → Hp → Prop}
    (r : RelM X.K ca g m d.length H) (en : REnv X.K ca g ρ σ) (h : Fin X.K ca ef rel' (wxE WX σ) (fun ω m c => (fa ρ ω m c).bind fun x m c => (fb ρ ω m c).bind fun y m c => k ω x y m c) g m d H (fun v H' _ _ _ _ => Q v H')) :
    tI X.K ca ef WX fa σ H fun x H1 => tI X.K ca ef WX fb σ H1 fun y H2 => ∃ (g : G) (m : Mem) (d : List Nat) (w u : W), RelM X.K ca g m d.length H2 ∧ REnv X.K ca g ρ σ ∧ Rep X.K ca g w x ∧ Rep X.K ca g u y ∧
      Fin X.K ca ef rel' (wxE WX σ) (fun ω m c => k ω w u m c) g m d H2 (fun v H' _ _ _ _ => Q v H') := by
  obtain ⟨ga, ρa, ma, da, ra, ea, ha⟩ := tI_first (f := fa) (k := fun ω x m c => (fb ρ ω m c).bind fun y m c => k ω x y m c) r en h
  refine ⟨ga, ρa, ma, da, ra, ea, ha.imp fun v1 H1 _ _ _ _ z => ?_⟩
  obtain ⟨g1, m1, d1, w, r1, s1, e1, q1, f1⟩ := z
  obtain ⟨gb, ρb, mb, db, rb, eb, hb⟩ := tI_first (f := fb) (k := fun ω y m c => k ω w y m c) r1 e1 f1
  refine ⟨gb, ρb, mb, db, rb, eb, hb.imp fun v2 H2 _ _ _ _ z => ?_⟩
  obtain ⟨g2, m2, d2, u, r2, s2, e2, q2, f2⟩ := z
  exact ⟨g2, m2, d2, w, u, r2, e2, Rep.mono s2.le _ _ q1, q2, f2⟩

/-! ### operators -/
def rB (K : PySem.W.Frag) : BOp → R2
  | .add => fun x y H Q => (rI0 fun i j => .int (i + j)) x y H Q ∨ (∃ i j, x = .str i ∧ y = .str j ∧ i.length + j.length ≤ sizeLine ∧ Q (.str (i ++ j)) H) ∨ rCatA K x y H Q ∨ rCat x y H Q
  | .sub => rI0 fun i j => .int (i - j)
  | .mul => fun x y H Q => rI CMulW (fun i j => .int (i * j)) x y H Q ∨ rRep x y H Q ∨ rRepT K x y H Q ∨ rRepT01 K x y H Q
  | .fdiv => rI CDivW fun i j => .int (i / j)
  | .mod => rI (fun _ j => 0 < j) fun i j => .int (i % j)
  | .pow => rI (fun i j => 0 ≤ j ∧ (Builtin.Int.intBits i : Int) * j ≤ 2 ^ 27) fun i j => .int (i ^ j.toNat)
theorem opB : ∀ op, OpR X (binaryOp (opOf op)) (rB X.K op)
  | .add => op_add.or (op_add_str.or (op_catA.or op_cat))
  | .sub => op_sub
  | .mul => op_mulW.or (op_rep.or (op_repT.or op_repT01))
  | .fdiv => op_fdivW
  | .mod => op_mod
  | .pow => opI fun _ _ _ _ _ _ _ hc q => pow_int hc.1 hc.2 q
theorem bin_ok {g : G} {m : Mem} {d : List Nat} {H : Hp} {WE : Exn → Env → Value → Option Addr → Hp → G → Mem → List Nat → Prop} {cell : Bool} {op : BOp} {w u : W} {x y : V} {Q : VK} (r : RelM X.K ca g m d.length H) (q1 : Rep X.K ca g w x) (q2 : Rep X.K ca g u y)
    (h : Fin X.K ca ef (Rep X.K ca) WE (fun ω m c => binW cell op w u m c) g m d H (fun v H' _ _ _ _ => Q v H')) : rB X.K op x y H Q := by
  have fl : ∀ xs ys : List W, ∀ l : List W, (∀ ω, binW cell op w u m d.length = mkL cell l m d.length) → ∀ vs, Reps X.K ca g l vs → vs.length ≤ sizeLine ∧ ∀ p, H p = none → Q (.ref p) (upd H p (.lst vs)) := fun xs ys l e vs ql => by
    obtain ⟨hl, hk⟩ := fin_mkL (h.congr (f' := fun ω m c => mkL cell l m c) e) r ql
    exact ⟨hl, fun p np => by obtain ⟨_, _, _, z⟩ := hk p np; exact z⟩
  have ft : ∀ l : List W, (∀ ω : Nat → Nat, binW cell op w u m d.length = mkT l m d.length) → ∀ vs, Reps X.K ca g l vs → vs.length ≤ sizeLine ∧ ∀ p, H p = none → ∃ g', Step g H g' (upd H p (.tup vs)) ∧ RelM X.K ca g' m d.length (upd H p (.tup vs)) ∧ Q (.ref p) (upd H p (.tup vs)) := fun l e vs ql => by
    obtain ⟨hl, hk⟩ := fin_mkT (h.congr (f' := fun ω m c => mkT l m c) e) r ql
    exact ⟨hl, fun p np => by obtain ⟨g', z1, z2, z3⟩ := hk p np; exact ⟨g', z1, z2, z3⟩⟩
  obtain ⟨hl1, ht1, _, _⟩ := Rep.view r q1
  obtain ⟨hl2, ht2, _, _⟩ := Rep.view r q2
  have bad : ∀ {P : Prop}, (binW cell op w u m d.length = .no) → P := fun e => h.not fun ω => e
  cases op with
  | add =>
    cases hv1 : vw m w <;> cases hv2 : vw m u <;> try (refine bad ?_; simp only [binW, hv1, hv2]; done)
    · cases Rep.int q1 hv1
      cases Rep.int q2 hv2
      exact .inl ⟨_, _, rfl, rfl, h.fin (a := .int _) (m' := m) (fun ω => by simp only [binW, hv1, hv2]; rfl) (Step.refl g H) r (by simp only [Rep])⟩
    · rename_i s t
      cases Rep.str q1 hv1
      cases Rep.str q2 hv2
      by_cases z : s.length + t.length ≤ sizeLine
      · exact .inr (.inl ⟨_, _, rfl, rfl, z, h.fin (a := .str _) (m' := m) (fun ω => by simp only [binW, hv1, hv2]; rw [if_pos z]) (Step.refl g H) r (by simp only [Rep])⟩)
      · exact bad (by simp only [binW, hv1, hv2]; rw [if_neg z])
    · rename_i xs ys
      obtain ⟨a, vs, rfl, ha, ra⟩ := hl1 xs hv1
      obtain ⟨b, us, rfl, hb, rb⟩ := hl2 ys hv2
      obtain ⟨hz, hk⟩ := fl xs ys (xs ++ ys) (fun ω => by simp only [binW, hv1, hv2]) _ (Reps.append ra rb)
      exact .inr (.inr (.inr ⟨a, b, vs, us, rfl, rfl, ha, hb, by rw [List.length_append] at hz; exact hz, hk⟩))
    · rename_i xs ys
      cases vw_tup hv1
      cases vw_tup hv2
      obtain ⟨a, vs, rfl, ha, ra⟩ := ht1 xs hv1
      obtain ⟨b, us, rfl, hb, rb⟩ := ht2 ys hv2
      obtain ⟨hz, hk⟩ := ft (xs ++ ys) (fun ω => by simp only [binW, hv1, hv2]) _ (Reps.append ra rb)
      have hz' : (xs ++ ys).length ≤ sizeLine := by rw [List.length_append, Reps.length ra, Reps.length rb] at hz; rw [List.length_append]; exact hz
      refine .inr (.inr (.inl ⟨a, b, vs, us, rfl, rfl, ha, hb, by rw [List.length_append] at hz; exact hz, fun e => ?_, fun _ e => ?_, fun _ _ p np => (hk p np).elim fun _ z => z.2.2⟩))
      · subst e
        have el : xs = [] := by have := Reps.length ra; cases xs <;> simp at this; rfl
        subst el
        exact h.fin (a := .tup ([] ++ ys)) (m' := m) (fun ω => by simp only [binW, hv1, hv2]; unfold mkT; rw [if_pos hz']) (Step.refl g H) r (by simpa only [List.nil_append] using q2)
      · subst e
        have el : ys = [] := by have := Reps.length rb; cases ys <;> simp at this; rfl
        subst el
        exact h.fin (a := .tup (xs ++ [])) (m' := m) (fun ω => by simp only [binW, hv1, hv2]; unfold mkT; rw [if_pos hz']) (Step.refl g H) r (by simpa only [List.append_nil] using q1)
  | sub =>
    cases hv1 : vw m w <;> cases hv2 : vw m u <;> try (refine bad ?_; simp only [binW, hv1, hv2]; done)
    cases Rep.int q1 hv1
    cases Rep.int q2 hv2
    exact ⟨_, _, rfl, rfl, h.fin (a := .int _) (m' := m) (fun ω => by simp only [binW, hv1, hv2]; rfl) (Step.refl g H) r (by simp only [Rep])⟩
  | mul =>
    cases hv1 : vw m w <;> cases hv2 : vw m u <;> try (refine bad ?_; simp only [binW, hv1, hv2]; done)
    · rename_i i j
      cases Rep.int q1 hv1
      cases Rep.int q2 hv2
      by_cases z : sizeI i + sizeI j < 1000000
      · exact .inl ⟨_, _, rfl, rfl, z, h.fin (a := .int _) (m' := m) (fun ω => by simp only [binW, hv1, hv2]; rw [if_pos z]) (Step.refl g H) r (by simp only [Rep])⟩
      · exact bad (by simp only [binW, hv1, hv2]; rw [if_neg z])
    · rename_i xs k
      obtain ⟨a, vs, rfl, ha, ra⟩ := hl1 xs hv1
      cases Rep.int q2 hv2
      by_cases z : -(2 ^ 63) ≤ k ∧ k < 2 ^ 63 ∧ xs.length * k.toNat ≤ sizeLine
      · obtain ⟨hz, hk⟩ := fl xs [] (List.replicate k.toNat xs).flatten (fun ω => by simp only [binW, hv1, hv2]; rw [if_pos z]) _ (Reps.rep ra k.toNat)
        exact .inr (.inl ⟨a, k, vs, rfl, rfl, ha, z.1, z.2.1, by rw [Reps.length ra]; exact z.2.2, hk⟩)
      · exact bad (by simp only [binW, hv1, hv2]; rw [if_neg z])
    · rename_i xs k
      obtain ⟨a, vs, rfl, ha, ra⟩ := ht1 xs hv1
      cases Rep.int q2 hv2
      by_cases z : xs.length ≠ 0 ∧ 0 ≤ k ∧ k ≤ 1000 ∧ xs.length ≤ 1000
      · have hl := Reps.length ra
        have hne : vs ≠ [] := fun e => z.1 (by rw [← hl, e]; rfl)
        by_cases z2 : 2 ≤ k
        · obtain ⟨hz, hk⟩ := ft (List.replicate k.toNat xs).flatten (fun ω => by simp only [binW, hv1, hv2]; rw [if_pos z]) _ (Reps.rep ra k.toNat)
          exact .inr (.inr (.inl ⟨a, k, vs, rfl, rfl, ha, hne, z2, z.2.2.1, by rw [hl]; exact z.2.2.2, fun p np => (hk p np).elim fun _ z => z.2.2⟩))
        · have hk01 : k = 0 ∨ k = 1 := by omega
          rcases hk01 with hk0 | hk1
          · subst hk0
            obtain ⟨hz, hk⟩ := ft [] (fun ω => by simp only [binW, hv1, hv2]; rw [if_pos z]; rfl) [] Reps.nil
            exact .inr (.inr (.inr ⟨a, 0, vs, rfl, rfl, ha, hne, .inr ⟨rfl, fun p np => (hk p np).elim fun _ z => z.2.2⟩⟩))
          · subst hk1
            obtain rfl := vw_tup hv1
            refine .inr (.inr (.inr ⟨a, 1, vs, rfl, rfl, ha, hne, .inl ⟨rfl, h.fin (a := .tup xs) (m' := m) (fun ω => ?_) (Step.refl g H) r q1⟩⟩))
            have e : (List.replicate (1 : Int).toNat xs).flatten = xs := by simp
            simp only [binW, hv1, hv2]
            rw [if_pos z, e]
            unfold mkT
            rw [if_pos (by rw [sizeLine_eq]; omega)]
      · exact bad (by simp only [binW, hv1, hv2]; rw [if_neg z])
  | fdiv =>
    cases hv1 : vw m w <;> cases hv2 : vw m u <;> try (refine bad ?_; simp only [binW, hv1, hv2]; done)
    rename_i i j
    cases Rep.int q1 hv1
    cases Rep.int q2 hv2
    by_cases z : 0 < j ∧ sizeI j < 9000
    · exact ⟨_, _, rfl, rfl, z, h.fin (a := .int _) (m' := m) (fun ω => by simp only [binW, hv1, hv2]; rw [if_pos z]) (Step.refl g H) r (by simp only [Rep])⟩
    · exact bad (by simp only [binW, hv1, hv2]; rw [if_neg z])
  | mod =>
    cases hv1 : vw m w <;> cases hv2 : vw m u <;> try (refine bad ?_; simp only [binW, hv1, hv2]; done)
    rename_i i j
    cases Rep.int q1 hv1
    cases Rep.int q2 hv2
    by_cases z : 0 < j
    · exact ⟨_, _, rfl, rfl, z, h.fin (a := .int _) (m' := m) (fun ω => by simp only [binW, hv1, hv2]; rw [if_pos z]) (Step.refl g H) r (by simp only [Rep])⟩
    · exact bad (by simp only [binW, hv1, hv2]; rw [if_neg z])
  | pow =>
    cases hv1 : vw m w <;> cases hv2 : vw m u <;> try (refine bad ?_; simp only [binW, hv1, hv2]; done)
    rename_i i j
    cases Rep.int q1 hv1
    cases Rep.int q2 hv2
    by_cases z : 0 ≤ j ∧ (Builtin.Int.intBits i : Int) * j ≤ 2 ^ 27
    · exact ⟨_, _, rfl, rfl, z, h.fin (a := .int _) (m' := m) (fun ω => by simp only [binW, hv1, hv2]; rw [if_pos z]) (Step.refl g H) r (by simp only [Rep])⟩
    · exact bad (by simp only [binW, hv1, hv2]; rw [if_neg z])
theorem s_bin {cell : Bool} {op : BOp} {a b : E} {x y : Expr} {p : Pos} (ha : PE X x (tI X.K ca ef WX (eI C prim n a))) (hb : PE X y (tI X.K ca ef WX (eI C prim n b))) : PE X (.BinOp x (opOf op) y p) (tI X.K ca ef WX (eI C prim n (.bin cell op a b))) := by
  refine PE.weak (pe_op (opB op) ha hb) fun σ H Q ⟨g, ρ, m, d, r, en, h⟩ => ?_
  have h' := h.congr (f' := fun ω m c => (eI C prim n a ρ ω m c).bind fun x m c => (eI C prim n b ρ ω m c).bind fun y m c => binW cell op x y m c) fun ω => by show evE C _ (.bin cell op a b) ρ m _ = _; simp only [evE]
  refine tI_imp (tI_two (k := fun ω x y m c => binW cell op x y m c) r en h') fun x H1 q => tI_imp q fun y H2 q => ?_
  obtain ⟨g, m, d, w, u, r, e, q1, q2, f⟩ := q
  exact bin_ok r q1 q2 f
/-! ### comparisons -/
theorem s_cmp {op : COp} {a b : E} {x y : Expr} {p : Pos} (hu : X.A.units + 64 < cLine) (ha : PE X x (tI X.K ca ef WX (eI C prim n a))) (hb : PE X y (tI X.K ca ef WX (eI C prim n b))) (hp : plainE y = true) : PE X (.Compare x [cmpOf op] [y] p) (tI X.K ca ef WX (eI C prim n (.cmp op a b))) := by
  refine PE.weak (pe_cmpR (opC hu op) ha hb (behind_of hp _)) fun σ H Q ⟨g, ρ, m, d, r, en, h⟩ => ?_
  have h' := h.congr (f' := fun ω m c => (eI C prim n a ρ ω m c).bind fun x m c => (eI C prim n b ρ ω m c).bind fun y m c => blR (cmpW op x y m) m c) fun ω => by show evE C _ (.cmp op a b) ρ m _ = _; simp only [evE]
  refine tI_imp (tI_two (k := fun ω x y m c => blR (cmpW op x y m) m c) r en h') fun x H1 q => tI_imp q fun y H2 q => ?_
  obtain ⟨g, m, d, w, u, r, e, q1, q2, f⟩ := q
  cases z : cmpW op w u m with
  | none => exact f.not fun ω => by show blR (cmpW op w u m) m _ = _; rw [z]; rfl
  | some b => exact cmp_okW r q1 q2 z (f.fin (a := .bl b) (m' := m) (fun ω => by show blR (cmpW op w u m) m _ = _; rw [z]; rfl) (Step.refl _ _) r (by simp only [Rep]))
theorem s_cmpT {op : COp} {a b : E} {x y : Expr} {p : Pos} (hu : X.A.units + 64 < cLine) (ha : PE X x (tI X.K ca ef WX (eI C prim n a))) (hb : PE X y (tI X.K ca ef WX (eI C prim n b))) (hp : plainE y = true) : PT X (.Compare x [cmpOf op] [y] p) (tIb X.K ca ef WX (tbI C prim n (.e (.cmp op a b)))) := by
  refine PT.weak (pt_cmpR (opC hu op) ha hb (behind_of hp _)) fun σ H Q ⟨g, ρ, m, d, r, en, h⟩ => ?_
  have h' := h.congr (f' := fun ω m c => (eI C prim n a ρ ω m c).bind fun x m c => (eI C prim n b ρ ω m c).bind fun y m c => (blR (cmpW op x y m) m c).bind fun w m c => truR w m c) fun ω => by
    show evT C _ (.e (.cmp op a b)) ρ m _ = _
    simp only [evT, evE, R.bind_bind]
  refine tI_imp (tI_two (k := fun ω x y m c => (blR (cmpW op x y m) m c).bind fun w m c => truR w m c) r en h') fun x H1 q => tI_imp q fun y H2 q => ?_
  obtain ⟨g, m, d, w, u, r, e, q1, q2, f⟩ := q
  cases z : cmpW op w u m with
  | none => exact f.not fun ω => by show (blR (cmpW op w u m) m _).bind _ = _; rw [z]; rfl
  | some b => exact cmp_okW r q1 q2 z ⟨b, rfl, f.fin (a := b) (m' := m) (fun ω => by show (blR (cmpW op w u m) m _).bind _ = _; rw [z]; rfl) (Step.refl _ _) r rfl⟩
theorem last_of {e u : Expr} {o o' : CmpOp} (h : plainE e = true) : lastMarks [o, o'] [u, e] = false := behind_of h o'
theorem chain_core {α β : Type} {rel' : G → α → β → Prop} {op op' : COp} {a b dd : E} {x y z : Expr} {fin : W → Mem → Nat → R α} {σ : L2.St} {H : Hp} {Q : β → Hp → Prop} {g : G} {ρ : Env} {m : Mem} {d : List Nat} {R' : VK}
    (r : RelM X.K ca g m d.length H) (en : REnv X.K ca g ρ σ)
    (h : Fin X.K ca ef rel' (wxE WX σ) (fun ω m c => (eI C prim n a ρ ω m c).bind fun x m c => (eI C prim n b ρ ω m c).bind fun y m c => match cmpW op x y m with
      | some k => if k then (eI C prim n dd ρ ω m c).bind fun u m c => (blR (cmpW op' y u m) m c).bind fin else fin (.bl false) m c
      | none => .no) g m d H (fun v H' _ _ _ _ => Q v H'))
    (last : ∀ (g : G) (m : Mem) (d : List Nat) (H : Hp) (k : Bool), RelM X.K ca g m d.length H → Fin X.K ca ef rel' (wxE WX σ) (fun ω m c => fin (.bl k) m c) g m d H (fun v H' _ _ _ _ => Q v H') → R' (.bl k) H) :
    tChain (rC X.K op) (rC X.K op') (tI X.K ca ef WX (eI C prim n a)) (tI X.K ca ef WX (eI C prim n b)) (tI X.K ca ef WX (eI C prim n dd)) σ H R' := by
  refine tI_imp (tI_two (k := fun ω x y m c => match cmpW op x y m with
      | some k => if k then (eI C prim n dd ρ ω m c).bind fun u m c => (blR (cmpW op' y u m) m c).bind fin else fin (.bl false) m c
      | none => .no) r en h) fun x H1 q => tI_imp q fun y H2 q => ?_
  obtain ⟨g, m, d, w, u, r, e, q1, q2, f⟩ := q
  cases z : cmpW op w u m with
  | none => exact f.not fun ω => by show (match cmpW op w u m with | some k => _ | none => _) = _; rw [z]
  | some k =>
    refine cmp_okW r q1 q2 z ⟨k, rfl, ?_⟩
    cases k with
    | false =>
      rw [if_neg (by decide)]
      exact last g m d H2 false r (f.congr (f' := fun ω m c => fin (.bl false) m c) fun ω => by show (match cmpW op w u m with | some k => _ | none => _) = _; rw [z]; rfl)
    | true =>
      rw [if_pos rfl]
      have f' := f.congr (f' := fun ω m c => (eI C prim n dd ρ ω m c).bind fun v m c => (blR (cmpW op' u v m) m c).bind fin) fun ω => by show (match cmpW op w u m with | some k => _ | none => _) = _; rw [z]; rfl
      obtain ⟨gc, ρc, mc, dc, rc, ec, hc⟩ := tI_first (f := eI C prim n dd) (k := fun ω v m c => (blR (cmpW op' u v m) m c).bind fin) r e f'
      refine ⟨gc, ρc, mc, dc, rc, ec, hc.imp fun v3 H3 _ _ _ _ zz => ?_⟩
      obtain ⟨g3, m3, d3, w3, r3, s3, e3, q3, f3⟩ := zz
      cases z3 : cmpW op' u w3 m3 with
      | none => exact f3.not fun ω => by show (blR (cmpW op' u w3 m3) m3 _).bind _ = _; rw [z3]; rfl
      | some k => exact cmp_okW r3 (Rep.mono s3.le _ _ q2) q3 z3 (last g3 m3 d3 H3 k r3 (f3.congr (f' := fun ω m c => fin (.bl k) m c) fun ω => by show (blR (cmpW op' u w3 m3) m3 _).bind _ = _; rw [z3]; rfl))
theorem s_chain {op op' : COp} {a b dd : E} {x y z : Expr} {p : Pos} (hu : X.A.units + 64 < cLine) (ha : PE X x (tI X.K ca ef WX (eI C prim n a))) (hb : PE X y (tI X.K ca ef WX (eI C prim n b))) (hd : PE X z (tI X.K ca ef WX (eI C prim n dd))) (hp : plainE z = true) :
    PE X (.Compare x [cmpOf op, cmpOf op'] [y, z] p) (tI X.K ca ef WX (eI C prim n (.chain op op' a b dd))) := by
  refine PE.weak (pe_chain (opC hu op) (opC hu op') ha hb hd (last_of hp)) fun σ H Q ⟨g, ρ, m, d, r, en, h⟩ => ?_
  refine chain_core (fin := fun w m c => .ok w m c) (x := x) (y := y) (z := z) r en (h.congr fun ω => ?_) fun g m d H k r f => f.fin (a := .bl k) (m' := m) (fun ω => rfl) (Step.refl _ _) r (by simp only [Rep])
  show evE C _ (.chain op op' a b dd) ρ m _ = _
  simp only [evE]
  congr 1
  funext x m c
  congr 1
  funext y m c
  cases cmpW op x y m with
  | none => rfl
  | some k => cases k with
    | false => rfl
    | true => simp only [if_true, R.bind_pure]
theorem s_chainT {op op' : COp} {a b dd : E} {x y z : Expr} {p : Pos} (hu : X.A.units + 64 < cLine) (ha : PE X x (tI X.K ca ef WX (eI C prim n a))) (hb : PE X y (tI X.K ca ef WX (eI C prim n b))) (hd : PE X z (tI X.K ca ef WX (eI C prim n dd))) (hp : plainE z = true) :
    PT X (.Compare x [cmpOf op, cmpOf op'] [y, z] p) (tIb X.K ca ef WX (tbI C prim n (.e (.chain op op' a b dd)))) := by
  refine PT.weak (pt_chain (opC hu op) (opC hu op') ha hb hd (last_of hp)) fun σ H Q ⟨g, ρ, m, d, r, en, h⟩ => ?_
  refine chain_core (R' := fun x H' => ∃ k, x = .bl k ∧ Q k H') (fin := fun w m c => truR w m c) (x := x) (y := y) (z := z) r en (h.congr fun ω => ?_) fun g m d H k r f => ⟨k, rfl, f.fin (a := k) (m' := m) (fun ω => rfl) (Step.refl _ _) r rfl⟩
  show evT C _ (.e (.chain op op' a b dd)) ρ m _ = _
  simp only [evT, evE, R.bind_bind]
  congr 1
  funext x m c
  congr 1
  funext y m c
  cases cmpW op x y m with
  | none => rfl
  | some k => cases k with
    | false => rfl
    | true => simp only [if_true, R.bind_bind]
end
end Lw

set_option maxHeartbeats 1000000
namespace Lw
open PySem PySem.Spec PyProof.Rows L2

section
variable {Z : Tab} {C : Cfg} {prim : Nat → Option Prim} {ca : CA} {ef : Nat → Str} {F : FT} {X : Cx} {N : List Str} {sc : Scope} {WX : L2.WX} {n : Nat}
theorem s_neg {a : E} {x : Expr} {p : Pos} (ha : PE X x (tI X.K ca ef WX (eI C prim n a))) : PE X (.UnaryOp .USub x p) (tI X.K ca ef WX (eI C prim n (.neg a))) := by
  refine PE.weak (pe_un un_neg ha) fun σ H Q ⟨g, ρ, m, d, r, en, h⟩ => ?_
  have h' := h.congr (f' := fun ω m c => (eI C prim n a ρ ω m c).bind fun x m c => match x with | .int i => .ok (.int (-i)) m c | _ => .no) fun ω => by show evE C _ (.neg a) ρ m _ = _; rw [evE] <;> rfl
  refine tI_imp (tI_first (k := fun ω x m c => match x with | .int i => .ok (W.int (-i)) m c | _ => .no) r en h') fun v1 H1 z => ?_
  obtain ⟨g1, m1, d1, w, r1, s1, e1, q1, f1⟩ := z
  cases w <;> try (exact f1.not fun ω => rfl)
  simp only [Rep] at q1
  subst q1
  exact ⟨_, rfl, f1.fin (a := .int _) (m' := m1) (fun ω => rfl) (Step.refl _ _) r1 (by simp only [Rep])⟩
theorem s_not {a : E} {x : Expr} {p : Pos} (ha : PE X x (tI X.K ca ef WX (eI C prim n a))) : PE X (.UnaryOp .Not x p) (tI X.K ca ef WX (eI C prim n (.not (.e a)))) := by
  refine PE.weak (pe_notT ha) fun σ H Q ⟨g, ρ, m, d, r, en, h⟩ => ?_
  have h' := h.congr (f' := fun ω m c => (eI C prim n a ρ ω m c).bind fun x m c => (truR x m c).bind fun b m c => .ok (.bl (!b)) m c) fun ω => by show evE C _ (.not (.e a)) ρ m _ = _; simp only [evE, evT, R.bind_bind]
  refine tI_imp (tI_first (k := fun ω x m c => (truR x m c).bind fun b m c => .ok (W.bl (!b)) m c) r en h') fun v1 H1 z => ?_
  obtain ⟨g1, m1, d1, w, r1, s1, e1, q1, f1⟩ := z
  cases z : truW m1 w with
  | none => exact f1.not fun ω => by show (truR w m1 _).bind _ = _; unfold truR; rw [z]; rfl
  | some b => exact ⟨b, tru_okW r1 q1 z, f1.fin (a := .bl (!b)) (m' := m1) (fun ω => by show (truR w m1 _).bind _ = _; unfold truR; rw [z]; rfl) (Step.refl _ _) r1 (by simp only [Rep])⟩
theorem s_and {a b : E} {x y : Expr} {rest : List Expr} {p : Pos} (ha : PE X x (tI X.K ca ef WX (eI C prim n a))) (hb : PE X (.BoolOp .And (y :: rest) p) (tI X.K ca ef WX (eI C prim n b))) : PE X (.BoolOp .And (x :: y :: rest) p) (tI X.K ca ef WX (eI C prim n (.and a b))) := by
  refine PE.weak (pe_and ha hb) fun σ H Q ⟨g, ρ, m, d, r, en, h⟩ => ?_
  have h' := h.congr (f' := fun ω m c => (eI C prim n a ρ ω m c).bind fun x m c => match x with | .bl k => if k then eI C prim n b ρ ω m c else .ok (.bl false) m c | _ => .no) fun ω => by show evE C _ (.and a b) ρ m _ = _; rw [evE] <;> rfl
  refine tI_imp (tI_first (k := fun ω x m c => match x with | .bl k => if k then eI C prim n b ρ ω m c else .ok (.bl false) m c | _ => .no) r en h') fun v1 H1 z => ?_
  obtain ⟨g1, m1, d1, w, r1, s1, e1, q1, f1⟩ := z
  cases w <;> try (exact f1.not fun ω => rfl)
  rename_i k
  simp only [Rep] at q1
  subst q1
  refine ⟨k, rfl, ?_⟩
  cases k with
  | true => rw [if_pos rfl]; exact ⟨g1, ρ, m1, d1, r1, e1, f1.congr fun ω => rfl⟩
  | false => rw [if_neg (by decide)]; exact f1.fin (a := .bl false) (m' := m1) (fun ω => rfl) (Step.refl _ _) r1 (by simp only [Rep])
theorem s_or {a b : E} {x y : Expr} {rest : List Expr} {p : Pos} (ha : PE X x (tI X.K ca ef WX (eI C prim n a))) (hb : PE X (.BoolOp .Or (y :: rest) p) (tI X.K ca ef WX (eI C prim n b))) : PE X (.BoolOp .Or (x :: y :: rest) p) (tI X.K ca ef WX (eI C prim n (.or a b))) := by
  refine PE.weak (pe_or ha hb) fun σ H Q ⟨g, ρ, m, d, r, en, h⟩ => ?_
  have h' := h.congr (f' := fun ω m c => (eI C prim n a ρ ω m c).bind fun x m c => match x with | .bl k => if k then .ok (.bl true) m c else eI C prim n b ρ ω m c | _ => .no) fun ω => by show evE C _ (.or a b) ρ m _ = _; rw [evE] <;> rfl
  refine tI_imp (tI_first (k := fun ω x m c => match x with | .bl k => if k then .ok (.bl true) m c else eI C prim n b ρ ω m c | _ => .no) r en h') fun v1 H1 z => ?_
  obtain ⟨g1, m1, d1, w, r1, s1, e1, q1, f1⟩ := z
  cases w <;> try (exact f1.not fun ω => rfl)
  rename_i k
  simp only [Rep] at q1
  subst q1
  refine ⟨k, rfl, ?_⟩
  cases k with
  | true => rw [if_pos rfl]; exact f1.fin (a := .bl true) (m' := m1) (fun ω => rfl) (Step.refl _ _) r1 (by simp only [Rep])
  | false => rw [if_neg (by decide)]; exact ⟨g1, ρ, m1, d1, r1, e1, f1.congr fun ω => rfl⟩
/-! ### tests -/
theorem s_tru {a : E} {x : Expr} (hp : plainT x = true) (ha : PE X x (tI X.K ca ef WX (eI C prim n a))) : PT X x (tIb X.K ca ef WX (tbI C prim n (.e a))) := by
  refine PT.weak (pt_truth ha (plainT_of hp X.env)) fun σ H Q ⟨g, ρ, m, d, r, en, h⟩ => ?_
  have h' := h.congr (f' := fun ω m c => (eI C prim n a ρ ω m c).bind fun x m c => truR x m c) fun ω => by show evT C _ (.e a) ρ m _ = _; simp only [evT]
  refine tI_imp (tI_first (k := fun ω x m c => truR x m c) r en h') fun v1 H1 z => ?_
  obtain ⟨g1, m1, d1, w, r1, s1, e1, q1, f1⟩ := z
  cases z : truW m1 w with
  | none => exact f1.not fun ω => by show truR w m1 _ = _; unfold truR; rw [z]
  | some b => exact ⟨b, tru_okW r1 q1 z, f1.fin (a := b) (m' := m1) (fun ω => by show truR w m1 _ = _; unfold truR; rw [z]) (Step.refl _ _) r1 rfl⟩
theorem s_notT {t : T} {x : Expr} {p : Pos} (ha : PT X x (tIb X.K ca ef WX (tbI C prim n t))) : PT X (.UnaryOp .Not x p) (tIb X.K ca ef WX (tbI C prim n (.not t))) := by
  refine PT.weak (pt_not ha) fun σ H Q ⟨g, ρ, m, d, r, en, h⟩ => ?_
  have h' := h.congr (f' := fun ω m c => (tbI C prim n t ρ ω m c).bind fun b m c => .ok (!b) m c) fun ω => by show evT C _ (.not t) ρ m _ = _; simp only [evT]
  refine tIb_imp (tIb_first (k := fun ω b m c => .ok (!b) m c) r en h') fun b H1 z => ?_
  obtain ⟨g1, m1, d1, r1, s1, e1, f1⟩ := z
  exact f1.fin (a := !b) (m' := m1) (fun ω => rfl) (Step.refl _ _) r1 rfl
theorem s_andT {a b : T} {x y : Expr} {rest : List Expr} {p : Pos} (ha : PT X x (tIb X.K ca ef WX (tbI C prim n a))) (hb : PW X (.BoolOp .And (y :: rest) p) (tIb X.K ca ef WX (tbI C prim n b))) : PW X (.BoolOp .And (x :: y :: rest) p) (tIb X.K ca ef WX (tbI C prim n (.and a b))) := by
  refine PW.weak (pw_and ha hb) fun σ H Q ⟨g, ρ, m, d, r, en, h⟩ => ?_
  have h' := h.congr (f' := fun ω m c => (tbI C prim n a ρ ω m c).bind fun k m c => if k then tbI C prim n b ρ ω m c else .ok false m c) fun ω => by show evT C _ (.and a b) ρ m _ = _; simp only [evT]
  refine tIb_imp (tIb_first (k := fun ω k m c => if k then tbI C prim n b ρ ω m c else .ok false m c) r en h') fun k H1 z => ?_
  obtain ⟨g1, m1, d1, r1, s1, e1, f1⟩ := z
  cases k with
  | true => rw [if_pos rfl]; exact ⟨g1, ρ, m1, d1, r1, e1, f1.congr fun ω => rfl⟩
  | false => rw [if_neg (by decide)]; exact f1.fin (a := false) (m' := m1) (fun ω => rfl) (Step.refl _ _) r1 rfl
theorem s_orT {a b : T} {x y : Expr} {rest : List Expr} {p : Pos} (ha : PT X x (tIb X.K ca ef WX (tbI C prim n a))) (hb : PW X (.BoolOp .Or (y :: rest) p) (tIb X.K ca ef WX (tbI C prim n b))) : PW X (.BoolOp .Or (x :: y :: rest) p) (tIb X.K ca ef WX (tbI C prim n (.or a b))) := by
  refine PW.weak (pw_or ha hb) fun σ H Q ⟨g, ρ, m, d, r, en, h⟩ => ?_
  have h' := h.congr (f' := fun ω m c => (tbI C prim n a ρ ω m c).bind fun k m c => if k then .ok true m c else tbI C prim n b ρ ω m c) fun ω => by show evT C _ (.or a b) ρ m _ = _; simp only [evT]
  refine tIb_imp (tIb_first (k := fun ω k m c => if k then .ok true m c else tbI C prim n b ρ ω m c) r en h') fun k H1 z => ?_
  obtain ⟨g1, m1, d1, r1, s1, e1, f1⟩ := z
  cases k with
  | true => rw [if_pos rfl]; exact f1.fin (a := true) (m' := m1) (fun ω => rfl) (Step.refl _ _) r1 rfl
  | false => rw [if_neg (by decide)]; exact ⟨g1, ρ, m1, d1, r1, e1, f1.congr fun ω => rfl⟩
theorem s_ife {t : T} {a b : E} {x y z : Expr} {p : Pos} (ht : PT X x (tIb X.K ca ef WX (tbI C prim n t))) (ha : PE X y (tI X.K ca ef WX (eI C prim n a))) (hb : PE X z (tI X.K ca ef WX (eI C prim n b))) : PE X (.IfExp x y z p) (tI X.K ca ef WX (eI C prim n (.ife t a b))) := by
  refine PE.weak (pe_ifExp ht ha hb) fun σ H Q ⟨g, ρ, m, d, r, en, h⟩ => ?_
  have h' := h.congr (f' := fun ω m c => (tbI C prim n t ρ ω m c).bind fun k m c => if k then eI C prim n a ρ ω m c else eI C prim n b ρ ω m c) fun ω => by show evE C _ (.ife t a b) ρ m _ = _; simp only [evE]
  refine tIb_imp (tIb_first (k := fun ω k m c => if k then eI C prim n a ρ ω m c else eI C prim n b ρ ω m c) r en h') fun k H1 z => ?_
  obtain ⟨g1, m1, d1, r1, s1, e1, f1⟩ := z
  cases k with
  | true => rw [if_pos rfl]; exact ⟨g1, ρ, m1, d1, r1, e1, f1.congr fun ω => rfl⟩
  | false => rw [if_neg (by decide)]; exact ⟨g1, ρ, m1, d1, r1, e1, f1.congr fun ω => rfl⟩
/-! ### fields, items, slices -/
theorem field_look {K : PySem.W.Frag} {g : G} {f : Str} : ∀ {ks : List Str} {ws : List W} {vs : List V} {w : W}, ks.length = ws.length → Reps K ca g ws vs → fieldOf f ks ws = some w → ∃ v, (ks.zip vs).lookup f = some v ∧ Rep K ca g w v
  | [], ws, vs, w, hl, q, e => by simp [fieldOf] at e
  | k :: ks, [], vs, w, hl, q, e => by simp at hl
  | k :: ks, u :: ws, vs, w, hl, q, e => by
    simp only [Reps] at q
    obtain ⟨v, r, e1, p, q⟩ := q
    subst e1
    simp only [fieldOf] at e
    rw [List.zip_cons_cons, List.lookup_cons]
    by_cases hf : f = k
    · rw [if_pos hf] at e
      cases e
      have hb : (f == k) = true := beq_iff_eq.mpr hf
      rw [hb]
      exact ⟨v, rfl, p⟩
    · rw [if_neg hf] at e
      have hb : (f == k) = false := beq_eq_false_iff_ne.mpr hf
      rw [hb]
      exact field_look (by simpa using hl) q e
theorem s_attr (o : Okx Z C prim ca ef F X N sc WX n) {a : E} {f : Str} {x : Expr} {p : Pos} (ha : PE X x (tI X.K ca ef WX (eI C prim n a))) (hf : Z.flds.contains f = true) (hn : baseOk x = true) : PE X (.Attribute x f p) (tI X.K ca ef WX (eI C prim n (.attr a f))) := by
  refine PE.weak (pe_fld ha (abase_of hn X.env)) fun σ H Q ⟨g, ρ, m, d, r, en, h⟩ => ?_
  have h' := h.congr (f' := fun ω m c => (eI C prim n a ρ ω m c).bind fun w m c => match vw m w with
    | .obj _ ks vs => match fieldOf f ks vs with
      | some x => .ok x m c
      | none => .no
    | _ => .no) fun ω => by show evE C _ (.attr a f) ρ m _ = _; rw [evE] <;> rfl
  refine tI_imp (tI_first (k := fun ω w m c => match vw m w with
    | .obj _ ks vs => match fieldOf f ks vs with
      | some x => .ok x m c
      | none => .no
    | _ => .no) r en h') fun v1 H1 z => ?_
  obtain ⟨g1, m1, d1, w, r1, s1, e1, q1, f1⟩ := z
  obtain ⟨_, _, ho, _⟩ := Rep.view r1 q1
  cases hv : vw m1 w with
  | obj k ks ws =>
    obtain ⟨b, dx, vs, rfl, hb, hz, rb⟩ := ho k ks ws hv
    cases hw : fieldOf f ks ws with
    | none => exact f1.not fun ω => by show (match vw m1 w with | .obj _ ks vs => _ | _ => _) = _; rw [hv]; show (match fieldOf f ks ws with | some x => _ | none => _) = _; rw [hw]
    | some u =>
      obtain ⟨v, lv, rv⟩ := field_look hz.1 rb hw
      exact ⟨b, ca k, dx, _, v, rfl, hb, (o.fx.cls k f (by rw [o.fx.hfl]; exact hf)).1, (o.fx.cls k f (by rw [o.fx.hfl]; exact hf)).2, lv, f1.fin (a := u) (m' := m1) (fun ω => by show (match vw m1 w with | .obj _ ks vs => _ | _ => _) = _; rw [hv]; show (match fieldOf f ks ws with | some x => _ | none => _) = _; rw [hw]) (Step.refl _ _) r1 rv⟩
  | _ => exact f1.not fun ω => by show (match vw m1 w with | .obj _ ks vs => _ | _ => _) = _; rw [hv]
theorem Reps.atI {K : PySem.W.Frag} {g : G} {ws : List W} {vs : List V} {i : Int} {w : W} (q : Reps K ca g ws vs) (e : ((place ws.length i).bind fun j => ws[j]?) = some w) : ∃ v, L2.atI vs i = some v ∧ Rep K ca g w v := by
  rw [Option.bind_eq_some_iff] at e
  obtain ⟨j, e1, e2⟩ := e
  obtain ⟨v, h1, h2⟩ := Reps.at q e2
  refine ⟨v, ?_, h2⟩
  unfold L2.atI
  have h : L2.ixN vs.length i = some j := by rw [Reps.length q]; exact e1
  rw [h]
  exact h1
theorem atI_ints {ns : List Int} {i : Int} {w : W} (e : ((place ns.length i).bind fun j => ns[j]?).map W.int = some w) : ∃ k, L2.atI (ns.map V.int) i = some (.int k) ∧ w = .int k := by
  rw [Option.map_eq_some_iff] at e
  obtain ⟨k, e, rfl⟩ := e
  rw [Option.bind_eq_some_iff] at e
  obtain ⟨j, e1, e2⟩ := e
  refine ⟨k, ?_, rfl⟩
  unfold L2.atI
  have h : L2.ixN (ns.map V.int).length i = some j := by rw [List.length_map]; exact e1
  rw [h]
  show (ns.map V.int)[j]? = _
  rw [List.getElem?_map, e2]
  rfl
theorem s_idx {a b : E} {x y : Expr} {p : Pos} (ha : PE X x (tI X.K ca ef WX (eI C prim n a))) (hb : PE X y (tI X.K ca ef WX (eI C prim n b))) (hp : plainE y = true) : PE X (.Subscript x y p) (tI X.K ca ef WX (eI C prim n (.idx a b))) := by
  refine PE.weak (pe_ix (ix_list.or ix_tup) ha hb (sub_of hp)) fun σ H Q ⟨g, ρ, m, d, r, en, h⟩ => ?_
  have h' := h.congr (f' := fun ω m c => (eI C prim n a ρ ω m c).bind fun x m c => (eI C prim n b ρ ω m c).bind fun y m c => match idxW m x y with | some w => .ok w m c | none => .no) fun ω => by show evE C _ (.idx a b) ρ m _ = _; rw [evE] <;> rfl
  refine tI_imp (tI_two (k := fun ω x y m c => match idxW m x y with | some w => .ok w m c | none => .no) r en h') fun x H1 q => tI_imp q fun y H2 q => ?_
  obtain ⟨g, m, d, w, u, r, e, q1, q2, f⟩ := q
  cases z : idxW m w u with
  | none => exact f.not fun ω => by show (match idxW m w u with | some w => _ | none => _) = _; rw [z]
  | some t =>
    have fin : ∀ v, Rep X.K ca g t v → Q v H2 := fun v rv => f.fin (a := t) (m' := m) (fun ω => by show (match idxW m w u with | some w => _ | none => _) = _; rw [z]) (Step.refl _ _) r rv
    unfold idxW at z
    obtain ⟨hl, ht, _, hs⟩ := Rep.view r q1
    cases u <;> try (cases hv : vw m w <;> simp [hv] at z; done)
    rename_i i
    simp only [Rep] at q2
    subst q2
    cases hv : vw m w with
    | lst xs =>
      rw [hv] at z
      obtain ⟨p, vs, rfl, hp, rp⟩ := hl xs hv
      obtain ⟨v, h1, h2⟩ := Reps.atI rp z
      exact .inl ⟨p, vs, i, v, rfl, rfl, SqL.of hp, h1, fin v h2⟩
    | tup xs =>
      rw [hv] at z
      obtain ⟨p, vs, rfl, hp, rp⟩ := ht xs hv
      obtain ⟨v, h1, h2⟩ := Reps.atI rp z
      exact .inr ⟨p, vs, i, v, rfl, rfl, hp, h1, fin v h2⟩
    | scr ns =>
      rw [hv] at z
      obtain ⟨p, rfl, hp⟩ := hs ns hv
      obtain ⟨k, h1, h2⟩ := atI_ints z
      exact .inl ⟨p, _, i, .int k, rfl, rfl, hp, h1, fin _ (by rw [h2]; simp only [Rep])⟩
    | _ => rw [hv] at z; cases z
theorem s_o_none : PO X none (tIo X.K ca ef WX (oI C prim n .none)) := by
  refine ⟨fun pins s σ H Q I h => po_none.run pins s σ H Q I ?_⟩
  obtain ⟨g, ρ, m, d, r, en, h⟩ := h
  exact h.fin (a := none) (m' := m) (fun ω => by show evO C _ .none ρ m _ = _; simp only [evO]) (Step.refl _ _) r rfl
theorem s_o_some {a : E} {x : Expr} (ha : PE X x (tI X.K ca ef WX (eI C prim n a))) : PO X (some x) (tIo X.K ca ef WX (oI C prim n (.some a))) := by
  refine ⟨fun pins s σ H Q I h => (po_some ha).run pins s σ H Q I ?_⟩
  obtain ⟨g, ρ, m, d, r, en, h⟩ := h
  have h' := h.congr (f' := fun ω m c => (eI C prim n a ρ ω m c).bind fun x m c => match x with | .int i => .ok (some i) m c | _ => .no) fun ω => by show evO C _ (.some a) ρ m _ = _; rw [evO] <;> rfl
  refine tI_imp (tI_first (k := fun ω x m c => match x with | .int i => .ok (some i) m c | _ => .no) r en h') fun v1 H1 z => ?_
  obtain ⟨g1, m1, d1, w, r1, s1, e1, q1, f1⟩ := z
  cases w <;> try (exact f1.not fun ω => rfl)
  simp only [Rep] at q1
  subst q1
  exact ⟨_, rfl, f1.fin (a := some _) (m' := m1) (fun ω => rfl) (Step.refl _ _) r1 rfl⟩
theorem Reps.cut {K : PySem.W.Frag} {g : G} {ws : List W} {vs : List V} (q : Reps K ca g ws vs) (lo hi : Option Int) : Reps K ca g (cutW ws lo hi) (cutV vs lo hi) := by
  unfold cutW cutV
  rw [Reps.length q]
  exact Reps.take _ (Reps.drop _ q)
theorem cut_whole {ws : List W} {lo hi : Option Int} (h : cutIx ws.length 0 lo = 0 ∧ cutIx ws.length ws.length hi = ws.length) : cutW ws lo hi = ws := by
  unfold cutW
  rw [h.1, h.2, List.drop_zero, Nat.sub_zero, List.take_length]
theorem s_slc {cell : Bool} {a : E} {lo hi : O} {x : Expr} {l u : Option Expr} {p p2 : Pos} (ha : PE X x (tI X.K ca ef WX (eI C prim n a))) (hl : PO X l (tIo X.K ca ef WX (oI C prim n lo))) (hu : PO X u (tIo X.K ca ef WX (oI C prim n hi))) :
    PE X (.Subscript x (.Slice l u none p2) p) (tI X.K ca ef WX (eI C prim n (.slc cell a lo hi))) := by
  refine PE.weak (pe_slice (sl_list.or sl_tupA) ha hl hu) fun σ H Q ⟨g, ρ, m, d, r, en, h⟩ => ?_
  have h' := h.congr (f' := fun ω m c => (eI C prim n a ρ ω m c).bind fun x m c => (oI C prim n lo ρ ω m c).bind fun l m c => (oI C prim n hi ρ ω m c).bind fun h m c => slcW cell x l h m c) fun ω => by show evE C _ (.slc cell a lo hi) ρ m _ = _; rw [evE]
  refine tI_imp (tI_first (k := fun ω x m c => (oI C prim n lo ρ ω m c).bind fun l m c => (oI C prim n hi ρ ω m c).bind fun h m c => slcW cell x l h m c) r en h') fun v1 H1 z => ?_
  obtain ⟨g1, m1, d1, w, r1, s1, e1, q1, f1⟩ := z
  obtain ⟨gb, ρb, mb, db, rb, eb, hb⟩ := tIo_first (f := oI C prim n lo) (k := fun ω l m c => (oI C prim n hi ρ ω m c).bind fun h m c => slcW cell w l h m c) r1 e1 f1
  refine ⟨gb, ρb, mb, db, rb, eb, hb.imp fun lo' H2 _ _ _ _ z => ?_⟩
  obtain ⟨g2, m2, d2, r2, s2, e2, f2⟩ := z
  obtain ⟨gc, ρc, mc, dc, rc, ec, hc⟩ := tIo_first (f := oI C prim n hi) (k := fun ω h m c => slcW cell w lo' h m c) r2 e2 f2
  refine ⟨gc, ρc, mc, dc, rc, ec, hc.imp fun hi' H3 _ _ _ _ z => ?_⟩
  obtain ⟨g3, m3, d3, r3, s3, e3, f3⟩ := z
  have q3 := Rep.mono (s2.trans s3).le _ _ q1
  obtain ⟨vl, vt, _, _⟩ := Rep.view r3 q3
  cases hv : vw m3 w with
  | lst xs =>
    obtain ⟨b, vs, rfl, hb, rb⟩ := vl xs hv
    obtain ⟨hz, hk⟩ := fin_mkL (f3.congr (f' := fun ω m c => mkL cell (cutW xs lo' hi') m c) fun ω => by show slcW cell w lo' hi' m3 _ = _; unfold slcW; rw [hv]) r3 (Reps.cut rb lo' hi')
    exact .inl ⟨b, vs, rfl, SqL.of hb, fun p np => by obtain ⟨_, _, _, z⟩ := hk p np; exact z⟩
  | tup xs =>
    obtain ⟨b, vs, rfl, hb, rb⟩ := vt xs hv
    have f3' := f3.congr (f' := fun ω m c => mkT (cutW xs lo' hi') m c) fun ω => by show slcW cell w lo' hi' m3 _ = _; unfold slcW; rw [hv]
    obtain ⟨hz, hk⟩ := fin_mkT f3' r3 (Reps.cut rb lo' hi')
    refine .inr ⟨b, vs, rfl, hb, fun hw => ?_, fun _ p np => (hk p np).elim fun _ z => z.2.2⟩
    rw [Reps.length rb] at hw
    have ew := cut_whole (ws := xs) (lo := lo') (hi := hi') hw
    cases vw_tup hv
    refine f3'.fin (a := .tup xs) (m' := m3) (fun ω => ?_) (Step.refl _ _) r3 q3
    show mkT (cutW xs lo' hi') m3 _ = _
    rw [ew]
    unfold mkT
    rw [if_pos]
    have hl := Reps.length (Reps.cut rb lo' hi')
    rw [ew] at hl
    omega
  | _ => exact f3.not fun ω => by show slcW cell w lo' hi' m3 _ = _; unfold slcW; rw [hv]
end
end Lw

set_option maxHeartbeats 1000000
namespace Lw
open PySem PySem.Spec PyProof.Rows L2

section
variable {X : Cx}
/-- sorted(a tuple of ints) -/
theorem cr_sortedT : CallR X (.builtin "sorted") (fun vs H Q => ∃ (a : Addr) (ns : List Int), vs = [V.ref a] ∧ SqT X.K H a (ns.map V.int) ∧
    ∀ (ns' : List Int) (p : Addr), ns'.Perm ns → ns'.Pairwise (· ≤ ·) → H p = none → Q (.ref p) (upd H p (.lst (ns'.map V.int)))) := by
  intro pins s σ H vs us Q I r h
  obtain ⟨a, ns, rfl, hs, q⟩ := h
  obtain ⟨its, rv, ht, hz⟩ := I.tuple hs
  rw [Vals.ref1 r]
  have hi := rv.ints
  have hz' : its.length ≤ sizeLine := by rw [← rv.length]; exact hz
  obtain ⟨o, ho, hc, n, hd⟩ := ht
  refine Calls.call_function_entry kind_sorted plain_sorted entry_sorted (args_sorted1 _) ?_
  unfold Builtin.«sorted»
  refine wpAny_bind (m := checkCount "sorted" 1 1 _) (wpAny_pure ?_)
  refine wpAny_bind (wpAny_collect_seq a (.inr rfl) ho hc hd (fun h' hk => ?_) (by rw [List.size_toArray]; exact hz'))
  have I' : Inv X pins σ H { s with heap := h' } := I.kept (t' := s.toks) hk
  have e0 : its.toArray.toList = its := by simp
  rw [e0]
  refine wpAny_bind (wpAny_newList ?_ hz')
  have hoL : (h'.push (seqObj "list" its.toArray 0)).get? h'.objs.size = some (seqObj "list" its.toArray 0) := Heap.get?_push_size _ rfl
  refine wpAny_bind (wpAny_holding (wpAny_call_entry slot_list_sort ⟨_, hoL, rfl⟩ entry_list_sort (SrtO.list_sort_ord SrtO.swo_int hoL hz' (fun h2 => SrtO.ints_sortable hi h2) fun out h1 h2 => ⟨_, rfl, ?_⟩) (args_list_sort _)))
  obtain ⟨k1, k2, k3⟩ := SrtO.ints_out hi h1 h2
  obtain ⟨ep, he'⟩ := PyProof.Rows.sortedHeap_at (vs := its) (out := out.toArray) hoL
  have hlen : ((out.map SrtO.iv).map V.int).length ≤ sizeLine := by
    rw [List.length_map, k2.length_eq]
    rw [List.length_map] at hz
    exact hz
  refine wpAny_pure ⟨_, rfl, ?_⟩
  exact ⟨.ref _, upd H h'.objs.size (.lst ((out.map SrtO.iv).map V.int)), I'.laid (t' := s.toks) (fun b u e => by
    have hlt : b < h'.objs.size := Heap.lt_size e
    rw [PyProof.Rows.sortedHeap_old (Nat.ne_of_lt hlt) (by rw [size_push']; exact Nat.lt_succ_of_lt hlt)]
    exact Heap.get?_push_of_some _ e) (Nat.le_refl _) ⟨hlen, out, ep, vals_of_ints k1, he'⟩, rfl, q _ _ k2 k3 (I'.hok.fresh (Nat.le_refl _))⟩
end
/-- one sorted list of ints -/
theorem sort_one {ns ns' : List Int} (p : ns'.Perm ns) (q : ns'.Pairwise (· ≤ ·)) : ns' = sortI ns := by
  have h1 : (sortI ns).Pairwise (· ≤ ·) := by
    have := List.pairwise_mergeSort (le := fun a b : Int => decide (a ≤ b)) (fun a b c h1 h2 => by simp at *; omega) (fun a b => by simp; omega) ns
    exact this.imp fun h => by simpa using h
  have h2 : (sortI ns).Perm ns := List.mergeSort_perm ns _
  exact List.Perm.eq_of_pairwise (fun a b _ _ h1 h2 => by omega) q h1 (p.trans h2.symm)

section
variable {Z : Tab} {C : Cfg} {prim : Nat → Option Prim} {ca : CA} {ef : Nat → Str} {F : FT} {X : Cx} {N : List Str} {sc : Scope} {WX : L2.WX} {n : Nat}
/-- the built-in functions by their readings -/
def rBl (K : PySem.W.Frag) : Blt → List V → Hp → VK → Prop
  | .len => fun xs H Q => (∃ p ys, xs = [.ref p] ∧ (SqL K H p ys ∨ SqT K H p ys) ∧ Q (.int ys.length) H) ∨ (∃ z, xs = [.str z] ∧ z.length ≤ sizeLine ∧ Q (.int z.length) H)
  | .int => fun xs H Q => (∃ i, xs = [.int i] ∧ Q (.int i) H) ∨ ∃ k, xs = [.bl k] ∧ Q (.int (if k then 1 else 0)) H
  | .abs => fun xs H Q => ∃ i, xs = [.int i] ∧ Q (.int (if i < 0 then -i else i)) H
  | .max2 => fun xs H Q => ∃ i j, xs = [.int i, .int j] ∧ Q (.int (if j > i then j else i)) H
  | .min2 => fun xs H Q => ∃ i j, xs = [.int i, .int j] ∧ Q (.int (if j < i then j else i)) H
  | .sorted => fun xs H Q => rSortedI K xs H Q ∨ (∃ (a : Addr) (ns : List Int), xs = [V.ref a] ∧ SqT K H a (ns.map V.int) ∧ ∀ (ns' : List Int) (p : Addr), ns'.Perm ns → ns'.Pairwise (· ≤ ·) → H p = none → Q (.ref p) (upd H p (.lst (ns'.map V.int))))
  | .list => fun xs H Q => ∃ p ys, xs = [.ref p] ∧ (SqL K H p ys ∨ SqT K H p ys) ∧ ∀ l, H l = none → Q (.ref l) (upd H l (.lst ys))
  | .tuple => fun xs H Q => ∃ p ys, xs = [.ref p] ∧ ((SqL K H p ys ∧ ∀ l, H l = none → Q (.ref l) (upd H l (.tup ys))) ∨ (SqT K H p ys ∧ Q (.ref p) H))
  | .str => fun xs H Q => ∃ i, xs = [.int i] ∧ i.natAbs.log2 < 1920 ∧ Q (.str (toString i)) H
  | .all => rAll K
  | .any => rAny K
  | .sum => rSum K
def bltV : Blt → Value
  | .len => .builtin "len" | .int => .type "int" | .abs => .builtin "abs" | .max2 => .builtin "max" | .min2 => .builtin "min" | .sorted => .builtin "sorted" | .list => .type "list" | .tuple => .type "tuple" | .str => .type "str" | .all => .builtin "all" | .any => .builtin "any" | .sum => .builtin "sum"
theorem crBl (hc : X.calm = true) : ∀ b, CallR X (bltV b) (rBl X.K b)
  | .len => call_len_seq.or call_len_str
  | .int => call_int1
  | .abs => call_abs
  | .max2 => call_max2 hc
  | .min2 => call_min2 hc
  | .sorted => cr_sortedI.or cr_sortedT
  | .list => call_list_of
  | .tuple => call_tuple_of
  | .str => call_str_int
  | .all => cr_all hc
  | .any => cr_any hc
  | .sum => cr_sum hc
theorem bltBoot : ∀ b, bootBuiltins (bltName b) = some (bltV b)
  | .len => by decide +kernel
  | .int => by decide +kernel
  | .abs => by decide +kernel
  | .max2 => by decide +kernel
  | .min2 => by decide +kernel
  | .sorted => by decide +kernel
  | .list => by decide +kernel
  | .tuple => by decide +kernel
  | .str => by decide +kernel
  | .all => by decide +kernel
  | .any => by decide +kernel
  | .sum => by decide +kernel
theorem bltPlain : ∀ b, okName (bltName b) = true := by
  intro b
  cases b <;> decide +kernel
theorem one_of {K : PySem.W.Frag} {g : G} {ws : List W} {vs : List V} {w : W} (q : Reps K ca g ws vs) (e : ws = [w]) : ∃ v, vs = [v] ∧ Rep K ca g w v := by
  subst e
  simp only [Reps] at q
  obtain ⟨v, r, e1, p, e2⟩ := q
  subst e2 e1
  exact ⟨v, rfl, p⟩
theorem two_of {K : PySem.W.Frag} {g : G} {ws : List W} {vs : List V} {w u : W} (q : Reps K ca g ws vs) (e : ws = [w, u]) : ∃ v x, vs = [v, x] ∧ Rep K ca g w v ∧ Rep K ca g u x := by
  subst e
  simp only [Reps] at q
  obtain ⟨v, r, e1, p, x, r', e2, p', e3⟩ := q
  subst e3 e2 e1
  exact ⟨v, x, rfl, p, p'⟩
theorem blt_ok {g : G} {m : Mem} {d : List Nat} {H : Hp} {WE : Exn → Env → Value → Option Addr → Hp → G → Mem → List Nat → Prop} {cell : Bool} {b : Blt} {ws : List W} {vs : List V} {Q : VK} (r : RelM X.K ca g m d.length H) (q : Reps X.K ca g ws vs)
    (h : Fin X.K ca ef (Rep X.K ca) WE (fun ω m c => bltW cell b ws m c) g m d H (fun v H' _ _ _ _ => Q v H')) : rBl X.K b vs H Q := by
  have fl : ∀ l : List W, (∀ ω : Nat → Nat, bltW cell b ws m d.length = mkL cell l m d.length) → ∀ vs, Reps X.K ca g l vs → vs.length ≤ sizeLine ∧ ∀ p, H p = none → Q (.ref p) (upd H p (.lst vs)) := fun l e vs ql => by
    obtain ⟨hl, hk⟩ := fin_mkL (h.congr (f' := fun ω m c => mkL cell l m c) e) r ql
    exact ⟨hl, fun p np => by obtain ⟨_, _, _, z⟩ := hk p np; exact z⟩
  have ft : ∀ l : List W, (∀ ω : Nat → Nat, bltW cell b ws m d.length = mkT l m d.length) → ∀ vs, Reps X.K ca g l vs → vs.length ≤ sizeLine ∧ ∀ p, H p = none → Q (.ref p) (upd H p (.tup vs)) := fun l e vs ql => by
    obtain ⟨hl, hk⟩ := fin_mkT (h.congr (f' := fun ω m c => mkT l m c) e) r ql
    exact ⟨hl, fun p np => by obtain ⟨g', z1, z2, z3⟩ := hk p np; exact z3⟩
  have bad : ∀ {P : Prop}, (bltW cell b ws m d.length = .no) → P := fun e => h.not fun ω => e
  have fin : ∀ {v : V} (a : W), (∀ ω : Nat → Nat, bltW cell b ws m d.length = .ok a m d.length) → Rep X.K ca g a v → Q v H := fun a e rv => h.fin (a := a) (m' := m) e (Step.refl _ _) r rv
  cases b with
  | len =>
    rcases ws with _ | ⟨w, _ | ⟨u, t⟩⟩ <;> try (refine bad ?_; simp only [bltW]; done)
    obtain ⟨v, rfl, p⟩ := one_of q rfl
    obtain ⟨hl, ht, _, hs⟩ := Rep.view r p
    cases hv : vw m w <;> try (refine bad ?_; simp only [bltW, hv]; done)
    · rename_i s
      cases Rep.str p hv
      by_cases z : s.length ≤ sizeLine
      · exact .inr ⟨s, rfl, z, fin (.int (s.length : Nat)) (fun ω => by simp only [bltW, hv]; rw [if_pos z]) (by simp only [Rep])⟩
      · exact bad (by simp only [bltW, hv]; rw [if_neg z])
    · rename_i xs
      obtain ⟨a, vs, rfl, ha, ra⟩ := hl xs hv
      exact .inl ⟨a, vs, rfl, .inl (SqL.of ha), fin (.int (xs.length : Nat)) (fun ω => by simp only [bltW, hv]) (by simp only [Rep]; rw [Reps.length ra])⟩
    · rename_i xs
      obtain ⟨a, vs, rfl, ha, ra⟩ := ht xs hv
      exact .inl ⟨a, vs, rfl, .inr ha, fin (.int (xs.length : Nat)) (fun ω => by simp only [bltW, hv]) (by simp only [Rep]; rw [Reps.length ra])⟩
    · rename_i ns
      obtain ⟨a, rfl, ha⟩ := hs ns hv
      exact .inl ⟨a, _, rfl, .inl ha, fin (.int (ns.length : Nat)) (fun ω => by simp only [bltW, hv]) (by simp only [Rep]; rw [List.length_map])⟩
  | int =>
    rcases ws with _ | ⟨w, _ | ⟨u, t⟩⟩ <;> try (refine bad ?_; simp only [bltW]; done)
    · obtain ⟨v, rfl, p⟩ := one_of q rfl
      cases w <;> try (refine bad ?_; simp only [bltW]; done)
      · simp only [Rep] at p
        subst p
        exact .inr ⟨_, rfl, fin (.int _) (fun ω => rfl) (by simp only [Rep])⟩
      · simp only [Rep] at p
        subst p
        exact .inl ⟨_, rfl, fin (.int _) (fun ω => rfl) (by simp only [Rep])⟩
  | abs =>
    rcases ws with _ | ⟨w, _ | ⟨u, t⟩⟩ <;> try (refine bad ?_; simp only [bltW]; done)
    · obtain ⟨v, rfl, p⟩ := one_of q rfl
      cases w <;> try (refine bad ?_; simp only [bltW]; done)
      simp only [Rep] at p
      subst p
      exact ⟨_, rfl, fin (.int _) (fun ω => rfl) (by simp only [Rep])⟩
  | max2 =>
    rcases ws with _ | ⟨w, _ | ⟨u, _ | ⟨u2, t⟩⟩⟩ <;> try (refine bad ?_; simp only [bltW]; done)
    · obtain ⟨v, x, rfl, p, p'⟩ := two_of q rfl
      cases w <;> cases u <;> try (refine bad ?_; rfl)
      simp only [Rep] at p p'
      subst p p'
      exact ⟨_, _, rfl, fin (.int _) (fun ω => rfl) (by simp only [Rep])⟩
  | min2 =>
    rcases ws with _ | ⟨w, _ | ⟨u, _ | ⟨u2, t⟩⟩⟩ <;> try (refine bad ?_; simp only [bltW]; done)
    · obtain ⟨v, x, rfl, p, p'⟩ := two_of q rfl
      cases w <;> cases u <;> try (refine bad ?_; rfl)
      simp only [Rep] at p p'
      subst p p'
      exact ⟨_, _, rfl, fin (.int _) (fun ω => rfl) (by simp only [Rep])⟩
  | sorted =>
    rcases ws with _ | ⟨w, _ | ⟨u, t⟩⟩ <;> try (refine bad ?_; simp only [bltW]; done)
    obtain ⟨v, rfl, p⟩ := one_of q rfl
    obtain ⟨hl, ht, _, hs⟩ := Rep.view r p
    cases hv : vw m w <;> try (refine bad ?_; simp only [bltW, hv]; done)
    · rename_i xs
      obtain ⟨a, vs, rfl, ha, ra⟩ := hl xs hv
      cases hi : intsOf xs with
      | none => exact bad (by simp only [bltW, hv, hi])
      | some ns =>
        have e := Reps.ints ra hi
        subst e
        refine .inl ⟨a, ns, rfl, SqL.of ha, fun ns' p pm pw np => ?_⟩
        rw [sort_one pm pw]
        exact (fl ((sortI ns).map .int) (fun ω => by simp only [bltW, hv, hi]) _ (Reps.ofInts _)).2 p np
    · rename_i xs
      obtain ⟨a, vs, rfl, ha, ra⟩ := ht xs hv
      cases hi : intsOf xs with
      | none => exact bad (by simp only [bltW, hv, hi])
      | some ns =>
        have e := Reps.ints ra hi
        subst e
        refine .inr ⟨a, ns, rfl, ha, fun ns' p pm pw np => ?_⟩
        rw [sort_one pm pw]
        exact (fl ((sortI ns).map .int) (fun ω => by simp only [bltW, hv, hi]) _ (Reps.ofInts _)).2 p np
  | list =>
    rcases ws with _ | ⟨w, _ | ⟨u, t⟩⟩ <;> try (refine bad ?_; simp only [bltW]; done)
    obtain ⟨v, rfl, p⟩ := one_of q rfl
    obtain ⟨hl, ht, _, hs⟩ := Rep.view r p
    cases hv : vw m w <;> try (refine bad ?_; simp only [bltW, hv]; done)
    · rename_i xs
      obtain ⟨a, vs, rfl, ha, ra⟩ := hl xs hv
      exact ⟨a, vs, rfl, .inl (SqL.of ha), (fl xs (fun ω => by simp only [bltW, hv]) _ ra).2⟩
    · rename_i xs
      obtain ⟨a, vs, rfl, ha, ra⟩ := ht xs hv
      exact ⟨a, vs, rfl, .inr ha, (fl xs (fun ω => by simp only [bltW, hv]) _ ra).2⟩
  | tuple =>
    rcases ws with _ | ⟨w, _ | ⟨u, t⟩⟩ <;> try (refine bad ?_; simp only [bltW]; done)
    obtain ⟨v, rfl, p⟩ := one_of q rfl
    obtain ⟨hl, ht, _, hs⟩ := Rep.view r p
    cases hv : vw m w <;> try (refine bad ?_; simp only [bltW, hv]; done)
    · rename_i xs
      obtain ⟨a, vs, rfl, ha, ra⟩ := hl xs hv
      exact ⟨a, vs, rfl, .inl ⟨SqL.of ha, (ft xs (fun ω => by simp only [bltW, hv]) _ ra).2⟩⟩
    · rename_i xs
      obtain ⟨a, vs, rfl, ha, ra⟩ := ht xs hv
      have hz := (ft xs (fun ω => by simp only [bltW, hv]) _ ra).1
      cases vw_tup hv
      exact ⟨a, vs, rfl, .inr ⟨ha, fin (.tup xs) (fun ω => by simp only [bltW, hv]; unfold mkT; rw [if_pos (by rw [← Reps.length ra]; exact hz)]) p⟩⟩
  | str =>
    rcases ws with _ | ⟨w, _ | ⟨u, t⟩⟩ <;> try (refine bad ?_; simp only [bltW]; done)
    · obtain ⟨v, rfl, p⟩ := one_of q rfl
      cases w <;> try (refine bad ?_; simp only [bltW]; done)
      rename_i i
      simp only [Rep] at p
      subst p
      by_cases z : sizeI i < 1920
      · exact ⟨_, rfl, z, fin (.str _) (fun ω => by simp only [bltW]; rw [if_pos z]) (by simp only [Rep])⟩
      · exact bad (by simp only [bltW]; rw [if_neg z])
  | all =>
    rcases ws with _ | ⟨w, _ | ⟨u, t⟩⟩ <;> try (refine bad ?_; simp only [bltW]; done)
    obtain ⟨v, rfl, p⟩ := one_of q rfl
    obtain ⟨hl, ht, _, hs⟩ := Rep.view r p
    cases hv : vw m w <;> try (refine bad ?_; simp only [bltW, hv]; done)
    rename_i xs
    obtain ⟨a, vs, rfl, ha, ra⟩ := hl xs hv
    cases hi : blsOf xs with
    | none => exact bad (by simp only [bltW, hv, hi])
    | some bs =>
      have e := Reps.bls ra hi
      subst e
      exact ⟨a, bs, rfl, SqL.of ha, fin (.bl _) (fun ω => by simp only [bltW, hv, hi]; rfl) (by simp only [Rep])⟩
  | any =>
    rcases ws with _ | ⟨w, _ | ⟨u, t⟩⟩ <;> try (refine bad ?_; simp only [bltW]; done)
    obtain ⟨v, rfl, p⟩ := one_of q rfl
    obtain ⟨hl, ht, _, hs⟩ := Rep.view r p
    cases hv : vw m w <;> try (refine bad ?_; simp only [bltW, hv]; done)
    rename_i xs
    obtain ⟨a, vs, rfl, ha, ra⟩ := hl xs hv
    cases hi : blsOf xs with
    | none => exact bad (by simp only [bltW, hv, hi])
    | some bs =>
      have e := Reps.bls ra hi
      subst e
      exact ⟨a, bs, rfl, SqL.of ha, fin (.bl _) (fun ω => by simp only [bltW, hv, hi]; rfl) (by simp only [Rep])⟩
  | sum =>
    rcases ws with _ | ⟨w, _ | ⟨u, t⟩⟩ <;> try (refine bad ?_; simp only [bltW]; done)
    obtain ⟨v, rfl, p⟩ := one_of q rfl
    obtain ⟨hl, ht, _, hs⟩ := Rep.view r p
    cases hv : vw m w <;> try (refine bad ?_; simp only [bltW, hv]; done)
    rename_i xs
    obtain ⟨a, vs, rfl, ha, ra⟩ := hl xs hv
    cases hi : intsOf xs with
    | none => exact bad (by simp only [bltW, hv, hi])
    | some bs =>
      have e := Reps.ints ra hi
      subst e
      exact ⟨a, bs, rfl, SqL.of ha, fin (.int _) (fun ω => by simp only [bltW, hv, hi]; rfl) (by simp only [Rep])⟩
theorem s_blt (o : Okx Z C prim ca ef F X N sc WX n) {cell : Bool} {b : Blt} {es : Es} {xs : List Expr} {x : Str} {p1 p : Pos} (hA : PA X xs (tIs X.K ca ef WX (esI C prim n es))) (hx : bltName b = x) (hg : glB sc x = true) (hp : xs.all plainE = true) (hne : xs.isEmpty = false) :
    PE X (.Call (.Name x p1) xs [] p) (tI X.K ca ef WX (eI C prim n (.blt cell b es))) := by
  subst hx
  obtain ⟨y, ys, rfl⟩ : ∃ y ys, xs = y :: ys := by
    cases xs with
    | nil => cases hne
    | cons y ys => exact ⟨y, ys, rfl⟩
  rw [List.all_cons, Bool.and_eq_true] at hp
  have hn := okName_nm (bltPlain b)
  have hdb := okName_dbg (bltPlain b)
  have main : ∀ σ H Q, tI X.K ca ef WX (eI C prim n (.blt cell b es)) σ H Q → tCB (rBl X.K b) (tIs X.K ca ef WX (esI C prim n es)) σ H Q := fun σ H Q ⟨g, ρ, m, d, r, en, h⟩ => by
    have h' := h.congr (f' := fun ω m c => (esI C prim n es ρ ω m c).bind fun ws m c => bltW cell b ws m c) fun ω => by show evE C _ (.blt cell b es) ρ m _ = _; simp only [evE]
    refine tIs_imp (tIs_first (k := fun ω ws m c => bltW cell b ws m c) r en h') fun vs H1 z => ?_
    obtain ⟨g1, m1, d1, ws, r1, s1, e1, q1, f1⟩ := z
    exact blt_ok r1 q1 f1
  have hb := bltBoot b
  have hc := crBl o.calm b
  cases hv : bltV b with
  | builtin id =>
    rw [hv] at hb hc
    exact PE.weak (pe_callB hc (o.gl hg) (o.fx.blt b) hb hA hn hdb (star_of hp.1 ys X.env) (nostar hp.2 p X.env)) main
  | type id =>
    rw [hv] at hb hc
    exact PE.weak (pe_callTy hc (o.gl hg) (o.fx.blt b) hb hA hn hdb (star_of hp.1 ys X.env) (nostar hp.2 p X.env)) main
  | _ => cases b <;> cases hv
end
end Lw

set_option maxHeartbeats 1000000
namespace Lw
open PySem PySem.Spec PyProof.Rows L2

section
variable {Z : Tab} {C : Cfg} {prim : Nat → Option Prim} {ca : CA} {ef : Nat → Str} {F : FT} {X : Cx} {N : List Str} {sc : Scope} {WX : L2.WX} {n : Nat}
/-! ### isinstance -/
/-- the name of a value's type -/
def tyN : W → Option String
  | .non => some "NoneType" | .bl _ => some "bool" | .int _ => some "int" | .str _ => some "str" | .lst _ => some "list" | .tup _ => some "tuple" | .dic0 => some "dict" | _ => none
theorem tyx_of {g : G} {m : Mem} {c : Nat} {H : Hp} {w : W} {v : V} (r : RelM X.K ca g m c H) (q : Rep X.K ca g w v) {t : String} (e : tyN (vw m w) = some t) : TyX X.K H v (.type t) := by
  obtain ⟨hl, ht, _, _⟩ := Rep.view r q
  cases hv : vw m w <;> rw [hv] at e <;> simp [tyN] at e <;> subst e
  · cases Rep.non q hv; exact .base .non
  · cases Rep.bl q hv; exact .base (.bl _)
  · cases Rep.int q hv; exact .base (.int _)
  · cases Rep.str q hv; exact .base (.str _)
  · obtain ⟨a, vs, rfl, ha, ra⟩ := hl _ hv; exact .base (.lst ha)
  · obtain ⟨a, vs, rfl, ha, ra⟩ := ht _ hv
    rcases ha with (ha | ⟨o, ha⟩) | ⟨o, its, nn, h1, h2, _⟩
    · exact .base (.tup ha)
    · exact .fTuple ha
    · exact .kTuple h1 h2
  · cases w <;> simp [vw] at hv
    · split at hv <;> simp at hv
    · simp only [Rep] at q
      obtain ⟨a, rfl, ha⟩ := q
      exact .base (.dK (r.sub _ _ ha))
def tyS : Ty → Option String
  | .int => some "int" | .bool => some "bool" | .str => some "str" | .list => some "list" | .tuple => some "tuple" | _ => none
theorem kit_all (K : PySem.W.Frag) (a b : String) (ha : a ∈ ["NoneType", "bool", "int", "str", "list", "tuple", "dict"]) (hb : b ∈ ["int", "bool", "str", "list", "tuple"]) : PySem.W.kitOne K (.type a) (.type b) = some (a == b || (a == "bool" && b == "int")) := by
  simp only [List.mem_cons, List.not_mem_nil, or_false] at ha hb
  rcases ha with rfl | rfl | rfl | rfl | rfl | rfl | rfl <;> rcases hb with rfl | rfl | rfl | rfl | rfl <;> exact kit_ty (by decide +kernel)
theorem isi_is {m : Mem} {w : W} {t : Ty} {b : Bool} {s : String} (hs : tyS t = some s) (e : isiW m w t = some b) : ∃ a, tyN (vw m w) = some a ∧ a ∈ ["NoneType", "bool", "int", "str", "list", "tuple", "dict"] ∧ s ∈ ["int", "bool", "str", "list", "tuple"] ∧ b = (a == s || (a == "bool" && s == "int")) := by
  unfold isiW at e
  cases hv : vw m w <;> rw [hv] at e <;> cases t <;> simp [tyS] at hs <;> simp at e <;> subst hs <;> (try subst e) <;> exact ⟨_, rfl, by simp, by simp, by decide⟩
theorem isi_tl {m : Mem} {w : W} {b : Bool} (e : isiW m w .tupList = some b) : ∃ a, tyN (vw m w) = some a ∧ a ∈ ["NoneType", "bool", "int", "str", "list", "tuple", "dict"] ∧ b = (a == "tuple" || a == "list") := by
  unfold isiW at e
  cases hv : vw m w <;> rw [hv] at e <;> simp at e <;> (try subst e) <;> exact ⟨_, rfl, by simp, by decide⟩
theorem boot_ty (t : Ty) {s : String} (hs : tyS t = some s) : bootBuiltins (tyName t) = some (.type s) ∧ okName (tyName t) = true := by
  cases t <;> simp [tyS] at hs <;> subst hs <;> exact ⟨by decide +kernel, by decide +kernel⟩
theorem tyS_blt (o : Okx Z C prim ca ef F X N sc WX n) (t : Ty) {s : String} (hs : tyS t = some s) : X.mg (tyName t) = none := by
  cases t <;> simp [tyS] at hs
  · exact o.fx.blt .int
  · exact o.fx.boo
  · exact o.fx.blt .str
  · exact o.fx.blt .list
  · exact o.fx.blt .tuple
theorem s_isi (o : Okx Z C prim ca ef F X N sc WX n) {a : E} {t : Ty} {x z : Expr} {p1 p : Pos} (ha : PE X x (tI X.K ca ef WX (eI C prim n a))) (hg : glB sc "isinstance" = true) (hp : plainE x = true) (ht : chkTy Z sc t z = true) :
    PE X (.Call (.Name "isinstance" p1) [x, z] [] p) (tI X.K ca ef WX (eI C prim n (.isi a t))) := by
  have hb : bootBuiltins "isinstance" = some (.builtin "isinstance") := by decide +kernel
  have hok : okName ("isinstance" : Str) = true := by decide +kernel
  have fst : ∀ σ H Q, tI X.K ca ef WX (eI C prim n (.isi a t)) σ H Q → tI X.K ca ef WX (eI C prim n a) σ H fun v H1 => ∃ (g1 : G) (m1 : Mem) (d1 : List Nat) (w : W), RelM X.K ca g1 m1 d1.length H1 ∧ Rep X.K ca g1 w v ∧ Fin X.K ca ef (Rep X.K ca) (wxE WX σ) (fun ω m c => blR (isiW m w t) m c) g1 m1 d1 H1 (fun v H' _ _ _ _ => Q v H') := fun σ H Q ⟨g, ρ, m, d, r, en, h⟩ => by
    have h' := h.congr (f' := fun ω m c => (eI C prim n a ρ ω m c).bind fun x m c => blR (isiW m x t) m c) fun ω => by show evE C _ (.isi a t) ρ m _ = _; simp only [evE]
    refine tI_imp (tI_first (k := fun ω x m c => blR (isiW m x t) m c) r en h') fun v1 H1 z => ?_
    obtain ⟨g1, m1, d1, w, r1, s1, e1, q1, f1⟩ := z
    exact ⟨g1, m1, d1, w, r1, q1, f1⟩
  cases hs : tyS t with
  | some s =>
    have hz : isNm z (tyName t) = true ∧ glB sc (tyName t) = true := by
      cases t <;> simp [tyS] at hs <;> simp only [chkTy, Bool.and_eq_true] at ht <;> exact ht
    obtain ⟨p2, rfl⟩ := isNm_of hz.1
    obtain ⟨bt, okt⟩ := boot_ty t hs
    have hc : PE X (.Name (tyName t) p2) (tC (.ty s)) := pe_bltn (o.gl hz.2) (tyS_blt o t hs) bt rfl (okName_nm okt) (okName_dbg okt)
    refine PE.weak (pe_callB call_isi (o.gl hg) o.fx.isin hb (pa_cons ha (pa_cons hc pa_nil rfl) (star_of hp _ _)) (okName_nm hok) (okName_dbg hok) (star_of hp _ _) rfl) fun σ H Q h => ?_
    refine tI_imp (fst σ H Q h) fun v1 H1 z => ?_
    obtain ⟨g1, m1, d1, w, r1, q1, f1⟩ := z
    cases e : isiW m1 w t with
    | none => exact f1.not fun ω => by show blR (isiW m1 w t) m1 _ = _; rw [e]; rfl
    | some b =>
      obtain ⟨ty, h1, h2, h3, h4⟩ := isi_is hs e
      refine ⟨v1, .ty s, .type ty, .type s, b, rfl, .ty s, tyx_of r1 q1 h1, by rw [h4]; exact kit_all X.K ty s h2 h3, ?_⟩
      exact f1.fin (a := .bl b) (m' := m1) (fun ω => by show blR (isiW m1 w t) m1 _ = _; rw [e]; rfl) (Step.refl _ _) r1 (by simp only [Rep])
  | none =>
    cases t with
    | tupList =>
      simp only [chkTy] at ht
      cases z1 : asTuple z with
      | none => simp [z1] at ht
      | some l =>
        rw [z1] at ht
        rcases l with _ | ⟨e1, _ | ⟨e2, _ | ⟨e3, l⟩⟩⟩ <;> simp at ht
        obtain ⟨⟨⟨h1, h2⟩, h3⟩, h4⟩ := ht
        obtain ⟨kk, pp, rfl⟩ := asTuple_of z1
        obtain ⟨p2, rfl⟩ := isNm_of h1
        obtain ⟨p3, rfl⟩ := isNm_of h2
        have c1 : PE X (.Name "tuple" p2) (tC (.ty "tuple")) := pe_bltn (o.gl h3) (o.fx.blt .tuple) (by decide +kernel) rfl
        have c2 : PE X (.Name "list" p3) (tC (.ty "list")) := pe_bltn (o.gl h4) (o.fx.blt .list) (by decide +kernel) rfl
        refine PE.weak (pe_callB call_isiT (o.gl hg) o.fx.isin hb (pa_cons ha (pa_cons (pe_tup (pa_cons c1 (pa_cons c2 pa_nil rfl) rfl)) pa_nil rfl) (star_of hp _ _)) (okName_nm hok) (okName_dbg hok) (star_of hp _ _) rfl) fun σ H Q h => ?_
        refine tI_imp (fst σ H Q h) fun v1 H1 z => ?_
        obtain ⟨g1, m1, d1, w, r1, q1, f1⟩ := z
        refine ⟨by show 2 ≤ sizeLine; decide, fun tp np => ?_⟩
        cases e : isiW m1 w .tupList with
        | none => exact f1.not fun ω => by show blR (isiW m1 w _) m1 _ = _; rw [e]; rfl
        | some b =>
          obtain ⟨ty, h1, h2, h4⟩ := isi_tl e
          have r1' : RelM X.K ca g1 m1 d1.length (upd H1 tp (.tup [.ty "tuple", .ty "list"])) := rel_lay r1 np
          refine ⟨v1, tp, [.ty "tuple", .ty "list"], .type ty, [.type "tuple", .type "list"], b, rfl, upd_same, .cons (.ty _) (.cons (.ty _) .nil), tyx_of r1' q1 h1, ?_, ?_⟩
          · refine kitAny_cons (b := ty == "tuple" || (ty == "bool" && ("tuple" : String) == "int")) (kit_all X.K ty "tuple" h2 (by simp)) (fun z => kitAny_cons (b := ty == "list" || (ty == "bool" && ("list" : String) == "int")) (kit_all X.K ty "list" h2 (by simp)) (fun z2 => ?_) (fun z2 => ?_)) (fun z => ?_)
            · have : b = false := by rw [h4]; simp at z z2; simp [z, z2]
              rw [this]; exact kitAny_nil
            · rw [h4]; simp at z2; simp [z2]
            · rw [h4]; simp at z; simp [z]
          · exact f1.ok _ _ g1 m1 d1 (.bl b) (step_lay r1 np) (Ext.refl _) r1' (by simp only [Rep]) fun ω _ => by show blR (isiW m1 w _) m1 _ = _; rw [e]; rfl
    | cls k => simp [chkTy] at ht
    | _ => simp [tyS] at hs
/-! ### methods of lists -/
theorem lt_of_get {m : Mem} {k : Nat} {x : Cell} (e : m[k]? = some x) : k < m.length := (List.getElem?_eq_some_iff.mp e).1
/-- a cell is written -/
theorem rel_write {g : G} {m : Mem} {c : Nat} {H : Hp} {k : Nat} {a : Addr} {x x' : Cell} {o : HO} (r : RelM X.K ca g m c H) (e : m[k]? = some x) (hx : x ≠ .dead) (hμ : g.μ k = some a) (hx' : CellAt X.K ca g (upd H a o) a x') :
    RelM X.K ca g (m.set k x') c (upd H a o) ∧ Step g H g (upd H a o) := by
  have ns : g.S a = none := r.off k x a e hx hμ
  obtain ⟨oa, hoa⟩ := r.there k a hμ
  have hk := lt_of_get e
  have sub : ∀ b u, g.S b = some u → (upd H a o) b = some u := fun b u q => by
    rw [upd_ne (fun z => by subst z; rw [ns] at q; cases q)]
    exact r.sub b u q
  refine ⟨⟨sub, fun j b q => by rw [List.length_set]; exact r.lt j b q, fun j y q => ?_, fun j y b q hy z => ?_, fun j b q => ?_, r.inj, fun b q => ?_⟩, ⟨fun _ _ h => h, fun _ _ h => h, fun _ h => h, fun b u q h1 _ => ?_, fun _ _ h => .inl h, fun _ _ h => .inl h, fun _ h => .inl h, fun b u q => ?_⟩⟩
  · by_cases hj : j = k
    · subst hj
      rw [List.getElem?_set_self hk] at q
      cases q
      exact ⟨a, hμ, hx'⟩
    · rw [List.getElem?_set_ne (Ne.symm hj)] at q
      obtain ⟨b, h1, h2⟩ := r.live j y q
      refine ⟨b, h1, h2.keep (Le.refl g) fun u z => ?_⟩
      rw [upd_ne (fun w => hj (r.inj j k a (by rw [← w]; exact h1) hμ))]
      exact z
  · by_cases hj : j = k
    · subst hj
      rw [hμ] at z
      cases z
      exact ns
    · rw [List.getElem?_set_ne (Ne.symm hj)] at q
      exact r.off j y b q hy z
  · by_cases hb : b = a
    · subst hb; exact ⟨o, upd_same⟩
    · obtain ⟨u, z⟩ := r.there j b q
      exact ⟨u, by rw [upd_ne hb]; exact z⟩
  · obtain ⟨h1, h2, h3⟩ := r.tok b q
    refine ⟨h1.keep (fun u z => ?_) (Nat.le_refl _), h2, h3⟩
    rw [upd_ne (fun w => h3 k (by rw [w]; exact hμ))]
    exact z
  · rw [upd_ne (fun w => h1 k (by rw [w]; exact hμ))]
    exact q
  · by_cases hb : b = a
    · subst hb; exact ⟨o, upd_same⟩
    · exact ⟨u, by rw [upd_ne hb]; exact q⟩
theorem indexW_ok {K : PySem.W.Frag} {g : G} {x : W} {v : V} (hx : Rep K ca g x v) (f : flatW x = true) : ∀ {ws : List W} {vs : List V} {j : Nat}, Reps K ca g ws vs → ws.all flatW = true → indexW x ws = some j →
    ∃ z, vs[j]? = some z ∧ eqV z v = true ∧ ∀ (m : Nat) (z' : V), m < j → vs[m]? = some z' → eqV z' v = false
  | [], vs, j, q, fs, e => by simp [indexW] at e
  | w :: ws, vs, j, q, fs, e => by
    simp only [Reps] at q
    obtain ⟨v0, r, e1, p, q⟩ := q
    subst e1
    rw [List.all_cons, Bool.and_eq_true] at fs
    simp only [indexW] at e
    by_cases hq : flatEq w x = true
    · rw [if_pos hq] at e
      cases e
      exact ⟨v0, rfl, by rw [Rep.flatEq p hx fs.1 f]; exact hq, fun m z' h => absurd h (Nat.not_lt_zero _)⟩
    · rw [if_neg hq] at e
      rw [Option.map_eq_some_iff] at e
      obtain ⟨i, e, rfl⟩ := e
      obtain ⟨z, h1, h2, h3⟩ := indexW_ok hx f q fs.2 e
      refine ⟨z, by simpa using h1, h2, fun m z' hm hz => ?_⟩
      cases m with
      | zero =>
        simp at hz
        subst hz
        rw [Rep.flatEq p hx fs.1 f]
        simpa using hq
      | succ m => exact h3 m z' (Nat.lt_of_succ_lt_succ hm) (by simpa using hz)
theorem place_seq {n : Nat} {i : Int} {j : Nat} (h : place n i = some j) : seqIndex? i n = some j ∧ j < n ∧ -(n : Int) ≤ i ∧ i < n := ixN_seq h
def bmId : Bm → String
  | .append => "list.append" | .extend => "list.extend" | .index => "list.index" | .pop => "list.pop" | .popAt => "list.pop" | .clear => "list.clear" | .reverse => "list.reverse" | .insert => "list.insert" | .count => "list.count"
def rBm (K : PySem.W.Frag) : Bm → V → List V → Hp → VK → Prop
  | .append => rAppend
  | .extend => rExtend
  | .index => rIndex K
  | .pop => rPop
  | .popAt => rPopAt
  | .clear => rClear
  | .reverse => rReverse
  | .insert => fun _ _ _ _ => False
  | .count => fun _ _ _ _ => False
theorem mtBm : ∀ b, MtR X (bmId b) (rBm X.K b)
  | .append => mt_append
  | .extend => mt_extend
  | .index => mt_index
  | .pop => mt_pop
  | .popAt => mt_popAt
  | .clear => mt_clear
  | .reverse => mt_reverse
  | .insert => fun _ _ _ _ _ _ _ _ _ _ _ _ h => h.elim
  | .count => fun _ _ _ _ _ _ _ _ _ _ _ _ h => h.elim
theorem bm_ok {g : G} {m : Mem} {d : List Nat} {H : Hp} {WE : Exn → Env → Value → Option Addr → Hp → G → Mem → List Nat → Prop} {b : Bm} {w : W} {ws : List W} {v : V} {vs : List V} {Q : VK} (r : RelM X.K ca g m d.length H) (p : Rep X.K ca g w v) (q : Reps X.K ca g ws vs)
    (h : Fin X.K ca ef (Rep X.K ca) WE (fun ω m c => bmW b w ws m c) g m d H (fun v H' _ _ _ _ => Q v H')) : rBm X.K b v vs H Q := by
  have bad : ∀ {P : Prop}, (bmW b w ws m d.length = .no) → P := fun e => h.not fun ω => e
  -- a cell that is a list
  have cell : ∀ {k : Nat} {xs : List W}, w = .ptr k → m[k]? = some (.lst xs) → ∃ a us, v = .ref a ∧ g.μ k = some a ∧ H a = some (.lst us) ∧ Reps X.K ca g xs us := fun {k xs} e hk => by
    subst e
    simp only [Rep] at p
    obtain ⟨a, rfl, hμ⟩ := p
    obtain ⟨a', h1, us, h2, h3⟩ := r.live k _ hk
    rw [hμ] at h1
    cases h1
    exact ⟨a, us, rfl, hμ, h2, h3⟩
  have wr : ∀ {k : Nat} {xs ys : List W} {a : Addr} {us : List V} {x : W} {y : V}, m[k]? = some (.lst xs) → g.μ k = some a → Reps X.K ca g ys us → (∀ ω : Nat → Nat, bmW b w ws m d.length = .ok x (m.set k (.lst ys)) d.length) → Rep X.K ca g x y → Q y (upd H a (.lst us)) := fun {k xs ys a us x y} hk hμ hy e hx => by
    obtain ⟨h1, h2⟩ := rel_write (x' := .lst ys) (o := .lst us) r hk (by simp) hμ ⟨us, upd_same, hy⟩
    exact h.ok y _ g _ d x h2 (Ext.refl d) h1 hx fun ω _ => e ω
  by_cases hb : isIdx b = true
  · cases b <;> simp [isIdx] at hb
    rcases ws with _ | ⟨x, _ | ⟨x2, t⟩⟩ <;> try (exact bad rfl)
    obtain ⟨y, rfl, p'⟩ := one_of q rfl
    obtain ⟨hl, ht, _, _⟩ := Rep.view r p
    have e0 : bmW .index w [x] m d.length = (match (generalizing := false) vw m w with | .lst xs => idxL x xs m d.length | _ => .no) := rfl
    cases hv : vw m w <;> try (refine bad ?_; rw [e0, hv]; done)
    rename_i xs
    rw [hv] at e0
    obtain ⟨a, us, rfl, ha, ra⟩ := hl xs hv
    by_cases f : (flatW x && xs.all flatW) = true
    · have f' := f
      rw [Bool.and_eq_true] at f'
      cases hi : indexW x xs with
      | none => exact bad (by rw [e0]; show idxL x xs m d.length = _; unfold idxL; rw [if_pos f, hi])
      | some j =>
        obtain ⟨z, h1, h2, h3⟩ := indexW_ok p' f'.1 ra f'.2 hi
        exact ⟨a, us, y, j, z, rfl, rfl, SqL.of ha, Rep.flat p' f'.1, Reps.flat ra f'.2, h1, h2, h3, h.fin (a := .int (j : Nat)) (m' := m) (fun ω => by show bmW .index w [x] m d.length = _; rw [e0]; show idxL x xs m d.length = _; unfold idxL; rw [if_pos f, hi]) (Step.refl _ _) r (by simp only [Rep])⟩
    · exact bad (by rw [e0]; show idxL x xs m d.length = _; unfold idxL; rw [if_neg f])
  · cases w <;> try (refine bad ?_; unfold bmW; rw [if_neg hb]; done)
    rename_i k
    have e0 : bmW b (.ptr k) ws m d.length = (match (generalizing := false) m[k]? with | some (.lst xs) => bmL b xs ws k m d.length | _ => .no) := by
      unfold bmW; rw [if_neg hb] <;> rfl
    cases hk : m[k]? with
    | none => exact bad (by rw [e0, hk])
    | some x0 =>
      cases x0 <;> try (refine bad ?_; rw [e0, hk]; done)
      rename_i xs
      rw [hk] at e0
      obtain ⟨a, us, rfl, hμ, ha, ra⟩ := cell rfl hk
      have hz : us.length = xs.length := Reps.length ra
      have e1 : bmW b (.ptr k) ws m d.length = bmL b xs ws k m d.length := e0
      cases b <;> try (exact absurd rfl hb)
      · -- append
        rcases ws with _ | ⟨x, _ | ⟨x2, t⟩⟩ <;> try (exact bad (e1.trans rfl))
        obtain ⟨y, rfl, p'⟩ := one_of q rfl
        by_cases z : xs.length < sizeLine
        · exact ⟨a, us, y, rfl, rfl, ha, by rw [hz]; exact z, wr (x := .non) hk hμ (Reps.append ra (Reps.cons p' Reps.nil)) (fun ω => by rw [e1]; show (if _ then _ else _) = _; rw [if_pos z]) (by simp only [Rep])⟩
        · exact bad (by rw [e1]; show (if _ then _ else _) = _; rw [if_neg z])
      · -- extend
        rcases ws with _ | ⟨x, _ | ⟨x2, t⟩⟩ <;> try (exact bad (e1.trans rfl))
        obtain ⟨y, rfl, p'⟩ := one_of q rfl
        obtain ⟨hl, ht, _, _⟩ := Rep.view r p'
        have e2 : bmL .extend xs [x] k m d.length = (match (generalizing := false) vw m x with | .lst ys => (if xs.length + ys.length ≤ sizeLine then .ok .non (m.set k (.lst (xs ++ ys))) d.length else .no) | _ => .no) := rfl
        cases hv : vw m x <;> try (refine bad ?_; rw [e1, e2, hv]; done)
        rename_i ys
        obtain ⟨b2, us2, rfl, hb2, rb2⟩ := hl ys hv
        by_cases z : xs.length + ys.length ≤ sizeLine
        · exact ⟨a, b2, us, us2, rfl, rfl, ha, hb2, by rw [hz, Reps.length rb2]; exact z, wr (x := .non) hk hμ (Reps.append ra rb2) (fun ω => by rw [e1, e2, hv]; show (if _ then _ else _) = _; rw [if_pos z]) (by simp only [Rep])⟩
        · exact bad (by rw [e1, e2, hv]; show (if _ then _ else _) = _; rw [if_neg z])
      · -- pop
        rcases ws with _ | ⟨x, t⟩ <;> try (exact bad (e1.trans rfl))
        simp only [Reps] at q
        subst q
        have e2 : bmL .pop xs [] k m d.length = (match (generalizing := false) xs[xs.length - 1]? with | some y => .ok y (m.set k (.lst xs.dropLast)) d.length | none => .no) := rfl
        cases hv : xs[xs.length - 1]? with
        | none => exact bad (by rw [e1, e2, hv])
        | some y =>
          obtain ⟨v, h1, h2⟩ := Reps.at ra hv
          refine ⟨a, us, v, rfl, rfl, ha, by rw [hz]; exact h1, wr (x := y) hk hμ (ys := xs.dropLast) ?_ (fun ω => by rw [e1, e2, hv]) h2⟩
          rw [List.dropLast_eq_take, List.dropLast_eq_take, hz]
          exact Reps.take _ ra
      · -- pop(i)
        rcases ws with _ | ⟨x, _ | ⟨x2, t⟩⟩ <;> try (exact bad (e1.trans rfl))
        · obtain ⟨y, rfl, p'⟩ := one_of q rfl
          cases x <;> try (exact bad (e1.trans rfl))
          rename_i i
          simp only [Rep] at p'
          subst p'
          have e2 : bmL .popAt xs [.int i] k m d.length = (match (generalizing := false) place xs.length i with | some j => (if -(2 ^ 63) ≤ i ∧ i < 2 ^ 63 then (match xs[j]? with | some y => .ok y (m.set k (.lst (xs.eraseIdx j))) d.length | none => .no) else .no) | none => .no) := rfl
          cases hp : place xs.length i with
          | none => exact bad (by rw [e1, e2, hp])
          | some j =>
            by_cases z : -(2 ^ 63) ≤ i ∧ i < 2 ^ 63
            · cases hv : xs[j]? with
              | none => exact bad (by rw [e1, e2, hp]; show (if _ then _ else _) = _; rw [if_pos z, hv])
              | some y =>
                obtain ⟨v, h1, h2⟩ := Reps.at ra hv
                exact ⟨a, us, i, j, v, rfl, rfl, ha, z.1, z.2, by rw [hz]; exact (place_seq hp).1, h1, wr (x := y) hk hμ (Reps.erase j ra) (fun ω => by rw [e1, e2, hp]; show (if _ then _ else _) = _; rw [if_pos z, hv]) h2⟩
            · exact bad (by rw [e1, e2, hp]; show (if _ then _ else _) = _; rw [if_neg z])
        · cases x <;> exact bad (e1.trans rfl)
      · -- clear
        rcases ws with _ | ⟨x, t⟩ <;> try (exact bad (e1.trans rfl))
        simp only [Reps] at q
        subst q
        exact ⟨a, us, rfl, rfl, ha, wr (x := .non) hk hμ Reps.nil (fun ω => e1.trans rfl) (by simp only [Rep])⟩
      · -- reverse
        rcases ws with _ | ⟨x, t⟩ <;> try (exact bad (e1.trans rfl))
        simp only [Reps] at q
        subst q
        exact ⟨a, us, rfl, rfl, ha, wr (x := .non) hk hμ (Reps.rev ra) (fun ω => e1.trans rfl) (by simp only [Rep])⟩
      · exact bad (e1.trans (by cases ws <;> rfl))
      · exact bad (e1.trans (by cases ws <;> rfl))
end
end Lw

set_option maxHeartbeats 1000000
namespace Lw
open PySem PySem.Spec PyProof.Rows L2

section
variable {K : PySem.W.Frag} {ca : CA} {c : Nat} {H : Hp}
/-! ### freezing -/
structure FrzOk (K : PySem.W.Frag) (ca : CA) (c : Nat) (H : Hp) (g : G) (m : Mem) (g' : G) (m' : Mem) : Prop where
  μ : g'.μ = g.μ
  T : g'.T = g.T
  S : ∀ b o, g.S b = some o → g'.S b = some o
  new : ∀ b o, g'.S b = some o → g.S b = some o ∨ ∃ n x, g.μ n = some b ∧ m[n]? = some x ∧ x ≠ .dead
  len : m'.length = m.length
  cell : ∀ j : Nat, m'[j]? = m[j]? ∨ m'[j]? = some Cell.dead
  rel : RelM K ca g' m' c H
theorem FrzOk.refl {g : G} {m : Mem} (r : RelM K ca g m c H) : FrzOk K ca c H g m g m := ⟨rfl, rfl, fun _ _ h => h, fun _ _ h => .inl h, rfl, fun _ => .inl rfl, r⟩
theorem FrzOk.trans {g g1 g2 : G} {m m1 m2 : Mem} (a : FrzOk K ca c H g m g1 m1) (b : FrzOk K ca c H g1 m1 g2 m2) : FrzOk K ca c H g m g2 m2 where
  μ := b.μ.trans a.μ
  T := b.T.trans a.T
  S := fun x o h => b.S x o (a.S x o h)
  new := fun x o h => by
    rcases b.new x o h with z | ⟨n, y, h1, h2, h3⟩
    · exact a.new x o z
    · refine .inr ⟨n, y, by rw [← a.μ]; exact h1, ?_, h3⟩
      rcases a.cell n with z | z
      · rw [← z]; exact h2
      · rw [z] at h2; cases h2; exact absurd rfl h3
  len := b.len.trans a.len
  cell := fun j => by
    rcases b.cell j with z | z
    · rcases a.cell j with y | y
      · exact .inl (z.trans y)
      · exact .inr (z.trans y)
    · exact .inr z
  rel := b.rel
theorem FrzOk.le {g g' : G} {m m' : Mem} (a : FrzOk K ca c H g m g' m') : Le g g' := ⟨a.S, fun n b h => by rw [a.μ]; exact h, fun b h => by rw [a.T]; exact h⟩
theorem FrzOk.step {g g' : G} {m m' : Mem} (a : FrzOk K ca c H g m g' m') : Step g H g' H where
  S := a.S
  μ := a.le.μ
  T := a.le.T
  frame := fun _ _ h _ _ => h
  newS := fun b o h => by
    rcases a.new b o h with z | ⟨n, _, z, _⟩
    · exact .inl z
    · exact .inr (.inr ⟨n, z⟩)
  newμ := fun n b h => .inl (by rw [← a.μ]; exact h)
  newT := fun b h => .inl (by rw [← a.T]; exact h)
  grow := fun b o h => ⟨o, h⟩
/-- a cell is taken out -/
theorem rel_dead {g : G} {m : Mem} {n : Nat} (r : RelM K ca g m c H) : RelM K ca g (m.set n .dead) c H where
  sub := r.sub
  lt := fun j a h => by rw [List.length_set]; exact r.lt j a h
  live := fun j x e => by
    by_cases hj : j = n
    · subst hj
      have hl : j < m.length := by have := (List.getElem?_eq_some_iff.mp e).1; rw [List.length_set] at this; exact this
      rw [List.getElem?_set_self hl] at e
      cases e
      obtain ⟨a, h1, _⟩ := r.live j m[j] (List.getElem?_eq_getElem hl)
      exact ⟨a, h1, trivial⟩
    · rw [List.getElem?_set_ne (Ne.symm hj)] at e
      exact r.live j x e
  off := fun j x a e hx h => by
    by_cases hj : j = n
    · subst hj
      have hl : j < m.length := by have := (List.getElem?_eq_some_iff.mp e).1; rw [List.length_set] at this; exact this
      rw [List.getElem?_set_self hl] at e
      cases e
      exact absurd rfl hx
    · rw [List.getElem?_set_ne (Ne.symm hj)] at e
      exact r.off j x a e hx h
  there := r.there
  inj := r.inj
  tok := r.tok
/-- its thing is frozen -/
theorem frz_cell {g g1 : G} {m m1 : Mem} {n : Nat} {a : Addr} {x : Cell} {o : HO} (r : RelM K ca g m c H) (e : m[n]? = some x) (hx : x ≠ .dead) (hμ : g.μ n = some a) (ho : H a = some o) (h : FrzOk K ca c H g (m.set n .dead) g1 m1) :
    FrzOk K ca c H g m (g1.frz a o) m1 ∧ g1.S a = none := by
  have hl := (List.getElem?_eq_some_iff.mp e).1
  have ns : g.S a = none := r.off n x a e hx hμ
  have n1 : g1.S a = none := by
    cases q : g1.S a with
    | none => rfl
    | some u =>
      rcases h.new a u q with z | ⟨j, y, h1, h2, h3⟩
      · rw [ns] at z; cases z
      · have hj := r.inj j n a h1 hμ
        subst hj
        rw [List.getElem?_set_self hl] at h2
        cases h2
        exact absurd rfl h3
  have dead : m1[n]? = some Cell.dead := by
    rcases h.cell n with z | z
    · rw [z, List.getElem?_set_self hl]
    · exact z
  have mS : ∀ b u, g1.S b = some u → (g1.frz a o).S b = some u := fun b u q => by
    show upd g1.S a o b = some u
    rw [upd_ne (fun z => by subst z; rw [n1] at q; cases q)]
    exact q
  refine ⟨⟨h.μ, h.T, fun b u q => mS b u (h.S b u q), fun b u q => ?_, by rw [h.len, List.length_set], fun j => ?_, ?_⟩, n1⟩
  · by_cases hb : b = a
    · subst hb; exact .inr ⟨n, x, hμ, e, hx⟩
    · have q' : upd g1.S a o b = some u := q
      rw [upd_ne hb] at q'
      rcases h.new b u q' with z | ⟨j, y, h1, h2, h3⟩
      · exact .inl z
      · refine .inr ⟨j, y, h1, ?_, h3⟩
        by_cases hj : j = n
        · subst hj
          rw [List.getElem?_set_self hl] at h2
          cases h2
          exact absurd rfl h3
        · rw [List.getElem?_set_ne (Ne.symm hj)] at h2
          exact h2
  · by_cases hj : j = n
    · subst hj; exact .inr dead
    · rcases h.cell j with z | z
      · left; rw [z, List.getElem?_set_ne (Ne.symm hj)]
      · exact .inr z
  · have R := h.rel
    have L : Le g1 (g1.frz a o) := ⟨mS, fun _ _ z => z, fun _ z => z⟩
    refine ⟨fun b u q => ?_, R.lt, fun j y q => ?_, fun j y b q hy z => ?_, R.there, R.inj, fun b q => ?_⟩
    · by_cases hb : b = a
      · subst hb
        have q' : upd g1.S b o b = some u := q
        rw [upd_same] at q'
        cases q'
        exact ho
      · have q' : upd g1.S a o b = some u := q
        rw [upd_ne hb] at q'
        exact R.sub b u q'
    · obtain ⟨b, h1, h2⟩ := R.live j y q
      exact ⟨b, h1, h2.keep L fun _ z => z⟩
    · show upd g1.S a o b = none
      have hb : b ≠ a := fun w => by
        subst w
        have z' : g.μ j = some b := by rw [← h.μ]; exact z
        have hj := r.inj j n b z' hμ
        subst hj
        rw [dead] at q
        cases q
        exact hy rfl
      rw [upd_ne hb]
      exact R.off j y b q hy z
    · obtain ⟨h1, h2, h3⟩ := R.tok b q
      refine ⟨h1, ?_, h3⟩
      show upd g1.S a o b = none
      rw [upd_ne (fun w => h3 n (by rw [h.μ, w]; exact hμ))]
      exact h2
theorem frzL_ok {f : W → Mem → Option (W × Mem)} (ih : ∀ (w : W) (m : Mem) (w' : W) (m' : Mem) (g : G) (v : V), f w m = some (w', m') → RelM K ca g m c H → Rep K ca g w v → ∃ g', FrzOk K ca c H g m g' m' ∧ Rep K ca g' w' v) :
    ∀ (ws : List W) (m : Mem) (ws' : List W) (m' : Mem) (g : G) (vs : List V), frzL f ws m = some (ws', m') → RelM K ca g m c H → Reps K ca g ws vs → ∃ g', FrzOk K ca c H g m g' m' ∧ Reps K ca g' ws' vs
  | [], m, ws', m', g, vs, e, r, q => by
    simp [frzL] at e
    obtain ⟨rfl, rfl⟩ := e
    exact ⟨g, .refl r, q⟩
  | w :: ws, m, ws', m', g, vs, e, r, q => by
    simp only [frzL] at e
    cases h1 : f w m with
    | none => rw [h1] at e; cases e
    | some p1 =>
      obtain ⟨w1, m1⟩ := p1
      rw [h1] at e
      simp only at e
      cases h2 : frzL f ws m1 with
      | none => rw [h2] at e; cases e
      | some p2 =>
        obtain ⟨ws2, m2⟩ := p2
        rw [h2] at e
        cases e
        simp only [Reps] at q
        obtain ⟨v, r', e1, p, q⟩ := q
        subst e1
        obtain ⟨g1, a1, b1⟩ := ih w m w1 m1 g v h1 r p
        obtain ⟨g2, a2, b2⟩ := frzL_ok ih ws m1 _ _ g1 r' h2 a1.rel (Reps.mono a1.le _ _ q)
        exact ⟨g2, a1.trans a2, Reps.cons (Rep.mono a2.le _ _ b1) b2⟩
theorem frz_ok : ∀ (k : Nat) (w : W) (m : Mem) (w' : W) (m' : Mem) (g : G) (v : V), frz k w m = some (w', m') → RelM K ca g m c H → Rep K ca g w v → ∃ g', FrzOk K ca c H g m g' m' ∧ Rep K ca g' w' v
  | 0, w, m, w', m', g, v, e, r, q => by simp [frz] at e
  | k + 1, w, m, w', m', g, v, e, r, q => by
    have ih := frzL_ok (frz_ok k)
    cases w with
    | ptr n =>
      simp only [frz] at e
      simp only [Rep] at q
      obtain ⟨a, rfl, hμ⟩ := q
      cases hn : m[n]? with
      | none => rw [hn] at e; cases e
      | some x =>
        rw [hn] at e
        obtain ⟨a', h1, h2⟩ := r.live n x hn
        rw [hμ] at h1
        cases h1
        cases x with
        | lst xs =>
          obtain ⟨vs, h3, h4⟩ := h2
          simp only at e
          cases h5 : frzL (frz k) xs (m.set n .dead) with
          | none => rw [h5] at e; cases e
          | some p =>
            obtain ⟨xs', m1⟩ := p
            rw [h5] at e
            cases e
            obtain ⟨g1, a1, b1⟩ := ih xs _ xs' _ g vs h5 (rel_dead r) h4
            obtain ⟨z1, z2⟩ := frz_cell r hn (by simp) hμ h3 a1
            refine ⟨_, z1, ?_⟩
            simp only [Rep]
            exact ⟨a, vs, rfl, (show upd g1.S a (.lst vs) a = _ from upd_same), Reps.mono (Le.frz z2) _ _ b1⟩
        | ins cc ks ws =>
          obtain ⟨dx, vs, h3, h6, h4⟩ := h2
          simp only at e
          cases h5 : frzL (frz k) ws (m.set n .dead) with
          | none => rw [h5] at e; cases e
          | some p =>
            obtain ⟨xs', m1⟩ := p
            rw [h5] at e
            cases e
            obtain ⟨g1, a1, b1⟩ := ih ws _ xs' _ g vs h5 (rel_dead r) h4
            obtain ⟨z1, z2⟩ := frz_cell r hn (by simp) hμ h3 a1
            refine ⟨_, z1, ?_⟩
            simp only [Rep]
            refine ⟨a, dx, vs, rfl, (show upd g1.S a _ a = _ from upd_same), ?_, Reps.mono (Le.frz z2) _ _ b1⟩
            exact ⟨by rw [h6.1, ← Reps.length h4, Reps.length b1], h6.2⟩
        | dead => cases e
    | lst xs =>
      simp only [frz] at e
      simp only [Rep] at q
      obtain ⟨a, vs, rfl, h1, h2⟩ := q
      cases h5 : frzL (frz k) xs m with
      | none => rw [h5] at e; cases e
      | some p =>
        obtain ⟨xs', m1⟩ := p
        rw [h5] at e
        cases e
        obtain ⟨g1, a1, b1⟩ := ih xs _ xs' _ g vs h5 r h2
        refine ⟨g1, a1, ?_⟩
        simp only [Rep]
        exact ⟨a, vs, rfl, a1.S _ _ h1, b1⟩
    | tup xs =>
      simp only [frz] at e
      simp only [Rep] at q
      obtain ⟨a, vs, rfl, h1, h2⟩ := q
      cases h5 : frzL (frz k) xs m with
      | none => rw [h5] at e; cases e
      | some p =>
        obtain ⟨xs', m1⟩ := p
        rw [h5] at e
        cases e
        obtain ⟨g1, a1, b1⟩ := ih xs _ xs' _ g vs h5 r h2
        refine ⟨g1, a1, ?_⟩
        simp only [Rep]
        exact ⟨a, vs, rfl, SqT.sub a1.S h1, b1⟩
    | obj cc ks ws =>
      simp only [frz] at e
      simp only [Rep] at q
      obtain ⟨a, dx, vs, rfl, h1, h6, h2⟩ := q
      cases h5 : frzL (frz k) ws m with
      | none => rw [h5] at e; cases e
      | some p =>
        obtain ⟨xs', m1⟩ := p
        rw [h5] at e
        cases e
        obtain ⟨g1, a1, b1⟩ := ih ws _ xs' _ g vs h5 r h2
        refine ⟨g1, a1, ?_⟩
        simp only [Rep]
        exact ⟨a, dx, vs, rfl, a1.S _ _ h1, ⟨by rw [h6.1, ← Reps.length h2, Reps.length b1], h6.2⟩, b1⟩
    | _ => simp only [frz] at e; cases e; exact ⟨g, .refl r, q⟩
end

section
variable {Z : Tab} {C : Cfg} {prim : Nat → Option Prim} {ca : CA} {ef : Nat → Str} {F : FT} {X : Cx} {N : List Str} {sc : Scope} {WX : L2.WX} {n : Nat}
theorem s_frz {a : E} {x : Expr} (ha : PE X x (tI X.K ca ef WX (eI C prim n a))) : PE X x (tI X.K ca ef WX (eI C prim n (.frz a))) := by
  refine PE.weak ha fun σ H Q ⟨g, ρ, m, d, r, en, h⟩ => ?_
  have h' := h.congr (f' := fun ω m c => (eI C prim n a ρ ω m c).bind fun x m c => frzR x m c) fun ω => by show evE C _ (.frz a) ρ m _ = _; simp only [evE]
  refine tI_imp (tI_first (k := fun ω x m c => frzR x m c) r en h') fun v1 H1 z => ?_
  obtain ⟨g1, m1, d1, w, r1, s1, e1, q1, f1⟩ := z
  cases z : frz 12 w m1 with
  | none => exact f1.not fun ω => by show frzR w m1 _ = _; unfold frzR; rw [z]
  | some p =>
    obtain ⟨w', m'⟩ := p
    obtain ⟨g', a1, b1⟩ := frz_ok 12 w m1 w' m' g1 v1 z r1 q1
    exact f1.ok v1 H1 g' m' d1 w' a1.step (Ext.refl _) a1.rel b1 fun ω _ => by show frzR w m1 _ = _; unfold frzR; rw [z]
/-! ### methods of lists, called -/
theorem slots_bm (b : Bm) : ∃ nm : Str, nm = bmName b ∧ Slot "list" nm (bmId b) ∧ typeOf (.builtin (bmId b)) = pure (.type "method_descriptor") := by
  cases b
  · exact ⟨_, rfl, PySem.F.slot_list_append, PySem.F.type_list_append⟩
  · exact ⟨_, rfl, PySem.F.slot_list_extend, PySem.F.type_list_extend⟩
  · exact ⟨_, rfl, PySem.F.slot_list_index, PySem.F.type_list_index⟩
  · exact ⟨_, rfl, PySem.F.slot_list_pop, PySem.F.type_list_pop⟩
  · exact ⟨_, rfl, PySem.F.slot_list_pop, PySem.F.type_list_pop⟩
  · exact ⟨_, rfl, PySem.F.slot_list_clear, PySem.F.type_list_clear⟩
  · exact ⟨_, rfl, PySem.F.slot_list_reverse, PySem.F.type_list_reverse⟩
  · exact ⟨_, rfl, PySem.F.slot_list_insert, PySem.F.type_list_insert⟩
  · exact ⟨_, rfl, PySem.F.slot_list_count, PySem.F.type_list_count⟩
theorem few_of {xs : List Expr} (h : xs.all plainE = true) (hl : xs.length < 20) (p : Pos) (env : PySem.Env) : ((backTo p (starEach xs env)).all (fun x => !x.1) && (backToKw p (keywordEach [] env)).all (fun x => x.1.isSome)
      && decide (xs.length + ([] : List Keyword).length + (if ([] : List Keyword).isEmpty then 0 else 1) < 30)) = true := by
  have h1 : (backTo p (starEach xs env)).all (fun x => !x.1) = true := by
    have := nostar h p env
    rw [List.all_eq_true]
    intro y hy
    have z := List.any_eq_false.mp this y hy
    simpa using z
  rw [h1]
  have h2 : (backToKw p (keywordEach [] env)).all (fun x => x.1.isSome) = true := rfl
  rw [h2]
  simp
  omega
theorem s_bm {b : Bm} {oe : E} {es : Es} {y : Expr} {xs : List Expr} {q p : Pos} (ho : PE X y (tI X.K ca ef WX (eI C prim n oe))) (hA : PA X xs (tIs X.K ca ef WX (esI C prim n es))) (hy : baseOk y = true) (hx : xs.all plainE = true) (hl : xs.length < 20) (hq : q.endLine = p.line) (hes : xs = [] → es = .nil) :
    PE X (.Call (.Attribute y (bmName b) q) xs [] p) (tI X.K ca ef WX (eI C prim n (.bm b oe es))) := by
  obtain ⟨nm, rfl, sl, ty⟩ := slots_bm b
  have hline : (q.endLine == p.line) = true := by rw [hq]; exact beq_self_eq_true _
  have main : ∀ σ H Q, tI X.K ca ef WX (eI C prim n (.bm b oe es)) σ H Q → tBM X.K "list" (rBm X.K b) (tI X.K ca ef WX (eI C prim n oe)) (tIs X.K ca ef WX (esI C prim n es)) σ H Q := fun σ H Q ⟨g, ρ, m, d, r, en, h⟩ => by
    have h' := h.congr (f' := fun ω m c => (eI C prim n oe ρ ω m c).bind fun x m c => if isLstW (vw m x) then (esI C prim n es ρ ω m c).bind fun ws m c => bmW b x ws m c else .no) fun ω => by show evE C _ (.bm b oe es) ρ m _ = _; simp only [evE]
    refine tI_imp (tI_first (k := fun ω x m c => if isLstW (vw m x) then (esI C prim n es ρ ω m c).bind fun ws m c => bmW b x ws m c else .no) r en h') fun v1 H1 z => ?_
    obtain ⟨g1, m1, d1, w, r1, s1, e1, q1, f1⟩ := z
    obtain ⟨hl, _, _, _⟩ := Rep.view r1 q1
    cases hv : vw m1 w <;> try (exact f1.not fun ω => by show (if isLstW (vw m1 w) = true then _ else _) = _; rw [hv]; rfl)
    rename_i zs
    obtain ⟨a, us, rfl, ha, ra⟩ := hl zs hv
    refine ⟨.inl ⟨rfl, us, SqL.of ha⟩, ?_⟩
    have f1' := f1.congr (f' := fun ω m c => (esI C prim n es ρ ω m c).bind fun ws m c => bmW b w ws m c) fun ω => by show (if isLstW (vw m1 w) = true then _ else _) = _; rw [hv]; rfl
    refine tIs_imp (tIs_first (k := fun ω ws m c => bmW b w ws m c) r1 e1 f1') fun vs H2 z => ?_
    obtain ⟨g2, m2, d2, ws, r2, s2, e2, q2, f2⟩ := z
    exact bm_ok r2 (Rep.mono s2.le _ _ q1) q2 f2
  cases xs with
  | nil =>
    have := hes rfl
    subst this
    refine PE.weak (pe_bm0 PySem.F.plainAttrs_list sl ty (mtBm b) ho (abase_of hy X.env) hline) fun σ H Q h => ?_
    refine tI_imp (main σ H Q h) fun v H1 z => ⟨z.1, ?_⟩
    obtain ⟨g, ρ, m, d, r, en, h⟩ := z.2
    exact h.fin (a := []) (m' := m) (fun ω => by show evEs C _ .nil ρ m _ = _; simp [evEs]) (Step.refl _ _) r Reps.nil
  | cons x1 xr =>
    have hx' := hx
    rw [List.all_cons, Bool.and_eq_true] at hx'
    exact PE.weak (pe_bm PySem.F.plainAttrs_list sl ty (mtBm b) ho hA (abase_of hy X.env) (few_of hx hl p X.env) hline (star_of hx'.1 xr X.env) (nostar hx'.2 p X.env)) main
theorem strs_ok {K : PySem.W.Frag} {g : G} : ∀ {ws : List W} {vs : List V} {ss : List Str}, Reps K ca g ws vs → strsOf ws = some ss → vs = ss.map V.str
  | [], vs, ss, h, e => by simp only [Reps] at h; simp [strsOf] at e; subst e; rw [h]; rfl
  | w :: ws, vs, ss, h, e => by
    simp only [Reps] at h
    obtain ⟨v, r, e1, p, q⟩ := h
    cases w <;> simp [strsOf] at e
    obtain ⟨l, e2, e3⟩ := e
    simp only [Rep] at p
    subst e1 e3 p
    rw [strs_ok q e2]
    rfl
theorem idxStr_ok {z : Str} : ∀ {ss : List Str} {j : Nat}, idxStr z ss = some j → ss[j]? = some z ∧ ∀ m, m < j → ss[m]? ≠ some z
  | [], j, e => by simp [idxStr] at e
  | s :: ss, j, e => by
    simp only [idxStr] at e
    by_cases h : s = z
    · rw [if_pos h] at e
      cases e
      exact ⟨by simp [h], fun m hm => absurd hm (Nat.not_lt_zero _)⟩
    · rw [if_neg h, Option.map_eq_some_iff] at e
      obtain ⟨i, e, rfl⟩ := e
      obtain ⟨h1, h2⟩ := idxStr_ok e
      refine ⟨by simpa using h1, fun m hm => ?_⟩
      cases m with
      | zero => simpa using h
      | succ m => simpa using h2 m (Nat.lt_of_succ_lt_succ hm)
theorem s_gidx (o : Okx Z C prim ca ef F X N sc WX n) {i : Nat} {a : E} {y : Expr} {p1 q p : Pos} (ha : PE X y (tI X.K ca ef WX (eI C prim n a))) (h2 : i < Z.ng) (h3 : glB sc (Z.gn i) = true) (h4 : okName (Z.gn i) = true) (hy : plainE y = true) (hq : q.endLine = p.line) (ht : isTupW (C.glob i) = true) :
    PE X (.Call (.Attribute (.Name (Z.gn i) p1) "index" q) [y] [] p) (tI X.K ca ef WX (eI C prim n (.gidx i a))) := by
  obtain ⟨u, v, hm, rv, rp⟩ := o.fx.gl i h2
  have hline : (q.endLine == p.line) = true := by rw [hq]; exact beq_self_eq_true _
  have hx : [y].all plainE = true := by simp [hy]
  cases hw : C.glob i <;> rw [hw] at ht <;> try (cases ht)
  rename_i ws
  rw [hw] at rp
  simp only [Rep] at rp
  obtain ⟨t, vs, rfl, hs, rs⟩ := rp
  have ru : u = .ref t := rv
  subst ru
  obtain ⟨ob, k1, k2, k3⟩ := o.fx.gd i h2 (by rw [hw]; rfl) t hm
  refine PE.weak (pe_bm PySem.F.plainAttrs_tuple PySem.F.slot_tuple_index PySem.F.type_tuple_index mt_tup_index (pe_glob (v := .ref t) (o.gl h3) hm rfl (okName_dbg h4)) (pa_cons ha pa_nil (star_of hy _ _)) rfl (few_of hx (by simp) p X.env) hline (star_of hy _ _) rfl) fun σ H Q ⟨g, ρ, m, d, r, en, h⟩ => ?_
  refine ⟨.inr (.inl ⟨rfl, ob, k1, k2, k3⟩), ?_⟩
  have h' := h.congr (f' := fun ω m c => (eI C prim n a ρ ω m c).bind fun x m c => match gidxW (C.glob i) x with | some j => .ok (.int (j : Nat)) m c | none => .no) fun ω => by show evE C _ (.gidx i a) ρ m _ = _; rw [evE] <;> rfl
  refine tI_imp (tI_first (k := fun ω x m c => match gidxW (C.glob i) x with | some j => .ok (W.int (j : Nat)) m c | none => .no) r en h') fun v1 H1 z => ?_
  obtain ⟨g1, m1, d1, w, r1, s1, e1, q1, f1⟩ := z
  cases hg : gidxW (C.glob i) w with
  | none => exact f1.not fun ω => by show (match gidxW (C.glob i) w with | some j => _ | none => _) = _; rw [hg]
  | some j =>
    have hg' := hg
    rw [hw] at hg'
    cases w <;> simp [gidxW] at hg'
    rename_i z
    rw [Option.bind_eq_some_iff] at hg'
    obtain ⟨ss, e2, e3⟩ := hg'
    obtain ⟨h5, h6⟩ := idxStr_ok e3
    simp only [Rep] at q1
    subst q1
    have e4 := strs_ok rs e2
    subst e4
    exact ⟨t, ss, z, j, rfl, rfl, SqT.sub (fun _ _ q => by cases q) hs, h5, h6, f1.fin (a := .int (j : Nat)) (m' := m1) (fun ω => by show (match gidxW (C.glob i) (.str z) with | some j => _ | none => _) = _; rw [hg]) (Step.refl _ _) r1 (by simp only [Rep])⟩
theorem join_ok {g : G} {m : Mem} {d : List Nat} {H : Hp} {WE : Exn → Env → Value → Option Addr → Hp → G → Mem → List Nat → Prop} {a : Str} {xs : List W} {p : Addr} {vs : List V} {Q : VK} (r : RelM X.K ca g m d.length H) (rb : Reps X.K ca g xs vs) (hb : SqL X.K H p vs ∨ SqT X.K H p vs)
    (h : Fin X.K ca ef (Rep X.K ca) WE (fun ω m c => joinS a xs m c) g m d H (fun v H' _ _ _ _ => Q v H')) :
    ∃ a' p' , ∃ ys : List Str, V.str a = .str a' ∧ [V.ref p] = [.ref p'] ∧ (SqL X.K H p' (ys.map V.str) ∨ SqT X.K H p' (ys.map V.str)) ∧ (ys.map (·.length)).sum + ys.length * a'.length ≤ 16777216 ∧ Q (.str (Txt.join a' ys)) H := by
  cases hs : strsOf xs with
  | none => exact h.not fun ω => by show joinS a xs m _ = _; unfold joinS; rw [hs]
  | some ys =>
    by_cases z : (ys.map (·.length)).sum + ys.length * a.length ≤ 16777216
    · have e := strs_ok rb hs
      subst e
      exact ⟨a, p, ys, rfl, rfl, hb, z, h.fin (a := .str (Txt.join a ys)) (m' := m) (fun ω => by show joinS a xs m _ = _; unfold joinS; rw [hs]; exact if_pos z) (Step.refl _ _) r (by simp only [Rep])⟩
    · exact h.not fun ω => by show joinS a xs m _ = _; unfold joinS; rw [hs]; exact if_neg z
theorem s_sjoin {a b : E} {y x : Expr} {q p : Pos} (ha : PE X y (tI X.K ca ef WX (eI C prim n a))) (hb : PE X x (tI X.K ca ef WX (eI C prim n b))) (hy : baseOk y = true) (hx : plainE x = true) (hq : q.endLine = p.line) :
    PE X (.Call (.Attribute y "join" q) [x] [] p) (tI X.K ca ef WX (eI C prim n (.sjoin a b))) := by
  have hline : (q.endLine == p.line) = true := by rw [hq]; exact beq_self_eq_true _
  have hxa : [x].all plainE = true := by simp [hx]
  refine PE.weak (pe_bm PySem.F.plainAttrs_str PySem.F.slot_str_join PySem.F.type_str_join mt_join ha (pa_cons hb pa_nil (star_of hx _ _)) (abase_of hy X.env) (few_of hxa (by simp) p X.env) hline (star_of hx _ _) rfl) fun σ H Q ⟨g, ρ, m, d, r, en, h⟩ => ?_
  have h' := h.congr (f' := fun ω m c => (eI C prim n a ρ ω m c).bind fun x m c => match x with
    | .str s => (eI C prim n b ρ ω m c).bind fun y m c => sjoinW s y m c
    | _ => .no) fun ω => by show evE C _ (.sjoin a b) ρ m _ = _; rw [evE] <;> rfl
  refine tI_imp (tI_first (k := fun ω x m c => match x with
    | .str s => (eI C prim n b ρ ω m c).bind fun y m c => sjoinW s y m c
    | _ => .no) r en h') fun v1 H1 z => ?_
  obtain ⟨g1, m1, d1, w, r1, s1, e1, q1, f1⟩ := z
  cases w <;> try (exact f1.not fun ω => rfl)
  rename_i s
  simp only [Rep] at q1
  subst q1
  refine ⟨rfl, ?_⟩
  refine tI_imp (tI_first (k := fun ω y m c => sjoinW s y m c) r1 e1 (f1.congr (f' := fun ω m c => (eI C prim n b ρ ω m c).bind fun y m c => sjoinW s y m c) fun ω => rfl)) fun v2 H2 z => ?_
  obtain ⟨g2, m2, d2, w2, r2, s2, e2, q2, f2⟩ := z
  obtain ⟨vl, vt, _, _⟩ := Rep.view r2 q2
  cases hv : vw m2 w2 with
  | lst xs =>
    obtain ⟨b, vs, rfl, hb, rb⟩ := vl xs hv
    exact join_ok r2 rb (.inl (SqL.of hb)) (f2.congr (f' := fun ω m c => joinS s xs m c) fun ω => by show sjoinW s w2 m2 _ = _; unfold sjoinW; rw [hv])
  | tup xs =>
    obtain ⟨b, vs, rfl, hb, rb⟩ := vt xs hv
    exact join_ok r2 rb (.inr hb) (f2.congr (f' := fun ω m c => joinS s xs m c) fun ω => by show sjoinW s w2 m2 _ = _; unfold sjoinW; rw [hv])
  | _ => exact f2.not fun ω => by show sjoinW s w2 m2 _ = _; unfold sjoinW; rw [hv]
end
end Lw

set_option maxHeartbeats 1000000
namespace Lw
open PySem PySem.Spec PyProof.Rows L2

section
variable {X : Cx} {CX : CXT} {k : Nat} {f C : Addr} {fd : FuncData} {ps : List Str} {sp : Sp} {E : L2.St → XK}
/-- C(..), what is raised wished for at the slots -/
theorem run_makeS {pins : List (Addr × Obj)} {σ : L2.St} {H : Hp} {s : Shared} {Q : VK} {us : List Value} {vs : List V} (M : Mk X.K C f) (F : FnOk X.prog X.w X.K X.mg X.base CX k f fd ps sp) (hr : Room (k + 1) X.A) (hb : Binds X.K fd ps [])
    (hx : PassesAt CX X σ (E σ)) (I : Inv X pins σ H s) (r : Vals vs us)
    (h : ∀ x dx, H x = none → H dx = none → dx ≠ x → sp (.ref x :: vs) (upd (upd H dx (.own x)) x (.ins C dx [])) (fun v H2 => v = .non ∧ Q (.ref x) H2) (E σ)) :
    wpAny (model X.prog X.w) X.A (call (.ref C) us) (EP X pins σ Q) X.xe s := by
  have hq := h (s.heap.objs.size + 1) s.heap.objs.size (I.hok.fresh (Nat.le_succ _)) (I.hok.fresh (Nat.le_refl _)) (Nat.ne_of_lt (Nat.lt_succ_self _))
  have I2 := Inv.made (C := C) I
  have r2 : Vals (V.ref (s.heap.objs.size + 1) :: vs) (Value.ref (s.heap.objs.size + 1) :: us) := .cons rfl r
  have hl : (Value.ref (s.heap.objs.size + 1) :: us).length = ps.length := by
    have e := r2.length
    rw [F.len _ _ _ _ hq] at e
    exact e.symm
  have b := hb _ (Value.ref (s.heap.objs.size + 1) :: us) I2.kIn (by rw [List.append_nil]; exact hl)
  rw [List.append_nil] at b
  refine wpAny_call (make_map (f := f) I.kIn M.makes M.init (beq_iff_eq.mp M.fn) (codeAny_mono (F.run _ X.stack _ _ ⟨Value.ref (s.heap.objs.size + 1) :: us, []⟩ (Value.ref (s.heap.objs.size + 1) :: us) _ _ (E σ) (hr.make C us [])
    (I2.env0.make C us []) b r2 hq) fun r s' hq' => ?_))
  cases r with
  | error e => exact hx pins _ _ e s' I2 hq'
  | ok fl =>
    cases fl with
    | ret u =>
      obtain ⟨v, H', I3, rv, ev, q3⟩ := I2.after hq'
      subst ev
      exact ⟨rv, ⟨V.ref (s.heap.objs.size + 1), H', I3, rfl, q3⟩⟩
    | next => exact False.elim hq'
    | brk => exact False.elim hq'
    | cont => exact False.elim hq'
end

section
variable {Z : Tab} {C : Cfg} {prim : Nat → Option Prim} {ca : CA} {ef : Nat → Str} {F : FT} {X : Cx} {N : List Str} {sc : Scope} {WX : L2.WX} {n : Nat}
theorem run_arity {ω : Nat → Nat} {f : Nat} {ws : List W} {m : Mem} {c : Nat} {r : FnRec} (hf : C.fn f = some r) (h : run C prim ω n f ws m c ≠ .no) : ws.length = r.arity := by
  cases n with
  | zero => exact absurd rfl h
  | succ n =>
    by_cases z : ws.length = r.arity
    · exact z
    · refine absurd ?_ h
      show (match C.fn f with | none => _ | some r => _) = _
      rw [hf]
      exact if_neg z
theorem reEnv_no {α : Type} {ρ : Env} {r : R α} : reEnv ρ r = .no ↔ r = .no := by cases r <;> simp [reEnv]
theorem reEnv_ok {α : Type} {ρ : Env} {r : R α} {a : α} {m : Mem} {c : Nat} : reEnv ρ r = .ok a m c ↔ r = .ok a m c := by cases r <;> simp [reEnv]
/-- what a call asks -/
theorem sp_of {f : Nat} {r : FnRec} {ρ : Env} {σ : L2.St} {g : G} {m : Mem} {d : List Nat} {ws : List W} {vs : List V} {H : Hp} {Q : VK} (fx : Facts Z C ca F X.K X.mg) (hf : C.fn f = some r) (rm : RelM X.K ca g m d.length H) (q : Reps X.K ca g ws vs)
    (h : Fin X.K ca ef (Rep X.K ca) (wxE WX σ) (fun ω m c => reEnv ρ (run C prim ω n f ws m c)) g m d H (fun v H' _ _ _ _ => Q v H')) : spF C prim ca ef F X.K n f vs H Q (WE WX σ) := by
  refine ⟨g, m, d, ws, rm, q, ?_, ⟨fun ω a e => h.good ω a (reEnv_no.mpr e), fun v H' g' m' d' a s e r q z => h.ok v H' g' m' d' a s e r q fun ω w => reEnv_ok.mpr (z ω w), fun x ρ' H' g' m' d' cls dd s e r z xr => h.exc x ρ H' g' m' d' cls dd s e r (fun ω w => ?_) xr⟩⟩
  · obtain ⟨ω, a⟩ := Agree.ex d
    rw [fx.fnP f r hf]
    exact run_arity hf fun z => h.good ω a (reEnv_no.mpr z)
  · show reEnv ρ _ = _
    rw [z ω w]
    rfl
theorem s_call (o : Okx Z C prim ca ef F X N sc WX n) {f : Nat} {r : FnRec} {es : Es} {x : Str} {xs : List Expr} {p1 p : Pos} (hA : PA X xs (tIs X.K ca ef WX (esI C prim n es))) (hf : C.fn f = some r) (hc : r.cls = none) (hx : Z.fnm f = x) (hg : glB sc x = true) (hok : okName x = true) (hp : xs.all plainE = true) (hes : xs = [] → es = .nil) :
    PE X (.Call (.Name x p1) xs [] p) (tI X.K ca ef WX (eI C prim n (.call f es))) := by
  obtain ⟨hm, hk⟩ := o.fx.fnG f r hf hc
  rw [hx] at hm
  have hr : Room (lev n) X.A := o.room.mono (by omega)
  have main : ∀ σ H Q, tI X.K ca ef WX (eI C prim n (.call f es)) σ H Q → tIs X.K ca ef WX (esI C prim n es) σ H fun vs H1 => spF C prim ca ef F X.K n f vs H1 Q (WE WX σ) := fun σ H Q ⟨g, ρ, m, d, r, en, h⟩ => by
    have h' := h.congr (f' := fun ω m c => (esI C prim n es ρ ω m c).bind fun ws m c => reEnv ρ (run C prim ω n f ws m c)) fun ω => by show evE C _ (.call f es) ρ m _ = _; simp only [evE]
    refine tIs_imp (tIs_first (k := fun ω ws m c => reEnv ρ (run C prim ω n f ws m c)) r en h') fun vs H1 z => ?_
    obtain ⟨g1, m1, d1, ws, r1, s1, e1, q1, f1⟩ := z
    exact sp_of o.fx hf r1 q1 f1
  refine ⟨fun pins s σ H Q I h => ?_⟩
  refine wpAny_Call_Name_kw (ld_glob I (o.gl hg) hm ?_ (okName_dbg hok))
  cases xs with
  | nil =>
    have := hes rfl
    subst this
    have h1 : spF C prim ca ef F X.K n f [] H Q (WE WX σ) := by
      obtain ⟨g, ρ, m, d, r, en, h⟩ := main σ H Q h
      exact h.fin (a := []) (m' := m) (fun ω => by show evEs C _ .nil ρ m _ = _; simp [evEs]) (Step.refl _ _) r Reps.nil
    exact PySem.W.callWith_K0 I.kIn hk (run_fnS (us := []) (o.fn f r hf) hr (o.fx.fnB f r hf) (passAt o.tk σ) I .nil h1)
  | cons e er =>
    rw [List.all_cons, Bool.and_eq_true] at hp
    refine PySem.W.callWith_K (h₀ := X.base) I.ok.mod.kin hk (thn (hA.run p pins s σ H _ I (main σ H Q h)) fun us s1 hh => ?_) (star_of hp.1 er X.env) (nostar hp.2 p X.env)
    obtain ⟨vs, H1, I1, rr, q⟩ := hh
    exact ⟨I1.kIn, run_fnS (o.fn f r hf) hr (o.fx.fnB f r hf) (passAt o.tk σ) I1 rr q⟩
theorem selL_reps {K : PySem.W.Frag} {g : G} {ws : List W} {vs : List V} (q : Reps K ca g ws vs) : ∀ {ord : List Nat} {as : List W}, selL ws ord = some as → ∃ bs, selL vs ord = some bs ∧ Reps K ca g as bs
  | [], as, e => by simp [selL] at e; subst e; exact ⟨[], rfl, Reps.nil⟩
  | i :: is, as, e => by
    simp only [selL] at e
    split at e
    · rename_i x r h1 h2
      cases e
      obtain ⟨v, h3, h4⟩ := Reps.at q h1
      obtain ⟨bs, h5, h6⟩ := selL_reps q h2
      exact ⟨v :: bs, by simp only [selL, h3, h5], Reps.cons h4 h6⟩
    · cases e
theorem vals_get : ∀ {vs : List V} {us : List Value} {i : Nat} {v : V}, Vals vs us → vs[i]? = some v → ∃ u, us[i]? = some u ∧ RelV v u
  | _, _, i, v, .nil, e => by simp at e
  | _, _, 0, v, .cons h _, e => by simp at e; subst e; exact ⟨_, rfl, h⟩
  | _, _, i + 1, v, .cons _ h, e => by
    obtain ⟨u, h1, h2⟩ := vals_get (i := i) h (by simpa using e)
    exact ⟨u, by simpa using h1, h2⟩
theorem selL_vals {vs : List V} {us : List Value} (q : Vals vs us) : ∀ {ord : List Nat} {as : List V}, selL vs ord = some as → ∃ bs, selL us ord = some bs ∧ Vals as bs
  | [], as, e => by simp [selL] at e; subst e; exact ⟨[], rfl, .nil⟩
  | i :: is, as, e => by
    simp only [selL] at e
    split at e
    · rename_i x r h1 h2
      cases e
      obtain ⟨v, h3, h4⟩ := vals_get q h1
      obtain ⟨bs, h5, h6⟩ := selL_vals q h2
      exact ⟨v :: bs, by simp only [selL, h3, h5], .cons h4 h6⟩
    · cases e
/-- f(k = v, ..), all by name -/
theorem s_callK (o : Okx Z C prim ca ef F X N sc WX n) {f : Nat} {r : FnRec} {es : Es} {ks : List Str} {ord : List Nat} {x : Str} {kw : List Keyword} {p1 p : Pos} (hA : PK X kw (tIs X.K ca ef WX (esI C prim n es))) (hl : ∀ ρ ω m c ws m' c', evEs C (run C prim ω n) es ρ m c = .ok ws m' c' → ws.length = ks.length) (hf : C.fn f = some r) (hc : r.cls = none) (hx : Z.fnm f = x) (hg : glB sc x = true) (hok : okName x = true)
    (hall : (backToKw p (keywordEach kw X.env)).all (·.1.isSome) = true) (hks : (backToKw p (keywordEach kw X.env)).filterMap (·.1) = ks) (hno : (backToKw p (keywordEach kw X.env)).any (·.1.isNone) = false) (hmem : (f, ks, ord) ∈ Z.kws) :
    PE X (.Call (.Name x p1) [] kw p) (tI X.K ca ef WX (eI C prim n (.callK f ks ord es))) := by
  obtain ⟨hm, hk⟩ := o.fx.fnG f r hf hc
  rw [hx] at hm
  have hr : Room (lev n) X.A := o.room.mono (by omega)
  have main : ∀ σ H Q, tI X.K ca ef WX (eI C prim n (.callK f ks ord es)) σ H Q → tIs X.K ca ef WX (esI C prim n es) σ H fun vs H1 => vs.length = ks.length ∧ ∃ as, selL vs ord = some as ∧ spF C prim ca ef F X.K n f as H1 Q (WE WX σ) := fun σ H Q ⟨g, ρ, m, d, r, en, h⟩ => by
    have h' := h.congr (f' := fun ω m c => (esI C prim n es ρ ω m c).bind fun ws m c => match selL ws ord with
      | some as => reEnv ρ (run C prim ω n f as m c)
      | none => .no) fun ω => by show evE C _ (.callK f ks ord es) ρ m _ = _; simp only [evE] <;> rfl
    refine ⟨g, ρ, m, d, r, en, (Fin.bindZ (rel := Reps X.K ca) (k := fun ω ws m c => match selL ws ord with
      | some as => reEnv ρ (run C prim ω n f as m c)
      | none => .no) h').imp fun vs H1 g1 m1 d1 ws z => ?_⟩
    obtain ⟨r1, q1, s1, e1, z1, f1⟩ := z
    obtain ⟨ω0, a0⟩ := Agree.ex d1
    have hlen := hl _ _ _ _ _ _ _ (z1 ω0 a0)
    cases hs : selL ws ord with
    | none => exact f1.not fun ω => by show (match selL ws ord with | some as => _ | none => _) = _; rw [hs]
    | some as =>
      obtain ⟨bs, h1, h2⟩ := selL_reps q1 hs
      exact ⟨(Reps.length q1).trans hlen, bs, h1, sp_of o.fx hf r1 h2 (f1.congr fun ω => by show (match selL ws ord with | some as => _ | none => _) = _; rw [hs])⟩
  refine ⟨fun pins s σ H Q I h => ?_⟩
  refine wpAny_Call_Name_kw (ld_glob I (o.gl hg) hm ?_ (okName_dbg hok))
  refine PySem.W.callWith_KW0 (h₀ := X.base) I.ok.mod.kin hk hall (thn (hA.run p pins s σ H _ I (main σ H Q h)) fun us s1 ⟨vs, H1, I1, rr, hlen, as, hs, q⟩ => ⟨I1.kIn, ?_⟩) (by rw [hno]; rfl)
  rw [hks]
  obtain ⟨bs, h1, h2⟩ := selL_vals rr hs
  have b := o.fx.kwd f ks ord hmem s1 us bs I1.kIn (by rw [← rr.length, hlen]) h1
  refine wpAny_call (codeAny_mono ((o.fn f r hf).run X.A X.stack s1 H1 ⟨[], ks.zip us⟩ bs as Q (WE WX σ) hr I1.env0 b h2 q) fun rr s' hq => ?_)
  cases rr with
  | error e => exact passAt o.tk σ pins H1 s1 e s' I1 hq
  | ok fl =>
    cases fl with
    | ret u => exact I1.after hq
    | next => exact False.elim hq
    | brk => exact False.elim hq
    | cont => exact False.elim hq
theorem s_knil : PK X [] (tIs X.K ca ef WX (esI C prim n .nil)) := ⟨fun pos pins s σ H Q I h => pk_nil.run pos pins s σ H Q I (by
  obtain ⟨g, ρ, m, d, r, e, h⟩ := h
  exact h.fin (a := []) (m' := m) (fun ω => by show evEs C _ .nil ρ m _ = _; simp [evEs]) (Step.refl g H) r Reps.nil)⟩
theorem s_kcons {e : E} {es : Es} {x : Expr} {kw : List Keyword} {nm : Option Str} {kp : Pos} (ha : PE X x (tI X.K ca ef WX (eI C prim n e))) (hb : PK X kw (tIs X.K ca ef WX (esI C prim n es))) : PK X (⟨nm, x, kp⟩ :: kw) (tIs X.K ca ef WX (esI C prim n (.cons e es))) := by
  refine ⟨fun pos pins s σ H Q I hh => (pk_cons ha hb).run pos pins s σ H Q I ?_⟩
  obtain ⟨g, ρ, m, d, r, en, h⟩ := hh
  have h' := h.congr (f' := fun ω m c => (eI C prim n e ρ ω m c).bind fun w m c => (esI C prim n es ρ ω m c).bind fun ws m c => .ok (w :: ws) m c) fun ω => by show evEs C _ (.cons e es) ρ m _ = _; simp only [evEs]
  obtain ⟨ga, ρa, ma, da, ra, ea, ha'⟩ := tI_first r en h'
  refine ⟨ga, ρa, ma, da, ra, ea, ha'.imp fun v1 H1 _ _ _ _ z => ?_⟩
  obtain ⟨g1, m1, d1, w, r1, s1, e1, q1, f1⟩ := z
  obtain ⟨gb, ρb, mb, db, rb, eb, hb'⟩ := tIs_first r1 e1 f1
  refine ⟨gb, ρb, mb, db, rb, eb, hb'.imp fun v2 H2 _ _ _ _ z => ?_⟩
  obtain ⟨g2, m2, d2, ws, r2, s2, e2, q2, f2⟩ := z
  exact f2.fin (a := w :: ws) (m' := m2) (fun ω => rfl) (Step.refl g2 H2) r2 (Reps.cons (Rep.mono s2.le _ _ q1) q2)
/-- how a method call runs -/
theorem meth_tree {y : Expr} {mth : Str} {q p : Pos} {xs : List Expr} (hy : baseOk y = true) (hp : xs.all plainE = true) (hl : xs.length < 20) (hq : q.endLine = p.line) (env : PySem.Env) : eval (.Call (.Attribute y mth q) xs [] p) env = (do
      let ov ← eval y env
      standAt q.atName
      let (f, first) ← holding [ov] (getMethod ov mth (do return (← importBound y env).getD true))
      callWith p f first (backTo p (starEach xs env)) (backToKw p (keywordEach [] env))) := by
  have h1 : eval (.Call (.Attribute y mth q) xs [] p) env = (do
      let ov ← attributeBase y mth env (eval y env)
      standAt q.atName
      methodCall y mth q p env ov (xs.length + ([] : List Keyword).length) (backTo p (starEach xs env)) (backToKw p (keywordEach [] env))) := rfl
  rw [h1, abase_of hy env]
  have hform : methodCallForm (xs.length + ([] : List Keyword).length) (backTo p (starEach xs env)) (backToKw p (keywordEach [] env)) = true := by
    have := few_of hp hl p env
    unfold methodCallForm
    simp only [Bool.and_eq_true] at this ⊢
    refine ⟨this.1, ?_⟩
    have z := this.2
    simp at z ⊢
    exact z
  have hline : (q.endLine == p.line) = true := by rw [hq]; exact beq_self_eq_true _
  unfold methodCall calleeOf methodCallPos
  rw [hform]
  simp only [if_true, Bool.not_true, Bool.false_or, hline]
  rfl
theorem look_none {f : Str} : ∀ {ks : List Str} {vs : List V}, (∀ k ∈ ks, k ≠ f) → (ks.zip vs).lookup f = none
  | [], vs, h => rfl
  | k :: ks, [], h => rfl
  | k :: ks, v :: vs, h => by
    rw [List.zip_cons_cons, List.lookup_cons]
    have hb : (f == k) = false := beq_eq_false_iff_ne.mpr (Ne.symm (h k List.mem_cons_self))
    rw [hb]
    exact look_none fun x hx => h x (List.mem_cons_of_mem _ hx)
theorem s_meth (o : Okx Z C prim ca ef F X N sc WX n) {f : Nat} {r : FnRec} {oe : E} {es : Es} {y : Expr} {mth : Str} {xs : List Expr} {q p : Pos} (ho : PE X y (tI X.K ca ef WX (eI C prim n oe))) (hA : PA X xs (tIs X.K ca ef WX (esI C prim n es))) (hf : C.fn f = some r) (hx : Z.fnm f = mth) (hp : xs.all plainE = true) (hes : xs = [] → es = .nil)
    (hy : baseOk y = true) (hl : xs.length < 20) (hq : q.endLine = p.line) : PE X (.Call (.Attribute y mth q) xs [] p) (tI X.K ca ef WX (eI C prim n (.meth f oe es))) := by
  have hr : Room (lev n) X.A := o.room.mono (by omega)
  refine ⟨fun pins s σ H Q I h => ?_⟩
  obtain ⟨g, ρ, m, d, rm, en, h⟩ := h
  have h' := h.congr (f' := fun ω m c => (eI C prim n oe ρ ω m c).bind fun x m c => match C.fn f, vw m x with
    | some r, .obj d _ _ => if r.cls = some d then (esI C prim n es ρ ω m c).bind fun ws m c => reEnv ρ (run C prim ω n f (x :: ws) m c) else .no
    | _, _ => .no) fun ω => by show evE C _ (.meth f oe es) ρ m _ = _; rw [evE] <;> rfl
  have hT := tI_first (k := fun ω x m c => match C.fn f, vw m x with
    | some r, .obj d _ _ => if r.cls = some d then (esI C prim n es ρ ω m c).bind fun ws m c => reEnv ρ (run C prim ω n f (x :: ws) m c) else .no
    | _, _ => .no) rm en h'
  refine PySem.W.methodCall_KW (pl := (do return (← importBound y X.env).getD true)) (thn (ho.run pins s σ H _ I hT) fun u s1 hh => ?_) (meth_tree hy hp hl hq X.env)
  obtain ⟨v1, H1, I1, rx, g1, m1, d1, w, r1, s1', e1, q1, f1⟩ := hh
  obtain ⟨_, _, hob, _⟩ := Rep.view r1 q1
  have e0 : ∀ ω c, (match C.fn f, vw m1 w with
    | some r, .obj d _ _ => if r.cls = some d then (esI C prim n es ρ ω m1 c).bind fun ws m c => reEnv ρ (run C prim ω n f (w :: ws) m c) else .no
    | _, _ => .no) = (match (generalizing := false) vw m1 w with
    | .obj d _ _ => if r.cls = some d then (esI C prim n es ρ ω m1 c).bind fun ws m c => reEnv ρ (run C prim ω n f (w :: ws) m c) else .no
    | _ => .no) := fun ω c => by rw [hf]; cases vw m1 w <;> rfl
  cases hv : vw m1 w <;> first | (refine f1.not fun ω => ?_; rw [e0, hv]; done) | skip
  rename_i dd ks ws0
  obtain ⟨a, dx, vs0, rfl, ha, hz, rb⟩ := hob dd ks ws0 hv
  by_cases hcl : r.cls = some dd
  · obtain ⟨cl, me, nof⟩ := o.fx.fnM f r dd hf hcl
    rw [hx] at me nof
    obtain rfl : u = Value.ref a := rx
    have hno : (ks.zip vs0).lookup mth = none := look_none (fun f hf z => by rw [z] at hf; rw [hz.2 _ hf] at nof; cases nof)
    refine getmeth_ok I1 ha cl me hno ?_
    have f1' := f1.congr (f' := fun ω m c => (esI C prim n es ρ ω m c).bind fun ws m c => reEnv ρ (run C prim ω n f (w :: ws) m c)) fun ω => by rw [e0, hv]; exact if_pos hcl
    have hTs := tIs_first (k := fun ω ws m c => reEnv ρ (run C prim ω n f (w :: ws) m c)) r1 e1 f1'
    have fin : ∀ (us : List Value) (s2 : Shared) (vs : List V) (H2 : Hp), Inv X pins σ H2 s2 → Vals vs us → (∃ (g2 : G) (m2 : Mem) (d2 : List Nat) (ws : List W), RelM X.K ca g2 m2 d2.length H2 ∧ Step g1 H1 g2 H2 ∧ REnv X.K ca g2 ρ σ ∧ Reps X.K ca g2 ws vs ∧ Fin X.K ca ef (Rep X.K ca) (wxE WX σ) (fun ω m c => reEnv ρ (run C prim ω n f (w :: ws) m c)) g2 m2 d2 H2 (fun v H' _ _ _ _ => Q v H')) →
        wpAny (model X.prog X.w) X.A (PySem.call (.ref (F.fa f)) (.ref a :: us)) (EP X pins σ Q) X.xe s2 := fun us s2 vs H2 I2 rv z => by
      obtain ⟨g2, m2, d2, ws, r2, s2', e2, q2, f2⟩ := z
      exact run_fnS (us := .ref a :: us) (vs := .ref a :: vs) (o.fn f r hf) hr (o.fx.fnB f r hf) (passAt o.tk σ) I2 (.cons rfl rv) (sp_of o.fx hf r2 (Reps.cons (Rep.mono s2'.le _ _ q1) q2) f2)
    cases xs with
    | nil =>
      have := hes rfl
      subst this
      refine PySem.W.callWith_K0 (first := [.ref a]) I1.kIn me.kp (fin [] s1 [] H1 I1 .nil ?_)
      obtain ⟨g, ρ, m, d, r, en, h⟩ := hTs
      exact h.fin (a := []) (m' := m) (fun ω => by show evEs C _ .nil ρ m _ = _; simp [evEs]) (Step.refl _ _) r Reps.nil
    | cons e er =>
      rw [List.all_cons, Bool.and_eq_true] at hp
      refine PySem.W.callWith_K (first := [.ref a]) (h₀ := X.base) I1.ok.mod.kin me.kp (thn (hA.run p pins s1 σ H1 _ I1 hTs) fun us s2 hh => ?_) (star_of hp.1 er X.env) (nostar hp.2 p X.env)
      obtain ⟨vs, H2, I2, rr, q⟩ := hh
      exact ⟨I2.kIn, fin us s2 vs H2 I2 rr q⟩
  · exact f1.not fun ω => by rw [e0, hv]; exact if_neg hcl
theorem s_make (o : Okx Z C prim ca ef F X N sc WX n) {k : Nat} {fz : Bool} {rc : ClsRec} {r : FnRec} {es : Es} {x : Str} {xs : List Expr} {p1 p : Pos} (hA : PA X xs (tIs X.K ca ef WX (esI C prim n es))) (hk : C.cls k = some rc) (hkn : k < Z.nc) (hf : C.fn rc.init = some r) (hx : Z.cn k = x) (hg : glB sc x = true) (hok : okName x = true) (hp : (xs.all plainE || lastStar xs) = true) (hes : xs = [] → es = .nil) :
    PE X (.Call (.Name x p1) xs [] p) (tI X.K ca ef WX (eI C prim n (.make k fz es))) := by
  have hm := o.fx.cgl k hkn
  rw [hx] at hm
  have M := o.fx.mks k rc hk hkn
  have main : ∀ σ H Q, tI X.K ca ef WX (eI C prim n (.make k fz es)) σ H Q → tIs X.K ca ef WX (esI C prim n es) σ H fun vs H1 => ∀ y dx, H1 y = none → H1 dx = none → dx ≠ y →
      spF C prim ca ef F X.K n rc.init (.ref y :: vs) (upd (upd H1 dx (.own y)) y (.ins (ca k) dx [])) (fun v H2 => v = .non ∧ Q (.ref y) H2) (WE WX σ) := fun σ H Q ⟨g, ρ, m, d, rm, en, h⟩ => by
    have h' := h.congr (f' := fun ω m c => (esI C prim n es ρ ω m c).bind fun ws m c => (reEnv ρ (run C prim ω n rc.init (.ptr m.length :: ws) (m ++ [.ins k [] []]) c)).bind fun w m' c' => match w with
        | .non => if fz then frzR (.ptr m.length) m' c' else .ok (.ptr m.length) m' c'
        | _ => .no) fun ω => by show evE C _ (.make k fz es) ρ m _ = _; rw [evE, hk] <;> rfl
    refine tIs_imp (tIs_first (k := fun ω ws m c => (reEnv ρ (run C prim ω n rc.init (.ptr m.length :: ws) (m ++ [.ins k [] []]) c)).bind fun w m' c' => match w with
        | .non => if fz then frzR (.ptr m.length) m' c' else .ok (.ptr m.length) m' c'
        | _ => .no) rm en h') fun vs H1 z => ?_
    obtain ⟨g1, m1, d1, ws, r1, s1, e1, q1, f1⟩ := z
    intro y dx ny ndx hne
    have rl : RelM X.K ca g1 m1 d1.length (upd H1 dx (.own y)) := rel_lay r1 ndx
    have sl : Step g1 H1 g1 (upd H1 dx (.own y)) := step_lay r1 ndx
    have ny' : (upd H1 dx (.own y)) y = none := by rw [upd_ne hne.symm]; exact ny
    have rc1 := rel_cell (p := y) (o := .ins (ca k) dx []) rl ny' (x := .ins k [] []) ⟨dx, [], upd_same, ⟨rfl, fun f hf => by cases hf⟩, Reps.nil⟩
    have sc1 := step_cell (p := y) (o := .ins (ca k) dx []) rl ny'
    have st := sl.trans sc1
    have f2 := Fin.step (f := fun ω m c => (reEnv ρ (run C prim ω n rc.init (.ptr m1.length :: ws) m c)).bind fun w m' c' => match w with
        | .non => if fz then frzR (.ptr m1.length) m' c' else .ok (.ptr m1.length) m' c'
        | _ => .no) (m := m1 ++ [.ins k [] []]) st (Ext.refl d1) (fun ω _ => rfl) f1
    have f3 := Fin.bind (rel := Rep X.K ca) (f := fun ω m c => reEnv ρ (run C prim ω n rc.init (.ptr m1.length :: ws) m c)) f2
    have hy : (g1.cell m1.length y).μ m1.length = some y := if_pos rfl
    refine sp_of (ρ := ρ) o.fx hf rc1 (Reps.cons (w := .ptr m1.length) (v := .ref y) (by simp only [Rep]; exact ⟨y, rfl, hy⟩) (Reps.mono st.le _ _ q1)) (f3.imp fun v H3 g3 m3 d3 a3 z => ?_)
    obtain ⟨r3, q3, s3, e3, f4⟩ := z
    cases a3 <;> try (exact f4.not fun ω => rfl)
    simp only [Rep] at q3
    subst q3
    refine ⟨rfl, ?_⟩
    have q4 : Rep X.K ca g3 (.ptr m1.length) (.ref y) := by simp only [Rep]; exact ⟨y, rfl, s3.μ _ _ hy⟩
    cases fz with
    | false => exact f4.fin (a := .ptr m1.length) (m' := m3) (fun ω => rfl) (Step.refl _ _) r3 q4
    | true =>
      cases z : frz 12 (.ptr m1.length) m3 with
      | none => exact f4.not fun ω => by show frzR (.ptr m1.length) m3 _ = _; unfold frzR; rw [z]
      | some pp =>
        obtain ⟨w', m'⟩ := pp
        obtain ⟨g', a1, b1⟩ := frz_ok 12 _ m3 w' m' g3 _ z r3 q4
        exact f4.ok _ H3 g' m' d3 w' a1.step (Ext.refl _) a1.rel b1 fun ω _ => by show frzR (.ptr m1.length) m3 _ = _; unfold frzR; rw [z]
  refine ⟨fun pins s σ H Q I h => ?_⟩
  refine wpAny_Call_Name_kw (ld_glob I (o.gl hg) hm ?_ (okName_dbg hok))
  cases xs with
  | nil =>
    have := hes rfl
    subst this
    have h1 := main σ H Q h
    obtain ⟨g, ρ, m, d, r', en, h1⟩ := h1
    have h2 := h1.fin (a := []) (m' := m) (fun ω => by show evEs C _ .nil ρ m _ = _; simp [evEs]) (Step.refl _ _) r' Reps.nil
    exact PySem.W.callWith_K0 I.kIn M.kp (run_makeS (us := []) M (o.fn rc.init r hf) o.room (o.fx.fnB _ r hf) (passAt o.tk σ) I .nil h2)
  | cons e er =>
    rw [Bool.or_eq_true] at hp
    rcases hp with hp | hp
    · rw [List.all_cons, Bool.and_eq_true] at hp
      refine PySem.W.callWith_K (h₀ := X.base) I.ok.mod.kin M.kp (thn (hA.run p pins s σ H _ I (main σ H Q h)) fun us s1 hh => ?_) (star_of hp.1 er X.env) (nostar hp.2 p X.env)
      obtain ⟨vs, H1, I1, rr, q⟩ := hh
      exact ⟨I1.kIn, run_makeS M (o.fn rc.init r hf) o.room (o.fx.fnB _ r hf) (passAt o.tk σ) I1 rr q⟩
    · rcases er with _ | ⟨y, _ | ⟨y2, er⟩⟩ <;> try (cases hp; done)
      simp only [lastStar, Bool.and_eq_true] at hp
      obtain ⟨z, hz⟩ := Option.isSome_iff_exists.mp hp.2
      obtain ⟨q2, rfl⟩ := asStar_of hz
      refine PySem.W.callWith_S2 (h₀ := X.base) I.ok.mod.kin M.kp (thn (hA.run p pins s σ H _ I (main σ H Q h)) fun us s1 hh => ?_) (star_of hp.1 _ X.env) rfl
      obtain ⟨vs, H1, I1, rr, q⟩ := hh
      exact ⟨I1.kIn, run_makeS M (o.fn rc.init r hf) o.room (o.fx.fnB _ r hf) (passAt o.tk σ) I1 rr q⟩
theorem sel_none {α β : Type} {xs : List α} {ys : List β} (hl : xs.length = ys.length) : ∀ {ord : List Nat}, selL xs ord = none → selL ys ord = none
  | [], e => by simp [selL] at e
  | i :: is, e => by
    simp only [selL] at e ⊢
    split at e
    · cases e
    · rename_i h
      split
      · rename_i y r h1 h2
        exfalso
        have hi : i < xs.length := by rw [hl]; exact (List.getElem?_eq_some_iff.mp h1).1
        cases hs : selL xs is with
        | none => rw [sel_none hl hs] at h2; cases h2
        | some r' => exact h _ _ (List.getElem?_eq_getElem hi) hs
      · rfl
theorem sel_vals {vs : List V} {us : List Value} (q : Vals vs us) {ord : List Nat} : Vals ((selL vs ord).getD []) ((selL us ord).getD []) := by
  cases h : selL vs ord with
  | none => rw [sel_none q.length h]; exact .nil
  | some as =>
    obtain ⟨bs, h1, h2⟩ := selL_vals q h
    rw [h1]
    exact h2
theorem reps_app {K : PySem.W.Frag} {g : G} : ∀ {xs ys : List W} {vs us : List V}, Reps K ca g xs vs → Reps K ca g ys us → Reps K ca g (xs ++ ys) (vs ++ us)
  | [], ys, vs, us, h, h2 => by
    simp only [Reps] at h
    subst h
    exact h2
  | x :: xs, ys, vs, us, h, h2 => by
    simp only [Reps] at h
    obtain ⟨v, r, rfl, h3, h4⟩ := h
    exact Reps.cons h3 (reps_app h4 h2)
end
section
variable {X : Cx} {CX : CXT} {k n : Nat} {f C : Addr} {fd : FuncData} {ps ks : List Str} {sp : Sp} {E : L2.St → XK} {gg : List Value → List Value → List Value} {gV : List V → List V → List V}
theorem run_makeNS {pins : List (Addr × Obj)} {σ : L2.St} {H : Hp} {s : Shared} {Q : VK} {us ws : List Value} {vs zs : List V} (M : Mk X.K C f) (F : FnOk X.prog X.w X.K X.mg X.base CX k f fd ps sp) (hr : Room (k + 1) X.A) (hb : KBn X.K fd ps (n + 1) ks gg gV)
    (hx : PassesAt CX X σ (E σ)) (I : Inv X pins σ H s) (r : Vals vs us) (rz : Vals zs ws) (l1 : vs.length = n) (l2 : zs.length = ks.length)
    (h : ∀ x dx, H x = none → H dx = none → dx ≠ x → sp (gV (.ref x :: vs) zs) (upd (upd H dx (.own x)) x (.ins C dx [])) (fun v H2 => v = .non ∧ Q (.ref x) H2) (E σ)) :
    wpAny (model X.prog X.w) X.A (call (.ref C) us (ks.zip ws)) (EP X pins σ Q) X.xe s := by
  have hq := h (s.heap.objs.size + 1) s.heap.objs.size (I.hok.fresh (Nat.le_succ _)) (I.hok.fresh (Nat.le_refl _)) (Nat.ne_of_lt (Nat.lt_succ_self _))
  have I2 := Inv.made (C := C) I
  have r1 : Vals (V.ref (s.heap.objs.size + 1) :: vs) (Value.ref (s.heap.objs.size + 1) :: us) := .cons rfl r
  have r2 := hb.rel r1 rz
  have e1 : (Value.ref (s.heap.objs.size + 1) :: us).length = n + 1 := r1.length.symm.trans (congrArg Nat.succ l1)
  have e2 : ws.length = ks.length := rz.length.symm.trans l2
  refine wpAny_call (make_map (f := f) I.kIn M.makes M.init (beq_iff_eq.mp M.fn) (codeAny_mono (F.run _ X.stack _ _ ⟨Value.ref (s.heap.objs.size + 1) :: us, ks.zip ws⟩ (gg (Value.ref (s.heap.objs.size + 1) :: us) ws) _ _ (E σ) (hr.make C us (ks.zip ws))
    (I2.env0.make C us (ks.zip ws)) (hb.to _ (Value.ref (s.heap.objs.size + 1) :: us) ws I2.kIn e1 e2) r2 hq) fun r s' hq' => ?_))
  cases r with
  | error e => exact hx pins _ _ e s' I2 hq'
  | ok fl =>
    cases fl with
    | ret u =>
      obtain ⟨v, H', I3, rv, ev, q3⟩ := I2.after hq'
      subst ev
      exact ⟨rv, ⟨V.ref (s.heap.objs.size + 1), H', I3, rfl, q3⟩⟩
    | next => exact False.elim hq'
    | brk => exact False.elim hq'
    | cont => exact False.elim hq'
end
section
variable {Z : Tab} {C : Cfg} {prim : Nat → Option Prim} {ca : CA} {ef : Nat → Str} {F : FT} {X : Cx} {N : List Str} {sc : Scope} {WX : L2.WX} {n : Nat}
/-- C(e, .., k = v, ..) -/
theorem s_makeK (o : Okx Z C prim ca ef F X N sc WX n) {k nd : Nat} {fz : Bool} {ks : List Str} {ord : List Nat} {rc : ClsRec} {r : FnRec} {es kes : Es} {x : Str} {xs : List Expr} {kw : List Keyword} {p1 p : Pos} (hA : PA X xs (tIs X.K ca ef WX (esI C prim n es))) (hB : PK X kw (tIs X.K ca ef WX (esI C prim n kes)))
    (hl : ∀ ρ ω m c ws m' c', evEs C (run C prim ω n) es ρ m c = .ok ws m' c' → ws.length = xs.length) (hl2 : ∀ ρ ω m c ws m' c', evEs C (run C prim ω n) kes ρ m c = .ok ws m' c' → ws.length = ks.length)
    (hk : C.cls k = some rc) (hkn : k < Z.nc) (hf : C.fn rc.init = some r) (hes : xs = [] → es = .nil) (hx : Z.cn k = x) (hg : glB sc x = true) (hok : okName x = true) (hp : xs.all plainE = true)
    (hall : (backToKw p (keywordEach kw X.env)).all (·.1.isSome) = true) (hks : (backToKw p (keywordEach kw X.env)).filterMap (·.1) = ks) (hno : (backToKw p (keywordEach kw X.env)).any (·.1.isNone) = false) (hmem : (k, nd, xs.length, ks, ord) ∈ Z.mkk) :
    PE X (.Call (.Name x p1) xs kw p) (tI X.K ca ef WX (eI C prim n (.makeK k fz nd ks ord es kes))) := by
  have hm := o.fx.cgl k hkn
  rw [hx] at hm
  have M := o.fx.mks k rc hk hkn
  obtain ⟨dvs, its, hdv, hkb⟩ := o.fx.mkd k rc nd _ ks ord hmem hk
  let KZ : Env → (Nat → Nat) → List W → List W → Mem → Nat → R W := fun ρ ω ws zs m c => match selL ((.ptr m.length :: ws) ++ zs ++ List.replicate nd (.tup [])) ord with
      | none => .no
      | some as => (reEnv ρ (run C prim ω n rc.init as (m ++ [.ins k [] []]) c)).bind fun w m' c' => match w with
        | .non => if fz then frzR (.ptr m.length) m' c' else .ok (.ptr m.length) m' c'
        | _ => .no
  have main : ∀ σ H Q, tI X.K ca ef WX (eI C prim n (.makeK k fz nd ks ord es kes)) σ H Q → tIs X.K ca ef WX (esI C prim n es) σ H fun vs H1 => tIs X.K ca ef WX (esI C prim n kes) σ H1 fun zs H2 => vs.length = xs.length ∧ zs.length = ks.length ∧ ∀ y dx, H2 y = none → H2 dx = none → dx ≠ y →
      spF C prim ca ef F X.K n rc.init ((selL ((.ref y :: vs) ++ zs ++ dvs) ord).getD []) (upd (upd H2 dx (.own y)) y (.ins (ca k) dx [])) (fun v H3 => v = .non ∧ Q (.ref y) H3) (WE WX σ) := fun σ H Q ⟨g, ρ, m, d, rm, en, h⟩ => by
    have h' := h.congr (f' := fun ω m c => (esI C prim n es ρ ω m c).bind fun ws m c => (esI C prim n kes ρ ω m c).bind fun zs m c => KZ ρ ω ws zs m c) fun ω => by show evE C _ (.makeK k fz nd ks ord es kes) ρ m _ = _; rw [evE, hk] <;> rfl
    refine ⟨g, ρ, m, d, rm, en, (Fin.bindZ (rel := Reps X.K ca) (k := fun ω ws m c => (esI C prim n kes ρ ω m c).bind fun zs m c => KZ ρ ω ws zs m c) h').imp fun vs H1 g1 m1 d1 ws z => ?_⟩
    obtain ⟨r1, q1, s1, e1, z1, f1⟩ := z
    obtain ⟨ω0, a0⟩ := Agree.ex d1
    have hlen := hl _ _ _ _ _ _ _ (z1 ω0 a0)
    have en1 := REnv.mono en s1.le
    refine ⟨g1, ρ, m1, d1, r1, en1, (Fin.bindZ (rel := Reps X.K ca) (k := fun ω zs m c => KZ ρ ω ws zs m c) f1).imp fun zs H2 g2 m2 d2 wz z => ?_⟩
    obtain ⟨r2, q2, s2, e2, z2, f2⟩ := z
    obtain ⟨ω1, a1⟩ := Agree.ex d2
    have hlen2 := hl2 _ _ _ _ _ _ _ (z2 ω1 a1)
    refine ⟨(Reps.length q1).trans hlen, (Reps.length q2).trans hlen2, ?_⟩
    cases hs : selL ((.ptr m2.length :: ws) ++ wz ++ List.replicate nd (.tup [])) ord with
    | none => exact f2.not fun ω => by show (match selL ((.ptr m2.length :: ws) ++ wz ++ List.replicate nd (.tup [])) ord with | none => _ | some as => _) = _; rw [hs]
    | some as =>
    have f2' := f2.congr (f' := fun ω m c => (reEnv ρ (run C prim ω n rc.init as (m ++ [.ins k [] []]) c)).bind fun w m' c' => match w with
        | .non => if fz then frzR (.ptr m.length) m' c' else .ok (.ptr m.length) m' c'
        | _ => .no) fun ω => by show (match selL ((.ptr m2.length :: ws) ++ wz ++ List.replicate nd (.tup [])) ord with | none => _ | some as => _) = _; rw [hs]
    intro y dx ny ndx hne
    have rl : RelM X.K ca g2 m2 d2.length (upd H2 dx (.own y)) := rel_lay r2 ndx
    have sl : Step g2 H2 g2 (upd H2 dx (.own y)) := step_lay r2 ndx
    have ny' : (upd H2 dx (.own y)) y = none := by rw [upd_ne hne.symm]; exact ny
    have rc1 := rel_cell (p := y) (o := .ins (ca k) dx []) rl ny' (x := .ins k [] []) ⟨dx, [], upd_same, ⟨rfl, fun f hf => by cases hf⟩, Reps.nil⟩
    have sc1 := step_cell (p := y) (o := .ins (ca k) dx []) rl ny'
    have st := sl.trans sc1
    have f3 := Fin.step (f := fun ω m c => (reEnv ρ (run C prim ω n rc.init as m c)).bind fun w m' c' => match w with
        | .non => if fz then frzR (.ptr m2.length) m' c' else .ok (.ptr m2.length) m' c'
        | _ => .no) (m := m2 ++ [.ins k [] []]) st (Ext.refl d2) (fun ω _ => rfl) f2'
    have f4 := Fin.bind (rel := Rep X.K ca) (f := fun ω m c => reEnv ρ (run C prim ω n rc.init as m c)) f3
    have hy : (g2.cell m2.length y).μ m2.length = some y := if_pos rfl
    have qq : Reps X.K ca (g2.cell m2.length y) ((.ptr m2.length :: ws) ++ wz ++ List.replicate nd (.tup [])) ((.ref y :: vs) ++ zs ++ dvs) :=
      reps_app (reps_app (Reps.cons (w := .ptr m2.length) (v := .ref y) (by simp only [Rep]; exact ⟨y, rfl, hy⟩) (Reps.mono (s2.trans st).le _ _ q1)) (Reps.mono st.le _ _ q2)) (Reps.mono (Le.of0 _) _ _ hdv)
    obtain ⟨bs, hb1, hb2⟩ := selL_reps qq hs
    rw [hb1]
    refine sp_of (ρ := ρ) o.fx hf rc1 hb2 (f4.imp fun v H3 g3 m3 d3 a3 z => ?_)
    obtain ⟨r3, q3, s3, e3, f5⟩ := z
    cases a3 <;> try (exact f5.not fun ω => rfl)
    simp only [Rep] at q3
    subst q3
    refine ⟨rfl, ?_⟩
    have q4 : Rep X.K ca g3 (.ptr m2.length) (.ref y) := by simp only [Rep]; exact ⟨y, rfl, s3.μ _ _ hy⟩
    cases fz with
    | false => exact f5.fin (a := .ptr m2.length) (m' := m3) (fun ω => rfl) (Step.refl _ _) r3 q4
    | true =>
      cases z : frz 12 (.ptr m2.length) m3 with
      | none => exact f5.not fun ω => by show frzR (.ptr m2.length) m3 _ = _; unfold frzR; rw [z]
      | some pp =>
        obtain ⟨w', m'⟩ := pp
        obtain ⟨g', a1, b1⟩ := frz_ok 12 _ m3 w' m' g3 _ z r3 q4
        exact f5.ok _ H3 g' m' d3 w' a1.step (Ext.refl _) a1.rel b1 fun ω _ => by show frzR (.ptr m2.length) m3 _ = _; unfold frzR; rw [z]
  refine ⟨fun pins s σ H Q I h => ?_⟩
  refine wpAny_Call_Name_kw (ld_glob I (o.gl hg) hm ?_ (okName_dbg hok))
  cases xs with
  | nil =>
    have := hes rfl
    subst this
    obtain ⟨g, ρ, m, d, r', en, h1⟩ := main σ H Q h
    have h2 := h1.fin (a := []) (m' := m) (fun ω => by show evEs C _ .nil ρ m _ = _; simp [evEs]) (Step.refl _ _) r' Reps.nil
    refine PySem.W.callWith_KW0 (h₀ := X.base) I.ok.mod.kin M.kp hall (thn (hB.run p pins s σ H _ I h2) fun us2 s2 ⟨zs, H2, I2, rz, l1, l2, q2⟩ => ⟨I2.kIn, ?_⟩) (by rw [hno]; rfl)
    rw [hks]
    exact run_makeNS (us := []) (vs := []) (E := WE WX) M (o.fn rc.init r hf) o.room hkb (passAt o.tk σ) I2 .nil rz l1 l2 q2
  | cons e0 er =>
    have hp' := hp
    rw [List.all_cons, Bool.and_eq_true] at hp
    refine PySem.W.callWith_KW (h₀ := X.base) I.ok.mod.kin M.kp hall (thn (hA.run p pins s σ H _ I (main σ H Q h)) fun us s1 ⟨vs, H1, I1, rr, q⟩ => ?_) (by rw [nostar hp' p X.env, hno]; rfl) (star_of hp.1 er X.env)
    refine thn (hB.run p pins s1 σ H1 _ I1 q) fun us2 s2 ⟨zs, H2, I2, rz, l1, l2, q2⟩ => ⟨I2.kIn, ?_⟩
    rw [hks]
    exact run_makeNS (E := WE WX) M (o.fn rc.init r hf) o.room hkb (passAt o.tk σ) I2 rr rz l1 l2 q2
/-- how a method call by names runs -/
theorem meth_treeK {y : Expr} {mth : Str} {q p : Pos} {kw : List Keyword} (hy : baseOk y = true) (hl : kw.length < 20) (hq : q.endLine = p.line) (env : PySem.Env) (hall : (backToKw p (keywordEach kw env)).all (·.1.isSome) = true) : eval (.Call (.Attribute y mth q) [] kw p) env = (do
      let ov ← eval y env
      standAt q.atName
      let (f, first) ← holding [ov] (getMethod ov mth (do return (← importBound y env).getD true))
      callWith p f first (backTo p (starEach [] env)) (backToKw p (keywordEach kw env))) := by
  have h1 : eval (.Call (.Attribute y mth q) [] kw p) env = (do
      let ov ← attributeBase y mth env (eval y env)
      standAt q.atName
      methodCall y mth q p env ov (([] : List Expr).length + kw.length) (backTo p (starEach [] env)) (backToKw p (keywordEach kw env))) := by
    cases kw with
    | nil => cases y <;> first | rfl | (rename_i a b c d; cases a <;> first | rfl | (cases b <;> first | rfl | (cases c <;> rfl)))
    | cons k kr => rfl
  rw [h1, abase_of hy env]
  have hform : methodCallForm (([] : List Expr).length + kw.length) (backTo p (starEach [] env)) (backToKw p (keywordEach kw env)) = true := by
    unfold methodCallForm
    rw [hall]
    have e1 : (backTo p (starEach [] env)).all (fun x => !x.1) = true := rfl
    rw [e1]
    simp only [Bool.true_and, decide_eq_true_eq, List.length_nil, Nat.zero_add]
    split <;> omega
  have hline : (q.endLine == p.line) = true := by rw [hq]; exact beq_self_eq_true _
  unfold methodCall calleeOf methodCallPos
  rw [hform]
  simp only [if_true, Bool.not_true, Bool.false_or, hline]
  rfl
theorem s_methK (o : Okx Z C prim ca ef F X N sc WX n) {f : Nat} {r : FnRec} {oe : E} {es : Es} {ks : List Str} {ord : List Nat} {y : Expr} {mth : Str} {kw : List Keyword} {q p : Pos} (ho : PE X y (tI X.K ca ef WX (eI C prim n oe))) (hA : PK X kw (tIs X.K ca ef WX (esI C prim n es))) (hlen : ∀ ρ ω m c ws m' c', evEs C (run C prim ω n) es ρ m c = .ok ws m' c' → ws.length = ks.length)
    (hf : C.fn f = some r) (hx : Z.fnm f = mth) (hy : baseOk y = true) (hl : kw.length < 20) (hq : q.endLine = p.line)
    (hall : (backToKw p (keywordEach kw X.env)).all (·.1.isSome) = true) (hks : (backToKw p (keywordEach kw X.env)).filterMap (·.1) = ks) (hno : (backToKw p (keywordEach kw X.env)).any (·.1.isNone) = false) (hmem : (f, ks, ord) ∈ Z.kwm) :
    PE X (.Call (.Attribute y mth q) [] kw p) (tI X.K ca ef WX (eI C prim n (.methK f ks ord oe es))) := by
  have hr : Room (lev n) X.A := o.room.mono (by omega)
  refine ⟨fun pins s σ H Q I h => ?_⟩
  obtain ⟨g, ρ, m, d, rm, en, h⟩ := h
  let KK : (Nat → Nat) → W → List W → Mem → Nat → R W := fun ω x ws m c => match selL ws ord with
      | some as => reEnv ρ (run C prim ω n f (x :: as) m c)
      | none => .no
  have h' := h.congr (f' := fun ω m c => (eI C prim n oe ρ ω m c).bind fun x m c => match C.fn f, vw m x with
    | some r, .obj d _ _ => if r.cls = some d then (esI C prim n es ρ ω m c).bind fun ws m c => KK ω x ws m c else .no
    | _, _ => .no) fun ω => by show evE C _ (.methK f ks ord oe es) ρ m _ = _; rw [evE] <;> rfl
  have hT := tI_first (k := fun ω x m c => match C.fn f, vw m x with
    | some r, .obj d _ _ => if r.cls = some d then (esI C prim n es ρ ω m c).bind fun ws m c => KK ω x ws m c else .no
    | _, _ => .no) rm en h'
  refine PySem.W.methodCall_KW (pl := (do return (← importBound y X.env).getD true)) (thn (ho.run pins s σ H _ I hT) fun u s1 hh => ?_) (meth_treeK hy hl hq X.env hall)
  obtain ⟨v1, H1, I1, rx, g1, m1, d1, w, r1, s1', e1, q1, f1⟩ := hh
  obtain ⟨_, _, hob, _⟩ := Rep.view r1 q1
  have e0 : ∀ ω c, (match C.fn f, vw m1 w with
    | some r, .obj d _ _ => if r.cls = some d then (esI C prim n es ρ ω m1 c).bind fun ws m c => KK ω w ws m c else .no
    | _, _ => .no) = (match (generalizing := false) vw m1 w with
    | .obj d _ _ => if r.cls = some d then (esI C prim n es ρ ω m1 c).bind fun ws m c => KK ω w ws m c else .no
    | _ => .no) := fun ω c => by rw [hf]; cases vw m1 w <;> rfl
  cases hv : vw m1 w <;> first | (refine f1.not fun ω => ?_; rw [e0, hv]; done) | skip
  rename_i dd kks ws0
  obtain ⟨a, dx, vs0, rfl, ha, hz, rb⟩ := hob dd kks ws0 hv
  by_cases hcl : r.cls = some dd
  · obtain ⟨cl, me, nof⟩ := o.fx.fnM f r dd hf hcl
    rw [hx] at me nof
    obtain rfl : u = Value.ref a := rx
    have hnn : (kks.zip vs0).lookup mth = none := look_none (fun f hf z => by rw [z] at hf; rw [hz.2 _ hf] at nof; cases nof)
    refine getmeth_ok I1 ha cl me hnn ?_
    have f1' := f1.congr (f' := fun ω m c => (esI C prim n es ρ ω m c).bind fun ws m c => KK ω w ws m c) fun ω => by rw [e0, hv]; exact if_pos hcl
    have hTs : tIs X.K ca ef WX (esI C prim n es) σ H1 fun vs H2 => vs.length = ks.length ∧ ∃ bs, selL vs ord = some bs ∧ spF C prim ca ef F X.K n f (.ref a :: bs) H2 Q (WE WX σ) := by
      refine ⟨g1, ρ, m1, d1, r1, e1, (Fin.bindZ (rel := Reps X.K ca) (k := fun ω ws m c => KK ω w ws m c) f1').imp fun vs H2 g2 m2 d2 ws z => ?_⟩
      obtain ⟨r2, q2, s2, e2, z2, f2⟩ := z
      obtain ⟨ω0, a0⟩ := Agree.ex d2
      have hlen' := hlen _ _ _ _ _ _ _ (z2 ω0 a0)
      cases hs : selL ws ord with
      | none => exact f2.not fun ω => by show (match selL ws ord with | some as => _ | none => _) = _; rw [hs]
      | some as =>
        obtain ⟨bs, h1, h2⟩ := selL_reps q2 hs
        exact ⟨(Reps.length q2).trans hlen', bs, h1, sp_of (ρ := ρ) o.fx hf r2 (Reps.cons (Rep.mono s2.le _ _ q1) h2) (f2.congr fun ω => by show (match selL ws ord with | some as => _ | none => _) = _; rw [hs])⟩
    refine PySem.W.callWith_KW0 (first := [.ref a]) (h₀ := X.base) I1.ok.mod.kin me.kp hall (thn (hA.run p pins s1 σ H1 _ I1 hTs) fun us s2 ⟨vs, H2, I2, rr, hl2, bs, hs, q⟩ => ⟨I2.kIn, ?_⟩) (by rw [hno]; rfl)
    rw [hks]
    obtain ⟨bs', h1, h2⟩ := selL_vals rr hs
    have b := o.fx.kwm f ks ord hmem s2 (.ref a) us bs' I2.kIn (by rw [← rr.length, hl2]) h1
    refine wpAny_call (codeAny_mono ((o.fn f r hf).run X.A X.stack s2 H2 ⟨[.ref a], ks.zip us⟩ (.ref a :: bs') (.ref a :: bs) Q (WE WX σ) hr I2.env0 b (.cons rfl h2) q) fun rr s' hq => ?_)
    cases rr with
    | error e => exact passAt o.tk σ pins H2 s2 e s' I2 hq
    | ok fl =>
      cases fl with
      | ret u => exact I2.after hq
      | next => exact False.elim hq
      | brk => exact False.elim hq
      | cont => exact False.elim hq
  · exact f1.not fun ω => by rw [e0, hv]; exact if_neg hcl
theorem s_callD (o : Okx Z C prim ca ef F X N sc WX n) {f : Nat} {z : Int} {r : FnRec} {es : Es} {x : Str} {xs : List Expr} {p1 p : Pos} (hA : PA X xs (tIs X.K ca ef WX (esI C prim n es))) (hf : C.fn f = some r) (hc : r.cls = none) (hx : Z.fnm f = x) (hg : glB sc x = true) (hok : okName x = true) (hp : xs.all plainE = true) (hne : xs ≠ []) (hmem : (f, z) ∈ Z.dfs) :
    PE X (.Call (.Name x p1) xs [] p) (tI X.K ca ef WX (eI C prim n (.callD f z es))) := by
  obtain ⟨hm, hk⟩ := o.fx.fnG f r hf hc
  rw [hx] at hm
  have hr : Room (lev n) X.A := o.room.mono (by omega)
  obtain ⟨ds, hd, hb⟩ := o.fx.dfl f z hmem
  have main : ∀ σ H Q, tI X.K ca ef WX (eI C prim n (.callD f z es)) σ H Q → tIs X.K ca ef WX (esI C prim n es) σ H fun vs H1 => spF C prim ca ef F X.K n f (vs ++ [V.int z]) H1 Q (WE WX σ) := fun σ H Q ⟨g, ρ, m, d, r, en, h⟩ => by
    have h' := h.congr (f' := fun ω m c => (esI C prim n es ρ ω m c).bind fun ws m c => reEnv ρ (run C prim ω n f (ws ++ [.int z]) m c)) fun ω => by show evE C _ (.callD f z es) ρ m _ = _; simp only [evE]
    refine tIs_imp (tIs_first (k := fun ω ws m c => reEnv ρ (run C prim ω n f (ws ++ [.int z]) m c)) r en h') fun vs H1 z1 => ?_
    obtain ⟨g1, m1, d1, ws, r1, s1, e1, q1, f1⟩ := z1
    exact sp_of o.fx hf r1 (reps_app q1 (Reps.cons (by simp only [Rep]) Reps.nil)) f1
  refine ⟨fun pins s σ H Q I h => ?_⟩
  refine wpAny_Call_Name_kw (ld_glob I (o.gl hg) hm ?_ (okName_dbg hok))
  cases xs with
  | nil => exact absurd rfl hne
  | cons e er =>
    rw [List.all_cons, Bool.and_eq_true] at hp
    refine PySem.W.callWith_K (h₀ := X.base) I.ok.mod.kin hk (thn (hA.run p pins s σ H _ I (main σ H Q h)) fun us s1 hh => ?_) (star_of hp.1 er X.env) (nostar hp.2 p X.env)
    obtain ⟨vs, H1, I1, rr, q⟩ := hh
    exact ⟨I1.kIn, run_fnSD (o.fn f r hf) hr hb hd (passAt o.tk σ) I1 rr q⟩
end
end Lw

set_option maxHeartbeats 3200000
namespace Lw
open PySem PySem.Spec PyProof.Rows L2

section
variable {prog : Program} {w : World} {A : Around} {R : Result → Shared → Prop} {I : Addr} {fp wr : List Addr} {G : Array GenState → Array GenState → Prop} {n : Nat} {P : Nat → Value → Prop} {St : Nat → Shared → Prop}
/-- unlike texts: one more comes -/
theorem take_more {xs : List Str} (hnd : xs.Nodup) {i : Nat} (hi : i < xs.length) : ((xs.take i).any (· == xs.getD i Str.empty)) = false ∧ ∀ k : Str, ((xs.take i).any (· == k) || decide (k = xs.getD i Str.empty)) = (xs.take (i + 1)).any (· == k) := by
  have e : xs.getD i Str.empty = xs[i] := by rw [List.getD_eq_getElem?_getD, List.getElem?_eq_getElem hi]; rfl
  rw [e]
  constructor
  · apply Bool.eq_false_iff.mpr
    intro h
    obtain ⟨y, hy, hyk⟩ := List.any_eq_true.mp h
    have hyk : y = xs[i] := eq_of_beq hyk
    subst hyk
    obtain ⟨j, hj, hje⟩ := List.getElem_of_mem hy
    rw [List.length_take] at hj
    rw [List.getElem_take] at hje
    exact List.pairwise_iff_getElem.mp hnd j i (by omega) hi (by omega) hje
  · intro k
    rw [List.take_succ, List.getElem?_eq_getElem hi]
    rw [List.any_append]
    congr 1
    show decide (k = xs[i]) = ([xs[i]].any (· == k))
    by_cases h : k = xs[i]
    · subst h; simp
    · have h' : (xs[i] == k) = false := by simpa [beq_iff_eq] using fun q : xs[i] = k => h q.symm
      simp [h, h']
/-- the loop behind set(texts): all unlike -/
theorem set_loop (W : WalksS prog w A.in1 I fp wr G n P St) (S : Addr) (hSf : S ∉ fp) (xs : List Str) (hsz : xs.length = n) (hnd : xs.Nodup) (hn1 : n ≤ 4000) (hval : ∀ i v, P i v → ∃ t, v = .str (xs.getD i Str.empty) t) :
    ∀ (k i : Nat) (s : Shared), i + k = n → St i s → s.heap.SetOf (PySem.strKind prog w) S (fun z => (xs.take i).any (· == z)) i →
      (∀ s', Moved (S :: wr) G s s' → s'.heap.SetOf (PySem.strKind prog w) S (fun z => (xs.take n).any (· == z)) n → R (.ok (.ret .none)) s') →
      codeAny (model prog w) A (.builtin "set.update.loop" ⟨[.ref S, .ref I], []⟩) R s := by
  have hSw : S ∉ wr := fun h => hSf (W.sub _ h)
  have up : ∀ b ∈ wr, b ∈ S :: wr := fun b hb => List.mem_cons_of_mem _ hb
  have moved : ∀ {s s' : Shared} {i : Nat} {T : Str → Bool}, Moved wr G s s' → s.heap.SetOf (PySem.strKind prog w) S T i → s'.heap.SetOf (PySem.strKind prog w) S T i := fun hm h => by
    obtain ⟨o, es, ep, t, ho, rest⟩ := h
    exact ⟨o, es, ep, t, hm.heap S _ hSw ho, rest⟩
  intro k
  induction k with
  | zero =>
    intro i s hk hst hS hR
    obtain rfl : i = n := by omega
    refine codeAny_builtin PyProof.Rows.F.entry_set_update_loop ?_
    rw [Around.under_plainId PyProof.Rows.F.plain_set_update_loop _]
    exact wpAny_bind (W.done s _ _ hst fun s' hm => wpAny_pure (hR s' (hm.mono up) (moved hm hS)))
  | succ k ih =>
    intro i s hk hst hS hR
    have hlt : i < n := by omega
    obtain ⟨t1, t2⟩ := take_more hnd (i := i) (by omega)
    refine codeAny_builtin PyProof.Rows.F.entry_set_update_loop ?_
    rw [Around.under_plainId PyProof.Rows.F.plain_set_update_loop _]
    refine wpAny_bind (W.item i s _ _ hlt hst fun v s' hP hst' hm => ?_)
    obtain ⟨t, rfl⟩ := hval i v hP
    have hS' := moved hm hS
    show wpAny _ A.in1 (holding [Value.str (xs.getD i Str.empty) t] (setAdd S (.str (xs.getD i Str.empty) t)) >>= _) _ _ s'
    refine wpAny_bind (wpAny_holding ?_)
    unfold setAdd
    refine wpAny_holding (wpAny_bind ((PySem.strKind prog w).pyHash (k := xs.getD i Str.empty) (strKind_is _ _ _ _) ?_))
    refine wpAny_setAddHashed_of (knd := PySem.strKind prog w) (s := { s' with toks := s'.toks + 1 }) (strKind_is _ _ _ _) rfl hS' (by unfold scanBound; omega) fun h' hsb hS2 => ?_
    have hSi : h'.SetOf (PySem.strKind prog w) S (fun z => (xs.take (i + 1)).any (· == z)) (i + 1) := SetOf_congr hS2 t2 (by rw [t1]; rfl)
    refine wpAny_pure ⟨plainId_quiet PyProof.Rows.F.plain_set_update_loop _, ih (i + 1) _ (by omega) (W.frame _ s' _ _ hst' (Nat.le_succ _) fun b hb o e => ?_) hSi fun s'' hm'' hS'' => ?_⟩
    · rw [hsb.2 b (fun h : b = S => hSf (h ▸ hb))]; exact e
    · refine hR s'' (Moved.trans W.gtrans ((hm.mono up).then_heap (Nat.le_succ _) fun b o hb e => ?_) hm'') hS''
      rw [hsb.2 b (fun h : b = S => hb (by rw [h]; exact List.mem_cons_self))]; exact e
end
section
variable {prog : Program} {w : World} {A : Around} {E : Value → Shared → Prop} {s : Shared}
/-- set(a tuple of unlike texts) -/
theorem set_texts {l : Addr} {items : Array Value} {xs : List Str} {Q : Value → Shared → Prop} (hh : A.handled = none) (hl : s.heap.IsTuple l items) (hi : PyProof.Rows.StrsAre items.toList xs) (hnd : xs.Nodup) (hn1 : xs.length ≤ 4000)
    (h : ∀ (h' : Heap) (tk : Nat), h'.SetOf (PySem.strKind prog w) s.heap.objs.size (fun z => (xs.take items.size).any (· == z)) items.size →
      (∀ b o, b < s.heap.objs.size → s.heap.get? b = some o → h'.get? b = some o) → Q (.ref s.heap.objs.size) { s with heap := h', toks := tk }) :
    wpAny (model prog w) A (call (.type "set") [.ref l]) Q E s := by
  obtain ⟨c, tl, hmro⟩ := PySem.F.called_set.mro
  have k1 := PySem.F.called_set.made
  have k2 := PySem.F.called_set.sub
  refine wpAny_call (codeAny_of_tree ?_)
  show wpAny _ _ (callAny (.type "set") _) _ _ _
  refine wpAny_pure ⟨Code.quiet_builtin _ (by decide +kernel), codeAny_builtin PySem.F.entry_type_call ?_⟩
  rw [Around.under_plain (weight_type_call_type "set" [.ref l] []) rfl]
  have k3 := PySem.F.called_set.notType
  have k4 := PySem.F.called_set.canCreate
  have k5 := PySem.F.typeCall_set_1 (.ref l)
  repeat (any_goals (first | assumption | wp_step))
  let new : Bool → Obj := fun led => { cls := .type "set", dict := none, data := .set #[] 0 (.fresh 0 0 led) }
  refine codeAny_mono (code_set_new_1 (.ref l) (E := E) (Q₁ := fun obj s₁ => ∃ led : Bool, obj = .ref s.heap.objs.size ∧ s₁ = { s with heap := s.heap.push (new led) }) fun led => ⟨led, rfl, rfl⟩) fun r s₁ hr => ?_
  match r with
  | .error e => exact hr
  | .ok (.ret obj) =>
    obtain ⟨led, rfl, rfl⟩ := hr
    have hS : (s.heap.push (new led)).get? s.heap.objs.size = some (new led) := Heap.get?_push_size _ rfl
    have hT : Shared.TypeIs { s with heap := s.heap.push (new led) } (.ref s.heap.objs.size) "set" := ⟨_, hS, rfl⟩
    have k6 := PySem.F.called_set.init.lookup
    have k7 := PySem.F.called_set.init.bind (.ref s.heap.objs.size)
    repeat (any_goals (first | assumption | wp_step))
    refine codeAny_mono (codeAny_call_builtin (R := wants (fun r s₂ => r = .none ∧ ∃ h' tk, s₂ = { s with heap := h', toks := tk } ∧
        h'.SetOf (PySem.strKind prog w) s.heap.objs.size (fun z => (xs.take items.size).any (· == z)) items.size ∧
        (∀ b o, b < s.heap.objs.size → s.heap.get? b = some o → h'.get? b = some o)) E) PySem.F.called_set.init.plain PySem.F.entry_set_init (check_set_init_1 hT ?_)) fun r₂ s₂ hr₂ => ?_
    · obtain ⟨⟨_, od, _, os⟩, hol, hcl, nl, hdl⟩ := hl
      simp only at hcl hdl
      subst hcl hdl
      have hol' : (s.heap.push (new led)).get? l = some { cls := .type "tuple", dict := od, data := .seq items nl, slots := os } := Heap.get?_push_of_some _ hol
      have k8 := PySem.F.sub_tuple_set
      have k9 := PySem.F.sub_tuple_frozenset
      have k10 : (Value.type "tuple" == Value.type "dict") = false := by decide
      have hl1 : (s.heap.push (new led)).IsTuple l items := ⟨_, hol', rfl, nl, rfl⟩
      unfold Builtin.«set.__init__» noKeywords Builtin.Frozenset.updateFrom
      generalize hPI : pyIter = PI
      wp_walk
      subst hPI
      refine wpAny_pyIter_tuple hl1 ?_
      refine wpAny_bind (wpAny_runValue ?_)
      have hlS : l < s.heap.objs.size := Heap.lt_size hol
      have hh3 : A.in1.in1.in1.handled = none := by simp [hh]
      have hz : (s.heap.push (new led)).objs.size = s.heap.objs.size + 1 := by rw [Heap.size_push]
      have hneI : l ≠ (s.heap.push (new led)).objs.size := by rw [hz]; exact Nat.ne_of_lt (Nat.lt_succ_of_lt hlS)
      have hSf : s.heap.objs.size ∉ [(s.heap.push (new led)).objs.size, l] := by
        rw [hz]
        simp only [List.mem_cons, List.mem_singleton, List.not_mem_nil, or_false, not_or]
        exact ⟨Nat.ne_of_lt (Nat.lt_succ_self _), Nat.ne_of_gt hlS⟩
      have hsz : xs.length = items.size := by rw [← StrsAre.len_eq hi, Array.length_toList]
      refine set_loop ((Walks.tuple hh3 _ l hneI items).toS) s.heap.objs.size hSf xs hsz hnd (by omega) (fun i v hv => SS.strs_at hi i v (by rw [Array.getElem?_toList]; exact hv)) items.size 0 _ (by omega)
        ⟨⟨_, Heap.get?_push_size _ rfl, rfl, rfl⟩, (hl1.push _)⟩ ?_ ?_
      · have hget : ((s.heap.push (new led)).push { cls := .type "tuple_iterator", data := .fields #[.ref l, .int 0 0] }).get? s.heap.objs.size = some (new led) := Heap.get?_push_of_some _ hS
        exact SetOf_congr ((setObjOf_fresh (knd := PySem.strKind prog w) led).setOf hget (by unfold scanBound; omega)) (fun _ => rfl) rfl
      · intro s' hm hS'
        obtain ⟨h', g', d', tk', os'⟩ := s'
        have e1 : g' = s.gens := hm.gens
        have e2 : d' = s.drawn := hm.drawn
        have e3 : os' = s.os := hm.os
        subst e1 e2 e3
        refine wpAny_pure (wpAny_pure ⟨rfl, h', tk', rfl, hS', fun b o hb e => ?_⟩)
        exact hm.heap b o (by simp only [List.mem_cons, List.mem_singleton, List.not_mem_nil, or_false, not_or]; exact ⟨Nat.ne_of_lt hb, by rw [hz]; exact Nat.ne_of_lt (Nat.lt_succ_of_lt hb)⟩) (Heap.get?_push_of_some _ (Heap.get?_push_of_some _ e))
    · match r₂ with
      | .error e => exact hr₂
      | .ok (.ret r) =>
        obtain ⟨rfl, h', tk, rfl, hS', hk'⟩ := hr₂
        repeat (any_goals (first | assumption | wp_step))
        exact h _ _ hS' hk'
end
section
variable {X : Cx}
/-- what len(set(x)) asks: unlike ints in a list, or unlike texts in a tuple -/
def tLset (K : PySem.W.Frag) (ta : TE) : TE := fun σ H Q => ta σ H fun x H1 => ∃ l : Addr, x = .ref l ∧
  ((∃ ns : List Int, SqL K H1 l (ns.map V.int) ∧ ns.Nodup ∧ ns.length ≤ 4000 ∧ Q (.int (ns.length : Nat)) H1) ∨ (∃ zs : List Str, SqT K H1 l (zs.map V.str) ∧ zs.Nodup ∧ zs.length ≤ 4000 ∧ Q (.int (zs.length : Nat)) H1))
theorem pe_lset {a : Expr} {ta : TE} {p p2 q pos : Pos} (hg : Gl X "len") (hm : X.mg "len" = none) (hg2 : Gl X "set") (hm2 : X.mg "set" = none) (ha : PE X a ta) (hc : X.calm = true)
    (na : starEach [a] X.env = (false, eval a X.env) :: starEach [] X.env) : PE X (.Call (.Name "len" p) [.Call (.Name "set" p2) [a] [] q] [] pos) (tLset X.K ta) := by
  refine ⟨fun pins s σ H Q I h => ?_⟩
  refine Call_ (ld_blt I hg hm boot_len (PyProof.Rows.callWith_builtin1 (PyProof.Rows.args_cons ?_ rfl) rfl rfl))
  refine Call_ (ld_blt I hg2 hm2 boot_set (PyProof.Rows.callWith_type1 (PyProof.Rows.args_cons (thn (ha.run pins s σ H _ I h) fun v s1 ⟨x, H1, I1, r1, q1⟩ => PyProof.Rows.args_nil ?_) na) na rfl))
  obtain ⟨l, rfl, q1⟩ := q1
  cases r1
  have fin : ∀ {K : Type} [BEq K] [LawfulBEq K] [DecidableEq K] {knd : KeyKind X.prog X.w K} {T : K → Bool} {k : Nat} {h' : Heap} {tk : Nat}, k ≤ 4000 → h'.SetOf knd s1.heap.objs.size T k → (∀ b o, b < s1.heap.objs.size → s1.heap.get? b = some o → h'.get? b = some o) → Q (.int (k : Nat)) H1 →
      wpAny (model X.prog X.w) X.A (call (.builtin "len") [Value.ref s1.heap.objs.size]) (EP X pins σ Q) X.xe { s1 with heap := h', toks := tk } := @fun K _ _ _ knd T k h' tk hk hS hold q => by
    obtain ⟨o, es, ep, t, ho, hex, hd, _, _, _, hf, hn⟩ := hS
    have I2 : Inv X pins σ H1 _ := I1.kept (t' := s1.toks) fun b o e => hold b o (Heap.lt_size e) e
    exact call_len_set ho hex hd hf (by rw [hn] <;> omega) ⟨.int (k : Nat), H1, I2.tok _, ⟨_, by rw [hn]⟩, q⟩
  rcases q1 with ⟨ns, hq, hnd, hl, q1⟩ | ⟨zs, hq, hnd, hl, q1⟩
  · obtain ⟨its, r, pl, hz⟩ := I1.list hq
    have hlen : its.toArray.size = ns.length := by rw [List.size_toArray, ← r.length, List.length_map]
    refine call_set_list (I1.ok.hd hc) pl.isList (by simpa using RZ.intsAre_vals r) (by rw [hlen]; unfold scanBound; omega) fun h' tk hS hk => PyProof.Rows.args_nil ?_
    rw [hlen, RZ.firstMet_nodup hnd ns.length (Nat.le_refl _), List.take_length] at hS
    exact fin hl hS hk q1
  · obtain ⟨its, r, pl, hz⟩ := I1.tuple hq
    have hlen : its.toArray.size = zs.length := by rw [List.size_toArray, ← r.length, List.length_map]
    refine set_texts (I1.ok.hd hc) pl (xs := zs) (by simpa using strsAre_of r) hnd hl fun h' tk hS hk => PyProof.Rows.args_nil ?_
    rw [hlen] at hS
    exact fin hl hS hk q1
end
/-! ### t[::-1], t a tuple -/
open HT
theorem pick_id : ∀ r : List Value, (List.range r.length).filterMap (fun k => r[k]?) = r
  | [] => rfl
  | x :: r => by
    rw [List.length_cons, List.range_succ_eq_map, List.filterMap_cons]
    show x :: (List.map Nat.succ (List.range r.length)).filterMap (fun k => (x :: r)[k]?) = _
    rw [List.filterMap_map]
    have := pick_id r
    congr 1
theorem fm_congr {α β : Type} {f g : α → Option β} : ∀ l : List α, (∀ k ∈ l, f k = g k) → l.filterMap f = l.filterMap g
  | [], _ => rfl
  | k :: l, h => by rw [List.filterMap_cons, List.filterMap_cons, h k List.mem_cons_self, fm_congr l fun x hx => h x (List.mem_cons_of_mem _ hx)]
theorem pick_rev (xs : Array Value) : ((List.range xs.size).filterMap fun (k : Nat) => xs[(((xs.size : Int) - 1) + (k : Int) * -1).toNat]?).toArray = xs.toList.reverse.toArray := by
  congr 1
  have h := pick_id xs.toList.reverse
  rw [List.length_reverse, Array.length_toList] at h
  conv => rhs; rw [← h]
  apply fm_congr
  intro k hk
  rw [List.mem_range] at hk
  rw [List.getElem?_reverse (by rw [Array.length_toList]; exact hk), Array.length_toList, Array.getElem?_toList]
  congr 1
  omega
section
variable {prog : Program} {w : World} {A : Around} {E : Value → Shared → Prop} {s : Shared}
theorem applied_rev {sl : Addr} {vl vu vs : Value} {n : Nat} {Q : Int × Int × Nat → Shared → Prop} (hs : s.heap.IsSliceOf sl vl vu vs) (pl : IsPart vl none) (pu : IsPart vu none) (ps : IsPart vs (some (-1)))
    (h : Q ((n : Int) - 1, -1, n) s) : wpAny (model prog w) A (Builtin.Slice.sliceApplied (.ref sl) (pure (n : Int))) Q E s := by
  obtain ⟨os, hos, hcs, hds⟩ := id hs
  unfold Builtin.Slice.sliceApplied Builtin.Slice.sliceFields
  refine wpAny_bind (wpAny_bind (wpAny_field hos hds (x := vl) rfl (wpAny_bind (wpAny_field hos hds (x := vu) rfl (wpAny_bind (wpAny_field hos hds (x := vs) rfl (wpAny_pure ?_)))))))
  refine wpAny_bind (slicePart_ ps ?_)
  show wpAny _ _ (if ((-1 : Int) == 0) = true then _ else _) _ _ s
  rw [if_neg (by decide)]
  refine wpAny_bind (slicePart_ pl (wpAny_bind (slicePart_ pu (wpAny_bind (wpAny_pure ?_)))))
  have e1 : Builtin.Slice.sliceAdjust none none (-1) (n : Int) = ((n : Int) - 1, -1) := by
    unfold Builtin.Slice.sliceAdjust
    have : ((-1 : Int) < 0) := by decide
    simp only [this, if_true]
  have e2 : Builtin.Slice.slicePlaces ((n : Int) - 1) (-1) (-1) = n := by
    unfold Builtin.Slice.slicePlaces
    have h1 : ¬ ((-1 : Int) > 0) := by decide
    rw [if_neg h1]
    by_cases h0 : n = 0
    · subst h0; rfl
    · rw [if_pos (by omega)]
      have : ((n : Int) - 1 - -1 - 1) / (- -1) + 1 = n := by
        rw [show (- -1 : Int) = 1 from rfl, Int.ediv_one]; omega
      rw [this]; simp
  show wpAny _ _ (match Builtin.Slice.sliceAdjust none none (-1) (n : Int) with | (lo, hi) => pure (lo, (-1 : Int), Builtin.Slice.slicePlaces lo hi (-1))) _ _ s
  rw [e1]
  show wpAny _ _ (pure (((n : Int) - 1), (-1 : Int), Builtin.Slice.slicePlaces ((n : Int) - 1) (-1) (-1))) _ _ s
  rw [e2]
  exact wpAny_pure h
theorem getItem_tuple_rev {t sl : Addr} {items : Array Value} {vl vu vs : Value} {Q : Value → Shared → Prop} (ht : IsTup s.heap t items) (hs : s.heap.IsSliceOf sl vl vu vs) (pl : IsPart vl none) (pu : IsPart vu none) (ps : IsPart vs (some (-1)))
    (h : Q (.ref s.heap.objs.size) { s with heap := s.heap.push { cls := .type "tuple", data := .seq items.toList.reverse.toArray } }) (hsz : items.size ≤ sizeLine) : wpAny (model prog w) A (getItem (.ref t) (.ref sl)) Q E s := by
  have hz : sizeOk (.seq items.toList.reverse.toArray) := by
    show items.toList.reverse.toArray.size ≤ sizeLine
    rw [List.size_toArray, List.length_reverse, Array.length_toList]
    exact hsz
  obtain ⟨os, hos, hcs, hds⟩ := id hs
  have hTs : s.TypeIs (.ref sl) "slice" := ⟨os, hos, hcs⟩
  unfold getItem
  try with_reducible refine wpAny_holding ?_
  first | refine wpAny_bind (wpAny_pure ?_) | skip
  refine wpAny_bind (wpAny_sequenceKey ht.typeIs (by decide) ?_)
  refine wpAny_bind (wpAny_callSpecial?_slot (name := Str.ofString "__getitem__") ht.typeIs PyProof.Rows.slot_tuple_getitem
    (wpAny_call_entry PyProof.Rows.slot_tuple_getitem ht.typeIs entry_tuple_getitem ?_ (args_tuple_getitem _ _)))
  show wpAny _ _ (Builtin.Tuple.tupleItemsOf (.ref t) >>= _) _ _ s
  refine wpAny_bind (tupleItemsOf_ ht (wpAny_bind (wpAny_typeOf hTs ?_)))
  rw [if_pos (by decide)]
  refine wpAny_bind (applied_rev hs pl pu ps ?_)
  have hno : ¬ ((((items.size : Int) - 1) == 0 && (-1 : Int) == 1 && items.size == items.size) = true) := by
    intro q
    rw [Bool.and_eq_true, Bool.and_eq_true] at q
    exact absurd q.1.2 (by decide)
  show wpAny _ _ (if (((items.size : Int) - 1) == 0 && (-1 : Int) == 1 && items.size == items.size) = true then _ else _) _ _ s
  rw [if_neg hno, pick_rev]
  first
    | exact wpAny_bind (m := Builtin.Tuple.tupleExact _) (wpAny_newObj_type (wpAny_pure ⟨_, rfl, wpAny_pure h⟩) hz)
    | exact wpAny_bind (m := Builtin.Tuple.tupleExact _) (wpAny_newObj_type (wpAny_bind (wpAny_pure (wpAny_pure ⟨_, rfl, wpAny_pure h⟩))) hz)
    | exact wpAny_bind (wpAny_bind (m := Builtin.Tuple.tupleExact _) (wpAny_newObj_type (wpAny_pure (wpAny_pure ⟨_, rfl, wpAny_pure h⟩)) hz))
    | exact wpAny_bind (wpAny_bind (m := Builtin.Tuple.tupleExact _) (wpAny_newObj_type (wpAny_pure ⟨_, rfl, wpAny_pure h⟩) hz))
end
section
variable {X : Cx}
def tRev (K : PySem.W.Frag) (te : TE) : TE := fun σ H Q => te σ H fun x H1 => ∃ a xs, x = .ref a ∧ ((SqL K H1 a xs ∧ ∀ p, H1 p = none → Q (.ref p) (upd H1 p (.lst xs.reverse))) ∨ (SqT K H1 a xs ∧ ∀ p, H1 p = none → Q (.ref p) (upd H1 p (.tup xs.reverse))))
theorem pe_rev {e : Expr} {te : TE} {k : Nat} {p1 p2 p3 pos : Pos} (he : PE X e te) : PE X (.Subscript e (.Slice none none (some (.UnaryOp .USub (.Constant (.int 1) k p1) p2)) p3) pos) (tRev X.K te) := by
  refine ⟨fun pins s σ H Q I h => ?_⟩
  refine Subscript_ (thn (he.run pins s σ H _ I h) fun v s1 ⟨x, H1, I1, r1, q1⟩ => ?_)
  obtain ⟨a, xs, rfl, q⟩ := q1
  cases r1
  have hst : PO X (some (.UnaryOp .USub (.Constant (.int 1) k p1) p2)) (tPart (tUn (rU fun i => .int (-i)) (tC (.int 1)))) := po_some (pe_un un_neg pe_int)
  refine wpAny_Slice (thn (po_none.run pins s1 σ H1 (fun o H2 => o = none ∧ H2 = H1) I1 ⟨rfl, rfl⟩) fun vl s2 ⟨l, H2, I2, pl, el, e2⟩ => ?_)
  subst el e2
  refine thn (po_none.run pins s2 σ H2 (fun o H3 => o = none ∧ H3 = H2) I2 ⟨rfl, rfl⟩) fun vu s3 ⟨u, H3, I3, pu, eu, e3⟩ => ?_
  subst eu e3
  refine thn (hst.run pins s3 σ H3 (fun o H4 => o = some (-1) ∧ H4 = H3) I3 ⟨1, rfl, -1, rfl, rfl, rfl⟩) fun vs s4 ⟨o, H4, I4, ps, eo, e4⟩ => ?_
  subst eo e4
  have I5 : Inv X pins σ H4 { s4 with heap := s4.heap.push { cls := .type "slice", data := .fields #[vl, vu, vs] } } := I4.kept (t' := s4.toks) fun b ob q => Heap.get?_push_of_some _ q
  show wpAny (model X.prog X.w) X.A (subscriptTail e (.Slice none none (some (.UnaryOp .USub (.Constant (.int 1) k p1) p2)) p3) (.ref a) (.ref s4.heap.objs.size)) (EP X pins σ Q) X.xe { s4 with heap := s4.heap.push { cls := .type "slice", data := .fields #[vl, vu, vs] } }
  rcases q with ⟨hx, q⟩ | ⟨hx, q⟩
  · obtain ⟨its, r, ht, hz⟩ := I5.list hx
    have hlen := r.length
    refine tail_any (ops := [.ref a, .ref s4.heap.objs.size]) ht.isList.typeIs (PySem.slot_list_getitem.lookup) ?_ (by with_unfolding_all rfl)
    refine wpAny_getItem_list_slice ht.isList (Heap.IsSliceOf.new _ vl vu vs) pl pu ps (by decide) ?_ (by rw [List.size_toArray]; omega)
    rw [PySem.W.krv_pick]
    refine ⟨.ref _, _, I5.laid (t' := s4.toks) (o := .lst xs.reverse) (fun b ob q => Heap.get?_push_of_some _ q) (Nat.le_refl _) ?_, rfl, q _ (I5.hok.fresh (Nat.le_refl _))⟩
    exact ⟨by rw [List.length_reverse]; exact hz, _, 0, r.reverse, Heap.get?_push_size _ rfl⟩
  · obtain ⟨its, r, ht, hz⟩ := I5.tuple hx
    have hlen := r.length
    refine tail_any (ops := [.ref a, .ref s4.heap.objs.size]) ht.typeIs (PyProof.Rows.slot_tuple_getitem.lookup) ?_ (by with_unfolding_all rfl)
    refine getItem_tuple_rev ht (Heap.IsSliceOf.new _ vl vu vs) pl pu ps ?_ (by rw [List.size_toArray]; omega)
    refine ⟨.ref _, _, I5.laid (t' := s4.toks) (o := .tup xs.reverse) (fun b ob q => Heap.get?_push_of_some _ q) (Nat.le_refl _) ?_, rfl, q _ (I5.hok.fresh (Nat.le_refl _))⟩
    exact ⟨by rw [List.length_reverse]; exact hz, _, r.reverse, ⟨_, Heap.get?_push_size _ rfl, rfl, 0, rfl⟩⟩
end
end Lw

set_option maxHeartbeats 1000000
namespace Lw
open PySem PySem.Spec PyProof.Rows L2

section
variable {K : PySem.W.Frag} {ca : CA} {c : Nat}
/-! ### what is walked -/
/-- the i-th thing that comes -/
def YW (K : PySem.W.Frag) (ca : CA) (g : G) (ws : List W) : Nat → Hp → V → Hp → Prop := fun i H x H' => ∃ w, ws[i]? = some w ∧
  ((H' = H ∧ Rep K ca g w x) ∨ ∃ (T : Addr) (u1 u2 : W) (v1 v2 : V), w = .tup [u1, u2] ∧ x = .ref T ∧ H T = none ∧ H' = upd H T (.tup [v1, v2]) ∧ Rep K ca g u1 v1 ∧ Rep K ca g u2 v2)
/-- an iterator that walks it.ws while what is frozen stands and the guard holds -/
def GG (K : PySem.W.Frag) (ca : CA) (g : G) (it : ItV) : Hp → Prop := fun H => ∃ (g' : G) (m : Mem) (c : Nat), Le g g' ∧ RelM K ca g' m c H ∧ it.gd m = true
def RIt (K : PySem.W.Frag) (ca : CA) : G → ItV → L2.It → Prop := fun g it J => Walk J it.ws.length (GG K ca g it) (fun i H x H' => ∀ (g' : G) (m : Mem) (c : Nat), Le g g' → RelM K ca g' m c H → it.gd m = true → YW K ca g' it.ws i H x H')
mutual
theorem beqW_eq : ∀ (a b : W), beqW a b = true → a = b
  | .non, b, h => by cases b <;> simp [beqW] at h; rfl
  | .bl _, b, h => by cases b <;> simp [beqW] at h; rw [h]
  | .int _, b, h => by cases b <;> simp [beqW] at h; rw [h]
  | .str _, b, h => by cases b <;> simp [beqW] at h; rw [h]
  | .lst xs, b, h => by cases b <;> simp [beqW] at h; rw [beqL_eq xs _ h]
  | .tup xs, b, h => by cases b <;> simp [beqW] at h; rw [beqL_eq xs _ h]
  | .obj c ks xs, b, h => by
    cases b <;> simp [beqW] at h
    obtain ⟨⟨rfl, rfl⟩, h⟩ := h
    rw [beqL_eq xs _ h]
  | .ptr _, b, h => by cases b <;> simp [beqW] at h; rw [h]
  | .tok, b, h => by cases b <;> simp [beqW] at h; rfl
  | .scr _, b, h => by cases b <;> simp [beqW] at h
  | .dic0, b, h => by cases b <;> simp [beqW] at h; rfl
  | .bad, b, h => by cases b <;> simp [beqW] at h
theorem beqL_eq : ∀ (a b : List W), beqL a b = true → a = b
  | [], b, h => by cases b <;> simp [beqL] at h; rfl
  | x :: xs, b, h => by
    cases b <;> simp [beqL] at h
    rw [beqW_eq x _ h.1, beqL_eq xs _ h.2]
end
/-- the list that is walked, as it is now -/
theorem now_lst {g g' : G} {x : W} {ws : List W} {a : Addr} {m0 m : Mem} {H : Hp} (q : Rep K ca g x (.ref a)) (hv : vw m0 x = .lst ws) (l : Le g g') (r : RelM K ca g' m c H) (e : gdL x ws m = true) : ∃ vs, H a = some (.lst vs) ∧ Reps K ca g' ws vs := by
  have hv' : vw m x = .lst ws := by
    cases x <;> try (exact hv)
    rename_i n
    simp only [gdL] at e
    cases z : m[n]? with
    | none => simp [z] at e
    | some y =>
      cases y <;> simp only [z] at e <;> try (cases e; done)
      rw [← beqL_eq _ _ e]
      simp [vw, z]
  obtain ⟨hl, _⟩ := Rep.view r (Rep.mono l _ _ q)
  obtain ⟨b, vs, e1, e2, e3⟩ := hl ws hv'
  cases e1
  exact ⟨vs, e2, e3⟩
theorem rit_list {g : G} {x : W} {ws : List W} {a : Addr} {m0 : Mem} (q : Rep K ca g x (.ref a)) (hv : vw m0 x = .lst ws) : RIt K ca g ⟨ws, gdL x ws⟩ (Itl K a) where
  goes := fun i H hi ⟨g', m, c, l, r, e⟩ => by
    obtain ⟨vs, h1, h2⟩ := now_lst q hv l r e
    have hl := Reps.length h2
    have hi' : i < ws.length := hi
    exact ⟨vs, vs[i]'(by omega), SqL.of h1, by simp [show i < vs.length by omega]⟩
  stops := fun H ⟨g', m, c, l, r, e⟩ => by
    obtain ⟨vs, h1, h2⟩ := now_lst q hv l r e
    exact ⟨vs, SqL.of h1, Nat.le_of_eq (Reps.length h2)⟩
  yields := fun i H y H' hi _ yy g' m c l r e => by
    obtain ⟨vs, h1, h2⟩ := now_lst q hv l r e
    obtain ⟨rfl, z⟩ := yy
    have hi' : i < ws.length := hi
    obtain ⟨u, hu⟩ : ∃ u, ws[i]? = some u := ⟨ws[i]'hi', by simp [hi']⟩
    obtain ⟨v, h3, h4⟩ := Reps.at h2 hu
    rw [z vs (SqL.of h1)] at h3
    cases h3
    exact ⟨u, hu, .inl ⟨rfl, h4⟩⟩
theorem rit_tup {g : G} {ws : List W} {vs : List V} {a : Addr} (h : SqT K g.S a vs) (q : Reps K ca g ws vs) : RIt K ca g ⟨ws, fun _ => true⟩ (Itt K a) := by
  have hl := Reps.length q
  have w := walk_tup (K := K) (a := a) (xs := vs)
  unfold RIt
  show Walk _ ws.length _ _
  rw [← hl]
  exact w.mono (fun H ⟨g', m, c, l, r, e⟩ => SqT.sub r.sub (SqT.sub l.S h)) fun i H x H' hi _ y g' m c l r e => by
    obtain ⟨rfl, e⟩ := y
    obtain ⟨u, hu⟩ : ∃ u, ws[i]? = some u := ⟨ws[i]'(by omega), by simp [show i < ws.length by omega]⟩
    obtain ⟨v, h1, h2⟩ := Reps.at q hu
    rw [e] at h1
    cases h1
    exact ⟨u, hu, .inl ⟨rfl, Rep.mono l _ _ h2⟩⟩
theorem rngW_length (lo : Int) : ∀ n, (rngW lo n).length = n := by
  intro n
  induction n generalizing lo with
  | zero => rfl
  | succ n ih => simp [rngW, ih]
theorem rngW_at (lo : Int) : ∀ (n i : Nat), i < n → (rngW lo n)[i]? = some (.int (lo + i)) := by
  intro n
  induction n generalizing lo with
  | zero => intro i h; exact absurd h (Nat.not_lt_zero _)
  | succ n ih =>
    intro i h
    cases i with
    | zero => simp [rngW]
    | succ i =>
      simp only [rngW, List.getElem?_cons_succ]
      rw [ih (lo + 1) i (Nat.lt_of_succ_lt_succ h)]
      congr 2
      omega
theorem rit_rng {g : G} {lo : Int} {n : Nat} : RIt K ca g ⟨rngW lo n, fun _ => true⟩ (Itr lo n) := by
  unfold RIt
  show Walk _ (rngW lo n).length _ _
  rw [rngW_length]
  exact walk_range.mono (fun _ _ => trivial) fun i H x H' hi _ y g' m c l r e => by
    obtain ⟨rfl, rfl⟩ := y
    exact ⟨_, rngW_at lo n i hi, .inl ⟨rfl, by simp only [Rep]⟩⟩
theorem rngS_length (k : Int) : ∀ (n : Nat) (lo : Int), (rngS lo k n).length = n
  | 0, _ => rfl
  | n + 1, lo => by simp [rngS, rngS_length k n]
theorem rngS_at (k : Int) : ∀ (n i : Nat) (lo : Int), i < n → (rngS lo k n)[i]? = some (.int (lo + (i : Nat) * k))
  | 0, i, _, h => absurd h (Nat.not_lt_zero _)
  | n + 1, 0, lo, _ => by simp [rngS]
  | n + 1, i + 1, lo, h => by
    simp only [rngS, List.getElem?_cons_succ]
    rw [rngS_at k n i (lo + k) (Nat.lt_of_succ_lt_succ h)]
    congr 2
    rw [Int.natCast_add, Int.add_mul]
    simp only [Int.natCast_one, Int.one_mul]
    omega
theorem rit_rngS {g : G} {lo k : Int} {n : Nat} : RIt K ca g ⟨rngS lo k n, fun _ => true⟩ (Itc lo k n) := by
  unfold RIt
  show Walk _ (rngS lo k n).length _ _
  rw [rngS_length]
  exact walk_rangeC.mono (fun _ _ => trivial) fun i H x H' hi _ y g' m c l r e => by
    obtain ⟨rfl, rfl⟩ := y
    exact ⟨_, rngS_at k n i lo hi, .inl ⟨rfl, by simp only [Rep]⟩⟩
theorem enumW_length : ∀ (i : Nat) (ws : List W), (enumW i ws).length = ws.length
  | _, [] => rfl
  | i, w :: ws => by simp [enumW, enumW_length (i + 1) ws]
theorem enumW_at : ∀ (k : Nat) (ws : List W) (i : Nat) (w : W), ws[i]? = some w → (enumW k ws)[i]? = some (.tup [.int ((k + i : Nat) : Int), w])
  | _, [], i, w, h => by simp at h
  | k, u :: ws, 0, w, h => by simp at h; subst h; simp [enumW]
  | k, u :: ws, i + 1, w, h => by
    simp only [enumW, List.getElem?_cons_succ]
    rw [enumW_at (k + 1) ws i w (by simpa using h)]
    congr 5
    omega
theorem rit_enum {g : G} {x : W} {ws : List W} {a : Addr} {m0 : Mem} (q : Rep K ca g x (.ref a)) (hv : vw m0 x = .lst ws) : RIt K ca g ⟨enumW 0 ws, gdL x ws⟩ (Ite K a) where
  goes := fun i H hi ⟨g', m, c, l, r, e⟩ => by
    obtain ⟨vs, h1, h2⟩ := now_lst q hv l r e
    have hl := Reps.length h2
    have hi' : i < (enumW 0 ws).length := hi
    rw [enumW_length] at hi'
    exact ⟨vs, vs[i]'(by omega), SqL.of h1, by simp [show i < vs.length by omega]⟩
  stops := fun H ⟨g', m, c, l, r, e⟩ => by
    obtain ⟨vs, h1, h2⟩ := now_lst q hv l r e
    refine ⟨vs, SqL.of h1, ?_⟩
    show _ ≤ (enumW 0 ws).length
    rw [enumW_length]
    exact Nat.le_of_eq (Reps.length h2)
  yields := fun i H y H' hi _ yy g' m c l r e => by
    obtain ⟨vs, h1, h2⟩ := now_lst q hv l r e
    obtain ⟨T, v2, rfl, z1, z2, z4⟩ := yy
    have hi' : i < (enumW 0 ws).length := hi
    rw [enumW_length] at hi'
    obtain ⟨u, hu⟩ : ∃ u, ws[i]? = some u := ⟨ws[i]'hi', by simp [hi']⟩
    obtain ⟨v, h3, h4⟩ := Reps.at h2 hu
    rw [z4 vs (SqL.of h1)] at h3
    cases h3
    refine ⟨_, enumW_at 0 ws i u hu, .inr ⟨T, .int ((0 + i : Nat) : Int), u, _, _, rfl, rfl, z1, z2, ?_, h4⟩⟩
    simp only [Rep, Nat.zero_add]
theorem zipW_length : ∀ (xs ys : List W), (zipW xs ys).length = min xs.length ys.length
  | [], _ => by simp [zipW]
  | _ :: _, [] => by simp [zipW]
  | x :: xs, y :: ys => by simp [zipW, zipW_length xs ys]
theorem zipW_at : ∀ (xs ys : List W) (i : Nat) (x y : W), xs[i]? = some x → ys[i]? = some y → (zipW xs ys)[i]? = some (.tup [x, y])
  | [], _, i, x, y, h, h' => by simp at h
  | _ :: _, [], i, x, y, h, h' => by simp at h'
  | u :: xs, v :: ys, 0, x, y, h, h' => by simp at h h'; subst h h'; simp [zipW]
  | u :: xs, v :: ys, i + 1, x, y, h, h' => by
    simp only [zipW, List.getElem?_cons_succ]
    exact zipW_at xs ys i x y (by simpa using h) (by simpa using h')
theorem walk_zipT {a b : Addr} {xs ys : List V} {n : Nat} (hn : n = min xs.length ys.length) : Walk (RZ.ItzT K a b) n (fun H => SqT K H a xs ∧ SqT K H b ys) (YPair (fun i => xs[i]?) (fun i => ys[i]?)) := by
  subst hn
  refine ⟨fun i _ hi q => ?_, fun _ q => ⟨xs, ys, q.1, q.2, by omega⟩, fun i H v H' _ q y => ?_⟩
  · have h1 : i < xs.length := by omega
    have h2 : i < ys.length := by omega
    exact ⟨xs, ys, xs[i], ys[i], q.1, q.2, by simp [h1], by simp [h2]⟩
  · obtain ⟨T, x, z, h1, h2, h3, h4, h5⟩ := y
    exact ⟨T, x, z, h1, h2, h3, h4 xs q.1, h5 ys q.2⟩
theorem zip_y {g : G} {xs ys : List W} {us vs : List V} (q1 : Reps K ca g xs us) (q2 : Reps K ca g ys vs) {i : Nat} {H : Hp} {x : V} {H' : Hp} (hi : i < min us.length vs.length) (y : YPair (fun i => us[i]?) (fun i => vs[i]?) i H x H') : YW K ca g (zipW xs ys) i H x H' := by
  obtain ⟨T, v1, v2, rfl, h1, h2, h3, h4⟩ := y
  have l1 := Reps.length q1
  have l2 := Reps.length q2
  obtain ⟨u, hu⟩ : ∃ u, xs[i]? = some u := ⟨xs[i]'(by omega), by simp [show i < xs.length by omega]⟩
  obtain ⟨w, hw⟩ : ∃ u, ys[i]? = some u := ⟨ys[i]'(by omega), by simp [show i < ys.length by omega]⟩
  obtain ⟨v, h5, h6⟩ := Reps.at q1 hu
  obtain ⟨v', h7, h8⟩ := Reps.at q2 hw
  simp only [h5] at h3
  simp only [h7] at h4
  cases h3
  cases h4
  exact ⟨_, zipW_at xs ys i u w hu hw, .inr ⟨T, u, w, _, _, rfl, rfl, h1, h2, h6, h8⟩⟩
theorem rit_zip {g : G} {x y : W} {xs ys : List W} {a b : Addr} {m0 : Mem} (q : Rep K ca g x (.ref a)) (hv : vw m0 x = .lst xs) (q' : Rep K ca g y (.ref b)) (hv' : vw m0 y = .lst ys) : RIt K ca g ⟨zipW xs ys, fun m => gdL x xs m && gdL y ys m⟩ (Itz K a b) where
  goes := fun i H hi ⟨g', m, c, l, r, e⟩ => by
    rw [Bool.and_eq_true] at e
    obtain ⟨us, h1, h2⟩ := now_lst q hv l r e.1
    obtain ⟨vs, h3, h4⟩ := now_lst q' hv' l r e.2
    have l1 := Reps.length h2
    have l2 := Reps.length h4
    have hi' : i < (zipW xs ys).length := hi
    rw [zipW_length] at hi'
    exact ⟨us, vs, us[i]'(by omega), vs[i]'(by omega), SqL.of h1, SqL.of h3, by simp [show i < us.length by omega], by simp [show i < vs.length by omega]⟩
  stops := fun H ⟨g', m, c, l, r, e⟩ => by
    rw [Bool.and_eq_true] at e
    obtain ⟨us, h1, h2⟩ := now_lst q hv l r e.1
    obtain ⟨vs, h3, h4⟩ := now_lst q' hv' l r e.2
    refine ⟨us, vs, SqL.of h1, SqL.of h3, ?_⟩
    show _ ≤ (zipW xs ys).length ∨ _ ≤ (zipW xs ys).length
    rw [zipW_length, Reps.length h2, Reps.length h4]
    omega
  yields := fun i H z H' hi _ yy g' m c l r e => by
    rw [Bool.and_eq_true] at e
    obtain ⟨us, h1, h2⟩ := now_lst q hv l r e.1
    obtain ⟨vs, h3, h4⟩ := now_lst q' hv' l r e.2
    obtain ⟨T, v1, v2, rfl, z1, z2, z3, z4⟩ := yy
    have hi' : i < (zipW xs ys).length := hi
    rw [zipW_length] at hi'
    exact zip_y h2 h4 (i := i) (by rw [Reps.length h2, Reps.length h4]; exact hi') ⟨T, v1, v2, rfl, z1, z2, z3 us (SqL.of h1), z4 vs (SqL.of h3)⟩
theorem rit_zipT {g : G} {xs ys : List W} {us vs : List V} {a b : Addr} (h : SqT K g.S a us) (h' : SqT K g.S b vs) (q : Reps K ca g xs us) (q' : Reps K ca g ys vs) : RIt K ca g ⟨zipW xs ys, fun _ => true⟩ (RZ.ItzT K a b) := by
  have w := walk_zipT (K := K) (a := a) (b := b) (xs := us) (ys := vs) (n := (zipW xs ys).length) (by rw [zipW_length, Reps.length q, Reps.length q'])
  exact w.mono (fun H ⟨g', m, c, l, r, e⟩ => ⟨SqT.sub r.sub (SqT.sub l.S h), SqT.sub r.sub (SqT.sub l.S h')⟩) fun i H x H' hi _ y g' m c l r e => zip_y (Reps.mono l _ _ q) (Reps.mono l _ _ q') (by
    have hi' : i < (zipW xs ys).length := hi
    rw [zipW_length] at hi'; rw [Reps.length q, Reps.length q']; exact hi') y
end

section
variable {Z : Tab} {C : Cfg} {prim : Nat → Option Prim} {ca : CA} {ef : Nat → Str} {F : FT} {X : Cx} {N : List Str} {sc : Scope} {WX : L2.WX} {n : Nat}
abbrev iI (C : Cfg) (prim : Nat → Option Prim) (n : Nat) (e : Lw.It) : Env → Sm ItV := fun ρ ω m c => evIt C (run C prim ω n) e ρ m c
/-- an iterable's reading -/
def tIi (K : PySem.W.Frag) (ca : CA) (ef : Nat → Str) (WX : L2.WX) (f : Env → Sm ItV) : TI := fun σ H R => ∃ (g : G) (ρ : Env) (m : Mem) (d : List Nat), RelM K ca g m d.length H ∧ REnv K ca g ρ σ ∧ Fin K ca ef (RIt K ca) (wxE WX σ) (f ρ) g m d H (fun J H' _ _ _ _ => R J H')
theorem PI.weak {tg e : Expr} {t t' : TI} (h : PI X tg e t) (i : ∀ σ H R, t' σ H R → t σ H R) : PI X tg e t' := ⟨fun pins s σ H R I q => h.run pins s σ H R I (i σ H R q)⟩
theorem s_it_lst {a : E} {tg x : Expr} (ha : PE X x (tI X.K ca ef WX (eI C prim n a))) : PI X tg x (tIi X.K ca ef WX (iI C prim n (.lst a))) := by
  refine PI.weak (pi_list ha) fun σ H R ⟨g, ρ, m, d, r, en, h⟩ => ?_
  have h' := h.congr (f' := fun ω m c => (eI C prim n a ρ ω m c).bind fun x m c => match vw m x with | .lst ws => .ok (⟨ws, gdL x ws⟩ : ItV) m c | _ => .no) fun ω => by show evIt C _ (.lst a) ρ m _ = _; rw [evIt] <;> rfl
  refine tI_imp (tI_first (k := fun ω x m c => match vw m x with | .lst ws => .ok (⟨ws, gdL x ws⟩ : ItV) m c | _ => .no) r en h') fun v1 H1 z => ?_
  obtain ⟨g1, m1, d1, w, r1, s1, e1, q1, f1⟩ := z
  cases hv : vw m1 w with
  | lst ws =>
    obtain ⟨hl, _⟩ := Rep.view r1 q1
    obtain ⟨b, vs, rfl, h1, h2⟩ := hl ws hv
    exact ⟨b, rfl, ⟨vs, SqL.of h1⟩, f1.fin (a := ⟨ws, gdL w ws⟩) (m' := m1) (fun ω => by show (match vw m1 w with | .lst ws => _ | _ => _) = _; rw [hv]) (Step.refl _ _) r1 (rit_list q1 hv)⟩
  | _ => exact f1.not fun ω => by show (match vw m1 w with | .lst ws => _ | _ => _) = _; rw [hv]
theorem s_it_tup {a : E} {tg x : Expr} (ha : PE X x (tI X.K ca ef WX (eI C prim n a))) : PI X tg x (tIi X.K ca ef WX (iI C prim n (.tup a))) := by
  refine PI.weak (pi_tup ha) fun σ H R ⟨g, ρ, m, d, r, en, h⟩ => ?_
  have h' := h.congr (f' := fun ω m c => (eI C prim n a ρ ω m c).bind fun x m c => match x with | .tup ws => .ok (⟨ws, fun _ => true⟩ : ItV) m c | _ => .no) fun ω => by show evIt C _ (.tup a) ρ m _ = _; rw [evIt] <;> rfl
  refine tI_imp (tI_first (k := fun ω x m c => match x with | .tup ws => .ok (⟨ws, fun _ => true⟩ : ItV) m c | _ => .no) r en h') fun v1 H1 z => ?_
  obtain ⟨g1, m1, d1, w, r1, s1, e1, q1, f1⟩ := z
  cases w <;> try (exact f1.not fun ω => rfl)
  rename_i ws
  simp only [Rep] at q1
  obtain ⟨b, vs, rfl, h1, h2⟩ := q1
  exact ⟨b, rfl, ⟨vs, SqT.sub r1.sub h1⟩, f1.fin (a := ⟨ws, fun _ => true⟩) (m' := m1) (fun ω => rfl) (Step.refl _ _) r1 (rit_tup h1 h2)⟩
theorem lim_of {i : Int} (h : lim62 i = true) : -(2 ^ 62) ≤ i ∧ i < 2 ^ 62 := by
  unfold lim62 at h
  rw [Bool.and_eq_true] at h
  exact ⟨of_decide_eq_true h.1, of_decide_eq_true h.2⟩
theorem s_it_rng (o : Okx Z C prim ca ef F X N sc WX n) {a : E} {tg x : Expr} {p1 p : Pos} (ha : PE X x (tI X.K ca ef WX (eI C prim n a))) (hg : glB sc "range" = true) (hp : plainE x = true) : PI X tg (.Call (.Name "range" p1) [x] [] p) (tIi X.K ca ef WX (iI C prim n (.rng a))) := by
  refine PI.weak (pi_range1 (o.gl hg) o.fx.rng (pa_cons ha pa_nil (star_of hp _ _)) (star_of hp _ _)) fun σ H R ⟨g, ρ, m, d, r, en, h⟩ => ?_
  have h' := h.congr (f' := fun ω m c => (eI C prim n a ρ ω m c).bind fun x m c => match x with | .int i => if lim62 i then .ok (⟨rngW 0 i.toNat, fun _ => true⟩ : ItV) m c else .no | _ => .no) fun ω => by show evIt C _ (.rng a) ρ m _ = _; rw [evIt] <;> rfl
  refine tI_imp (tI_first (k := fun ω x m c => match x with | .int i => if lim62 i then .ok (⟨rngW 0 i.toNat, fun _ => true⟩ : ItV) m c else .no | _ => .no) r en h') fun v1 H1 z => ?_
  obtain ⟨g1, m1, d1, w, r1, s1, e1, q1, f1⟩ := z
  cases w <;> try (exact f1.not fun ω => rfl)
  rename_i i
  simp only [Rep] at q1
  subst q1
  by_cases z : lim62 i = true
  · exact ⟨i, rfl, (lim_of z).1, (lim_of z).2, f1.fin (a := ⟨rngW 0 i.toNat, fun _ => true⟩) (m' := m1) (fun ω => if_pos z) (Step.refl _ _) r1 rit_rng⟩
  · exact f1.not fun ω => if_neg z
theorem s_it_rng2 (o : Okx Z C prim ca ef F X N sc WX n) {a b : E} {tg x y : Expr} {p1 p : Pos} (ha : PE X x (tI X.K ca ef WX (eI C prim n a))) (hb : PE X y (tI X.K ca ef WX (eI C prim n b))) (hg : glB sc "range" = true) (hp : plainE x = true) (hp' : plainE y = true) :
    PI X tg (.Call (.Name "range" p1) [x, y] [] p) (tIi X.K ca ef WX (iI C prim n (.rng2 a b))) := by
  refine PI.weak (pi_range2 (o.gl hg) o.fx.rng (pa_cons ha (pa_cons hb pa_nil (star_of hp' _ _)) (star_of hp _ _)) (by rw [star_of hp, star_of hp']; rfl) (star_of hp' _ _)) fun σ H R ⟨g, ρ, m, d, r, en, h⟩ => ?_
  have h' := h.congr (f' := fun ω m c => (eI C prim n a ρ ω m c).bind fun x m c => (eI C prim n b ρ ω m c).bind fun y m c => match x, y with | .int i, .int j => if lim62 i && lim62 j then .ok (⟨rngW i (j - i).toNat, fun _ => true⟩ : ItV) m c else .no | _, _ => .no) fun ω => by show evIt C _ (.rng2 a b) ρ m _ = _; rw [evIt] <;> rfl
  refine tI_imp (tI_two (k := fun ω x y m c => match x, y with | .int i, .int j => if lim62 i && lim62 j then .ok (⟨rngW i (j - i).toNat, fun _ => true⟩ : ItV) m c else .no | _, _ => .no) r en h') fun x H1 q => tI_imp q fun y H2 q => ?_
  obtain ⟨g, m, d, w, u, r, e, q1, q2, f⟩ := q
  cases w <;> cases u <;> try (exact f.not fun ω => rfl)
  rename_i i j
  simp only [Rep] at q1 q2
  subst q1 q2
  by_cases z : (lim62 i && lim62 j) = true
  · have z' := z
    rw [Bool.and_eq_true] at z'
    exact ⟨i, j, rfl, ⟨(lim_of z'.1).1, (lim_of z'.1).2, (lim_of z'.2).1, (lim_of z'.2).2⟩, f.fin (a := ⟨rngW i (j - i).toNat, fun _ => true⟩) (m' := m) (fun ω => if_pos z) (Step.refl _ _) r rit_rng⟩
  · exact f.not fun ω => if_neg z
theorem step_ok {i j k : Int} {n : Nat} (h : stepN i j k = some n) : RgC i j k n := by
  unfold stepN at h
  split at h
  · rename_i z
    injection h with h
    refine ⟨by omega, by omega, z.2.2, ?_⟩
    have h0 : 0 ≤ Builtin.Range.rangeSize i j k := by
      unfold Builtin.Range.rangeSize
      rw [if_pos (by omega)]
      split
      · have := Int.ediv_nonneg (a := j - i - 1) (b := k) (by omega) (by omega)
        omega
      · omega
    omega
  · cases h
def rng3K (ws : List W) (m : Mem) (c : Nat) : R ItV := match ws with
    | [.int i, .int j, .int k] => (match stepN i j k with
      | some n => .ok ⟨rngS i k n, fun _ => true⟩ m c
      | none => .no)
    | _ => .no
theorem rng3_cases (ws : List W) (m : Mem) (c : Nat) : rng3K ws m c = .no ∨ ∃ i j k n, ws = [.int i, .int j, .int k] ∧ stepN i j k = some n := by
  unfold rng3K
  split
  · rename_i i j k
    cases e : stepN i j k with
    | none => exact .inl rfl
    | some n => exact .inr ⟨i, j, k, n, rfl, e⟩
  · exact .inl rfl
theorem s_it_rng3 (o : Okx Z C prim ca ef F X N sc WX n) {es : Es} {tg x y z : Expr} {p1 p : Pos} (hA : PA X [x, y, z] (tIs X.K ca ef WX (esI C prim n es))) (hg : glB sc "range" = true) (hp : plainE x = true) (hp' : plainE y = true) (hp2 : plainE z = true) :
    PI X tg (.Call (.Name "range" p1) [x, y, z] [] p) (tIi X.K ca ef WX (iI C prim n (.rng3 es))) := by
  refine PI.weak (pi_range3 (o.gl hg) o.fx.rng hA (by rw [star_of hp, star_of hp', star_of hp2]) (by rw [star_of hp', star_of hp2]; rfl)) fun σ H R ⟨g, ρ, m, d, r, en, h⟩ => ?_
  have h' := h.congr (f' := fun ω m c => (esI C prim n es ρ ω m c).bind fun ws m c => rng3K ws m c) fun ω => by show evIt C _ (.rng3 es) ρ m _ = _; rw [evIt] <;> rfl
  refine tIs_imp (tIs_first (k := fun ω ws m c => rng3K ws m c) r en h') fun vs H1 zz => ?_
  obtain ⟨g1, m1, d1, ws, r1, s1, e1, q1, f1⟩ := zz
  rcases rng3_cases ws m1 d1.length with e | ⟨i, j, k, nn, rfl, e⟩
  · exact f1.not fun ω => e
  · simp only [Reps, Rep] at q1
    obtain ⟨_, _, rfl, rfl, _, _, rfl, rfl, _, _, rfl, rfl, rfl⟩ := q1
    exact ⟨i, j, k, nn, rfl, step_ok e, f1.fin (a := ⟨rngS i k nn, fun _ => true⟩) (m' := m1) (fun ω => by show rng3K _ _ _ = _; unfold rng3K; simp only [e]) (Step.refl _ _) r1 rit_rngS⟩
theorem reps_rng {g : G} (a : Int) : ∀ (n k : Nat), Reps X.K ca g (rngW (a + (k : Nat)) n) ((List.range' k n).map fun i => V.int (a + (i : Nat)))
  | 0, _ => Reps.nil
  | n + 1, k => by
    rw [rngW, List.range'_succ, List.map_cons]
    refine Reps.cons (by simp only [Rep]) ?_
    have := reps_rng (g := g) a n (k + 1)
    rw [show a + ((k + 1 : Nat) : Int) = a + (k : Int) + 1 by omega] at this
    exact this
theorem reps_rgV {g : G} {a b : Int} : Reps X.K ca g (rngW a (b - a).toNat) (rgV a b) := by
  have := reps_rng (X := X) (ca := ca) (g := g) a (b - a).toNat 0
  rw [← List.range_eq_range'] at this
  simpa [rgV] using this
theorem s_lrng (o : Okx Z C prim ca ef F X N sc WX n) {cell : Bool} {a b : E} {x y : Expr} {p1 p2 p3 p : Pos} (ha : PE X x (tI X.K ca ef WX (eI C prim n a))) (hb : PE X y (tI X.K ca ef WX (eI C prim n b))) (hg : glB sc "range" = true) (hg2 : glB sc "list" = true) (hp : plainE x = true) (hp' : plainE y = true) :
    PE X (.Call (.Name "list" p3) [.Call (.Name "range" p1) [x, y] [] p2] [] p) (tI X.K ca ef WX (eI C prim n (.lrng cell a b))) := by
  refine PE.weak (pe_listRg o.calm (o.gl hg2) (o.fx.blt .list) (prg_2 (o.gl hg) o.fx.rng ha hb (by rw [star_of hp]) (star_of hp' _ _) (by rw [star_of hp']; rfl))) fun σ H Q ⟨g, ρ, m, d, r, en, h⟩ => ?_
  have h' := h.congr (f' := fun ω m c => (eI C prim n a ρ ω m c).bind fun x m c => (eI C prim n b ρ ω m c).bind fun y m c => match x, y with | .int i, .int j => if lim62 i && lim62 j then mkL cell (rngW i (j - i).toNat) m c else .no | _, _ => .no) fun ω => by show evE C _ (.lrng cell a b) ρ m _ = _; rw [evE] <;> rfl
  refine tI_imp (tI_two (k := fun ω x y m c => match x, y with | .int i, .int j => if lim62 i && lim62 j then mkL cell (rngW i (j - i).toNat) m c else .no | _, _ => .no) r en h') fun x H1 q => tI_imp q fun y H2 q => ?_
  obtain ⟨g, m, d, w, u, r, e, q1, q2, f⟩ := q
  cases w <;> cases u <;> try (exact f.not fun ω => rfl)
  rename_i i j
  simp only [Rep] at q1 q2
  subst q1 q2
  by_cases z : (lim62 i && lim62 j) = true
  · have z' := z
    rw [Bool.and_eq_true] at z'
    obtain ⟨hz, hk⟩ := fin_mkL (f.congr (f' := fun ω m c => mkL cell (rngW i (j - i).toNat) m c) fun ω => if_pos z) r reps_rgV
    rw [rgV_length, sizeLine_eq] at hz
    exact ⟨i, j, rfl, rfl, ⟨(lim_of z'.1).1, (lim_of z'.1).2, (lim_of z'.2).1, (lim_of z'.2).2, by omega⟩, fun p np => by obtain ⟨_, _, _, z⟩ := hk p np; exact z⟩
  · exact f.not fun ω => if_neg z
theorem s_rev {cell : Bool} {a : E} {x : Expr} {k : Nat} {p1 p2 p3 p : Pos} (ha : PE X x (tI X.K ca ef WX (eI C prim n a))) : PE X (.Subscript x (.Slice none none (some (.UnaryOp .USub (.Constant (.int 1) k p1) p2)) p3) p) (tI X.K ca ef WX (eI C prim n (.rev cell a))) := by
  refine PE.weak (pe_rev ha) fun σ H Q ⟨g, ρ, m, d, r, en, h⟩ => ?_
  have h' := h.congr (f' := fun ω m c => (eI C prim n a ρ ω m c).bind fun x m c => revW cell x m c) fun ω => by show evE C _ (.rev cell a) ρ m _ = _; rw [evE]
  refine tI_imp (tI_first (k := fun ω x m c => revW cell x m c) r en h') fun v1 H1 z => ?_
  obtain ⟨g1, m1, d1, w, r1, s1, e1, q1, f1⟩ := z
  obtain ⟨vl, vt, _, _⟩ := Rep.view r1 q1
  cases hv : vw m1 w with
  | lst xs =>
    obtain ⟨b, vs, rfl, hb, rb⟩ := vl xs hv
    obtain ⟨hz, hk⟩ := fin_mkL (f1.congr (f' := fun ω m c => mkL cell xs.reverse m c) fun ω => by show revW cell w m1 _ = _; unfold revW; rw [hv]) r1 (Reps.rev rb)
    exact ⟨b, vs, rfl, .inl ⟨SqL.of hb, fun p np => by obtain ⟨_, _, _, z⟩ := hk p np; exact z⟩⟩
  | tup xs =>
    obtain ⟨b, vs, rfl, hb, rb⟩ := vt xs hv
    obtain ⟨hz, hk⟩ := fin_mkT (f1.congr (f' := fun ω m c => mkT xs.reverse m c) fun ω => by show revW cell w m1 _ = _; unfold revW; rw [hv]) r1 (Reps.rev rb)
    exact ⟨b, vs, rfl, .inr ⟨hb, fun p np => by obtain ⟨_, _, _, z⟩ := hk p np; exact z⟩⟩
  | _ => exact f1.not fun ω => by show revW cell w m1 _ = _; unfold revW; rw [hv]
def lsetK (x : W) (m : Mem) (c : Nat) : R W := match vw m x with
    | .lst xs => match intsOf xs with
      | some ns => if ns.Nodup ∧ ns.length ≤ 4000 then .ok (.int (ns.length : Nat)) m c else .no
      | none => .no
    | .tup xs => match strsOf xs with
      | some ns => if ns.Nodup ∧ ns.length ≤ 4000 then .ok (.int (ns.length : Nat)) m c else .no
      | none => .no
    | _ => .no
theorem s_lset (o : Okx Z C prim ca ef F X N sc WX n) {a : E} {x : Expr} {p1 p2 p3 p : Pos} (ha : PE X x (tI X.K ca ef WX (eI C prim n a))) (hg : glB sc "set" = true) (hg2 : glB sc "len" = true) (hp : plainE x = true) :
    PE X (.Call (.Name "len" p3) [.Call (.Name "set" p1) [x] [] p2] [] p) (tI X.K ca ef WX (eI C prim n (.lset a))) := by
  refine PE.weak (pe_lset (o.gl hg2) (o.fx.blt .len) (o.gl hg) o.fx.set ha o.calm (star_of hp _ _)) fun σ H Q ⟨g, ρ, m, d, r, en, h⟩ => ?_
  have h' := h.congr (f' := fun ω m c => (eI C prim n a ρ ω m c).bind fun x m c => lsetK x m c) fun ω => by show evE C _ (.lset a) ρ m _ = _; rw [evE] <;> rfl
  refine tI_imp (tI_first (k := fun ω x m c => lsetK x m c) r en h') fun v1 H1 z => ?_
  obtain ⟨g1, m1, d1, w, r1, s1, e1, q1, f1⟩ := z
  obtain ⟨hl, ht, _⟩ := Rep.view r1 q1
  cases hv : vw m1 w with
  | lst ws =>
    obtain ⟨b, vs, rfl, h1, h2⟩ := hl ws hv
    cases hi : intsOf ws with
    | none => exact f1.not fun ω => by unfold lsetK; rw [hv]; simp only [hi]
    | some ns =>
      by_cases hn : ns.Nodup ∧ ns.length ≤ 4000
      · have e := Reps.ints h2 hi
        subst e
        exact ⟨b, rfl, .inl ⟨ns, SqL.of h1, hn.1, hn.2, f1.fin (a := .int (ns.length : Nat)) (m' := m1) (fun ω => by unfold lsetK; rw [hv]; simp only [hi, if_pos hn]) (Step.refl _ _) r1 (by simp only [Rep])⟩⟩
      · exact f1.not fun ω => by unfold lsetK; rw [hv]; simp only [hi, if_neg hn]
  | tup ws =>
    obtain ⟨b, vs, rfl, h1, h2⟩ := ht ws hv
    cases hi : strsOf ws with
    | none => exact f1.not fun ω => by unfold lsetK; rw [hv]; simp only [hi]
    | some ns =>
      by_cases hn : ns.Nodup ∧ ns.length ≤ 4000
      · have e := strs_ok h2 hi
        subst e
        exact ⟨b, rfl, .inr ⟨ns, h1, hn.1, hn.2, f1.fin (a := .int (ns.length : Nat)) (m' := m1) (fun ω => by unfold lsetK; rw [hv]; simp only [hi, if_pos hn]) (Step.refl _ _) r1 (by simp only [Rep])⟩⟩
      · exact f1.not fun ω => by unfold lsetK; rw [hv]; simp only [hi, if_neg hn]
  | _ => exact f1.not fun ω => by unfold lsetK; rw [hv]
theorem s_it_enum (o : Okx Z C prim ca ef F X N sc WX n) {a : E} {x : Expr} {ts : List Expr} {kk : Nat} {tp p1 p : Pos} (ha : PE X x (tI X.K ca ef WX (eI C prim n a))) (hg : glB sc "enumerate" = true) (hp : plainE x = true) : PI X (.Tuple ts kk tp) (.Call (.Name "enumerate" p1) [x] [] p) (tIi X.K ca ef WX (iI C prim n (.enum a))) := by
  refine PI.weak (pi_enum (o.gl hg) o.fx.enu (pa_cons ha pa_nil (star_of hp _ _)) (star_of hp _ _)) fun σ H R ⟨g, ρ, m, d, r, en, h⟩ => ?_
  have h' := h.congr (f' := fun ω m c => (eI C prim n a ρ ω m c).bind fun x m c => match vw m x with | .lst ws => .ok (⟨enumW 0 ws, gdL x ws⟩ : ItV) m c | _ => .no) fun ω => by show evIt C _ (.enum a) ρ m _ = _; rw [evIt] <;> rfl
  refine tI_imp (tI_first (k := fun ω x m c => match vw m x with | .lst ws => .ok (⟨enumW 0 ws, gdL x ws⟩ : ItV) m c | _ => .no) r en h') fun v1 H1 z => ?_
  obtain ⟨g1, m1, d1, w, r1, s1, e1, q1, f1⟩ := z
  cases hv : vw m1 w with
  | lst ws =>
    obtain ⟨hl, _⟩ := Rep.view r1 q1
    obtain ⟨b, vs, rfl, h1, h2⟩ := hl ws hv
    exact ⟨b, vs, rfl, SqL.of h1, f1.fin (a := ⟨enumW 0 ws, gdL w ws⟩) (m' := m1) (fun ω => by show (match vw m1 w with | .lst ws => _ | _ => _) = _; rw [hv]) (Step.refl _ _) r1 (rit_enum q1 hv)⟩
  | _ => exact f1.not fun ω => by show (match vw m1 w with | .lst ws => _ | _ => _) = _; rw [hv]
theorem s_it_zip (o : Okx Z C prim ca ef F X N sc WX n) {a b : E} {x y : Expr} {ts : List Expr} {kk : Nat} {tp p1 p : Pos} (ha : PE X x (tI X.K ca ef WX (eI C prim n a))) (hb : PE X y (tI X.K ca ef WX (eI C prim n b))) (hg : glB sc "zip" = true) (hp : plainE x = true) (hp' : plainE y = true) :
    PI X (.Tuple ts kk tp) (.Call (.Name "zip" p1) [x, y] [] p) (tIi X.K ca ef WX (iI C prim n (.zip a b))) := by
  refine PI.weak (RZ.pi_zipA (o.gl hg) o.fx.zip (pa_cons ha (pa_cons hb pa_nil (star_of hp' _ _)) (star_of hp _ _)) (star_of hp _ _) (nostar (es := [y]) (by simp [hp']) _ _)) fun σ H R ⟨g, ρ, m, d, r, en, h⟩ => ?_
  have h' := h.congr (f' := fun ω m c => (eI C prim n a ρ ω m c).bind fun x m c => (eI C prim n b ρ ω m c).bind fun y m c => match vw m x, vw m y with | .lst xs, .lst ys => .ok (⟨zipW xs ys, fun m => gdL x xs m && gdL y ys m⟩ : ItV) m c | .tup xs, .tup ys => .ok (⟨zipW xs ys, fun _ => true⟩ : ItV) m c | _, _ => .no) fun ω => by show evIt C _ (.zip a b) ρ m _ = _; rw [evIt] <;> rfl
  refine tI_imp (tI_two (k := fun ω x y m c => match vw m x, vw m y with | .lst xs, .lst ys => .ok (⟨zipW xs ys, fun m => gdL x xs m && gdL y ys m⟩ : ItV) m c | .tup xs, .tup ys => .ok (⟨zipW xs ys, fun _ => true⟩ : ItV) m c | _, _ => .no) r en h') fun x H1 q => tI_imp q fun y H2 q => ?_
  obtain ⟨g, m, d, w, u, r, e, q1, q2, f⟩ := q
  obtain ⟨hl, ht, _⟩ := Rep.view r q1
  obtain ⟨hl', ht', _⟩ := Rep.view r q2
  by_cases c1 : ∃ xs ys, vw m w = .lst xs ∧ vw m u = .lst ys
  · obtain ⟨xs, ys, k1, k2⟩ := c1
    obtain ⟨a1, us, rfl, h1, h2⟩ := hl xs k1
    obtain ⟨b1, vs, rfl, h3, h4⟩ := hl' ys k2
    exact ⟨a1, b1, us, vs, rfl, .inl ⟨SqL.of h1, SqL.of h3, f.fin (a := ⟨zipW xs ys, fun m => gdL w xs m && gdL u ys m⟩) (m' := m) (fun ω => by simp only [k1, k2]) (Step.refl _ _) r (rit_zip q1 k1 q2 k2)⟩⟩
  · by_cases c2 : ∃ xs ys, vw m w = .tup xs ∧ vw m u = .tup ys
    · obtain ⟨xs, ys, k1, k2⟩ := c2
      have t1 := vw_tup k1
      have t2 := vw_tup k2
      subst t1 t2
      simp only [Rep] at q1 q2
      obtain ⟨a1, us, rfl, h1, h2⟩ := q1
      obtain ⟨b1, vs, rfl, h3, h4⟩ := q2
      exact ⟨a1, b1, us, vs, rfl, .inr ⟨SqT.sub r.sub h1, SqT.sub r.sub h3, f.fin (a := ⟨zipW xs ys, fun _ => true⟩) (m' := m) (fun ω => by simp only [k1, k2]) (Step.refl _ _) r (rit_zipT h1 h3 h2 h4)⟩⟩
    · refine f.not fun ω => ?_
      cases k1 : vw m w <;> cases k2 : vw m u <;> simp only [k1, k2] <;> first | exact (c1 ⟨_, _, k1, k2⟩).elim | exact (c2 ⟨_, _, k1, k2⟩).elim
/-! ### a loop's target -/
def gNames : List Nat → TGs
  | [] => gNil
  | i :: is => gCons (gName i) (gNames is)
def gI (K : PySem.W.Frag) (tg : List Nat) (pat : Bool) : TG := if pat then gTup K tg.length (gNames tg) else match tg with
  | [i] => gName i
  | _ => fun _ _ _ _ => False
/-- the names of sc may be stored to -/
def Sto (X : Cx) (N : List Str) (sc : Scope) : Prop := X.N = N ∧ X.N.Nodup ∧ X.calm = true ∧ ∀ x, locB sc x = true → Loc X.env.scope x ∧ (X.fn x = true ∨ X.env.scope.names.lookup x = some .local)
theorem Sto.slot (o : Sto X N sc) {x : Str} {i : Nat} (h : N[i]? = some x) : X.N[i]? = some x := by rw [o.1]; exact h
theorem s_names (o : Sto X N sc) : ∀ {tg : List Nat} {es : List Expr}, chkTgs N sc tg es = true → PGs X es (gNames tg) ∧ (assignEach es X.env).length = tg.length ∧ (assignEach es X.env).findIdx? (·.1) = none
  | [], [], _ => ⟨pgs_nil, rfl, rfl⟩
  | i :: is, [], h => by simp [chkTgs] at h
  | [], e :: es, h => by simp [chkTgs] at h
  | i :: is, e :: es, h => by
    simp only [chkTgs, Bool.and_eq_true] at h
    obtain ⟨h1, h2⟩ := h
    cases hx : asName e with
    | none => rw [hx] at h1; cases h1
    | some x =>
      rw [hx] at h1
      simp only [Bool.and_eq_true, decide_eq_true_eq] at h1
      obtain ⟨p, rfl⟩ := asName_of hx
      obtain ⟨k1, k2, k3⟩ := s_names o h2
      refine ⟨pgs_cons (pg_name o.2.1 (o.slot h1.1) (o.2.2.2 _ h1.2).1 (o.2.2.2 _ h1.2).2) k1 rfl, ?_, ?_⟩
      · show (assignEach es X.env).length + 1 = _
        rw [k2]; rfl
      · have e1 : assignEach (.Name x p :: es) X.env = (false, assign (.Name x p) X.env) :: assignEach es X.env := rfl
        rw [e1, List.findIdx?_cons]
        simp [k3]
theorem s_tg (o : Sto X N sc) {tg : List Nat} {pat : Bool} {e : Expr} (h : chkTg N sc tg pat e = true) : PG X e (gI X.K tg pat) := by
  unfold chkTg at h
  unfold gI
  cases pat with
  | true =>
    rw [if_pos rfl] at h ⊢
    cases hx : asTuple e with
    | none => rw [hx] at h; cases h
    | some es =>
      rw [hx] at h
      obtain ⟨k, p, rfl⟩ := asTuple_of hx
      obtain ⟨k1, k2, k3⟩ := s_names o h
      exact pg_tup o.2.2.1 k1 k2 k3
  | false =>
    rw [if_neg (by decide)] at h ⊢
    rcases tg with _ | ⟨i, _ | ⟨j, t⟩⟩ <;> try (cases h; done)
    cases hx : asName e with
    | none => simp only [hx] at h; cases h
    | some x =>
      simp only [hx] at h
      simp only [Bool.and_eq_true, decide_eq_true_eq] at h
      obtain ⟨p, rfl⟩ := asName_of hx
      exact pg_name o.2.1 (o.slot h.1) (o.2.2.2 _ h.2).1 (o.2.2.2 _ h.2).2
theorem names_ok {K : PySem.W.Frag} {g : G} : ∀ {tg : List Nat} {ws : List W} {vs : List V} {ρ : Env} {σ : L2.St} {H : Hp} {Q : L2.St → Hp → Prop}, tg.length = ws.length → Reps K ca g ws vs → REnv K ca g ρ σ →
    (∀ σ', REnv K ca g ((tg.zip ws).foldl (fun ρ p => ρ.set p.1 (some p.2)) ρ) σ' → (∀ is, (∀ i ∈ tg, i ∈ is) → wipe σ' is = wipe σ is) → Q σ' H) → gNames tg vs σ H Q
  | [], [], vs, ρ, σ, H, Q, _, q, en, k => by
    simp only [Reps] at q
    subst q
    exact ⟨rfl, k σ en fun _ _ => rfl⟩
  | [], _ :: _, _, _, _, _, _, hl, _, _, _ => by cases hl
  | _ :: _, [], _, _, _, _, _, hl, _, _, _ => by cases hl
  | i :: is, w :: ws, vs, ρ, σ, H, Q, hl, q, en, k => by
    simp only [Reps] at q
    obtain ⟨v, r, e, p, q⟩ := q
    subst e
    refine ⟨v, r, rfl, names_ok (ρ := ρ.set i (some w)) (Nat.succ.inj hl) q (en.set p) fun σ' h1 h2 => k σ' h1 fun js hj => ?_⟩
    rw [h2 js fun x hx => hj x (List.mem_cons_of_mem _ hx)]
    exact wipe_set (hj i List.mem_cons_self)
where
  wipe_set {σ : L2.St} {i : Nat} {v : Option V} : ∀ {js : List Nat}, i ∈ js → wipe (σ.set i v) js = wipe σ js := fun {js} hj => by
    apply List.ext_getElem?
    intro x
    have hlen : ∀ js : List Nat, (wipe (σ.set i v) js).length = (wipe σ js).length := fun js => by rw [wipe_length, wipe_length, List.length_set]
    by_cases hx : x ∈ js
    · have z : ∀ (τ : L2.St) (js : List Nat), x ∈ js → (wipe τ js)[x]? = if x < τ.length then some none else none := fun τ js hx => by
        induction js with
        | nil => cases hx
        | cons y ys ih =>
          unfold wipe
          by_cases hy : y = x
          · subst hy
            by_cases hl : y < τ.length
            · rw [List.getElem?_set_self (by rw [wipe_length]; exact hl), if_pos hl]
            · rw [if_neg hl, List.getElem?_eq_none (by rw [List.length_set, wipe_length]; omega)]
          · rw [List.getElem?_set_ne hy]
            exact ih (by rcases List.mem_cons.mp hx with e | e; exact absurd e.symm hy; exact e)
      rw [z _ _ hx, z _ _ hx, List.length_set]
    · rw [wipe_out hx, wipe_out hx, List.getElem?_set_ne (fun e => hx (by rw [← e]; exact hj))]
end
end Lw

set_option maxHeartbeats 1000000
namespace Lw
open PySem PySem.Spec PyProof.Rows L2

/-! ### a thing of which the ghost knows nothing -/
section
variable {K : PySem.W.Frag} {ca : CA} {g g1 g' : G} {m : Mem} {c : Nat} {H H1 H' : Hp} {D : Addr} {o : HO}
def cut (H : Hp) (D : Addr) : Hp := fun b => if b = D then none else H b
theorem cut_self : cut H D D = none := if_pos rfl
theorem cut_ne {b : Addr} (h : b ≠ D) : cut H D b = H b := if_neg h
theorem upd_cut : upd (cut H D) D o = upd H D o := by
  funext b
  by_cases h : b = D
  · subst h; rw [upd_same, upd_same]
  · rw [upd_ne h, upd_ne h, cut_ne h]
theorem cut_upd (h : H D = some o) : upd (cut H D) D o = H := by
  funext b
  by_cases e : b = D
  · subst e; rw [upd_same, h]
  · rw [upd_ne e, cut_ne e]
structure Off (g : G) (D : Addr) : Prop where
  S : g.S D = none
  μ : ∀ n, g.μ n ≠ some D
  T : ¬ g.T D
theorem RelM.offNew (r : RelM K ca g m c H) (n : H D = none) : Off g D where
  S := r.Snone n
  μ := fun k e => by
    obtain ⟨u, q⟩ := r.there k D e
    rw [n] at q; cases q
  T := fun e => by
    obtain ⟨x, y, z, q, _⟩ := (r.tok D e).1
    rw [n] at q; cases q
theorem Off.step (o1 : Off g D) (s : Step g H g' H') (h : H D = some o) : Off g' D where
  S := by
    cases e : g'.S D with
    | none => rfl
    | some u =>
      rcases s.newS D u e with z | z | ⟨k, z⟩
      · rw [o1.S] at z; cases z
      · rw [h] at z; cases z
      · exact absurd z (o1.μ k)
  μ := fun k e => by
    rcases s.newμ k D e with z | z
    · exact o1.μ k z
    · rw [h] at z; cases z
  T := fun e => by
    rcases s.newT D e with z | z
    · exact o1.T z
    · rw [h] at z; cases z
theorem rel_cut (r : RelM K ca g m c H) (o1 : Off g D) : RelM K ca g m c (cut H D) where
  sub := fun b u e => by
    rw [cut_ne (fun z => by subst z; rw [o1.S] at e; cases e)]
    exact r.sub _ _ e
  lt := r.lt
  live := fun k x e => by
    obtain ⟨a, h1, h2⟩ := r.live k x e
    have hb : a ≠ D := fun z => by subst z; exact o1.μ k h1
    refine ⟨a, h1, ?_⟩
    cases x with
    | lst xs =>
      obtain ⟨vs, e1, e2⟩ := h2
      exact ⟨vs, (cut_ne hb).trans e1, e2⟩
    | ins k ks ws =>
      obtain ⟨dx, vs, e1, e2, e3⟩ := h2
      exact ⟨dx, vs, (cut_ne hb).trans e1, e2, e3⟩
    | dead => trivial
  off := r.off
  there := fun k a h1 => by
    obtain ⟨u, q⟩ := r.there k a h1
    exact ⟨u, (cut_ne (fun z => by subst z; exact o1.μ k h1)).trans q⟩
  inj := r.inj
  tok := fun a h => by
    obtain ⟨h1, h2, h3⟩ := r.tok a h
    obtain ⟨x, y, z, e, q⟩ := h1
    exact ⟨⟨x, y, z, (cut_ne (fun w => by subst w; exact o1.T h)).trans e, q⟩, h2, h3⟩
theorem step_cut (s : Step g1 H1 g H) (n : H1 D = none) : Step g1 H1 g (cut H D) where
  S := s.S
  μ := s.μ
  T := s.T
  frame := fun b u e h1 h2 => (cut_ne (fun z => by subst z; rw [n] at e; cases e)).trans (s.frame b u e h1 h2)
  newS := s.newS
  newμ := s.newμ
  newT := s.newT
  grow := fun b u e => by
    obtain ⟨u', q⟩ := s.grow b u e
    exact ⟨u', (cut_ne (fun z => by subst z; rw [n] at e; cases e)).trans q⟩
end

section
variable {K : PySem.W.Frag} {ca : CA} {ef : Nat → Str} {g g1 : G} {m : Mem} {c : Nat} {H H' : Hp}
theorem wipe_at {τ : L2.St} {x : Nat} : ∀ {js : List Nat}, x ∈ js → (wipe τ js)[x]? = if x < τ.length then some none else none
  | y :: ys, hx => by
    unfold wipe
    by_cases hy : y = x
    · subst hy
      by_cases hl : y < τ.length
      · rw [List.getElem?_set_self (by rw [wipe_length]; exact hl), if_pos hl]
      · rw [if_neg hl, List.getElem?_eq_none (by rw [List.length_set, wipe_length]; omega)]
    · rw [List.getElem?_set_ne hy]
      exact wipe_at (by rcases List.mem_cons.mp hx with e | e; exact absurd e.symm hy; exact e)
theorem wipe_set' {σ : L2.St} {i : Nat} {v : Option V} {js : List Nat} (hj : i ∈ js) : wipe (σ.set i v) js = wipe σ js := by
  apply List.ext_getElem?
  intro x
  by_cases hx : x ∈ js
  · rw [wipe_at hx, wipe_at hx, List.length_set]
  · rw [wipe_out hx, wipe_out hx, List.getElem?_set_ne (fun e => hx (by rw [← e]; exact hj))]
theorem wipe_wipe {σ : L2.St} {js : List Nat} : wipe (wipe σ js) js = wipe σ js := by
  apply List.ext_getElem?
  intro x
  by_cases hx : x ∈ js
  · rw [wipe_at hx, wipe_at hx, wipe_length]
  · rw [wipe_out hx, wipe_out hx]
theorem Le.trans {g g1 g2 : G} (a : Le g g1) (b : Le g1 g2) : Le g g2 := ⟨fun x y h => b.S x y (a.S x y h), fun x y h => b.μ x y (a.μ x y h), fun x h => b.T x (a.T x h)⟩
/-- what a walk yields, as a value -/
theorem yw_in {ws : List W} {i : Nat} {x : V} (r : RelM K ca g m c H) (l : Le g1 g) (y : YW K ca g1 ws i H x H') : ∃ w g', ws[i]? = some w ∧ Step g H g' H' ∧ RelM K ca g' m c H' ∧ Rep K ca g' w x := by
  obtain ⟨w, e, h⟩ := y
  rcases h with ⟨rfl, q⟩ | ⟨T, u1, u2, v1, v2, rfl, rfl, n, rfl, q1, q2⟩
  · exact ⟨w, g, e, Step.refl _ _, r, Rep.mono l _ _ q⟩
  · have l' := Le.frz (o := .tup [v1, v2]) (r.Snone n)
    refine ⟨_, g.frz T (.tup [v1, v2]), e, step_frz r n, rel_frz r n, ?_⟩
    simp only [Rep]
    exact ⟨T, [v1, v2], rfl, .inl (.inl (show upd g.S T _ T = _ from upd_same)), Reps.cons (Rep.mono l' _ _ (Rep.mono l _ _ q1)) (Reps.cons (Rep.mono l' _ _ (Rep.mono l _ _ q2)) Reps.nil)⟩
/-- a loop's target takes its value -/
theorem tg_ok {tg : List Nat} {pat : Bool} {w : W} {v : V} {ρ ρ' : Env} {σ : L2.St} {Q : L2.St → Hp → Prop} (r : RelM K ca g m c H) (q : Rep K ca g w v) (en : REnv K ca g ρ σ) (hb : bindTg tg pat w ρ = some ρ')
    (k : ∀ σ', REnv K ca g ρ' σ' → wipe σ' tg = wipe σ tg → Q σ' H) : gI K tg pat v σ H Q := by
  unfold bindTg at hb
  unfold gI
  cases pat with
  | true =>
    rw [if_pos rfl] at hb ⊢
    cases w <;> simp only [reduceCtorEq] at hb
    rename_i xs
    split at hb
    · rename_i hl
      cases hb
      simp only [Rep] at q
      obtain ⟨a, vs, rfl, h1, h2⟩ := q
      refine ⟨a, vs, rfl, SqT.sub r.sub h1, (Reps.length h2).trans hl, names_ok hl.symm h2 en fun σ' h3 h4 => k σ' h3 (h4 tg fun _ h => h)⟩
    · cases hb
  | false =>
    rw [if_neg (by decide)] at hb ⊢
    rcases tg with _ | ⟨i, _ | ⟨j, t⟩⟩ <;> simp only [reduceCtorEq] at hb
    cases hb
    exact k _ (en.set q) (wipe_set' (List.mem_singleton.mpr rfl))
end

section
variable {K : PySem.W.Frag} {ca : CA} {ef : Nat → Str} {α β α' β' : Type} {rel : G → α → β → Prop} {rel' : G → α' → β' → Prop} {WX WX' : Exn → Env → Value → Option Addr → Hp → G → Mem → List Nat → Prop} {g : G} {m : Mem} {d : List Nat} {H : Hp}
/-- a first part where no exception may fly -/
theorem Fin.bindN {γ : Type} {f : Sm α} {k : (Nat → Nat) → α → Mem → Nat → R γ} {k' : (Nat → Nat) → γ → Mem → Nat → R α'} {Q : β' → Hp → G → Mem → List Nat → α' → Prop} (h : Fin K ca ef rel' WX (fun ω m c => (noExc ((f ω m c).bind (k ω))).bind (k' ω)) g m d H Q) :
    Fin K ca ef rel WX' f g m d H (fun v1 H1 g1 m1 d1 a1 => RelM K ca g1 m1 d1.length H1 ∧ rel g1 a1 v1 ∧ Step g H g1 H1 ∧ Ext d d1 ∧ (∀ ω, Agree ω d1 → f ω m d.length = .ok a1 m1 d1.length) ∧ Fin K ca ef rel' WX (fun ω m c => (noExc (k ω a1 m c)).bind (k' ω)) g1 m1 d1 H1 Q) where
  good := fun ω a e => h.good ω a (by show (noExc ((f ω m d.length).bind _)).bind _ = _; rw [e]; rfl)
  ok := fun v1 H1 g1 m1 d1 a1 s e r q z => by
    refine ⟨r, q, s, e, z, h.step s e fun ω a => ?_⟩
    show (noExc ((f ω m d.length).bind _)).bind _ = _
    rw [z ω a]
    rfl
  exc := fun x ρ H1 g1 m1 d1 cls dd s e r z xr => by
    obtain ⟨ω, a⟩ := Agree.ex d1
    exact (h.good ω (a.of e) (by show (noExc ((f ω m d.length).bind _)).bind _ = _; rw [z ω a]; rfl)).elim
end

section
variable {Z : Tab} {C : Cfg} {prim : Nat → Option Prim} {ca : CA} {ef : Nat → Str} {F : FT} {X : Cx} {N : List Str} {sc : Scope} {WX : L2.WX} {n : Nat}
theorem Okx.blk (o : Okx Z C prim ca ef F X N sc WX n) {scope : Scope} (s : Shared) (H : Hp) (Cd : Addr) (cl : List (Str × Addr)) (fp : List Addr) : Okx Z C prim ca ef F (X.blk s H scope (compEnvC scope cl Cd X.env) fp) N (relS scope sc) (fun _ _ _ _ => False) n where
  hN := o.hN
  hsc := by show relS scope X.env.scope = _; rw [o.hsc]
  nd := o.nd
  calm := o.calm
  room := o.room
  tk := fun _ _ x => by
    obtain ⟨_, _, _, _, _, _, _, _, _, _, _, _, _, _, _, _, z⟩ := x
    exact z.elim
  fx := o.fx
  fn := o.fn
theorem Okx.sto (o : Okx Z C prim ca ef F X N sc WX n) {scope : Scope} (s : Shared) (H : Hp) (Cd : Addr) (cl : List (Str × Addr)) (fp : List Addr) : Sto (X.blk s H scope (compEnvC scope cl Cd X.env) fp) N scope :=
  ⟨o.hN, o.ndX, o.calm, fun x h => by
    have k := locB_of h
    refine ⟨?_, ?_⟩
    · rcases k with k | k
      · exact .inl (lookup_relS_keep (by decide) k)
      · exact .inr (lookup_relS_keep (by decide) k)
    · rcases k with k | k
      · exact .inr (lookup_relS_keep (by decide) k)
      · refine .inl ?_
        show (scope.names.lookup x == some NameKind.cell) = true
        rw [k]; rfl⟩
theorem own_snd (N : List Str) (tg : List Nat) : (ownOf N tg).map (·.2) = tg := by
  unfold ownOf
  rw [List.map_map]
  exact List.map_id tg
theorem drop_at {ws : List W} {i : Nat} {w : W} (h : ws[i]? = some w) : ws.drop i = w :: ws.drop (i + 1) := by
  obtain ⟨hl, e⟩ := List.getElem?_eq_some_iff.mp h
  rw [← e]
  exact List.drop_eq_getElem_cons hl
theorem lcGo_gd {gd : Mem → Bool} {bt : W → Option Lw.Env} {cond : Lw.Env → Mem → Nat → R Bool} {elt : Lw.Env → Mem → Nat → R W} {ws acc : List W} {m : Mem} {c : Nat} (h : ¬ gd m = true) : lcGo gd bt cond elt ws acc m c = .no := by
  cases ws <;> rw [lcGo, if_neg h]
theorem forGo_gd {gd : Mem → Bool} {bt : W → Lw.Env → Option Lw.Env} {body : Lw.Env → Mem → Nat → R Fl} {ws : List W} {ρ : Lw.Env} {m : Mem} {c : Nat} (h : ¬ gd m = true) : forGo gd bt body ws ρ m c = .no := by
  cases ws <;> rw [forGo, if_neg h]
theorem pts_yes : PTs X [] (tIb X.K ca ef WX (tbI C prim n .yes)) := ⟨fun pins s σ H Q I h => pts_nil.run pins s σ H Q I (by
  obtain ⟨g, ρ, m, d, r, e, h⟩ := h
  exact h.fin (a := true) (m' := m) (fun ω => by show evT C _ .yes ρ m _ = _; simp [evT]) (Step.refl g H) r rfl)⟩
theorem lc_read {cell : Bool} {tg : List Nat} {pat : Bool} {it : Lw.It} {cond : T} {elt : E} {N : List Str} {K : PySem.W.Frag} {σ : L2.St} {H : Hp} {Q : VK} (h : tI K ca ef WX (eI C prim n (.lc cell tg pat it cond elt)) σ H Q) :
    tLc (tIi K ca ef WX (iI C prim n it)) (gI K tg pat) (tIb K ca ef (fun _ _ _ _ => False) (tbI C prim n cond)) (tI K ca ef (fun _ _ _ _ => False) (eI C prim n elt)) ((ownOf N tg).map (·.2)) σ H Q := by
  obtain ⟨g, ρ, m, d, r, en, h⟩ := h
  have h' := h.congr (f' := fun ω m c => (iI C prim n it ρ ω m c).bind fun it0 m c => (noExc (lcGo it0.gd (fun w => bindTg tg pat w (wipeE ρ tg)) (fun ρ m c => tbI C prim n cond ρ ω m c) (fun ρ m c => eI C prim n elt ρ ω m c) it0.ws [] m c)).bind fun xs m c => mkL cell xs m c) fun ω => by
    show evE C _ (.lc cell tg pat it cond elt) ρ m _ = _; rw [evE]
  refine ⟨g, ρ, m, d, r, en, (Fin.bind (rel := RIt K ca) (k := fun ω it0 m c => (noExc (lcGo it0.gd (fun w => bindTg tg pat w (wipeE ρ tg)) (fun ρ m c => tbI C prim n cond ρ ω m c) (fun ρ m c => eI C prim n elt ρ ω m c) it0.ws [] m c)).bind fun xs m c => mkL cell xs m c) h').imp fun J H1 g1 m1 d1 it0 z D hD => ?_⟩
  obtain ⟨r1, wk, s1, e1, f1⟩ := z
  rw [own_snd]
  have en1 := (en.mono s1.le).wipe tg
  refine lc_it wk (fun i H2 => ∃ (g2 : G) (m2 : Mem) (d2 : List Nat) (accw : List W) (acc : List V) (H0 : Hp), H2 = upd H0 D (.lst acc) ∧ H0 D = none ∧ RelM K ca g2 m2 d2.length H0 ∧ Step g1 H1 g2 H0 ∧ Reps K ca g2 accw acc ∧
    Ext d1 d2 ∧ ∀ ω, Agree ω d2 → noExc (lcGo it0.gd (fun w => bindTg tg pat w (wipeE ρ tg)) (fun ρ m c => tbI C prim n cond ρ ω m c) (fun ρ m c => eI C prim n elt ρ ω m c) it0.ws [] m1 d1.length) = noExc (lcGo it0.gd (fun w => bindTg tg pat w (wipeE ρ tg)) (fun ρ m c => tbI C prim n cond ρ ω m c) (fun ρ m c => eI C prim n elt ρ ω m c) (it0.ws.drop i) accw m2 d2.length))
    ⟨g1, m1, d1, [], [], H1, rfl, hD, r1, Step.refl _ _, Reps.nil, Ext.refl _, fun ω _ => by rw [List.drop_zero]⟩ ?_ ?_ ?_
  · rintro i H2 hi ⟨g2, m2, d2, accw, acc, H0, rfl, h0, r2, s2, q2, e2, z2⟩
    have f2 := f1.step (f := fun ω m c => (noExc (lcGo it0.gd (fun w => bindTg tg pat w (wipeE ρ tg)) (fun ρ m c => tbI C prim n cond ρ ω m c) (fun ρ m c => eI C prim n elt ρ ω m c) (it0.ws.drop i) accw m c)).bind fun xs m c => mkL cell xs m c) s2 e2 fun ω a => by show (noExc (lcGo _ _ _ _ it0.ws [] m1 _)).bind _ = _; rw [z2 ω a]
    have hgd : it0.gd m2 = true := by
      by_cases hg : it0.gd m2 = true
      · exact hg
      · exact f2.not fun ω => by show (noExc (lcGo _ _ _ _ _ _ _ _)).bind _ = _; rw [lcGo_gd hg]; rfl
    exact ⟨g2, m2, _, s2.le, rel_lay r2 h0, hgd⟩
  · rintro i y H2 H3 hi ⟨g2, m2, d2, accw, acc, H0, rfl, h0, r2, s2, q2, e2, z2⟩ yw
    have f2 := f1.step (f := fun ω m c => (noExc (lcGo it0.gd (fun w => bindTg tg pat w (wipeE ρ tg)) (fun ρ m c => tbI C prim n cond ρ ω m c) (fun ρ m c => eI C prim n elt ρ ω m c) (it0.ws.drop i) accw m c)).bind fun xs m c => mkL cell xs m c) s2 e2 fun ω a => by show (noExc (lcGo _ _ _ _ it0.ws [] m1 _)).bind _ = _; rw [z2 ω a]
    have hgd : it0.gd m2 = true := by
      by_cases hg : it0.gd m2 = true
      · exact hg
      · exact f2.not fun ω => by show (noExc (lcGo _ _ _ _ _ _ _ _)).bind _ = _; rw [lcGo_gd hg]; rfl
    have r2' := rel_lay (o := .lst acc) r2 h0
    have s2' := step_lay (o := .lst acc) r2 h0
    obtain ⟨w, g3, hw, s3, r3, q3⟩ := yw_in r2' (Le.refl _) (yw g2 m2 _ s2.le r2' hgd)
    have off2 := r2.offNew h0
    have off3 := off2.step s3 upd_same
    have hD3 : H3 D = some (.lst acc) := s3.frame D _ upd_same off2.μ off2.T
    have f3 := f2.step (s2'.trans s3) (Ext.refl _) (fun _ _ => rfl)
    have f3' := f3.congr (f' := fun ω m c => (noExc (match bindTg tg pat w (wipeE ρ tg) with
      | none => .no
      | some ρ' => (tbI C prim n cond ρ' ω m c).bind fun b m c =>
        if b then (eI C prim n elt ρ' ω m c).bind fun x m c => if accw.length < sizeLine then lcGo it0.gd (fun w => bindTg tg pat w (wipeE ρ tg)) (fun ρ m c => tbI C prim n cond ρ ω m c) (fun ρ m c => eI C prim n elt ρ ω m c) (it0.ws.drop (i + 1)) (accw ++ [x]) m c else .no
        else lcGo it0.gd (fun w => bindTg tg pat w (wipeE ρ tg)) (fun ρ m c => tbI C prim n cond ρ ω m c) (fun ρ m c => eI C prim n elt ρ ω m c) (it0.ws.drop (i + 1)) accw m c)).bind fun xs m c => mkL cell xs m c) fun ω => by
        rw [drop_at hw]
        show (noExc (lcGo _ _ _ _ (w :: it0.ws.drop (i + 1)) accw m2 _)).bind _ = _
        rw [lcGo, if_pos hgd]
        all_goals (cases bindTg tg pat w (wipeE ρ tg) <;> rfl)
    cases hbt : bindTg tg pat w (wipeE ρ tg) with
    | none => exact f3'.not fun ω => by rw [hbt]; rfl
    | some ρ' =>
      simp only [hbt] at f3'
      refine tg_ok r3 q3 (en1.mono (s2.le.trans s3.le)) hbt fun σ2 en3 hwp => ⟨by rw [hwp, wipe_wipe], ?_⟩
      refine ⟨g3, ρ', m2, d2, r3, en3, (Fin.bindN (rel := fun _ a b => a = b) f3').imp fun b H4 g4 m4 d4 b' z => ?_⟩
      obtain ⟨r4, rfl, s4, e4, z4, f4⟩ := z
      have hD4 : H4 D = some (.lst acc) := s4.frame D _ hD3 off3.μ off3.T
      have off4 := off3.step s4 hD3
      have s14 := ((s2.trans s2').trans s3).trans s4
      cases b' with
      | false =>
        rw [if_neg (by decide)]
        refine ⟨g4, m4, d4, accw, acc, cut H4 D, by rw [cut_upd hD4], cut_self, rel_cut r4 off4, step_cut s14 hD, Reps.mono (s3.le.trans s4.le) _ _ q2, e2.trans e4, fun ω a => ?_⟩
        rw [z2 ω (a.of e4), drop_at hw, lcGo, if_pos hgd]
        simp only [hbt]
        rw [z4 ω a]
        rfl
      | true =>
        rw [if_pos rfl]
        have f4' := f4.congr (f' := fun ω m c => (noExc ((eI C prim n elt ρ' ω m c).bind fun x m c => if accw.length < sizeLine then lcGo it0.gd (fun w => bindTg tg pat w (wipeE ρ tg)) (fun ρ m c => tbI C prim n cond ρ ω m c) (fun ρ m c => eI C prim n elt ρ ω m c) (it0.ws.drop (i + 1)) (accw ++ [x]) m c else .no)).bind fun xs m c => mkL cell xs m c) fun ω => rfl
        refine ⟨g4, ρ', m4, d4, r4, en3.mono s4.le, (Fin.bindN (rel := Rep K ca) f4').imp fun v H5 g5 m5 d5 u z => ?_⟩
        obtain ⟨r5, q5, s5, e5, z5, f5⟩ := z
        have hD5 : H5 D = some (.lst acc) := s5.frame D _ hD4 off4.μ off4.T
        have off5 := off4.step s5 hD4
        have q2' := Reps.mono ((s3.le.trans s4.le).trans s5.le) _ _ q2
        by_cases hz : accw.length < sizeLine
        · refine ⟨acc, hD5, by rw [Reps.length q2]; exact hz, g5, m5, d5, accw ++ [u], acc ++ [v], cut H5 D, upd_cut.symm, cut_self, rel_cut r5 off5, step_cut (s14.trans s5) hD, Reps.append q2' (Reps.cons q5 Reps.nil), (e2.trans e4).trans e5, fun ω a => ?_⟩
          rw [z2 ω ((a.of e5).of e4), drop_at hw, lcGo, if_pos hgd]
          simp only [hbt]
          rw [z4 ω (a.of e5)]
          show noExc ((eI C prim n elt ρ' ω m4 d4.length).bind _) = _
          rw [z5 ω a]
          show noExc (if accw.length < sizeLine then _ else _) = _
          rw [if_pos hz]
        · exact f5.not fun ω => by rw [if_neg hz]; rfl
  · rintro H2 ⟨g2, m2, d2, accw, acc, H0, rfl, h0, r2, s2, q2, e2, z2⟩
    have f2 := f1.step (f := fun ω m c => (noExc (lcGo it0.gd (fun w => bindTg tg pat w (wipeE ρ tg)) (fun ρ m c => tbI C prim n cond ρ ω m c) (fun ρ m c => eI C prim n elt ρ ω m c) (it0.ws.drop it0.ws.length) accw m c)).bind fun xs m c => mkL cell xs m c) s2 e2 fun ω a => by show (noExc (lcGo _ _ _ _ it0.ws [] m1 _)).bind _ = _; rw [z2 ω a]
    have hgd : it0.gd m2 = true := by
      by_cases hg : it0.gd m2 = true
      · exact hg
      · exact f2.not fun ω => by show (noExc (lcGo _ _ _ _ _ _ _ _)).bind _ = _; rw [lcGo_gd hg]; rfl
    have f2' := f2.congr (f' := fun ω m c => mkL cell accw m c) fun ω => by
      rw [List.drop_length, lcGo, if_pos hgd]
      rfl
    obtain ⟨_, hk⟩ := fin_mkL f2' r2 q2
    obtain ⟨_, _, _, z⟩ := hk D h0
    exact z
theorem s_lc (o : Okx Z C prim ca ef F X N sc WX n) {cell : Bool} {tg : List Nat} {pat : Bool} {it : Lw.It} {cond : T} {elt : E} {x t i : Expr} {ifs : List Expr} {s : Scope} {p : Pos}
    (hi : PI X t i (tIi X.K ca ef WX (iI C prim n it))) (hb : blkC N sc s (ownOf N tg) = true) (hs : plainE i = true) (htg : chkTg N s tg pat t = true)
    (ht : ∀ (s' : Shared) (H : Hp) (Cd : Addr) (cl : List (Str × Addr)) (fp : List Addr), PTs (X.blk s' H s (compEnvC s cl Cd X.env) fp) ifs (tIb X.K ca ef (fun _ _ _ _ => False) (tbI C prim n cond)))
    (he : ∀ (s' : Shared) (H : Hp) (Cd : Addr) (cl : List (Str × Addr)) (fp : List Addr), PE (X.blk s' H s (compEnvC s cl Cd X.env) fp) x (tI X.K ca ef (fun _ _ _ _ => False) (eI C prim n elt))) :
    PE X (.ListComp x [⟨t, i, ifs, 0⟩] s p) (tI X.K ca ef WX (eI C prim n (.lc cell tg pat it cond elt))) :=
  PE.weak (pe_lc (g := gI X.K tg pat) (tt := tIb X.K ca ef (fun _ _ _ _ => False) (tbI C prim n cond)) (te := tI X.K ca ef (fun _ _ _ _ => False) (eI C prim n elt)) o.calm o.ndX hi (own := ownOf N tg) (by have z := o.hN; have z' := o.hsc; subst z z'; exact blkOk_by hb) (fun s' H Cd cl fp => s_tg (o.sto s' H Cd cl fp) htg) ht he (hs := iter_of hs X.env)) fun σ H Q h => lc_read h
end
end Lw

set_option maxHeartbeats 1000000
namespace Lw
open PySem PySem.Spec PyProof.Rows L2

/-! ### readings of statements and targets -/
inductive Out where
  | nx (σ : L2.St) | rt (v : V) | bk (σ : L2.St) | ct (σ : L2.St)
def Out.q (D : Ends) : Out → Hp → Prop
  | .nx σ => D.nx σ | .rt v => D.rt v | .bk σ => D.bk σ | .ct σ => D.ct σ
section
variable (K : PySem.W.Frag) (ca : CA) (ef : Nat → Str) (WX : L2.WX)
def FlRel (g : G) : Fl → Out → Prop
  | .nx ρ, .nx σ => REnv K ca g ρ σ
  | .rt w, .rt v => Rep K ca g w v
  | .bk ρ, .bk σ => REnv K ca g ρ σ
  | .ct ρ, .ct σ => REnv K ca g ρ σ
  | _, _ => False
/-- the wish for exceptions, of a statement -/
def wxS : Exn → Env → Value → Option Addr → Hp → G → Mem → List Nat → Prop := fun _ _ cls dd H' _ _ _ => ∀ σ, WX cls dd σ H'
def tS (f : Env → Sm Fl) : TS := fun D σ H => ∃ (g : G) (ρ : Env) (m : Mem) (d : List Nat), RelM K ca g m d.length H ∧ REnv K ca g ρ σ ∧ Fin K ca ef (FlRel K ca) (wxS WX) (f ρ) g m d H (fun o H' _ _ _ _ => o.q D H')
def tG (f : W → Env → Sm Env) : TG := fun v σ H Q => ∃ (g : G) (ρ : Env) (m : Mem) (d : List Nat) (w : W), RelM K ca g m d.length H ∧ REnv K ca g ρ σ ∧ Rep K ca g w v ∧ Fin K ca ef (REnv K ca) (wxS WX) (f w ρ) g m d H (fun σ' H' _ _ _ _ => Q σ' H')
def tGs (f : List W → Env → Sm Env) : TGs := fun vs σ H Q => ∃ (g : G) (ρ : Env) (m : Mem) (d : List Nat) (ws : List W), RelM K ca g m d.length H ∧ REnv K ca g ρ σ ∧ Reps K ca g ws vs ∧ Fin K ca ef (REnv K ca) (wxS WX) (f ws ρ) g m d H (fun σ' H' _ _ _ _ => Q σ' H')
end
section
variable {K : PySem.W.Frag} {ca : CA} {ef : Nat → Str} {WX : L2.WX} {X : Cx}
theorem PG.weak {e : Expr} {t t' : TG} (h : PG X e t) (i : ∀ v σ H Q, t' v σ H Q → t v σ H Q) : PG X e t' := ⟨fun pins s σ H v u Q I r q => h.run pins s σ H v u Q I r (i v σ H Q q)⟩
theorem PGs.weak {e : List Expr} {t t' : TGs} (h : PGs X e t) (i : ∀ v σ H Q, t' v σ H Q → t v σ H Q) : PGs X e t' := ⟨fun pins s σ H v u Q I r q => h.run pins s σ H v u Q I r (i v σ H Q q)⟩
theorem Fin.wx {α β : Type} {rel : G → α → β → Prop} {W1 W2 : Exn → Env → Value → Option Addr → Hp → G → Mem → List Nat → Prop} {f : Sm α} {g : G} {m : Mem} {d : List Nat} {H : Hp} {Q : β → Hp → G → Mem → List Nat → α → Prop}
    (h : Fin K ca ef rel W1 f g m d H Q) (i : ∀ x ρ cls dd H' g' m' d', W1 x ρ cls dd H' g' m' d' → W2 x ρ cls dd H' g' m' d') : Fin K ca ef rel W2 f g m d H Q :=
  ⟨h.good, h.ok, fun x ρ H' g' m' d' cls dd s e r z xr => i _ _ _ _ _ _ _ _ (h.exc x ρ H' g' m' d' cls dd s e r z xr)⟩
theorem wx_of {σ : L2.St} : ∀ x ρ cls dd H' g' m' d', wxS WX x ρ cls dd H' g' m' d' → wxE WX σ x ρ cls dd H' g' m' d' := fun _ _ _ _ _ _ _ _ h => h σ
/-- a first part of a statement -/
theorem tI_s {α β : Type} {rel' : G → α → β → Prop} {f : Env → Sm W} {k : (Nat → Nat) → W → Mem → Nat → R α} {g : G} {ρ : Env} {m : Mem} {d : List Nat} {σ : L2.St} {H : Hp} {Q : β → Hp → Prop}
    (r : RelM K ca g m d.length H) (e : REnv K ca g ρ σ) (h : Fin K ca ef rel' (wxS WX) (fun ω m c => (f ρ ω m c).bind (k ω)) g m d H (fun v H' _ _ _ _ => Q v H')) :
    tI K ca ef WX f σ H (fun v H1 => ∃ (g1 : G) (m1 : Mem) (d1 : List Nat) (w : W), RelM K ca g1 m1 d1.length H1 ∧ Step g H g1 H1 ∧ REnv K ca g1 ρ σ ∧ Rep K ca g1 w v ∧ Fin K ca ef rel' (wxS WX) (fun ω m c => k ω w m c) g1 m1 d1 H1 (fun v H' _ _ _ _ => Q v H')) :=
  ⟨g, ρ, m, d, r, e, ((Fin.bind (rel := Rep K ca) h).wx wx_of).imp fun v1 H1 g1 m1 d1 a1 z => ⟨g1, m1, d1, a1, z.1, z.2.2.1, e.mono z.2.2.1.le, z.2.1, z.2.2.2.2⟩⟩
theorem tIs_s {α β : Type} {rel' : G → α → β → Prop} {f : Env → Sm (List W)} {k : (Nat → Nat) → List W → Mem → Nat → R α} {g : G} {ρ : Env} {m : Mem} {d : List Nat} {σ : L2.St} {H : Hp} {Q : β → Hp → Prop}
    (r : RelM K ca g m d.length H) (e : REnv K ca g ρ σ) (h : Fin K ca ef rel' (wxS WX) (fun ω m c => (f ρ ω m c).bind (k ω)) g m d H (fun v H' _ _ _ _ => Q v H')) :
    tIs K ca ef WX f σ H (fun vs H1 => ∃ (g1 : G) (m1 : Mem) (d1 : List Nat) (ws : List W), RelM K ca g1 m1 d1.length H1 ∧ Step g H g1 H1 ∧ REnv K ca g1 ρ σ ∧ Reps K ca g1 ws vs ∧ Fin K ca ef rel' (wxS WX) (fun ω m c => k ω ws m c) g1 m1 d1 H1 (fun v H' _ _ _ _ => Q v H')) :=
  ⟨g, ρ, m, d, r, e, ((Fin.bind (rel := Reps K ca) h).wx wx_of).imp fun v1 H1 g1 m1 d1 a1 z => ⟨g1, m1, d1, a1, z.1, z.2.2.1, e.mono z.2.2.1.le, z.2.1, z.2.2.2.2⟩⟩
theorem tIb_s {α β : Type} {rel' : G → α → β → Prop} {f : Env → Sm Bool} {k : (Nat → Nat) → Bool → Mem → Nat → R α} {g : G} {ρ : Env} {m : Mem} {d : List Nat} {σ : L2.St} {H : Hp} {Q : β → Hp → Prop}
    (r : RelM K ca g m d.length H) (e : REnv K ca g ρ σ) (h : Fin K ca ef rel' (wxS WX) (fun ω m c => (f ρ ω m c).bind (k ω)) g m d H (fun v H' _ _ _ _ => Q v H')) :
    tIb K ca ef WX f σ H (fun b H1 => ∃ (g1 : G) (m1 : Mem) (d1 : List Nat), RelM K ca g1 m1 d1.length H1 ∧ Step g H g1 H1 ∧ REnv K ca g1 ρ σ ∧ Fin K ca ef rel' (wxS WX) (fun ω m c => k ω b m c) g1 m1 d1 H1 (fun v H' _ _ _ _ => Q v H')) :=
  ⟨g, ρ, m, d, r, e, ((Fin.bind (rel := fun _ a b => a = b) h).wx wx_of).imp fun v1 H1 g1 m1 d1 a1 z => by
    have q := z.2.1
    subst q
    exact ⟨g1, m1, d1, z.1, z.2.2.1, e.mono z.2.2.1.le, z.2.2.2.2⟩⟩
end

/-! ### targets -/
section
variable {X : Cx} {pos : Pos}
/-- o.f = .. within a tuple -/
def gAttr (K : PySem.W.Frag) (ta : TE) (f : Str) : TG := fun v σ H Q => ta σ H fun x H1 => ∃ a C dx fs, x = .ref a ∧ H1 a = some (.ins C dx fs) ∧ Cls K C ∧ NoAttr K C f ∧ fs.length < 1000 ∧ Q σ (upd H1 a (.ins C dx (putF f v fs)))
theorem pg_attr {o : Expr} {f : Str} {ta : TE} (ho : PE X o ta) : PG X (.Attribute o f pos) (gAttr X.K ta f) := by
  refine ⟨fun pins s σ H v u Q I r h => ?_⟩
  rw [assign_Attribute]
  refine wpAny_bind (wpAny_holding (thn (ho.run pins s σ H _ I h) fun ov s1 ⟨x, H1, I1, r1, a, C, dx, fs, ex, ea, c, n, l, q⟩ => ?_))
  subst ex
  obtain rfl : ov = Value.ref a := r1
  refine wpAny_bind (wpAny_standAt (wpAny_bind (wpAny_holding (setattr_ok I1 ea c n l r fun s2 I2 => ?_))))
  exact wpAny_release ⟨σ, _, I2, q⟩
theorem asub_of {o i : Expr} (h : plainE i = true) (env : PySem.Env) : ∀ v, assign (.Subscript o i pos) env v = (do
      let ov ← holding [v] (eval o env)
      let iv ← holding [v, ov] (eval i env)
      standAt pos
      holding [v, ov, iv] (setItem ov iv v)
      release [v, ov, iv] []) := by
  cases i <;> simp [plainE] at h <;> intro v <;> rfl
theorem putF_zip {f : Str} {v : V} {w : W} : ∀ {ks : List Str} {ws : List W} {vs : List V}, ks.length = ws.length → vs.length = ws.length → (putField f w ks ws).1.length = (putField f w ks ws).2.length
  | [], [], _, _, _ => rfl
  | [], _ :: _, _, h, _ => by cases h
  | _ :: _, [], _, h, _ => by cases h
  | k :: ks, u :: ws, vs, h, h' => by
    unfold putField
    split
    · simpa using h
    · have := putF_zip (f := f) (v := v) (w := w) (ks := ks) (ws := ws) (vs := vs.tail) (Nat.succ.inj h) (by rw [List.length_tail, h']; simp)
      simpa using this
theorem putF_rep {K : PySem.W.Frag} {ca : CA} {g : G} {f : Str} {v : V} {w : W} (q : Rep K ca g w v) : ∀ {ks : List Str} {ws : List W} {vs : List V}, ks.length = ws.length → Reps K ca g ws vs →
    ∃ vs', putF f v (ks.zip vs) = (putField f w ks ws).1.zip vs' ∧ Reps K ca g (putField f w ks ws).2 vs' ∧ (putField f w ks ws).1.length = (putField f w ks ws).2.length ∧ (∀ k ∈ (putField f w ks ws).1, k = f ∨ k ∈ ks)
  | [], [], vs, _, h => by
    simp only [Reps] at h
    subst h
    exact ⟨[v], rfl, Reps.cons q Reps.nil, rfl, fun k hk => .inl (by simpa [putField] using hk)⟩
  | [], _ :: _, _, h, _ => by cases h
  | _ :: _, [], _, h, _ => by cases h
  | k :: ks, u :: ws, vs, hl, h => by
    simp only [Reps] at h
    obtain ⟨x, r, rfl, h1, h2⟩ := h
    obtain ⟨vs', e1, e2, e3, e4⟩ := putF_rep (f := f) q (Nat.succ.inj hl) h2
    simp only [List.zip_cons_cons, putF, putField]
    by_cases hk : k = f
    · rw [if_pos hk, if_pos hk]
      exact ⟨v :: r, rfl, Reps.cons q h2, by simpa using hl, fun y hy => .inr hy⟩
    · rw [if_neg hk, if_neg hk]
      refine ⟨x :: vs', by rw [e1]; rfl, Reps.cons h1 e2, by simpa using e3, fun y hy => ?_⟩
      rcases List.mem_cons.mp hy with z | z
      · exact .inr (z ▸ List.mem_cons_self)
      · rcases e4 y z with z | z
        · exact .inl z
        · exact .inr (List.mem_cons_of_mem _ z)
end

section
variable {Z : Tab} {C : Cfg} {prim : Nat → Option Prim} {ca : CA} {ef : Nat → Str} {F : FT} {X : Cx} {N : List Str} {sc : Scope} {WX : L2.WX} {n : Nat}
abbrev gEv (C : Cfg) (prim : Nat → Option Prim) (n : Nat) (t : Tg) : W → Env → Sm Env := fun w ρ ω m c => evTg C (run C prim ω n) w t ρ m c
abbrev gEvs (C : Cfg) (prim : Nat → Option Prim) (n : Nat) (ts : List Tg) : List W → Env → Sm Env := fun ws ρ ω m c => evTgs C (run C prim ω n) ts ws ρ m c
/-- a field is written -/
theorem setA_ok (o : Okx Z C prim ca ef F X N sc WX n) {g : G} {m m' : Mem} {c : Nat} {H : Hp} {x w : W} {v y : V} {f : Str} (r : RelM X.K ca g m c H) (q : Rep X.K ca g x v) (q' : Rep X.K ca g w y) (hf : Z.flds.contains f = true) (e : setA x w f m = some m') :
    ∃ a dx fs k, v = .ref a ∧ H a = some (.ins (ca k) dx fs) ∧ Cls X.K (ca k) ∧ NoAttr X.K (ca k) f ∧ fs.length < 1000 ∧ RelM X.K ca g m' c (upd H a (.ins (ca k) dx (putF f y fs))) ∧ Step g H g (upd H a (.ins (ca k) dx (putF f y fs))) := by
  unfold setA at e
  cases x <;> simp only [reduceCtorEq] at e
  rename_i j
  simp only [Rep] at q
  obtain ⟨a, rfl, hμ⟩ := q
  split at e
  · rename_i k ks ws hk
    split at e
    · rename_i hl
      cases e
      obtain ⟨b, hb, hc⟩ := r.live _ _ hk
      rw [hμ] at hb
      cases hb
      obtain ⟨dx, vs, e1, ⟨hn, ho⟩, e2⟩ := hc
      obtain ⟨hC, hA⟩ := o.fx.cls k f (by rw [o.fx.hfl]; exact hf)
      obtain ⟨vs', z1, z2, z3, z4⟩ := putF_rep (f := f) q' hn e2
      refine ⟨a, dx, ks.zip vs, k, rfl, e1, hC, hA, ?_, ?_⟩
      · rw [List.length_zip]; omega
      · exact rel_write (X := X) (x' := .ins k _ _) r hk (by simp) hμ ⟨dx, vs', by rw [upd_same, z1], ⟨z3, fun y hy => by
          rcases z4 y hy with u | u
          · rw [u, o.fx.hfl]; exact hf
          · exact ho y u⟩, z2⟩
    · cases e
  · cases e
/-- an item is written -/
theorem setI_ok {g : G} {m m' : Mem} {c : Nat} {H : Hp} {x i w : W} {v u y : V} (r : RelM X.K ca g m c H) (q : Rep X.K ca g x v) (qi : Rep X.K ca g i u) (q' : Rep X.K ca g w y) (e : setI x i w m = some m') :
    ∃ p xs k j, v = .ref p ∧ u = .int k ∧ H p = some (.lst xs) ∧ ixN xs.length k = some j ∧ RelM X.K ca g m' c (upd H p (.lst (xs.set j y))) ∧ Step g H g (upd H p (.lst (xs.set j y))) := by
  unfold setI at e
  cases x <;> cases i <;> simp only [reduceCtorEq] at e
  rename_i j k
  simp only [Rep] at q qi
  obtain ⟨a, rfl, hμ⟩ := q
  subst qi
  split at e
  · rename_i ws hk
    split at e
    · rename_i jj hj
      cases e
      obtain ⟨b, hb, hc⟩ := r.live _ _ hk
      rw [hμ] at hb
      cases hb
      obtain ⟨vs, e1, e2⟩ := hc
      refine ⟨a, vs, k, jj, rfl, rfl, e1, by rw [Reps.length e2]; exact hj, ?_⟩
      exact rel_write (X := X) (x' := .lst _) r hk (by simp) hμ ⟨vs.set jj y, upd_same, Reps.set jj e2 q'⟩
    · cases e
  · cases e
end
end Lw

set_option maxHeartbeats 2000000
namespace Lw
open PySem PySem.Spec PyProof.Rows L2

section
variable {Z : Tab} {C : Cfg} {prim : Nat → Option Prim} {ca : CA} {ef : Nat → Str} {F : FT} {N : List Str} {n : Nat}
theorem es_nil {X : Cx} {sc : Scope} : ∀ {es : Es}, chkEs Z C N sc es [] = true → es = .nil
  | .nil, _ => rfl
  | .cons _ _, h => by simp [chkEs] at h
  | .star _ _, h => by simp [chkEs] at h
theorem noKw_of {ks : List Keyword} (h : noKw ks = true) : ks = [] := by cases ks; rfl; cases h
theorem noneE_of {e : Option Expr} (h : noneE e = true) : e = none := by cases e; rfl; cases h
theorem nil_of {α : Type} {l : List α} (h : l.isEmpty = true) : l = [] := by cases l; rfl; cases h
theorem Okx.units {X : Cx} {sc : Scope} {WX : L2.WX} (o : Okx Z C prim ca ef F X N sc WX n) : X.A.units + 64 < cLine := by
  have := o.room.un
  omega
theorem op_inj {a : BOp} {o : Operator} (h : opOf a = o) : o = opOf a := h.symm

def isBoolX : Expr → Bool
  | .BoolOp _ _ _ => true | _ => false
theorem tup_of {sc : Scope} {tg : List Nat} {t : Expr} (h : chkTg N sc tg true t = true) : ∃ ts k p, t = .Tuple ts k p := by
  unfold chkTg at h
  rw [if_pos rfl] at h
  cases z : asTuple t with
  | none => rw [z] at h; cases h
  | some es =>
    obtain ⟨k, p, rfl⟩ := asTuple_of z
    exact ⟨_, _, _, rfl⟩

theorem kw_of {X : Cx} {sc : Scope} {p : Pos} : ∀ {es : Es} {ks : List Str} {kw : List Keyword}, chkKs Z C N sc es ks kw = true →
    (backToKw p (keywordEach kw X.env)).all (·.1.isSome) = true ∧ (backToKw p (keywordEach kw X.env)).filterMap (·.1) = ks ∧ (backToKw p (keywordEach kw X.env)).any (·.1.isNone) = false
  | .nil, ks, kw, h => by
    rw [chkKs, Bool.and_eq_true] at h
    obtain rfl := nil_of h.1
    obtain rfl := nil_of h.2
    exact ⟨rfl, rfl, rfl⟩
  | .cons e es, ks, kw, h => by
    rcases ks with _ | ⟨k, ks⟩ <;> rcases kw with _ | ⟨q, kw⟩ <;> rw [chkKs] at h <;> try (cases h; done)
    simp only [Bool.and_eq_true, decide_eq_true_eq] at h
    obtain ⟨a, v, pp⟩ := q
    obtain ⟨⟨rfl, _⟩, h3⟩ := h
    obtain ⟨k1, k2, k3⟩ := kw_of (X := X) (p := p) h3
    refine ⟨?_, ?_, ?_⟩
    · show (true && (backToKw p (keywordEach kw X.env)).all (·.1.isSome)) = true
      rw [k1]; rfl
    · show k :: (backToKw p (keywordEach kw X.env)).filterMap (·.1) = _
      rw [k2]
    · show (false || (backToKw p (keywordEach kw X.env)).any (·.1.isNone)) = false
      rw [k3]; rfl
  | .star e es, ks, kw, h => by rw [chkKs] at h; cases h
theorem es_len {sc : Scope} {ω : Nat → Nat} : ∀ {es : Es} {xs : List Expr} {ρ : Lw.Env} {m : Mem} {c : Nat} {ws : List W} {m' : Mem} {c' : Nat}, chkEs Z C N sc es xs = true → xs.all plainE = true → evEs C (run C prim ω n) es ρ m c = .ok ws m' c' → ws.length = xs.length
  | .nil, xs, ρ, m, c, ws, m', c', h, _, e => by
    rw [chkEs] at h
    obtain rfl := nil_of h
    rw [evEs] at e
    cases e
    rfl
  | .cons x es, xs, ρ, m, c, ws, m', c', h, hp, e => by
    rcases xs with _ | ⟨y, xs⟩
    · rw [chkEs] at h; cases h
    rw [chkEs] at h
    simp only [Bool.and_eq_true] at h
    rw [List.all_cons, Bool.and_eq_true] at hp
    rw [evEs] at e
    cases h1 : evE C (run C prim ω n) x ρ m c with
    | no => rw [h1] at e; cases e
    | exc _ _ _ _ => rw [h1] at e; cases e
    | ok w m1 c1 =>
      rw [h1, R.bind_ok] at e
      cases h2 : evEs C (run C prim ω n) es ρ m1 c1 with
      | no => rw [h2] at e; cases e
      | exc _ _ _ _ => rw [h2] at e; cases e
      | ok us m2 c2 =>
        rw [h2, R.bind_ok] at e
        cases e
        simp [es_len h.2 hp.2 h2]
  | .star x es, xs, ρ, m, c, ws, m', c', h, hp, _ => by
    rcases xs with _ | ⟨y, xs⟩
    · rw [chkEs] at h; cases h
    rw [chkEs] at h
    rw [List.all_cons, Bool.and_eq_true] at hp
    cases z : asStar y with
    | none => simp only [z] at h; cases h
    | some z' =>
      obtain ⟨p, rfl⟩ := asStar_of z
      exact absurd hp.1 (by simp [plainE])
theorem ks_len {sc : Scope} {ω : Nat → Nat} : ∀ {es : Es} {ks : List Str} {kw : List Keyword} {ρ : Lw.Env} {m : Mem} {c : Nat} {ws : List W} {m' : Mem} {c' : Nat}, chkKs Z C N sc es ks kw = true → evEs C (run C prim ω n) es ρ m c = .ok ws m' c' → ws.length = ks.length
  | .nil, ks, kw, ρ, m, c, ws, m', c', h, e => by
    rw [chkKs, Bool.and_eq_true] at h
    obtain rfl := nil_of h.1
    rw [evEs] at e
    cases e
    rfl
  | .cons x es, ks, kw, ρ, m, c, ws, m', c', h, e => by
    rcases ks with _ | ⟨k, ks⟩ <;> rcases kw with _ | ⟨q, kw⟩ <;> rw [chkKs] at h <;> try (cases h; done)
    simp only [Bool.and_eq_true, decide_eq_true_eq] at h
    rw [evEs] at e
    cases h1 : evE C (run C prim ω n) x ρ m c with
    | no => rw [h1] at e; cases e
    | exc _ _ _ _ => rw [h1] at e; cases e
    | ok w m1 c1 =>
      rw [h1, R.bind_ok] at e
      cases h2 : evEs C (run C prim ω n) es ρ m1 c1 with
      | no => rw [h2] at e; cases e
      | exc _ _ _ _ => rw [h2] at e; cases e
      | ok us m2 c2 =>
        rw [h2, R.bind_ok] at e
        cases e
        simp [ks_len h.2 h2]
  | .star e es, ks, kw, ρ, m, c, ws, m', c', h, _ => by rw [chkKs] at h; cases h

theorem isStrE_of {e : E} (h : isStrE e = true) : ∃ s, e = .con (.str s) := by
  unfold isStrE at h
  split at h
  · exact ⟨_, rfl⟩
  · cases h
mutual
theorem soundE : ∀ (e : E) {X : Cx} {sc : Scope} {WX : L2.WX} (o : Okx Z C prim ca ef F X N sc WX n) {x : Expr}, chkE Z C N sc e x = true → PE X x (tI X.K ca ef WX (eI C prim n e))
  | .var i, X, sc, WX, o, x, h => by
    rw [chkE] at h
    cases z : asName x with
    | none => simp only [z] at h; cases h
    | some y =>
      simp only [z, Bool.and_eq_true, decide_eq_true_eq] at h
      obtain ⟨p, rfl⟩ := asName_of z
      exact s_var o h.1.1 h.1.2 h.2
  | .con k, X, sc, WX, o, x, h => by
    rw [chkE] at h
    cases z : asConst x with
    | none => simp only [z] at h; cases h
    | some y =>
      simp only [z] at h
      obtain ⟨k', p, rfl⟩ := asConst_of z
      exact s_con h
  | .glob g, X, sc, WX, o, x, h => by
    rw [chkE] at h
    cases z : asName x with
    | none => simp only [z] at h; cases h
    | some y =>
      simp only [z, Bool.and_eq_true, decide_eq_true_eq] at h
      obtain ⟨p, rfl⟩ := asName_of z
      exact s_glob o h.1.1.1 h.1.1.2 h.1.2 h.2
  | .tup es, X, sc, WX, o, x, h => by
    rw [chkE] at h
    cases z : asTuple x with
    | none => simp only [z] at h; cases h
    | some xs =>
      simp only [z] at h
      obtain ⟨k, p, rfl⟩ := asTuple_of z
      exact s_tup (soundEs es o h)
  | .lst cell es, X, sc, WX, o, x, h => by
    rw [chkE] at h
    cases z : asList x with
    | none => simp only [z] at h; cases h
    | some xs =>
      simp only [z] at h
      obtain ⟨p, rfl⟩ := asList_of z
      exact s_lst (soundEs es o h)
  | .attr a f, X, sc, WX, o, x, h => by
    rw [chkE] at h
    cases z : asAttr x with
    | none => simp only [z] at h; cases h
    | some y =>
      obtain ⟨y, g, p⟩ := y
      simp only [z, Bool.and_eq_true, decide_eq_true_eq] at h
      obtain rfl := asAttr_of z
      obtain ⟨⟨⟨⟨rfl, h2⟩, h3⟩, h4⟩, h5⟩ := h
      exact s_attr o (soundE a o h3) h2 h5
  | .bin cell op a b, X, sc, WX, o, x, h => by
    rw [chkE] at h
    cases z : asBin x with
    | none => simp only [z] at h; cases h
    | some y =>
      obtain ⟨y, q, y'⟩ := y
      simp only [z, Bool.and_eq_true, decide_eq_true_eq] at h
      obtain ⟨p, rfl⟩ := asBin_of z
      obtain ⟨⟨rfl, h2⟩, h3⟩ := h
      exact s_bin (soundE a o h2) (soundE b o h3)
  | .neg a, X, sc, WX, o, x, h => by
    rw [chkE] at h
    cases z : asUn x with
    | none => simp only [z] at h; cases h
    | some y =>
      obtain ⟨q, y⟩ := y
      simp only [z, Bool.and_eq_true, decide_eq_true_eq] at h
      obtain ⟨p, rfl⟩ := asUn_of z
      obtain ⟨rfl, h2⟩ := h
      exact s_neg (soundE a o h2)
  | .not t, X, sc, WX, o, x, h => by
    rw [chkE] at h
    cases z : asUn x with
    | none => simp only [z] at h; cases h
    | some y =>
      obtain ⟨q, y⟩ := y
      simp only [z, Bool.and_eq_true, decide_eq_true_eq] at h
      obtain ⟨p, rfl⟩ := asUn_of z
      obtain ⟨rfl, h2⟩ := h
      exact soundV t o h2
  | .and a b, X, sc, WX, o, x, h => by
    rw [chkE] at h
    cases z : asBool x with
    | none => simp only [z] at h; cases h
    | some y =>
      obtain ⟨q, ys, p⟩ := y
      obtain rfl := asBool_of z
      rcases ys with _ | ⟨y, _ | ⟨y', r⟩⟩
      · simp only [z] at h; cases h
      · simp only [z] at h; cases h
      · simp only [z, Bool.and_eq_true, decide_eq_true_eq] at h
        obtain ⟨⟨rfl, h2⟩, h3⟩ := h
        cases r with
        | nil =>
          rw [if_pos (by rfl)] at h3
          exact s_and (soundE a o h2) (pe_one (soundE b o h3))
        | cons y2 r =>
          rw [if_neg (by simp)] at h3
          exact s_and (soundE a o h2) (soundE b o h3)
  | .or a b, X, sc, WX, o, x, h => by
    rw [chkE] at h
    cases z : asBool x with
    | none => simp only [z] at h; cases h
    | some y =>
      obtain ⟨q, ys, p⟩ := y
      obtain rfl := asBool_of z
      rcases ys with _ | ⟨y, _ | ⟨y', r⟩⟩
      · simp only [z] at h; cases h
      · simp only [z] at h; cases h
      · simp only [z, Bool.and_eq_true, decide_eq_true_eq] at h
        obtain ⟨⟨rfl, h2⟩, h3⟩ := h
        cases r with
        | nil =>
          rw [if_pos (by rfl)] at h3
          exact s_or (soundE a o h2) (pe_one (soundE b o h3))
        | cons y2 r =>
          rw [if_neg (by simp)] at h3
          exact s_or (soundE a o h2) (soundE b o h3)
  | .cmp op a b, X, sc, WX, o, x, h => by
    rw [chkE] at h
    cases z : asCmp x with
    | none => simp only [z] at h; cases h
    | some y =>
      obtain ⟨y, os, ys⟩ := y
      obtain ⟨p, rfl⟩ := asCmp_of z
      rcases os with _ | ⟨q, _ | ⟨q', os⟩⟩ <;> rcases ys with _ | ⟨y', _ | ⟨y2, ys⟩⟩ <;> simp only [z] at h <;> try (cases h; done)
      simp only [Bool.and_eq_true, decide_eq_true_eq] at h
      obtain ⟨⟨⟨rfl, h2⟩, h3⟩, h4⟩ := h
      exact s_cmp o.units (soundE a o h2) (soundE b o h3) h4
  | .chain op op' a b dd, X, sc, WX, o, x, h => by
    rw [chkE] at h
    cases z : asCmp x with
    | none => simp only [z] at h; cases h
    | some y =>
      obtain ⟨y, os, ys⟩ := y
      obtain ⟨p, rfl⟩ := asCmp_of z
      rcases os with _ | ⟨q, _ | ⟨q', _ | ⟨q2, os⟩⟩⟩ <;> rcases ys with _ | ⟨y', _ | ⟨y2, _ | ⟨y3, ys⟩⟩⟩ <;> simp only [z] at h <;> try (cases h; done)
      simp only [Bool.and_eq_true, decide_eq_true_eq] at h
      obtain ⟨⟨⟨⟨⟨rfl, rfl⟩, h2⟩, h3⟩, h4⟩, h5⟩ := h
      exact s_chain o.units (soundE a o h2) (soundE b o h3) (soundE dd o h4) h5
  | .ife t a b, X, sc, WX, o, x, h => by
    rw [chkE] at h
    cases z : asIf x with
    | none => simp only [z] at h; cases h
    | some y =>
      obtain ⟨y1, y2, y3⟩ := y
      simp only [z, Bool.and_eq_true] at h
      obtain ⟨p, rfl⟩ := asIf_of z
      exact s_ife (soundT t o h.1.1) (soundE a o h.1.2) (soundE b o h.2)
  | .idx a i, X, sc, WX, o, x, h => by
    rw [chkE] at h
    cases z : asSub x with
    | none => simp only [z] at h; cases h
    | some y =>
      obtain ⟨y1, y2⟩ := y
      simp only [z, Bool.and_eq_true] at h
      obtain ⟨p, rfl⟩ := asSub_of z
      exact s_idx (soundE a o h.1.1) (soundE i o h.1.2) h.2
  | .slc cell a lo hi, X, sc, WX, o, x, h => by
    rw [chkE] at h
    cases z : asSub x with
    | none => simp only [z] at h; cases h
    | some y =>
      obtain ⟨y1, y2⟩ := y
      obtain ⟨p, rfl⟩ := asSub_of z
      simp only [z] at h
      cases z2 : asSlice y2 with
      | none => simp only [z2] at h; cases h
      | some q =>
        obtain ⟨l, u, st⟩ := q
        simp only [z2, Bool.and_eq_true] at h
        obtain ⟨p2, rfl⟩ := asSlice_of z2
        obtain ⟨⟨⟨h1, h2⟩, h3⟩, h4⟩ := h
        obtain rfl := noneE_of h4
        exact s_slc (soundE a o h1) (soundO lo o h2) (soundO hi o h3)
  | .rev cell a, X, sc, WX, o, x, h => by
    rw [chkE] at h
    cases z : asSub x with
    | none => simp only [z] at h; cases h
    | some y =>
      obtain ⟨y1, y2⟩ := y
      obtain ⟨p, rfl⟩ := asSub_of z
      simp only [z] at h
      cases z2 : asSlice y2 with
      | none => simp only [z2] at h; cases h
      | some q =>
        obtain ⟨l, u, st⟩ := q
        obtain ⟨p2, rfl⟩ := asSlice_of z2
        rcases l with _ | l <;> rcases u with _ | u <;> rcases st with _ | st <;> simp only [z2] at h <;> try (cases h; done)
        rw [Bool.and_eq_true] at h
        obtain ⟨k, p3, p4, rfl⟩ := isM1_of h.2
        exact s_rev (soundE a o h.1)
  | .call f es, X, sc, WX, o, x, h => by
    rw [chkE] at h
    cases z : asCall x with
    | none => simp only [z] at h; cases h
    | some y =>
      obtain ⟨y1, xs, ks, p⟩ := y
      obtain rfl := asCall_of z
      simp only [z] at h
      cases z2 : asName y1 with
      | none => simp only [z2] at h; cases h
      | some q =>
        obtain ⟨p2, rfl⟩ := asName_of z2
        simp only [z2, Bool.and_eq_true, decide_eq_true_eq] at h
        obtain ⟨⟨⟨⟨⟨⟨h1, h2⟩, h3⟩, h4⟩, h5⟩, h6⟩, h7⟩ := h
        obtain rfl := noKw_of h4
        cases z3 : C.fn f with
        | none => simp only [z3] at h7; cases h7
        | some r =>
          simp only [z3, decide_eq_true_eq] at h7
          exact s_call o (soundEs es o h5) z3 h7 h1 h2 h3 h6 (fun e => by subst e; exact es_nil (X := X) h5)
  | .callD f dz es, X, sc, WX, o, x, h => by
    rw [chkE] at h
    cases z : asCall x with
    | none => simp only [z] at h; cases h
    | some y =>
      obtain ⟨y1, xs, ks, p⟩ := y
      obtain rfl := asCall_of z
      simp only [z] at h
      cases z2 : asName y1 with
      | none => simp only [z2] at h; cases h
      | some q =>
        obtain ⟨p2, rfl⟩ := asName_of z2
        simp only [z2, Bool.and_eq_true, decide_eq_true_eq] at h
        obtain ⟨⟨⟨⟨⟨⟨⟨⟨h1, h2⟩, h3⟩, h4⟩, h5⟩, h6⟩, h8⟩, h9⟩, h7⟩ := h
        obtain rfl := noKw_of h4
        cases z3 : C.fn f with
        | none => simp only [z3] at h7; cases h7
        | some r =>
          simp only [z3, decide_eq_true_eq] at h7
          exact s_callD o (soundEs es o h5) z3 h7 h1 h2 h3 h6 (fun e => by rw [e] at h8; cases h8) h9
  | .sjoin a b, X, sc, WX, o, x, h => by
    rw [chkE] at h
    cases z : asCall x with
    | none => simp only [z] at h; cases h
    | some y =>
      obtain ⟨y1, xs, ks, p⟩ := y
      obtain rfl := asCall_of z
      rcases xs with _ | ⟨u, _ | ⟨u2, xs⟩⟩ <;> simp only [z] at h <;> try (cases h; done)
      cases z2 : asAttr y1 with
      | none => simp only [z2] at h; cases h
      | some q =>
        obtain ⟨y2, mm, q⟩ := q
        obtain rfl := asAttr_of z2
        simp only [z2, Bool.and_eq_true, decide_eq_true_eq] at h
        obtain ⟨⟨⟨⟨⟨⟨⟨rfl, h2⟩, h3⟩, h4⟩, h5⟩, h6⟩, h7⟩, h8⟩ := h
        obtain rfl := noKw_of h2
        exact s_sjoin (soundE a o h3) (soundE b o h6) h5 h7 h8
  | .fstr es, X, sc, WX, o, x, h => by
    rw [chkE] at h
    cases z : asJoined x with
    | none => simp only [z] at h; cases h
    | some xs =>
      obtain ⟨p, rfl⟩ := asJoined_of z
      simp only [z, Bool.and_eq_true, decide_eq_true_eq] at h
      obtain ⟨h1, h2⟩ := h
      obtain ⟨ts, h3, h4⟩ := soundFs es o h2
      rcases xs with _ | ⟨v1, _ | ⟨v2, rest⟩⟩
      · simp at h1
      · simp at h1
      · refine PE.weak (pe_joined h3) fun σ H Q hh => h4 Str.empty σ H _ ?_
        obtain ⟨g, ρ, m, d, r, en, hh⟩ := hh
        exact ⟨g, ρ, m, d, r, en, (hh.congr (f' := fun ω m c => evFs C (run C prim ω n) es Str.empty ρ m c) fun ω => by show evE C _ (.fstr es) ρ m _ = _; rw [evE]).imp fun v H1 g1 m1 d1 w z out e => e ▸ z⟩
  | .meth f oe es, X, sc, WX, o, x, h => by
    rw [chkE] at h
    cases z : asCall x with
    | none => simp only [z] at h; cases h
    | some y =>
      obtain ⟨y1, xs, ks, p⟩ := y
      obtain rfl := asCall_of z
      simp only [z] at h
      cases z2 : asAttr y1 with
      | none => simp only [z2] at h; cases h
      | some q =>
        obtain ⟨y2, mm, q⟩ := q
        obtain rfl := asAttr_of z2
        simp only [z2, Bool.and_eq_true, decide_eq_true_eq] at h
        obtain ⟨⟨⟨⟨⟨⟨⟨⟨h1, h2⟩, h3⟩, h4⟩, h5⟩, h6⟩, h7⟩, h8⟩, h9⟩ := h
        obtain rfl := noKw_of h2
        cases z3 : C.fn f with
        | none => rw [z3] at h9; cases h9
        | some r => exact s_meth o (soundE oe o h3) (soundEs es o h7) z3 h1 h8 (fun e => by subst e; exact es_nil (X := X) h7) h4 h6 h5
  | .callK f ks ord es, X, sc, WX, o, x, h => by
    rw [chkE] at h
    cases z : asCall x with
    | none => simp only [z] at h; cases h
    | some y =>
      obtain ⟨y1, xs, kw, p⟩ := y
      obtain rfl := asCall_of z
      simp only [z] at h
      cases z2 : asName y1 with
      | none => simp only [z2] at h; cases h
      | some q =>
        obtain ⟨p2, rfl⟩ := asName_of z2
        simp only [z2, Bool.and_eq_true, decide_eq_true_eq] at h
        obtain ⟨⟨⟨⟨⟨⟨h1, h2⟩, h3⟩, h4⟩, h5⟩, h6⟩, h7⟩ := h
        obtain rfl := nil_of h4
        cases z3 : C.fn f with
        | none => simp only [z3] at h7; cases h7
        | some r =>
          simp only [z3, decide_eq_true_eq] at h7
          obtain ⟨k1, k2, k3⟩ := kw_of (X := X) (p := p) h5
          exact s_callK o (soundKs es o h5) (fun ρ ω m c ws m' c' => ks_len h5) z3 h7 h1 h2 h3 k1 k2 k3 h6
  | .make c fz es, X, sc, WX, o, x, h => by
    rw [chkE] at h
    cases z : asCall x with
    | none => simp only [z] at h; cases h
    | some y =>
      obtain ⟨y1, xs, ks, p⟩ := y
      obtain rfl := asCall_of z
      simp only [z] at h
      cases z2 : asName y1 with
      | none => simp only [z2] at h; cases h
      | some q =>
        obtain ⟨p2, rfl⟩ := asName_of z2
        simp only [z2, Bool.and_eq_true, decide_eq_true_eq] at h
        obtain ⟨⟨⟨⟨⟨⟨⟨h1, h2⟩, h3⟩, h4⟩, h5⟩, h6⟩, h7⟩, h8⟩ := h
        obtain rfl := noKw_of h5
        cases z3 : C.cls c with
        | none => simp only [z3] at h8; cases h8
        | some rc =>
          simp only [z3] at h8
          cases z4 : C.fn rc.init with
          | none => rw [z4] at h8; cases h8
          | some r => exact s_make o (soundEs es o h6) z3 h2 z4 h1 h3 h4 h7 (fun e => by subst e; exact es_nil (X := X) h6)
  | .makeK c fz nd ks ord es kes, X, sc, WX, o, x, h => by
    rw [chkE] at h
    cases z : asCall x with
    | none => simp only [z] at h; cases h
    | some y =>
      obtain ⟨y1, xs, kw, p⟩ := y
      obtain rfl := asCall_of z
      simp only [z] at h
      cases z2 : asName y1 with
      | none => simp only [z2] at h; cases h
      | some q =>
        obtain ⟨p2, rfl⟩ := asName_of z2
        simp only [z2, Bool.and_eq_true, decide_eq_true_eq] at h
        obtain ⟨⟨⟨⟨⟨⟨⟨⟨⟨h1, h2⟩, h3⟩, h4⟩, h5⟩, h6⟩, h7⟩, h8⟩, h9⟩, h10⟩ := h
        cases z3 : C.cls c with
        | none => simp only [z3] at h10; cases h10
        | some rc =>
          simp only [z3] at h10
          cases z4 : C.fn rc.init with
          | none => rw [z4] at h10; cases h10
          | some r =>
            obtain ⟨k1, k2, k3⟩ := kw_of (X := X) (p := p) h8
            exact s_makeK o (soundEs es o h6) (soundKs kes o h8) (fun ρ ω m c ws m' c' => es_len h6 h7) (fun ρ ω m c ws m' c' => ks_len h8) z3 h2 z4 (fun e => es_nil (X := X) (sc := sc) (by rw [e] at h6; exact h6)) h1 h3 h4 h7 k1 k2 k3 h9
  | .blt cell b es, X, sc, WX, o, x, h => by
    rw [chkE] at h
    cases z : asCall x with
    | none => simp only [z] at h; cases h
    | some y =>
      obtain ⟨y1, xs, ks, p⟩ := y
      obtain rfl := asCall_of z
      simp only [z] at h
      cases z2 : asName y1 with
      | none => simp only [z2] at h; cases h
      | some q =>
        obtain ⟨p2, rfl⟩ := asName_of z2
        simp only [z2, Bool.and_eq_true, decide_eq_true_eq] at h
        obtain ⟨⟨⟨⟨⟨h1, h2⟩, h3⟩, h4⟩, h5⟩, h6⟩ := h
        obtain rfl := noKw_of h3
        exact s_blt o (soundEs es o h4) h1 h2 h5 (by simpa using h6)
  | .isi a t, X, sc, WX, o, x, h => by
    rw [chkE] at h
    cases z : asCall x with
    | none => simp only [z] at h; cases h
    | some y =>
      obtain ⟨y1, xs, ks, p⟩ := y
      obtain rfl := asCall_of z
      rcases xs with _ | ⟨u, _ | ⟨u2, _ | ⟨u3, xs⟩⟩⟩ <;> simp only [z] at h <;> try (cases h; done)
      cases z2 : asName y1 with
      | none => simp only [z2] at h; cases h
      | some q =>
        obtain ⟨p2, rfl⟩ := asName_of z2
        simp only [z2, Bool.and_eq_true, decide_eq_true_eq] at h
        obtain ⟨⟨⟨⟨⟨rfl, h2⟩, h3⟩, h4⟩, h5⟩, h6⟩ := h
        obtain rfl := noKw_of h3
        exact s_isi o (soundE a o h4) h2 h5 h6
  | .bm b oe es, X, sc, WX, o, x, h => by
    rw [chkE] at h
    cases z : asCall x with
    | none => simp only [z] at h; cases h
    | some y =>
      obtain ⟨y1, xs, ks, p⟩ := y
      obtain rfl := asCall_of z
      simp only [z] at h
      cases z2 : asAttr y1 with
      | none => simp only [z2] at h; cases h
      | some q =>
        obtain ⟨y2, mm, q⟩ := q
        obtain rfl := asAttr_of z2
        simp only [z2, Bool.and_eq_true, decide_eq_true_eq] at h
        obtain ⟨⟨⟨⟨⟨⟨⟨⟨rfl, h2⟩, h3⟩, h4⟩, h5⟩, h6⟩, h7⟩, h8⟩, h9⟩ := h
        obtain rfl := noKw_of h2
        exact s_bm (soundE oe o h3) (soundEs es o h6) h5 h7 h9 h8 (fun e => by subst e; exact es_nil (X := X) h6)
  | .lc cell tg pat it cond elt, X, sc, WX, o, x, h => by
    unfold chkE at h
    cases z : asLc x with
    | none => simp only [z] at h; cases h
    | some y =>
      obtain ⟨y, gs, s, p⟩ := y
      obtain rfl := asLc_of z
      simp only [z] at h
      cases z2 : asGen gs with
      | none => simp only [z2] at h; cases h
      | some q =>
        obtain ⟨t, i, ifs⟩ := q
        obtain rfl := asGen_of z2
        simp only [z2, Bool.and_eq_true] at h
        obtain ⟨⟨⟨⟨⟨⟨⟨h1, h2⟩, h3⟩, h4⟩, h5⟩, h6⟩, h7⟩, h8⟩ := h
        refine s_lc o (soundIt it o h2 h3 h1) h5 h4 h1 (fun s' H Cd cl fp => ?_) (fun s' H Cd cl fp => soundE elt (o.blk s' H Cd cl fp) h8)
        rcases ifs with _ | ⟨q, _ | ⟨q', ifs⟩⟩
        · cases cond with
          | yes => exact pts_yes
          | _ => exact Bool.noConfusion (show false = true from h7)
        · exact pts_one (soundT cond (o.blk s' H Cd cl fp) h7)
        · cases h7
  | .frz a, X, sc, WX, o, x, h => by
    rw [chkE] at h
    exact s_frz (soundE a o h)
  | .gidx g a, X, sc, WX, o, x, h => by
    rw [chkE] at h
    cases z : asCall x with
    | none => simp only [z] at h; cases h
    | some y =>
      obtain ⟨y1, xs, ks, p⟩ := y
      obtain rfl := asCall_of z
      rcases xs with _ | ⟨u, _ | ⟨u2, xs⟩⟩ <;> simp only [z] at h <;> try (cases h; done)
      cases z2 : asAttr y1 with
      | none => simp only [z2] at h; cases h
      | some q =>
        obtain ⟨y2, mm, q⟩ := q
        obtain rfl := asAttr_of z2
        simp only [z2, Bool.and_eq_true, decide_eq_true_eq] at h
        obtain ⟨⟨⟨⟨⟨⟨⟨⟨⟨h1, h2⟩, h3⟩, h4⟩, rfl⟩, h6⟩, h7⟩, h8⟩, h9⟩, h10⟩ := h
        obtain rfl := noKw_of h6
        obtain ⟨p3, rfl⟩ := isNm_of h1
        exact s_gidx o (soundE a o h7) h2 h3 h4 h8 h9 h10
  | .lrng cell a b, X, sc, WX, o, x, h => by
    rw [chkE] at h
    cases z : asCall x with
    | none => simp only [z] at h; cases h
    | some y =>
      obtain ⟨y1, xs, ks, p⟩ := y
      obtain rfl := asCall_of z
      rcases xs with _ | ⟨u, _ | ⟨u2, xs⟩⟩ <;> simp only [z] at h <;> try (cases h; done)
      cases z2 : asName y1 with
      | none => simp only [z2] at h; cases h
      | some q =>
        obtain ⟨p2, rfl⟩ := asName_of z2
        simp only [z2, Bool.and_eq_true, decide_eq_true_eq] at h
        obtain ⟨⟨⟨rfl, h2⟩, h3⟩, h4⟩ := h
        obtain rfl := noKw_of h3
        cases z3 : asCall u with
        | none => simp only [z3] at h4; cases h4
        | some y' =>
          obtain ⟨y2, xs2, ks2, p3⟩ := y'
          obtain rfl := asCall_of z3
          rcases xs2 with _ | ⟨v, _ | ⟨v2, _ | ⟨v3, xs2⟩⟩⟩ <;> simp only [z3] at h4 <;> try (cases h4; done)
          cases z4 : asName y2 with
          | none => simp only [z4] at h4; cases h4
          | some q2 =>
            obtain ⟨p4, rfl⟩ := asName_of z4
            simp only [z4, Bool.and_eq_true, decide_eq_true_eq] at h4
            obtain ⟨⟨⟨⟨⟨⟨rfl, k2⟩, k3⟩, k4⟩, k5⟩, k6⟩, k7⟩ := h4
            obtain rfl := noKw_of k3
            exact s_lrng o (soundE a o k4) (soundE b o k6) k2 h2 k5 k7
  | .lset a, X, sc, WX, o, x, h => by
    rw [chkE] at h
    cases z : asCall x with
    | none => simp only [z] at h; cases h
    | some y =>
      obtain ⟨y1, xs, ks, p⟩ := y
      obtain rfl := asCall_of z
      rcases xs with _ | ⟨u, _ | ⟨u2, xs⟩⟩ <;> simp only [z] at h <;> try (cases h; done)
      cases z2 : asName y1 with
      | none => simp only [z2] at h; cases h
      | some q =>
        obtain ⟨p2, rfl⟩ := asName_of z2
        simp only [z2, Bool.and_eq_true, decide_eq_true_eq] at h
        obtain ⟨⟨⟨rfl, h2⟩, h3⟩, h4⟩ := h
        obtain rfl := noKw_of h3
        cases z3 : asCall u with
        | none => simp only [z3] at h4; cases h4
        | some y' =>
          obtain ⟨y2, xs2, ks2, p3⟩ := y'
          obtain rfl := asCall_of z3
          rcases xs2 with _ | ⟨v, _ | ⟨v2, xs2⟩⟩ <;> simp only [z3] at h4 <;> try (cases h4; done)
          cases z4 : asName y2 with
          | none => simp only [z4] at h4; cases h4
          | some q2 =>
            obtain ⟨p4, rfl⟩ := asName_of z4
            simp only [z4, Bool.and_eq_true, decide_eq_true_eq] at h4
            obtain ⟨⟨⟨⟨rfl, k2⟩, k3⟩, k4⟩, k5⟩ := h4
            obtain rfl := noKw_of k3
            exact s_lset o (soundE a o k4) k2 h2 k5
  | .methK f ks ord a es, X, sc, WX, o, x, h => by
    rw [chkE] at h
    cases z : asCall x with
    | none => simp only [z] at h; cases h
    | some y =>
      obtain ⟨y1, xs, kw, p⟩ := y
      obtain rfl := asCall_of z
      simp only [z] at h
      cases z2 : asAttr y1 with
      | none => simp only [z2] at h; cases h
      | some q =>
        obtain ⟨y2, mm, p2⟩ := q
        obtain rfl := asAttr_of z2
        simp only [z2, Bool.and_eq_true, decide_eq_true_eq] at h
        obtain ⟨⟨⟨⟨⟨⟨⟨⟨h1, h2⟩, h3⟩, h4⟩, h5⟩, h6⟩, h7⟩, h8⟩, h9⟩ := h
        obtain rfl := nil_of h2
        obtain ⟨r, hr⟩ := Option.isSome_iff_exists.mp h9
        obtain ⟨k1, k2, k3⟩ := kw_of (X := X) (p := p) h6
        exact s_methK o (soundE a o h3) (soundKs es o h6) (fun ρ ω m c ws m' c' => ks_len h6) hr h1 h4 h7 h5 k1 k2 k3 h8
theorem soundFs : ∀ (es : Es) {X : Cx} {sc : Scope} {WX : L2.WX} (o : Okx Z C prim ca ef F X N sc WX n) {xs : List Expr}, chkFs Z C N sc es xs = true →
    ∃ ts, PJ X xs ts ∧ ∀ (acc : Str) (σ : L2.St) (H : Hp) (Q : Str → Hp → Prop), tI X.K ca ef WX (fun ρ ω m c => evFs C (run C prim ω n) es acc ρ m c) σ H (fun v H1 => ∀ out, v = .str out → Q out H1) → tJs ts acc σ H Q
  | .nil, X, sc, WX, o, xs, h => by
    rw [chkFs] at h
    cases xs with
    | cons x r => cases h
    | nil =>
      refine ⟨[], .nil, fun acc σ H Q ⟨g, ρ, m, d, r, en, hh⟩ => ?_⟩
      exact hh.fin (a := .str acc) (m' := m) (v := .str acc) (fun ω => by show evFs C _ .nil acc ρ m _ = _; rw [evFs]) (Step.refl _ _) r (by simp only [Rep]) acc rfl
  | .star e es, X, sc, WX, o, xs, h => Bool.noConfusion (show false = true from h)
  | .cons e es, X, sc, WX, o, xs, h => by
    cases xs with
    | nil => exact Bool.noConfusion (show false = true from h)
    | cons x r =>
      have h : ((match asFmt x with
        | some y => chkE Z C N sc e y
        | none => isStrE e && chkE Z C N sc e x) && chkFs Z C N sc es r) = true := h
      rw [Bool.and_eq_true] at h
      obtain ⟨h1, h2⟩ := h
      obtain ⟨ts, k1, k2⟩ := soundFs es o h2
      let KF : (Nat → Nat) → Str → Env → W → Mem → Nat → R W := fun ω acc ρ x m c => match fmtW x with
        | some y => if (acc ++ y).length ≤ sizeLine then evFs C (run C prim ω n) es (acc ++ y) ρ m c else .no
        | none => .no
      cases z : asFmt x with
      | some y =>
        obtain ⟨p, rfl⟩ := asFmt_of z
        simp only [z] at h1
        refine ⟨_, .cons (pe_fmt (soundE e o h1)) k1, fun acc σ H Q ⟨g, ρ, m, d, rm, en, hh⟩ => ?_⟩
        have h' := hh.congr (f' := fun ω m c => (eI C prim n e ρ ω m c).bind fun x m c => KF ω acc ρ x m c) fun ω => by show evFs C _ (.cons e es) acc ρ m _ = _; rw [evFs] <;> rfl
        refine tI_imp (tI_first (k := fun ω x m c => KF ω acc ρ x m c) rm en h') fun v1 H1 zz => ?_
        obtain ⟨g1, m1, d1, w, r1, s1, e1, q1, f1⟩ := zz
        cases hw : fmtW w with
        | none => exact f1.not fun ω => by show KF ω acc ρ w m1 _ = _; simp only [KF, hw]
        | some y =>
          by_cases hb : (acc ++ y).length ≤ sizeLine
          · have nx : tJs ts (acc ++ y) σ H1 Q := k2 (acc ++ y) σ H1 Q ⟨g1, ρ, m1, d1, r1, e1, f1.congr fun ω => by show KF ω acc ρ w m1 _ = _; simp only [KF, hw, if_pos hb]⟩
            cases w <;> simp only [fmtW] at hw <;> try (cases hw; done)
            · rename_i i
              simp only [Rep] at q1
              subst q1
              split at hw
              · injection hw with hw
                subst hw
                rename_i hs
                exact .inr ⟨i, rfl, hs, _, rfl, hb, nx⟩
              · cases hw
            · rename_i s
              simp only [Rep] at q1
              subst q1
              split at hw
              · injection hw with hw
                subst hw
                rename_i hs
                exact .inl ⟨_, rfl, hs, _, rfl, hb, nx⟩
              · cases hw
          · exact f1.not fun ω => by show KF ω acc ρ w m1 _ = _; simp only [KF, hw, if_neg hb]
      | none =>
        simp only [z, Bool.and_eq_true] at h1
        refine ⟨_, .cons (soundE e o h1.2) k1, fun acc σ H Q ⟨g, ρ, m, d, rm, en, hh⟩ => ?_⟩
        have h' := hh.congr (f' := fun ω m c => (eI C prim n e ρ ω m c).bind fun x m c => KF ω acc ρ x m c) fun ω => by show evFs C _ (.cons e es) acc ρ m _ = _; rw [evFs] <;> rfl
        refine ⟨g, ρ, m, d, rm, en, (Fin.bindZ (rel := Rep X.K ca) (k := fun ω x m c => KF ω acc ρ x m c) h').imp fun v1 H1 g1 m1 d1 w zz => ?_⟩
        obtain ⟨r1, q1, s1, e1, z1, f1⟩ := zz
        obtain ⟨ω0, a0⟩ := Agree.ex d1
        have hz := z1 ω0 a0
        have he := h1.1
        obtain ⟨s, rfl⟩ := isStrE_of he
        have hz2 : (R.ok (W.str s) m d.length : R W) = .ok w m1 d1.length := hz
        injection hz2 with hw
        subst hw
        simp only [Rep] at q1
        subst q1
        cases hw : fmtW (.str s) with
        | none => exact f1.not fun ω => by show KF ω acc ρ _ m1 _ = _; simp only [KF, hw]
        | some y =>
          by_cases hb : (acc ++ y).length ≤ sizeLine
          · have nx : tJs ts (acc ++ y) σ H1 Q := k2 (acc ++ y) σ H1 Q ⟨g1, ρ, m1, d1, r1, en.mono s1.le, f1.congr fun ω => by show KF ω acc ρ _ m1 _ = _; simp only [KF, hw, if_pos hb]⟩
            have hy : s = y := by
              simp only [fmtW] at hw
              split at hw
              · injection hw
              · cases hw
            subst hy
            exact ⟨s, rfl, hb, nx⟩
          · exact f1.not fun ω => by show KF ω acc ρ _ m1 _ = _; simp only [KF, hw, if_neg hb]
theorem soundEs : ∀ (es : Es) {X : Cx} {sc : Scope} {WX : L2.WX} (o : Okx Z C prim ca ef F X N sc WX n) {xs : List Expr}, chkEs Z C N sc es xs = true → PA X xs (tIs X.K ca ef WX (esI C prim n es))
  | .nil, X, sc, WX, o, xs, h => by
    rw [chkEs] at h
    obtain rfl := nil_of h
    exact s_nil
  | .cons e es, X, sc, WX, o, xs, h => by
    rcases xs with _ | ⟨x, xs⟩
    · rw [chkEs] at h; cases h
    · rw [chkEs] at h
      simp only [Bool.and_eq_true] at h
      exact s_cons (soundE e o h.1.1) (soundEs es o h.2) h.1.2
  | .star e es, X, sc, WX, o, xs, h => by
    rcases xs with _ | ⟨x, xs⟩
    · rw [chkEs] at h; cases h
    · rw [chkEs] at h
      cases z : asStar x with
      | none => simp only [z] at h; cases h
      | some y =>
        simp only [z, Bool.and_eq_true] at h
        obtain ⟨p, rfl⟩ := asStar_of z
        exact s_star (soundE e o h.1) (soundEs es o h.2)
theorem soundKs : ∀ (es : Es) {X : Cx} {sc : Scope} {WX : L2.WX} (o : Okx Z C prim ca ef F X N sc WX n) {ks : List Str} {kw : List Keyword}, chkKs Z C N sc es ks kw = true → PK X kw (tIs X.K ca ef WX (esI C prim n es))
  | .nil, X, sc, WX, o, ks, kw, h => by
    rw [chkKs, Bool.and_eq_true] at h
    obtain rfl := nil_of h.2
    exact s_knil
  | .cons e es, X, sc, WX, o, ks, kw, h => by
    rcases ks with _ | ⟨k, ks⟩ <;> rcases kw with _ | ⟨q, kw⟩ <;> rw [chkKs] at h <;> try (cases h; done)
    simp only [Bool.and_eq_true, decide_eq_true_eq] at h
    obtain ⟨a, v, pp⟩ := q
    exact s_kcons (soundE e o h.1.2) (soundKs es o h.2)
  | .star e es, X, sc, WX, o, ks, kw, h => by rw [chkKs] at h; cases h
theorem soundIt : ∀ (it : Lw.It) {X : Cx} {sc sc' : Scope} {WX : L2.WX} (o : Okx Z C prim ca ef F X N sc WX n) {x t : Expr} {tg : List Nat} {pat : Bool}, chkIt Z C N sc it x = true → itPat it pat = true → chkTg N sc' tg pat t = true → PI X t x (tIi X.K ca ef WX (iI C prim n it))
  | .lst e, X, sc, sc', WX, o, x, t, tg, pat, h, hp, ht => by
    rw [chkIt] at h
    exact s_it_lst (soundE e o h)
  | .tup e, X, sc, sc', WX, o, x, t, tg, pat, h, hp, ht => by
    rw [chkIt] at h
    exact s_it_tup (soundE e o h)
  | .rng e, X, sc, sc', WX, o, x, t, tg, pat, h, hp, ht => by
    rw [chkIt] at h
    cases z : asCall x with
    | none => simp only [z] at h; cases h
    | some y =>
      obtain ⟨y1, xs, ks, p⟩ := y
      obtain rfl := asCall_of z
      rcases xs with _ | ⟨u, _ | ⟨u2, xs⟩⟩ <;> simp only [z] at h <;> try (cases h; done)
      cases z2 : asName y1 with
      | none => simp only [z2] at h; cases h
      | some q =>
        obtain ⟨p2, rfl⟩ := asName_of z2
        simp only [z2, Bool.and_eq_true, decide_eq_true_eq] at h
        obtain ⟨⟨⟨⟨rfl, h2⟩, h3⟩, h4⟩, h5⟩ := h
        obtain rfl := noKw_of h3
        exact s_it_rng o (soundE e o h4) h2 h5
  | .rng2 a b, X, sc, sc', WX, o, x, t, tg, pat, h, hp, ht => by
    rw [chkIt] at h
    cases z : asCall x with
    | none => simp only [z] at h; cases h
    | some y =>
      obtain ⟨y1, xs, ks, p⟩ := y
      obtain rfl := asCall_of z
      rcases xs with _ | ⟨u, _ | ⟨u2, _ | ⟨u3, xs⟩⟩⟩ <;> simp only [z] at h <;> try (cases h; done)
      cases z2 : asName y1 with
      | none => simp only [z2] at h; cases h
      | some q =>
        obtain ⟨p2, rfl⟩ := asName_of z2
        simp only [z2, Bool.and_eq_true, decide_eq_true_eq] at h
        obtain ⟨⟨⟨⟨⟨⟨rfl, h2⟩, h3⟩, h4⟩, h5⟩, h6⟩, h7⟩ := h
        obtain rfl := noKw_of h3
        exact s_it_rng2 o (soundE a o h4) (soundE b o h6) h2 h5 h7
  | .rng3 es, X, sc, sc', WX, o, x, t, tg, pat, h, hp, ht => by
    rw [chkIt] at h
    cases z : asCall x with
    | none => simp only [z] at h; cases h
    | some y =>
      obtain ⟨y1, xs, ks, p⟩ := y
      obtain rfl := asCall_of z
      rcases xs with _ | ⟨u, _ | ⟨u2, _ | ⟨u3, _ | ⟨u4, xs⟩⟩⟩⟩ <;> simp only [z] at h <;> try (cases h; done)
      cases z2 : asName y1 with
      | none => simp only [z2] at h; cases h
      | some q =>
        obtain ⟨p2, rfl⟩ := asName_of z2
        simp only [z2, Bool.and_eq_true, decide_eq_true_eq] at h
        obtain ⟨⟨⟨⟨⟨⟨rfl, h2⟩, h3⟩, h4⟩, h5⟩, h6⟩, h7⟩ := h
        obtain rfl := noKw_of h3
        exact s_it_rng3 o (soundEs es o h4) h2 h5 h6 h7
  | .enum e, X, sc, sc', WX, o, x, t, tg, pat, h, hp, ht => by
    rw [chkIt] at h
    cases z : asCall x with
    | none => simp only [z] at h; cases h
    | some y =>
      obtain ⟨y1, xs, ks, p⟩ := y
      obtain rfl := asCall_of z
      rcases xs with _ | ⟨u, _ | ⟨u2, xs⟩⟩ <;> simp only [z] at h <;> try (cases h; done)
      cases z2 : asName y1 with
      | none => simp only [z2] at h; cases h
      | some q =>
        obtain ⟨p2, rfl⟩ := asName_of z2
        simp only [z2, Bool.and_eq_true, decide_eq_true_eq] at h
        obtain ⟨⟨⟨⟨rfl, h2⟩, h3⟩, h4⟩, h5⟩ := h
        obtain rfl := noKw_of h3
        have hp' : pat = true := hp
        subst hp'
        obtain ⟨ts, k, p3, rfl⟩ := tup_of ht
        exact s_it_enum o (soundE e o h4) h2 h5
  | .zip a b, X, sc, sc', WX, o, x, t, tg, pat, h, hp, ht => by
    rw [chkIt] at h
    cases z : asCall x with
    | none => simp only [z] at h; cases h
    | some y =>
      obtain ⟨y1, xs, ks, p⟩ := y
      obtain rfl := asCall_of z
      rcases xs with _ | ⟨u, _ | ⟨u2, _ | ⟨u3, xs⟩⟩⟩ <;> simp only [z] at h <;> try (cases h; done)
      cases z2 : asName y1 with
      | none => simp only [z2] at h; cases h
      | some q =>
        obtain ⟨p2, rfl⟩ := asName_of z2
        simp only [z2, Bool.and_eq_true, decide_eq_true_eq] at h
        obtain ⟨⟨⟨⟨⟨⟨rfl, h2⟩, h3⟩, h4⟩, h5⟩, h6⟩, h7⟩ := h
        obtain rfl := noKw_of h3
        have hp' : pat = true := hp
        subst hp'
        obtain ⟨ts, k, p3, rfl⟩ := tup_of ht
        exact s_it_zip o (soundE a o h4) (soundE b o h6) h2 h5 h7
theorem soundO : ∀ (l : O) {X : Cx} {sc : Scope} {WX : L2.WX} (o : Okx Z C prim ca ef F X N sc WX n) {x : Option Expr}, chkO Z C N sc l x = true → PO X x (tIo X.K ca ef WX (oI C prim n l))
  | .none, X, sc, WX, o, x, h => by
    rw [chkO] at h
    obtain rfl := noneE_of h
    exact s_o_none
  | .some e, X, sc, WX, o, x, h => by
    cases x with
    | none => rw [chkO] at h; cases h
    | some y => rw [chkO] at h; exact s_o_some (soundE e o h)
theorem soundV : ∀ (t : T) {X : Cx} {sc : Scope} {WX : L2.WX} (o : Okx Z C prim ca ef F X N sc WX n) {x : Expr} {p : Pos}, chkV Z C N sc t x = true → PE X (.UnaryOp .Not x p) (tI X.K ca ef WX (eI C prim n (.not t)))
  | .e e, X, sc, WX, o, x, p, h => by
    rw [chkV] at h
    exact s_not (soundE e o h)
  | .yes, X, sc, WX, o, x, p, h => by simp [chkV] at h
  | .not _, X, sc, WX, o, x, p, h => by simp [chkV] at h
  | .and _ _, X, sc, WX, o, x, p, h => by simp [chkV] at h
  | .or _ _, X, sc, WX, o, x, p, h => by simp [chkV] at h
theorem soundC : ∀ (e : E) {X : Cx} {sc : Scope} {WX : L2.WX} (o : Okx Z C prim ca ef F X N sc WX n) {x : Expr}, isCmpE e = true → chkE Z C N sc e x = true → PT X x (tIb X.K ca ef WX (tbI C prim n (.e e)))
  | .cmp op a b, X, sc, WX, o, x, _, h => by
    rw [chkE] at h
    cases z : asCmp x with
    | none => simp only [z] at h; cases h
    | some y =>
      obtain ⟨y, os, ys⟩ := y
      obtain ⟨p, rfl⟩ := asCmp_of z
      rcases os with _ | ⟨q, _ | ⟨q', os⟩⟩ <;> rcases ys with _ | ⟨y', _ | ⟨y2, ys⟩⟩ <;> simp only [z] at h <;> try (cases h; done)
      simp only [Bool.and_eq_true, decide_eq_true_eq] at h
      obtain ⟨⟨⟨rfl, h2⟩, h3⟩, h4⟩ := h
      exact s_cmpT o.units (soundE a o h2) (soundE b o h3) h4
  | .chain op op' a b dd, X, sc, WX, o, x, _, h => by
    rw [chkE] at h
    cases z : asCmp x with
    | none => simp only [z] at h; cases h
    | some y =>
      obtain ⟨y, os, ys⟩ := y
      obtain ⟨p, rfl⟩ := asCmp_of z
      rcases os with _ | ⟨q, _ | ⟨q', _ | ⟨q2, os⟩⟩⟩ <;> rcases ys with _ | ⟨y', _ | ⟨y2, _ | ⟨y3, ys⟩⟩⟩ <;> simp only [z] at h <;> try (cases h; done)
      simp only [Bool.and_eq_true, decide_eq_true_eq] at h
      obtain ⟨⟨⟨⟨⟨rfl, rfl⟩, h2⟩, h3⟩, h4⟩, h5⟩ := h
      exact s_chainT o.units (soundE a o h2) (soundE b o h3) (soundE dd o h4) h5
  | .var _, _, _, _, _, _, h, _ => nomatch h
  | .con _, _, _, _, _, _, h, _ => nomatch h
  | .glob _, _, _, _, _, _, h, _ => nomatch h
  | .tup _, _, _, _, _, _, h, _ => nomatch h
  | .lst _ _, _, _, _, _, _, h, _ => nomatch h
  | .attr _ _, _, _, _, _, _, h, _ => nomatch h
  | .bin _ _ _ _, _, _, _, _, _, h, _ => nomatch h
  | .neg _, _, _, _, _, _, h, _ => nomatch h
  | .not _, _, _, _, _, _, h, _ => nomatch h
  | .and _ _, _, _, _, _, _, h, _ => nomatch h
  | .or _ _, _, _, _, _, _, h, _ => nomatch h
  | .ife _ _ _, _, _, _, _, _, h, _ => nomatch h
  | .idx _ _, _, _, _, _, _, h, _ => nomatch h
  | .slc _ _ _ _, _, _, _, _, _, h, _ => nomatch h
  | .rev _ _, _, _, _, _, _, h, _ => nomatch h
  | .call _ _, _, _, _, _, _, h, _ => nomatch h
  | .sjoin _ _, _, _, _, _, _, h, _ => nomatch h
  | .fstr _, _, _, _, _, _, h, _ => nomatch h
  | .callD _ _ _, _, _, _, _, _, h, _ => nomatch h
  | .callK _ _ _ _, _, _, _, _, _, h, _ => nomatch h
  | .meth _ _ _, _, _, _, _, _, h, _ => nomatch h
  | .make _ _ _, _, _, _, _, _, h, _ => nomatch h
  | .makeK _ _ _ _ _ _ _, _, _, _, _, _, h, _ => nomatch h
  | .blt _ _ _, _, _, _, _, _, h, _ => nomatch h
  | .isi _ _, _, _, _, _, _, h, _ => nomatch h
  | .bm _ _ _, _, _, _, _, _, h, _ => nomatch h
  | .lc _ _ _ _ _ _, _, _, _, _, _, h, _ => nomatch h
  | .frz _, _, _, _, _, _, h, _ => nomatch h
  | .gidx _ _, _, _, _, _, _, h, _ => nomatch h
  | .lrng _ _ _, _, _, _, _, _, h, _ => nomatch h
  | .lset _, _, _, _, _, _, h, _ => nomatch h
  | .methK _ _ _ _ _, _, _, _, _, _, h, _ => nomatch h
theorem soundT : ∀ (t : T) {X : Cx} {sc : Scope} {WX : L2.WX} (o : Okx Z C prim ca ef F X N sc WX n) {x : Expr}, chkT Z C N sc t x = true → PT X x (tIb X.K ca ef WX (tbI C prim n t))
  | .yes, X, sc, WX, o, x, h => by rw [chkT] at h; cases h
  | .e e, X, sc, WX, o, x, h => by
    rw [chkT, Bool.and_eq_true, Bool.or_eq_true] at h
    obtain ⟨h1, h2⟩ := h
    have k := soundE e o h1
    rcases h2 with h2 | h2
    · exact s_tru h2 k
    · exact soundC e o h2 h1
  | .not t, X, sc, WX, o, x, h => by
    rw [chkT] at h
    cases z : asUn x with
    | none => simp only [z] at h; cases h
    | some y =>
      obtain ⟨q, y⟩ := y
      simp only [z, Bool.and_eq_true, decide_eq_true_eq] at h
      obtain ⟨p, rfl⟩ := asUn_of z
      obtain ⟨rfl, h2⟩ := h
      exact s_notT (soundT t o h2)
  | .and a b, X, sc, WX, o, x, h => by
    rw [chkT] at h
    cases z : asBool x with
    | none => simp only [z] at h; cases h
    | some y =>
      obtain ⟨q, ys, p⟩ := y
      obtain rfl := asBool_of z
      rcases ys with _ | ⟨y, _ | ⟨y', r⟩⟩
      · simp only [z] at h; cases h
      · simp only [z] at h; cases h
      · simp only [z, Bool.and_eq_true, decide_eq_true_eq] at h
        obtain ⟨⟨rfl, h2⟩, h3⟩ := h
        cases r with
        | nil =>
          rw [if_pos (by rfl)] at h3
          exact PW.pt (s_andT (soundT a o h2) (pw_and1 (soundT b o h3)))
        | cons y2 r =>
          rw [if_neg (by simp)] at h3
          exact PW.pt (s_andT (soundT a o h2) (soundW b o rfl h3))
  | .or a b, X, sc, WX, o, x, h => by
    rw [chkT] at h
    cases z : asBool x with
    | none => simp only [z] at h; cases h
    | some y =>
      obtain ⟨q, ys, p⟩ := y
      obtain rfl := asBool_of z
      rcases ys with _ | ⟨y, _ | ⟨y', r⟩⟩
      · simp only [z] at h; cases h
      · simp only [z] at h; cases h
      · simp only [z, Bool.and_eq_true, decide_eq_true_eq] at h
        obtain ⟨⟨rfl, h2⟩, h3⟩ := h
        cases r with
        | nil =>
          rw [if_pos (by rfl)] at h3
          exact PW.pt (s_orT (soundT a o h2) (pw_or1 (soundT b o h3)))
        | cons y2 r =>
          rw [if_neg (by simp)] at h3
          exact PW.pt (s_orT (soundT a o h2) (soundW b o rfl h3))
theorem soundW : ∀ (t : T) {X : Cx} {sc : Scope} {WX : L2.WX} (o : Okx Z C prim ca ef F X N sc WX n) {x : Expr}, isBoolX x = true → chkT Z C N sc t x = true → PW X x (tIb X.K ca ef WX (tbI C prim n t))
  | .yes, X, sc, WX, o, x, hx, h => by rw [chkT] at h; cases h
  | .e e, X, sc, WX, o, x, hx, h => by
    rw [chkT, Bool.and_eq_true, Bool.or_eq_true] at h
    obtain ⟨h1, h2⟩ := h
    cases x <;> simp [isBoolX] at hx
    rcases h2 with h2 | h2
    · cases h2
    · cases e <;> simp only [isCmpE] at h2 <;> try (cases h2; done)
      · rw [chkE] at h1; simp [asCmp] at h1
      · rw [chkE] at h1; simp [asCmp] at h1
  | .not t, X, sc, WX, o, x, hx, h => by
    rw [chkT] at h
    cases x <;> simp [isBoolX] at hx
    simp [asUn] at h
  | .and a b, X, sc, WX, o, x, hx, h => by
    rw [chkT] at h
    cases z : asBool x with
    | none => simp only [z] at h; cases h
    | some y =>
      obtain ⟨q, ys, p⟩ := y
      obtain rfl := asBool_of z
      rcases ys with _ | ⟨y, _ | ⟨y', r⟩⟩
      · simp only [z] at h; cases h
      · simp only [z] at h; cases h
      · simp only [z, Bool.and_eq_true, decide_eq_true_eq] at h
        obtain ⟨⟨rfl, h2⟩, h3⟩ := h
        cases r with
        | nil =>
          rw [if_pos (by rfl)] at h3
          exact id (s_andT (soundT a o h2) (pw_and1 (soundT b o h3)))
        | cons y2 r =>
          rw [if_neg (by simp)] at h3
          exact id (s_andT (soundT a o h2) (soundW b o rfl h3))
  | .or a b, X, sc, WX, o, x, hx, h => by
    rw [chkT] at h
    cases z : asBool x with
    | none => simp only [z] at h; cases h
    | some y =>
      obtain ⟨q, ys, p⟩ := y
      obtain rfl := asBool_of z
      rcases ys with _ | ⟨y, _ | ⟨y', r⟩⟩
      · simp only [z] at h; cases h
      · simp only [z] at h; cases h
      · simp only [z, Bool.and_eq_true, decide_eq_true_eq] at h
        obtain ⟨⟨rfl, h2⟩, h3⟩ := h
        cases r with
        | nil =>
          rw [if_pos (by rfl)] at h3
          exact id (s_orT (soundT a o h2) (pw_or1 (soundT b o h3)))
        | cons y2 r =>
          rw [if_neg (by simp)] at h3
          exact id (s_orT (soundT a o h2) (soundW b o rfl h3))
end
end
end Lw

set_option maxHeartbeats 2000000
namespace Lw
open PySem PySem.Spec PyProof.Rows L2

section
variable {Z : Tab} {C : Cfg} {prim : Nat → Option Prim} {ca : CA} {ef : Nat → Str} {F : FT} {N : List Str} {n : Nat} {X : Cx} {sc : Scope} {WX : L2.WX}
/-! ### targets -/
theorem asgE_cons {e : Expr} {es : List Expr} {env : PySem.Env} (h : plainE e = true) : assignEach (e :: es) env = (false, assign e env) :: assignEach es env := by
  cases e <;> simp [plainE] at h <;> rfl
theorem s_tgt (o : Okx Z C prim ca ef F X N sc WX n) (st : Sto X N sc) {t : Tg} {x : Expr} (h : chkG Z C N sc t x = true) : PG X x (tG X.K ca ef WX (gEv C prim n t)) := by
  cases t with
  | name i =>
    rw [chkG] at h
    cases z : asName x with
    | none => simp only [z] at h; cases h
    | some y =>
      simp only [z, Bool.and_eq_true, decide_eq_true_eq] at h
      obtain ⟨p, rfl⟩ := asName_of z
      refine PG.weak (pg_name st.2.1 (st.slot h.1) (st.2.2.2 _ h.2).1 (st.2.2.2 _ h.2).2) fun v σ H Q ⟨g, ρ, m, d, w, r, en, q, h⟩ => ?_
      exact h.fin (a := ρ.set i (some w)) (m' := m) (fun ω => by show evTg _ _ w (.name i) ρ m _ = _; rw [evTg] <;> rfl) (Step.refl _ _) r (en.set q)
  | attr a f =>
    rw [chkG] at h
    cases z : asAttr x with
    | none => simp only [z] at h; cases h
    | some y =>
      obtain ⟨y, f', p⟩ := y
      obtain rfl := asAttr_of z
      simp only [z, Bool.and_eq_true, decide_eq_true_eq] at h
      obtain ⟨⟨rfl, h2⟩, h3⟩ := h
      refine PG.weak (pg_attr (soundE a o h3)) fun v σ H Q ⟨g, ρ, m, d, w, r, en, q, h⟩ => ?_
      have h' := h.congr (f' := fun ω m c => (eI C prim n a ρ ω m c).bind fun x m c => match setA x w f m with
        | some m => .ok ρ m c
        | none => .no) fun ω => by show evTg _ _ w (.attr a f) ρ m _ = _; rw [evTg] <;> rfl
      refine tI_imp (tI_s (k := fun ω x m c => match setA x w f m with
        | some m => .ok ρ m c
        | none => .no) r en h') fun u H1 z => ?_
      obtain ⟨g1, m1, d1, x1, r1, s1, e1, q1, f1⟩ := z
      cases hs : setA x1 w f m1 with
      | none => exact f1.not fun ω => by show (match setA x1 w f m1 with | some m => _ | none => _) = _; rw [hs]
      | some m2 =>
        obtain ⟨b, dx, fs, k, rfl, z1, z2, z3, z4, z5, z6⟩ := setA_ok o r1 q1 (Rep.mono s1.le _ _ q) h2 hs
        exact ⟨b, ca k, dx, fs, rfl, z1, z2, z3, z4, f1.fin (a := ρ) (m' := m2) (fun ω => by show (match setA x1 w f m1 with | some m => _ | none => _) = _; rw [hs]) z6 z5 e1⟩
  | sub a i =>
    rw [chkG] at h
    cases z : asSub x with
    | none => simp only [z] at h; cases h
    | some y =>
      obtain ⟨y1, y2⟩ := y
      obtain ⟨p, rfl⟩ := asSub_of z
      simp only [z, Bool.and_eq_true] at h
      obtain ⟨⟨h1, h2⟩, h3⟩ := h
      refine PG.weak (pg_sub (soundE a o h1) (soundE i o h2) set_list (asub_of h3 X.env)) fun v σ H Q ⟨g, ρ, m, d, w, r, en, q, h⟩ => ?_
      have h' := h.congr (f' := fun ω m c => (eI C prim n a ρ ω m c).bind fun x m c => (eI C prim n i ρ ω m c).bind fun y m c => match setI x y w m with
        | some m => .ok ρ m c
        | none => .no) fun ω => by show evTg _ _ w (.sub a i) ρ m _ = _; rw [evTg] <;> rfl
      refine tI_imp (tI_s (k := fun ω x m c => (eI C prim n i ρ ω m c).bind fun y m c => match setI x y w m with
        | some m => .ok ρ m c
        | none => .no) r en h') fun u H1 z => ?_
      obtain ⟨g1, m1, d1, x1, r1, s1, e1, q1, f1⟩ := z
      refine tI_imp (tI_s (k := fun ω y m c => match setI x1 y w m with
        | some m => .ok ρ m c
        | none => .no) r1 e1 f1) fun u2 H2 z => ?_
      obtain ⟨g2, m2, d2, x2, r2, s2, e2, q2, f2⟩ := z
      cases hs : setI x1 x2 w m2 with
      | none => exact f2.not fun ω => by show (match setI x1 x2 w m2 with | some m => _ | none => _) = _; rw [hs]
      | some m3 =>
        obtain ⟨b, xs, k, j, rfl, rfl, z1, z2, z3, z4⟩ := setI_ok r2 (Rep.mono s2.le _ _ q1) q2 (Rep.mono s2.le _ _ (Rep.mono s1.le _ _ q)) hs
        exact ⟨b, xs, k, j, rfl, rfl, z1, z2, f2.fin (a := ρ) (m' := m3) (fun ω => by show (match setI x1 x2 w m2 with | some m => _ | none => _) = _; rw [hs]) z4 z3 e2⟩
theorem s_tgts (o : Okx Z C prim ca ef F X N sc WX n) (st : Sto X N sc) : ∀ {ts : List Tg} {xs : List Expr}, chkGs Z C N sc ts xs = true →
    PGs X xs (tGs X.K ca ef WX (gEvs C prim n ts)) ∧ ts.length = xs.length ∧ (assignEach xs X.env).length = xs.length ∧ (assignEach xs X.env).findIdx? (·.1) = none
  | [], [], _ => ⟨PGs.weak pgs_nil fun vs σ H Q ⟨g, ρ, m, d, ws, r, en, q, h⟩ => by
      cases ws with
      | cons w ws => exact h.not fun ω => by show evTgs _ _ [] (w :: ws) ρ m _ = _; rw [evTgs]; all_goals (intros; simp_all)
      | nil =>
        simp only [Reps] at q
        exact ⟨q, h.fin (a := ρ) (m' := m) (fun ω => by show evTgs _ _ [] [] ρ m _ = _; rw [evTgs] <;> rfl) (Step.refl _ _) r en⟩, rfl, rfl, rfl⟩
  | [], _ :: _, h => by simp [chkGs] at h
  | _ :: _, [], h => by simp [chkGs] at h
  | t :: ts, x :: xs, h => by
    simp only [chkGs, Bool.and_eq_true] at h
    obtain ⟨⟨h1, h2⟩, h3⟩ := h
    obtain ⟨k1, k2, k3, k4⟩ := s_tgts o st h3
    have e1 := asgE_cons (es := xs) (env := X.env) h2
    refine ⟨PGs.weak (pgs_cons (s_tgt o st h1) k1 (by rw [e1]; rfl)) fun vs σ H Q ⟨g, ρ, m, d, ws, r, en, q, h⟩ => ?_, by simp [k2], by rw [e1]; simp [k3], by rw [e1, List.findIdx?_cons]; simp [k4]⟩
    cases ws with
    | nil => exact h.not fun ω => by show evTgs _ _ (t :: ts) [] ρ m _ = _; rw [evTgs]; all_goals (intros; simp_all)
    | cons w ws =>
      simp only [Reps] at q
      obtain ⟨v, vr, rfl, q1, q2⟩ := q
      have h' := h.congr (f' := fun ω m c => (gEv C prim n t w ρ ω m c).bind fun ρ m c => gEvs C prim n ts ws ρ ω m c) fun ω => by show evTgs _ _ (t :: ts) (w :: ws) ρ m _ = _; rw [evTgs] <;> rfl
      refine ⟨v, vr, rfl, g, ρ, m, d, w, r, en, q1, (Fin.bind (rel := REnv X.K ca) (k := fun ω ρ m c => gEvs C prim n ts ws ρ ω m c) h').imp fun σ1 H1 g1 m1 d1 ρ1 z => ?_⟩
      obtain ⟨r1, en1, s1, e2, f1⟩ := z
      exact ⟨g1, ρ1, m1, d1, ws, r1, en1, Reps.mono s1.le _ _ q2, f1⟩
/-- a tuple or a list goes to the targets -/
def tU (K : PySem.W.Frag) (ca : CA) (ef : Nat → Str) (WX : L2.WX) (k : Nat) (f : List W → Env → Sm Env) : TG := fun v σ H Q => gTup K k (tGs K ca ef WX f) v σ H Q ∨ gLst K k (tGs K ca ef WX f) v σ H Q
theorem s_tgtU (o : Okx Z C prim ca ef F X N sc WX n) (st : Sto X N sc) {ts : List Tg} {xs : List Expr} {k : Nat} {p : Pos} (h : chkGs Z C N sc ts xs = true) : PG X (.Tuple xs k p) (tU X.K ca ef WX ts.length (gEvs C prim n ts)) := by
  obtain ⟨k1, k2, k3, k4⟩ := s_tgts o st h
  refine ⟨fun pins s σ H v u Q I r q => ?_⟩
  rcases q with q | q
  · exact (pg_tup o.calm k1 (k3.trans k2.symm) k4).run pins s σ H v u Q I r q
  · exact (pg_lst o.calm k1 (k3.trans k2.symm) k4).run pins s σ H v u Q I r q

/-! ### statements -/
abbrev sI (C : Cfg) (prim : Nat → Option Prim) (n : Nat) (s : S) : Env → Sm Fl := fun ρ ω m c => exS C (run C prim ω n) s ρ m c
abbrev ssI (C : Cfg) (prim : Nat → Option Prim) (n : Nat) (s : Ss) : Env → Sm Fl := fun ρ ω m c => exSs C (run C prim ω n) s ρ m c
theorem sw_no {e : Expr} {t : Option Expr} {l : Nat} {env : PySem.Env} (h : notComp e = true) : swapsWith e t l env = pure false := by
  cases e <;> simp [notComp] at h <;> rfl
theorem sw_tgt {t e : Expr} {l : Nat} {env : PySem.Env} (h : (asName t).isNone = true) : swapsWithSole [t] e l env = pure false := by
  cases t <;> simp [asName] at h <;> cases e <;> rfl
theorem sw_cell {e : Expr} {x : Str} {p : Pos} {l : Nat} {env : PySem.Env} (h : celB env.scope x = true) : swapsWith e (some (.Name x p)) l env = pure false := by
  have hc : env.scope.names.lookup x = some .cell := by
    unfold celB at h
    split at h
    · assumption
    · cases h
  have h2 : (env.kindOf x == some NameKind.local) = false := by
    show (env.scope.names.lookup x == some NameKind.local) = false
    rw [hc]; rfl
  cases e <;> try rfl
  all_goals
    unfold swapsWith
    simp only [h2, Bool.and_false, Bool.false_and]
    first | done | rfl
theorem s_asg (o : Okx Z C prim ca ef F X N sc WX n) (st : Sto X N sc) {i : Nat} {e : E} {x : Str} {v : Expr} {p1 p : Pos} (h1 : N[i]? = some x) (h2 : locB sc x = true) (h3 : chkE Z C N sc e v = true) (h4 : notComp v = true ∨ celB sc x = true) :
    PS X (.Assign [.Name x p1] v p) (tS X.K ca ef WX (sI C prim n (.asg i e))) := by
  refine PS.weak (ps_set st.2.1 (st.slot h1) (st.2.2.2 _ h2).1 (soundE e o h3) (h4.elim sw_no fun z => sw_cell (by rw [o.hsc]; exact z)) (st.2.2.2 _ h2).2) fun D σ H ⟨g, ρ, m, d, r, en, h⟩ => ?_
  have h' := h.congr (f' := fun ω m c => (eI C prim n e ρ ω m c).bind fun w m c => .ok (Fl.nx (ρ.set i (some w))) m c) fun ω => by show exS C _ (.asg i e) ρ m _ = _; rw [exS] <;> rfl
  refine tI_imp (tI_s (k := fun ω w m c => .ok (Fl.nx (ρ.set i (some w))) m c) r en h') fun u H1 z => ?_
  obtain ⟨g1, m1, d1, w, r1, s1, e1, q1, f1⟩ := z
  exact f1.fin (a := .nx (ρ.set i (some w))) (m' := m1) (v := .nx (σ.set i (some u))) (fun ω => rfl) (Step.refl _ _) r1 (e1.set q1)
theorem s_asgLc (o : Okx Z C prim ca ef F X N sc WX n) (st : Sto X N sc) {i : Nat} {e : E} {x : Str} {v : Expr} {p1 p : Pos} (h1 : N[i]? = some x) (h2 : lclB sc x = true) (h3 : chkE Z C N sc e v = true)
    {el : Expr} {gs : List Comprehension} {s2 : Scope} {p2 : Pos} (hv : v = .ListComp el gs s2 p2) (hl : p1.line = p2.line) (ha : (s2.names.any fun (n, k) => n == x && (k == .local || k == .cell)) = false) (he : isLcE e = true) (hk : isFnK sc = true) :
    PS X (.Assign [.Name x p1] v p) (tS X.K ca ef WX (sI C prim n (.asg i e))) := by
  subst hv
  cases e <;> simp only [isLcE] at he <;> try (cases he; done)
  rename_i cell tg pat it cond elt
  unfold chkE at h3
  simp only [asLc] at h3
  cases z2 : asGen gs with
  | none => simp only [z2] at h3; cases h3
  | some q =>
    obtain ⟨t, y, ifs⟩ := q
    obtain rfl := asGen_of z2
    simp only [z2, Bool.and_eq_true] at h3
    obtain ⟨⟨⟨⟨⟨⟨⟨c1, c2⟩, c3⟩, c4⟩, c5⟩, c6⟩, c7⟩, c8⟩ := h3
    have hkind : X.env.scope.kind = .function := by
      rw [o.hsc]
      unfold isFnK at hk
      split at hk
      · assumption
      · cases hk
    have hloc : X.env.scope.names.lookup x = some .local := by rw [o.hsc]; exact lclB_of h2
    refine PS.weak (ps_setLc (g := gI X.K tg pat) (tt := tIb X.K ca ef (fun _ _ _ _ => False) (tbI C prim n cond)) (te := tI X.K ca ef (fun _ _ _ _ => False) (eI C prim n elt)) o.calm o.ndX (st.slot h1) hloc
      (sw_true hkind hloc (by simpa using hl) ha) (soundIt it o c2 c3 c1) (own := ownOf N tg) (by have z := o.hN; have z' := o.hsc; subst z z'; exact blkOk_by c5) (fun s' H Cd cl fp => s_tg (o.sto s' H Cd cl fp) c1) (fun s' H Cd cl fp => ?_)
      (fun s' H Cd cl fp => soundE elt (o.blk s' H Cd cl fp) c8) (hs := iter_of c4 X.env)) fun D σ H ⟨g, ρ, m, d, r, en, h⟩ => ?_
    · rcases ifs with _ | ⟨q, _ | ⟨q', ifs⟩⟩
      · cases cond with
        | yes => exact pts_yes
        | _ => exact Bool.noConfusion (show false = true from c7)
      · exact pts_one (soundT cond (o.blk s' H Cd cl fp) c7)
      · cases c7
    · have h' := h.congr (f' := fun ω m c => (eI C prim n (.lc cell tg pat it cond elt) ρ ω m c).bind fun w m c => .ok (Fl.nx (ρ.set i (some w))) m c) fun ω => by show exS C _ (.asg i (.lc cell tg pat it cond elt)) ρ m _ = _; rw [exS] <;> rfl
      refine lc_read (N := N) (tI_imp (tI_s (k := fun ω w m c => .ok (Fl.nx (ρ.set i (some w))) m c) r en h') fun u H1 z => ?_)
      obtain ⟨g1, m1, d1, w, r1, s1, e1, q1, f1⟩ := z
      exact f1.fin (a := .nx (ρ.set i (some w))) (m' := m1) (v := .nx (σ.set i (some u))) (fun ω => rfl) (Step.refl _ _) r1 (e1.set q1)
theorem s_asgT (o : Okx Z C prim ca ef F X N sc WX n) (st : Sto X N sc) {t : Tg} {e : E} {x v : Expr} {p : Pos} (h1 : chkG Z C N sc t x = true) (h2 : chkE Z C N sc e v = true) (h3 : (asName x).isNone = true) :
    PS X (.Assign [x] v p) (tS X.K ca ef WX (sI C prim n (.asgT t e))) := by
  have hx : swappedStores [x] v X.env = pure none ∧ (assignEach [x] X.env).map (·.2) = [assign x X.env] := by
    cases t with
    | name i =>
      rw [chkG] at h1
      cases z : asName x with
      | none => simp only [z] at h1; cases h1
      | some y => rw [z] at h3; cases h3
    | attr a f =>
      rw [chkG] at h1
      cases z : asAttr x with
      | none => simp only [z] at h1; cases h1
      | some y =>
        obtain ⟨y, f', p⟩ := y
        obtain rfl := asAttr_of z
        exact ⟨rfl, rfl⟩
    | sub a i =>
      rw [chkG] at h1
      cases z : asSub x with
      | none => simp only [z] at h1; cases h1
      | some y =>
        obtain ⟨y1, y2⟩ := y
        obtain ⟨p, rfl⟩ := asSub_of z
        exact ⟨rfl, rfl⟩
  refine PS.weak (ps_asg (soundE e o h2) (s_tgt o st h1) (sw_tgt h3) hx.1 hx.2) fun D σ H ⟨g, ρ, m, d, r, en, h⟩ => ?_
  have h' := h.congr (f' := fun ω m c => (eI C prim n e ρ ω m c).bind fun w m c => (gEv C prim n t w ρ ω m c).bind fun ρ m c => .ok (Fl.nx ρ) m c) fun ω => by show exS C _ (.asgT t e) ρ m _ = _; rw [exS] <;> rfl
  refine tI_imp (tI_s (k := fun ω w m c => (gEv C prim n t w ρ ω m c).bind fun ρ m c => .ok (Fl.nx ρ) m c) r en h') fun u H1 z => ?_
  obtain ⟨g1, m1, d1, w, r1, s1, e1, q1, f1⟩ := z
  refine ⟨g1, ρ, m1, d1, w, r1, e1, q1, (Fin.bind (rel := REnv X.K ca) (k := fun ω ρ m c => .ok (Fl.nx ρ) m c) f1).imp fun σ2 H2 g2 m2 d2 ρ2 z => ?_⟩
  obtain ⟨r2, en2, s2, e2, f2⟩ := z
  exact f2.fin (a := .nx ρ2) (m' := m2) (v := .nx σ2) (fun ω => rfl) (Step.refl _ _) r2 en2
theorem s_unp (o : Okx Z C prim ca ef F X N sc WX n) (st : Sto X N sc) {ts : List Tg} {e : E} {xs : List Expr} {v : Expr} {k : Nat} {p1 p : Pos} (h1 : chkGs Z C N sc ts xs = true) (h2 : chkE Z C N sc e v = true) (h3 : (asTuple v).isNone = true) :
    PS X (.Assign [.Tuple xs k p1] v p) (tS X.K ca ef WX (sI C prim n (.unp ts e))) := by
  have hsw : swappedStores [.Tuple xs k p1] v X.env = pure none := by cases v <;> first | rfl | (simp [asTuple] at h3; done)
  refine PS.weak (ps_asg (soundE e o h2) (s_tgtU o st h1) (sw_tgt rfl) hsw rfl) fun D σ H ⟨g, ρ, m, d, r, en, h⟩ => ?_
  have h' := h.congr (f' := fun ω m c => (eI C prim n e ρ ω m c).bind fun w m c => match vw m w with
    | .tup ws => if ws.length = ts.length then (gEvs C prim n ts ws ρ ω m c).bind fun ρ m c => .ok (Fl.nx ρ) m c else .no
    | .lst ws => if ws.length = ts.length then (gEvs C prim n ts ws ρ ω m c).bind fun ρ m c => .ok (Fl.nx ρ) m c else .no
    | _ => .no) fun ω => by show exS C _ (.unp ts e) ρ m _ = _; rw [exS] <;> rfl
  refine tI_imp (tI_s (k := fun ω w m c => match vw m w with
    | .tup ws => if ws.length = ts.length then (gEvs C prim n ts ws ρ ω m c).bind fun ρ m c => .ok (Fl.nx ρ) m c else .no
    | .lst ws => if ws.length = ts.length then (gEvs C prim n ts ws ρ ω m c).bind fun ρ m c => .ok (Fl.nx ρ) m c else .no
    | _ => .no) r en h') fun u H1 z => ?_
  obtain ⟨g1, m1, d1, w, r1, s1, e1, q1, f1⟩ := z
  obtain ⟨hl, ht, _, _⟩ := Rep.view r1 q1
  have fin : ∀ (ws : List W) (vs : List V), Reps X.K ca g1 ws vs → Fin X.K ca ef (FlRel X.K ca) (wxS WX) (fun ω m c => if ws.length = ts.length then (gEvs C prim n ts ws ρ ω m c).bind fun ρ m c => .ok (Fl.nx ρ) m c else .no) g1 m1 d1 H1 (fun o H' _ _ _ _ => o.q D H') →
      vs.length = ts.length ∧ tGs X.K ca ef WX (gEvs C prim n ts) vs σ H1 D.nx := fun ws vs qs f => by
    by_cases e : ws.length = ts.length
    · have f' := f.congr (f' := fun ω m c => (gEvs C prim n ts ws ρ ω m c).bind fun ρ m c => .ok (Fl.nx ρ) m c) fun ω => if_pos e
      refine ⟨(Reps.length qs).trans e, g1, ρ, m1, d1, ws, r1, e1, qs, (Fin.bind (rel := REnv X.K ca) (k := fun ω ρ m c => .ok (Fl.nx ρ) m c) f').imp fun σ2 H2 g2 m2 d2 ρ2 z => ?_⟩
      obtain ⟨r2, en2, s2, e2, f2⟩ := z
      exact f2.fin (a := .nx ρ2) (m' := m2) (v := .nx σ2) (fun ω => rfl) (Step.refl _ _) r2 en2
    · exact f.not fun ω => if_neg e
  cases hv : vw m1 w with
  | tup ws =>
    obtain ⟨a, vs, rfl, ha1, ra1⟩ := ht ws hv
    obtain ⟨k1, k2⟩ := fin ws vs ra1 (f1.congr fun ω => by show (match vw m1 w with | .tup ws => _ | .lst ws => _ | _ => _) = _; rw [hv])
    exact .inl ⟨a, vs, rfl, ha1, k1, k2⟩
  | lst ws =>
    obtain ⟨a, vs, rfl, ha1, ra1⟩ := hl ws hv
    obtain ⟨k1, k2⟩ := fin ws vs ra1 (f1.congr fun ω => by show (match vw m1 w with | .tup ws => _ | .lst ws => _ | _ => _) = _; rw [hv])
    exact .inr ⟨a, vs, rfl, SqL.of ha1, k1, k2⟩
  | _ => exact f1.not fun ω => by show (match vw m1 w with | .tup ws => _ | .lst ws => _ | _ => _) = _; rw [hv]
/-! parallel assignment -/
theorem sw_is {ts vs : List Expr} {k k2 : Nat} {p p2 : Pos} {env : PySem.Env} {r : Option (List Str)} (hs : env.scope = sc) (hk : isFnK sc = true) (h : swOpt sc ts vs = some r) : swappedStores [.Tuple ts k p] (.Tuple vs k2 p2) env = pure r := by
  have hb : env.blockKind = .function := by
    unfold isFnK at hk
    unfold Env.blockKind
    rw [hs]
    split at hk
    · rename_i e; rw [e]; rfl
    · cases hk
  have key : swappedStores [.Tuple ts k p] (.Tuple vs k2 p2) env = (if (!(ts.length == 2 || ts.length == 3) || vs.length != ts.length || env.blockKind != .function) = true then pure none else
      if (vs.any isStarX) = true then pure none else
      if ((swNames env.scope ts).length != ts.length || (swNames env.scope ts).eraseDups.length != (swNames env.scope ts).length) = true then pure none else
      if (vs.all (foldedForSure 8)) = true then pure none else
      if (vs.all (constantsAlone 8)) = true then (do unsupported "assign.tuple-of-constant-expressions:order-of-the-stores"; pure (some (swNames env.scope ts))) else pure (some (swNames env.scope ts))) := by
    rfl
  rw [key, hb, hs]
  unfold swOpt at h
  by_cases c1 : (!(ts.length == 2 || ts.length == 3) || vs.length != ts.length) = true
  · rw [if_pos c1] at h
    cases h
    rw [if_pos (by rw [c1]; rfl)]
  · rw [if_neg c1] at h
    rw [if_neg (by rw [Bool.not_eq_true] at c1; rw [c1]; decide)]
    by_cases c2 : (vs.any isStarX) = true
    · rw [if_pos c2] at h ⊢
      cases h; rfl
    · rw [if_neg c2] at h ⊢
      by_cases c3 : ((swNames sc ts).length != ts.length || (swNames sc ts).eraseDups.length != (swNames sc ts).length) = true
      · rw [if_pos c3] at h ⊢
        cases h; rfl
      · rw [if_neg c3] at h ⊢
        by_cases c4 : (vs.all (foldedForSure 8)) = true
        · rw [if_pos c4] at h ⊢
          cases h; rfl
        · rw [if_neg c4] at h ⊢
          by_cases c5 : (vs.all (constantsAlone 8)) = true
          · rw [if_pos c5] at h
            cases h
          · rw [if_neg c5] at h ⊢
            cases h; rfl
end
end Lw

set_option maxHeartbeats 2000000
namespace Lw
open PySem PySem.Spec PyProof.Rows L2

section
variable {Z : Tab} {C : Cfg} {prim : Nat → Option Prim} {ca : CA} {ef : Nat → Str} {F : FT} {N : List Str} {n : Nat} {X : Cx} {sc : Scope} {WX : L2.WX}
theorem par_h {ts : List Tg} {es : Es} {ρ : Env} {m : Mem} {g : G} {d : List Nat} {H : Hp} {D : Ends} (h : Fin X.K ca ef (FlRel X.K ca) (wxS WX) (sI C prim n (.par ts es) ρ) g m d H (fun o H' _ _ _ _ => o.q D H')) :
    Fin X.K ca ef (FlRel X.K ca) (wxS WX) (fun ω m c => (esI C prim n es ρ ω m c).bind fun ws m c => if ws.length = ts.length then (gEvs C prim n ts ws ρ ω m c).bind fun ρ m c => .ok (Fl.nx ρ) m c else .no) g m d H (fun o H' _ _ _ _ => o.q D H') :=
  h.congr fun ω => by show exS C _ (.par ts es) ρ m _ = _; rw [exS] <;> rfl
theorem s_par (o : Okx Z C prim ca ef F X N sc WX n) (st : Sto X N sc) {ts : List Tg} {es : Es} {xs vs : List Expr} {k k2 : Nat} {p p1 p2 : Pos} (h1 : chkGs Z C N sc ts xs = true) (h2 : chkEs Z C N sc es vs = true) (hl : xs.length < 20) (hk : isFnK sc = true)
    (hs : swOpt sc xs vs = some none) : PS X (.Assign [.Tuple xs k p1] (.Tuple vs k2 p2) p) (tS X.K ca ef WX (sI C prim n (.par ts es))) := by
  obtain ⟨t1, t2, t3, t4⟩ := s_tgts o st h1
  refine PS.weak (ps_asg (pe_tup (soundEs es o h2)) (pg_tup o.calm t1 (t3.trans t2.symm) t4) (sw_tgt rfl) (sw_is o.hsc hk hs) rfl) fun D σ H ⟨g, ρ, m, d, r, en, h⟩ => ?_
  refine tIs_imp (tIs_s (k := fun ω ws m c => if ws.length = ts.length then (gEvs C prim n ts ws ρ ω m c).bind fun ρ m c => .ok (Fl.nx ρ) m c else .no) r en (par_h h)) fun us H1 z => ?_
  obtain ⟨g1, m1, d1, ws, r1, s1, e1, q1, f1⟩ := z
  by_cases e : ws.length = ts.length
  · have hlen := Reps.length q1
    refine ⟨by rw [hlen, e, t2, sizeLine_eq]; omega, fun b nb => ?_⟩
    have f1' := (f1.congr (f' := fun ω m c => (gEvs C prim n ts ws ρ ω m c).bind fun ρ m c => .ok (Fl.nx ρ) m c) fun ω => if_pos e).step (step_lay (o := .tup us) r1 nb) (Ext.refl _) fun _ _ => rfl
    refine ⟨b, us, rfl, .inl (.inl upd_same), hlen.trans e, g1, ρ, m1, d1, ws, rel_lay r1 nb, e1, q1, (Fin.bind (rel := REnv X.K ca) (k := fun ω ρ m c => .ok (Fl.nx ρ) m c) f1').imp fun σ2 H2 g2 m2 d2 ρ2 z => ?_⟩
    obtain ⟨r2, en2, s2, e2, f2⟩ := z
    exact f2.fin (a := .nx ρ2) (m' := m2) (v := .nx σ2) (fun ω => rfl) (Step.refl _ _) r2 en2
  · exact f1.not fun ω => if_neg e
theorem s_par2 (o : Okx Z C prim ca ef F X N sc WX n) {i j : Nat} {x y : Str} {es : Es} {a b : Expr} {k k2 : Nat} {p p1 p2 px py : Pos} (h2 : chkEs Z C N sc es [a, b] = true) (hk : isFnK sc = true) (hx : lclB sc x = true) (hy : lclB sc y = true) (hi : N[i]? = some x) (hj : N[j]? = some y) (hij : i ≠ j)
    (hs : swOpt sc [.Name x px, .Name y py] [a, b] = some (some [x, y])) : PS X (.Assign [.Tuple [.Name x px, .Name y py] k p1] (.Tuple [a, b] k2 p2) p) (tS X.K ca ef WX (sI C prim n (.par [.name i, .name j] es))) := by
  refine PS.weak (ps_par o.calm o.ndX (o.slot hi) (o.slot hj) hij (by rw [o.hsc]; exact lclB_of hx) (by rw [o.hsc]; exact lclB_of hy) (soundEs es o h2) (sw_is o.hsc hk hs) (sw_tgt rfl)) fun D σ H ⟨g, ρ, m, d, r, en, h⟩ => ?_
  refine tIs_imp (tIs_s (k := fun ω ws m c => if ws.length = 2 then (gEvs C prim n [.name i, .name j] ws ρ ω m c).bind fun ρ m c => .ok (Fl.nx ρ) m c else .no) r en (par_h h)) fun us H1 z => ?_
  obtain ⟨g1, m1, d1, ws, r1, s1, e1, q1, f1⟩ := z
  rcases ws with _ | ⟨w, _ | ⟨w', _ | ⟨w2, ws⟩⟩⟩
  · exact f1.not fun ω => if_neg (by simp)
  · exact f1.not fun ω => if_neg (by simp)
  rotate_left
  · exact f1.not fun ω => if_neg (by simp)
  simp only [Reps] at q1
  obtain ⟨v, _, rfl, q1, v', _, rfl, q2, rfl⟩ := q1
  exact ⟨v, v', rfl, f1.fin (a := .nx ((ρ.set i (some w)).set j (some w'))) (m' := m1) (v := .nx ((σ.set i (some v)).set j (some v'))) (fun ω => by
    rw [if_pos (by rfl)]
    show (evTgs _ _ _ _ _ _ _).bind _ = _
    simp [evTgs, evTg, R.bind_ok]) (Step.refl _ _) r1 ((e1.set q1).set q2)⟩
theorem s_par3 (o : Okx Z C prim ca ef F X N sc WX n) {i j l : Nat} {x y z : Str} {es : Es} {a b c : Expr} {k k2 : Nat} {p p1 p2 px py pz : Pos} (h2 : chkEs Z C N sc es [a, b, c] = true) (hk : isFnK sc = true) (hx : lclB sc x = true) (hy : lclB sc y = true) (hz : lclB sc z = true)
    (hi : N[i]? = some x) (hj : N[j]? = some y) (hl : N[l]? = some z) (hij : i ≠ j) (hil : i ≠ l) (hjl : j ≠ l)
    (hs : swOpt sc [.Name x px, .Name y py, .Name z pz] [a, b, c] = some (some [x, y, z])) : PS X (.Assign [.Tuple [.Name x px, .Name y py, .Name z pz] k p1] (.Tuple [a, b, c] k2 p2) p) (tS X.K ca ef WX (sI C prim n (.par [.name i, .name j, .name l] es))) := by
  refine PS.weak (ps_par3 o.calm o.ndX (o.slot hi) (o.slot hj) (o.slot hl) hij hil hjl (by rw [o.hsc]; exact lclB_of hx) (by rw [o.hsc]; exact lclB_of hy) (by rw [o.hsc]; exact lclB_of hz) (soundEs es o h2) (sw_is o.hsc hk hs) (sw_tgt rfl)) fun D σ H ⟨g, ρ, m, d, r, en, h⟩ => ?_
  refine tIs_imp (tIs_s (k := fun ω ws m c => if ws.length = 3 then (gEvs C prim n [.name i, .name j, .name l] ws ρ ω m c).bind fun ρ m c => .ok (Fl.nx ρ) m c else .no) r en (par_h h)) fun us H1 z => ?_
  obtain ⟨g1, m1, d1, ws, r1, s1, e1, q1, f1⟩ := z
  rcases ws with _ | ⟨w, _ | ⟨w', _ | ⟨w2, _ | ⟨w3, ws⟩⟩⟩⟩
  · exact f1.not fun ω => if_neg (by simp)
  · exact f1.not fun ω => if_neg (by simp)
  · exact f1.not fun ω => if_neg (by simp)
  rotate_left
  · exact f1.not fun ω => if_neg (by simp)
  simp only [Reps] at q1
  obtain ⟨v, _, rfl, q1, v', _, rfl, q2, v2, _, rfl, q3, rfl⟩ := q1
  exact ⟨v, v', v2, rfl, f1.fin (a := .nx (((ρ.set i (some w)).set j (some w')).set l (some w2))) (m' := m1) (v := .nx (((σ.set i (some v)).set j (some v')).set l (some v2))) (fun ω => by
    rw [if_pos (by rfl)]
    show (evTgs _ _ _ _ _ _ _).bind _ = _
    simp [evTgs, evTg, R.bind_ok]) (Step.refl _ _) r1 (((e1.set q1).set q2).set q3)⟩

/-! ### op= -/
def augI (op : BOp) (i j : Int) : Int := match op with | .sub => i - j | _ => i + j
theorem aug_bin {op : BOp} {q : Operator} (h : chkAug op q = true) (i j : Int) (m : Mem) (c : Nat) : binW false op (.int i) (.int j) m c = .ok (.int (augI op i j)) m c := by
  cases op <;> cases q <;> simp [chkAug] at h <;> rfl
theorem aug_ip {op : BOp} {q : Operator} (h : chkAug op q = true) : PIp X q (ipI (augI op)) := by
  cases op <;> cases q <;> simp [chkAug] at h
  · exact ip_add
  · exact ip_sub
theorem aug_in {op : BOp} {q : Operator} (h : chkAug op q = true) : InOp X q (fun x y H Q => ∃ i j, x = .int i ∧ y = .int j ∧ Q (.int (augI op i j)) H) := by
  cases op <;> cases q <;> simp [chkAug] at h
  · exact in_add
  · exact in_sub
theorem s_aug (o : Okx Z C prim ca ef F X N sc WX n) (st : Sto X N sc) {i : Nat} {op : BOp} {q : Operator} {e : E} {x : Str} {v : Expr} {p1 p : Pos} (h1 : N[i]? = some x) (h2 : locB sc x = true) (h3 : chkE Z C N sc e v = true) (h4 : chkAug op q = true) :
    PS X (.AugAssign (.Name x p1) q v p) (tS X.K ca ef WX (sI C prim n (.aug i op e))) := by
  refine PS.weak (ps_aug st.2.1 (st.slot h1) (st.2.2.2 _ h2).1 (soundE e o h3) (aug_ip h4) (st.2.2.2 _ h2).2) fun D σ H ⟨g, ρ, m, d, r, en, h⟩ => ?_
  have h' := h.congr (f' := fun ω m c => (evE C (run C prim ω n) (.var i) ρ m c).bind fun x m c => (eI C prim n e ρ ω m c).bind fun y m c => match x, y with
    | .int _, .int _ => (binW false op x y m c).bind fun w m c => .ok (Fl.nx (ρ.set i (some w))) m c
    | _, _ => .no) fun ω => by show exS C _ (.aug i op e) ρ m _ = _; rw [exS] <;> rfl
  cases q0 : ρ[i]? with
  | none => exact h'.not fun ω => by simp [evE, q0, R.bind_no]
  | some u => cases u with
    | none => exact h'.not fun ω => by simp [evE, q0, R.bind_no]
    | some w =>
      obtain ⟨v0, e0, rp⟩ := en.2 i w q0
      have h2' := h'.congr (f' := fun ω m c => (eI C prim n e ρ ω m c).bind fun y m c => match w, y with
        | .int _, .int _ => (binW false op w y m c).bind fun w m c => .ok (Fl.nx (ρ.set i (some w))) m c
        | _, _ => .no) fun ω => by simp [evE, q0, R.bind_ok]
      refine ⟨v0, e0, tI_imp (tI_s (k := fun ω y m c => match w, y with
        | .int _, .int _ => (binW false op w y m c).bind fun w m c => .ok (Fl.nx (ρ.set i (some w))) m c
        | _, _ => .no) r en h2') fun u H1 z => ?_⟩
      obtain ⟨g1, m1, d1, y, r1, s1, e1, q1, f1⟩ := z
      cases w <;> cases y <;> try (exact f1.not fun ω => rfl)
      rename_i a b
      simp only [Rep] at rp q1
      subst rp q1
      exact ⟨a, b, rfl, rfl, f1.fin (a := .nx (ρ.set i (some (.int (augI op a b))))) (m' := m1) (v := .nx (σ.set i (some (.int (augI op a b))))) (fun ω => by
        show (binW false op (.int a) (.int b) m1 _).bind _ = _
        rw [aug_bin h4]; rfl) (Step.refl _ _) r1 (e1.set (by simp only [Rep]))⟩
theorem s_augA (o : Okx Z C prim ca ef F X N sc WX n) {oe : E} {f : Str} {op : BOp} {q : Operator} {e : E} {x v : Expr} {p1 p : Pos} (h1 : chkE Z C N sc oe x = true) (h2 : Z.flds.contains f = true) (h3 : chkInt e v = true) (h4 : chkAug op q = true) :
    PS X (.AugAssign (.Attribute x f p1) q v p) (tS X.K ca ef WX (sI C prim n (.augA oe f op e))) := by
  obtain ⟨c0, kk, pp, rfl, rfl⟩ : ∃ (c0 : Int) (kk : Nat) (pp : Pos), e = .con (.int c0) ∧ v = .Constant (.int c0) kk pp := by
    unfold chkInt at h3
    split at h3
    · cases z : asConst v with
      | none => simp only [z] at h3; cases h3
      | some c =>
        obtain ⟨k, p, rfl⟩ := asConst_of z
        cases c <;> simp only [z] at h3 <;> try (cases h3; done)
        simp only [beq_iff_eq] at h3
        subst h3
        exact ⟨_, _, _, rfl, rfl⟩
    · cases h3
  refine PS.weak (ps_fldaug (soundE oe o h1) pe_int (aug_in h4)) fun D σ H ⟨g, ρ, m, d, r, en, h⟩ => ?_
  have h' := h.congr (f' := fun ω m c => (eI C prim n oe ρ ω m c).bind fun x m c => match vw m x with
    | .obj _ ks vs => match fieldOf f ks vs with
      | some v => match v with
        | .int a => match setA x (.int (augI op a c0)) f m with
          | some m => .ok (Fl.nx ρ) m c
          | none => .no
        | _ => .no
      | none => .no
    | _ => .no) fun ω => by
      show exS C _ (.augA oe f op (.con (.int c0))) ρ m _ = _
      rw [exS]
      congr 1
      funext x m c
      cases vw m x <;> try rfl
      rename_i k ks vs
      simp only
      cases fieldOf f ks vs with
      | none => rfl
      | some w =>
        simp only [evE, Lit.w, R.bind_ok]
        cases w <;> try rfl
        simp only [aug_bin h4, R.bind_ok]
        all_goals rfl
  refine tI_imp (tI_s (k := fun ω x m c => match vw m x with
    | .obj _ ks vs => match fieldOf f ks vs with
      | some v => match v with
        | .int a => match setA x (.int (augI op a c0)) f m with
          | some m => .ok (Fl.nx ρ) m c
          | none => .no
        | _ => .no
      | none => .no
    | _ => .no) r en h') fun u H1 z => ?_
  obtain ⟨g1, m1, d1, y, r1, s1, e1, q1, f1⟩ := z
  cases hv : vw m1 y with
  | obj k ks vs =>
    have f2 := f1.congr (f' := fun ω m c => match fieldOf f ks vs with
      | some v => match v with
        | .int a => match setA y (.int (augI op a c0)) f m with
          | some m => .ok (Fl.nx ρ) m c
          | none => .no
        | _ => .no
      | none => .no) fun ω => by show (match vw m1 y with | .obj _ ks vs => _ | _ => _) = _; rw [hv]
    cases hf : fieldOf f ks vs with
    | none => exact f2.not fun ω => by show (match fieldOf f ks vs with | some v => _ | none => _) = _; rw [hf]
    | some w =>
      have f3 := f2.congr (f' := fun ω m c => match w with
        | .int a => match setA y (.int (augI op a c0)) f m with
          | some m => .ok (Fl.nx ρ) m c
          | none => .no
        | _ => .no) fun ω => by show (match fieldOf f ks vs with | some v => _ | none => _) = _; rw [hf]
      cases w <;> try (exact f3.not fun ω => rfl)
      rename_i a
      cases hs : setA y (.int (augI op a c0)) f m1 with
      | none => exact f3.not fun ω => by show (match setA y (.int (augI op a c0)) f m1 with | some m => _ | none => _) = _; rw [hs]
      | some m2 =>
        obtain ⟨b, dx, fs, k', rfl, z1, z2, z3, z4, z5, z6⟩ := setA_ok o r1 q1 (y := .int (augI op a c0)) (by simp only [Rep]) h2 hs
        have look : fs.lookup f = some (.int a) := by
          obtain ⟨_, _, ho, _⟩ := Rep.view r1 q1
          obtain ⟨a', dx', vs', ea, eb, hn, hq⟩ := ho k ks vs hv
          cases ea
          rw [z1] at eb
          simp only [Option.some.injEq, HO.ins.injEq] at eb
          obtain ⟨_, _, eb⟩ := eb
          subst eb
          obtain ⟨v', l1, l2⟩ := field_look hn.1 hq hf
          simp only [Rep] at l2
          rw [l1, l2]
        exact ⟨b, ca k', dx, fs, .int a, rfl, z1, z2, z3, look, a, c0, rfl, rfl, dx, fs, z1, z4, f3.fin (a := .nx ρ) (m' := m2) (v := .nx σ) (fun ω => by show (match setA y (.int (augI op a c0)) f m1 with | some m => _ | none => _) = _; rw [hs]) z6 z5 e1⟩
  | _ => exact f1.not fun ω => by show (match vw m1 y with | .obj _ ks vs => _ | _ => _) = _; rw [hv]
/-! ### plain ones -/
theorem s_ex (o : Okx Z C prim ca ef F X N sc WX n) {e : E} {v : Expr} {p : Pos} (h3 : chkE Z C N sc e v = true) (h4 : notComp v = true) : PS X (.Expr v p) (tS X.K ca ef WX (sI C prim n (.ex e))) := by
  refine PS.weak (ps_expr (soundE e o h3) (sw_no h4)) fun D σ H ⟨g, ρ, m, d, r, en, h⟩ => ?_
  have h' := h.congr (f' := fun ω m c => (eI C prim n e ρ ω m c).bind fun _ m c => .ok (Fl.nx ρ) m c) fun ω => by show exS C _ (.ex e) ρ m _ = _; rw [exS] <;> rfl
  refine tI_imp (tI_s (k := fun ω _ m c => .ok (Fl.nx ρ) m c) r en h') fun u H1 z => ?_
  obtain ⟨g1, m1, d1, w, r1, s1, e1, q1, f1⟩ := z
  exact f1.fin (a := .nx ρ) (m' := m1) (v := .nx σ) (fun ω => rfl) (Step.refl _ _) r1 e1
theorem s_ret (o : Okx Z C prim ca ef F X N sc WX n) {e : E} {v : Expr} {p : Pos} (h3 : chkE Z C N sc e v = true) : PS X (.Return (some v) p) (tS X.K ca ef WX (sI C prim n (.ret e))) := by
  refine PS.weak (ps_ret (soundE e o h3)) fun D σ H ⟨g, ρ, m, d, r, en, h⟩ => ?_
  have h' := h.congr (f' := fun ω m c => (eI C prim n e ρ ω m c).bind fun w m c => .ok (Fl.rt w) m c) fun ω => by show exS C _ (.ret e) ρ m _ = _; rw [exS] <;> rfl
  refine tI_imp (tI_s (k := fun ω w m c => .ok (Fl.rt w) m c) r en h') fun u H1 z => ?_
  obtain ⟨g1, m1, d1, w, r1, s1, e1, q1, f1⟩ := z
  exact f1.fin (a := .rt w) (m' := m1) (v := .rt u) (fun ω => rfl) (Step.refl _ _) r1 q1
theorem s_retN {p : Pos} : PS X (.Return none p) (tS X.K ca ef WX (sI C prim n .retN)) :=
  PS.weak ps_retN fun D σ H ⟨g, ρ, m, d, r, en, h⟩ => h.fin (a := .rt .non) (m' := m) (v := .rt .non) (fun ω => by show exS C _ .retN ρ m _ = _; rw [exS] <;> rfl) (Step.refl _ _) r (by show Rep _ _ _ _ _; simp only [Rep])
theorem s_pass {p : Pos} : PS X (.Pass p) (tS X.K ca ef WX (sI C prim n .pass)) :=
  PS.weak ps_pass fun D σ H ⟨g, ρ, m, d, r, en, h⟩ => h.fin (a := .nx ρ) (m' := m) (v := .nx σ) (fun ω => by show exS C _ .pass ρ m _ = _; rw [exS] <;> rfl) (Step.refl _ _) r en
theorem s_brk {p : Pos} : PS X (.Break p) (tS X.K ca ef WX (sI C prim n .brk)) :=
  PS.weak ps_break fun D σ H ⟨g, ρ, m, d, r, en, h⟩ => h.fin (a := .bk ρ) (m' := m) (v := .bk σ) (fun ω => by show exS C _ .brk ρ m _ = _; rw [exS] <;> rfl) (Step.refl _ _) r en
theorem s_cont {p : Pos} : PS X (.Continue p) (tS X.K ca ef WX (sI C prim n .cont)) :=
  PS.weak ps_continue fun D σ H ⟨g, ρ, m, d, r, en, h⟩ => h.fin (a := .ct ρ) (m' := m) (v := .ct σ) (fun ω => by show exS C _ .cont ρ m _ = _; rw [exS] <;> rfl) (Step.refl _ _) r en
theorem s_never {x : Stmt} : PS X x (tS X.K ca ef WX (sI C prim n .never)) :=
  PS.weak ps_never fun D σ H ⟨g, ρ, m, d, r, en, h⟩ => h.not fun ω => by show exS C _ .never ρ m _ = _; rw [exS] <;> rfl
theorem s_ifeS {t : T} {a b : Ss} {c : Expr} {as bs : List Stmt} {p : Pos} (ht : PT X c (tIb X.K ca ef WX (tbI C prim n t))) (ha : PSs X as (tS X.K ca ef WX (ssI C prim n a))) (hb : PSs X bs (tS X.K ca ef WX (ssI C prim n b))) :
    PS X (.If c as bs p) (tS X.K ca ef WX (sI C prim n (.ife t a b))) := by
  refine PS.weak (ps_if ht ha hb) fun D σ H ⟨g, ρ, m, d, r, en, h⟩ => ?_
  have h' := h.congr (f' := fun ω m c => (tbI C prim n t ρ ω m c).bind fun k m c => if k then ssI C prim n a ρ ω m c else ssI C prim n b ρ ω m c) fun ω => by show exS C _ (.ife t a b) ρ m _ = _; rw [exS] <;> rfl
  refine tIb_imp (tIb_s (k := fun ω k m c => if k then ssI C prim n a ρ ω m c else ssI C prim n b ρ ω m c) r en h') fun k H1 z => ?_
  obtain ⟨g1, m1, d1, r1, s1, e1, f1⟩ := z
  cases k with
  | true => rw [if_pos rfl]; exact ⟨g1, ρ, m1, d1, r1, e1, f1.congr fun ω => rfl⟩
  | false => rw [if_neg (by decide)]; exact ⟨g1, ρ, m1, d1, r1, e1, f1.congr fun ω => rfl⟩
theorem ss_nil : PSs X [] (tS X.K ca ef WX (ssI C prim n .nil)) := by
  refine PSs.weak pss_nil fun D σ H ⟨g, ρ, m, d, r, en, h⟩ => ?_
  exact h.fin (a := .nx ρ) (m' := m) (v := .nx σ) (fun ω => by show exSs C _ .nil ρ m _ = _; rw [exSs] <;> rfl) (Step.refl _ _) r en
theorem ss_cons {s : S} {rest : Ss} {x : Stmt} {xs : List Stmt} (ha : PS X x (tS X.K ca ef WX (sI C prim n s))) (hb : PSs X xs (tS X.K ca ef WX (ssI C prim n rest))) : PSs X (x :: xs) (tS X.K ca ef WX (ssI C prim n (.cons s rest))) := by
  refine PSs.weak (pss_cons ha hb) fun D σ H ⟨g, ρ, m, d, r, en, h⟩ => ?_
  have h' := h.congr (f' := fun ω m c => (sI C prim n s ρ ω m c).bind fun f m c => match f with
    | .nx ρ => ssI C prim n rest ρ ω m c
    | f => .ok f m c) fun ω => by show exSs C _ (.cons s rest) ρ m _ = _; rw [exSs] <;> rfl
  refine ⟨g, ρ, m, d, r, en, (Fin.bind (rel := FlRel X.K ca) (k := fun ω f m c => match f with
    | .nx ρ => ssI C prim n rest ρ ω m c
    | f => .ok f m c) h').imp fun u H1 g1 m1 d1 f z => ?_⟩
  obtain ⟨r1, q1, s1, e1, f1⟩ := z
  cases f <;> cases u <;> try (exact (show False from q1).elim)
  · exact ⟨g1, _, m1, d1, r1, q1, f1.congr fun ω => rfl⟩
  · exact f1.fin (a := .rt _) (m' := m1) (v := .rt _) (fun ω => rfl) (Step.refl _ _) r1 q1
  · exact f1.fin (a := .bk _) (m' := m1) (v := .bk _) (fun ω => rfl) (Step.refl _ _) r1 q1
  · exact f1.fin (a := .ct _) (m' := m1) (v := .ct _) (fun ω => rfl) (Step.refl _ _) r1 q1

/-- the cells of a variable are frozen between two statements -/
theorem ss_frz {i : Nat} {rest : Ss} {xs : List Stmt} (hb : PSs X xs (tS X.K ca ef WX (ssI C prim n rest))) : PSs X xs (tS X.K ca ef WX (ssI C prim n (.frz i rest))) := by
  refine PSs.weak hb fun D σ H ⟨g, ρ, m, d, r, en, h⟩ => ?_
  cases q0 : ρ[i]? with
  | none => exact h.not fun ω => by show exSs C _ (.frz i rest) ρ m _ = _; rw [exSs]; simp only [q0]
  | some u => cases u with
    | none => exact h.not fun ω => by show exSs C _ (.frz i rest) ρ m _ = _; rw [exSs]; simp only [q0]
    | some w =>
      cases hf : frz 12 w m with
      | none => exact h.not fun ω => by show exSs C _ (.frz i rest) ρ m _ = _; rw [exSs]; simp only [q0, hf]
      | some y =>
        obtain ⟨w2, m2⟩ := y
        obtain ⟨v0, e0, rp⟩ := en.2 i w q0
        obtain ⟨g2, fo, q2⟩ := frz_ok 12 w m w2 m2 g v0 hf r rp
        have en2 := (en.mono fo.le).set (i := i) q2
        have es : σ.set i (some v0) = σ := by
          apply List.ext_getElem?
          intro j
          by_cases hj : j = i
          · subst hj
            rw [List.getElem?_set_self (List.getElem?_eq_some_iff.mp e0).1, e0]
          · rw [List.getElem?_set_ne (Ne.symm hj)]
        rw [es] at en2
        exact ⟨g2, ρ.set i (some w2), m2, d, fo.rel, en2, Fin.step fo.step (Ext.refl _) (fun ω _ => by show exSs C _ (.frz i rest) ρ m _ = _; rw [exSs]; simp only [q0, hf]) h⟩
/-! ### loops -/
theorem s_for (o : Okx Z C prim ca ef F X N sc WX n) (st : Sto X N sc) (hp : PassesOwn (model X.prog X.w) X.A X.env X.xe) {tg : List Nat} {pat : Bool} {it : Lw.It} {body : Ss} {t i : Expr} {b : List Stmt} {p : Pos} (h1 : chkTg N sc tg pat t = true)
    (hi : PI X t i (tIi X.K ca ef WX (iI C prim n it))) (hpl : plainE i = true) (hb : PSs X b (tS X.K ca ef WX (ssI C prim n body))) : PS X (.For t i b [] p) (tS X.K ca ef WX (sI C prim n (.for tg pat it body))) := by
  refine PS.weak (ps_for hp o.calm hi (s_tg st h1) hb (iter_of hpl X.env)) fun D σ H ⟨g, ρ, m, d, r, en, h⟩ => ?_
  have h' := h.congr (f' := fun ω m c => (iI C prim n it ρ ω m c).bind fun v m c => forGo v.gd (fun w ρ => bindTg tg pat w ρ) (fun ρ m c => ssI C prim n body ρ ω m c) v.ws ρ m c) fun ω => by
    show exS C _ (.for tg pat it body) ρ m _ = _; rw [exS] <;> rfl
  refine ⟨g, ρ, m, d, r, en, ((Fin.bind (rel := RIt X.K ca) (k := fun ω v m c => forGo v.gd (fun w ρ => bindTg tg pat w ρ) (fun ρ m c => ssI C prim n body ρ ω m c) v.ws ρ m c) h').wx wx_of).imp fun J H1 g1 m1 d1 it0 z => ?_⟩
  obtain ⟨r1, wk, s1, e1, f1⟩ := z
  refine for_it wk (fun i σ2 H2 => ∃ (g2 : G) (m2 : Mem) (d2 : List Nat) (ρ2 : Env), RelM X.K ca g2 m2 d2.length H2 ∧ REnv X.K ca g2 ρ2 σ2 ∧ Le g1 g2 ∧
    Fin X.K ca ef (FlRel X.K ca) (wxS WX) (fun ω m c => forGo it0.gd (fun w ρ => bindTg tg pat w ρ) (fun ρ m c => ssI C prim n body ρ ω m c) (it0.ws.drop i) ρ2 m c) g2 m2 d2 H2 (fun o H' _ _ _ _ => o.q D H'))
    ⟨g1, m1, d1, ρ, r1, en.mono s1.le, Le.refl _, f1⟩ ?_ ?_ ?_
  · rintro i σ2 H2 hi ⟨g2, m2, d2, ρ2, r2, en2, l2, f2⟩
    have hgd : it0.gd m2 = true := by
      by_cases hg : it0.gd m2 = true
      · exact hg
      · exact f2.not fun ω => forGo_gd hg
    exact ⟨g2, m2, _, l2, r2, hgd⟩
  · rintro i y σ2 H2 H3 hi ⟨g2, m2, d2, ρ2, r2, en2, l2, f2⟩ yw
    have hgd : it0.gd m2 = true := by
      by_cases hg : it0.gd m2 = true
      · exact hg
      · exact f2.not fun ω => forGo_gd hg
    obtain ⟨w, g3, hw, s3, r3, q3⟩ := yw_in r2 (Le.refl _) (yw g2 m2 _ l2 r2 hgd)
    have f3 := (f2.step s3 (Ext.refl _) (fun _ _ => rfl)).congr (f' := fun ω m c => match bindTg tg pat w ρ2 with
      | none => .no
      | some ρ => (ssI C prim n body ρ ω m c).bind fun f m c => match f with
        | .nx ρ => forGo it0.gd (fun w ρ => bindTg tg pat w ρ) (fun ρ m c => ssI C prim n body ρ ω m c) (it0.ws.drop (i + 1)) ρ m c
        | .ct ρ => forGo it0.gd (fun w ρ => bindTg tg pat w ρ) (fun ρ m c => ssI C prim n body ρ ω m c) (it0.ws.drop (i + 1)) ρ m c
        | .bk ρ => .ok (Fl.nx ρ) m c
        | .rt w => .ok (Fl.rt w) m c) fun ω => by
        rw [drop_at hw]
        show forGo _ _ _ (w :: it0.ws.drop (i + 1)) ρ2 m2 _ = _
        rw [forGo, if_pos hgd]
        all_goals (cases bindTg tg pat w ρ2 <;> rfl)
    cases hbt : bindTg tg pat w ρ2 with
    | none => exact f3.not fun ω => by rw [hbt]
    | some ρ' =>
      simp only [hbt] at f3
      refine tg_ok r3 q3 (en2.mono s3.le) hbt fun σ' en3 _ => ⟨g3, ρ', m2, d2, r3, en3, (Fin.bind (rel := FlRel X.K ca) f3).imp fun u H4 g4 m4 d4 f z => ?_⟩
      obtain ⟨r4, q4, s4, e4, f4⟩ := z
      have l4 := (l2.trans s3.le).trans s4.le
      cases f <;> cases u <;> try (exact (show False from q4).elim)
      · exact ⟨g4, m4, d4, _, r4, q4, l4, f4.congr fun ω => rfl⟩
      · exact f4.fin (a := .rt _) (m' := m4) (v := .rt _) (fun ω => rfl) (Step.refl _ _) r4 q4
      · exact f4.fin (a := .nx _) (m' := m4) (v := .nx _) (fun ω => rfl) (Step.refl _ _) r4 q4
      · exact ⟨g4, m4, d4, _, r4, q4, l4, f4.congr fun ω => rfl⟩
  · rintro σ2 H2 ⟨g2, m2, d2, ρ2, r2, en2, l2, f2⟩
    rw [List.drop_length] at f2
    have hgd : it0.gd m2 = true := by
      by_cases hg : it0.gd m2 = true
      · exact hg
      · exact f2.not fun ω => forGo_gd hg
    exact f2.fin (a := .nx ρ2) (m' := m2) (v := .nx σ2) (fun ω => by show forGo _ _ _ [] ρ2 m2 _ = _; rw [forGo, if_pos hgd]) (Step.refl _ _) r2 en2
theorem s_whl (hp : PassesOwn (model X.prog X.w) X.A X.env X.xe) {t : T} {body : Ss} {c : Expr} {b : List Stmt} {p : Pos} (ht : PT X c (tIb X.K ca ef WX (tbI C prim n t))) (hb : PSs X b (tS X.K ca ef WX (ssI C prim n body))) :
    PS X (.While c b [] p) (tS X.K ca ef WX (sI C prim n (.whl t body))) := by
  refine PS.weak (ps_while hp ht hb) fun D σ H ⟨g, ρ, m, d, r, en, h⟩ => ?_
  have h' := h.congr (f' := fun ω m c => whlGo (fun ρ m c => tbI C prim n t ρ ω m c) (fun ρ m c => ssI C prim n body ρ ω m c) C.fuel ρ m c) fun ω => by
    show exS C _ (.whl t body) ρ m _ = _; rw [exS] <;> rfl
  refine ⟨fun k σ2 H2 => ∃ (g2 : G) (m2 : Mem) (d2 : List Nat) (ρ2 : Env), RelM X.K ca g2 m2 d2.length H2 ∧ REnv X.K ca g2 ρ2 σ2 ∧
    Fin X.K ca ef (FlRel X.K ca) (wxS WX) (fun ω m c => whlGo (fun ρ m c => tbI C prim n t ρ ω m c) (fun ρ m c => ssI C prim n body ρ ω m c) k ρ2 m c) g2 m2 d2 H2 (fun o H' _ _ _ _ => o.q D H'), ⟨C.fuel, g, m, d, ρ, r, en, h'⟩, ?_⟩
  rintro k σ2 H2 ⟨g2, m2, d2, ρ2, r2, en2, f2⟩
  cases k with
  | zero => exact f2.not fun ω => rfl
  | succ k =>
    refine tIb_imp (tIb_s (f := tbI C prim n t) (k := fun ω b m c => if b then (ssI C prim n body ρ2 ω m c).bind fun f m c => (match f with
      | .nx ρ => whlGo (fun ρ m c => tbI C prim n t ρ ω m c) (fun ρ m c => ssI C prim n body ρ ω m c) k ρ m c
      | .ct ρ => whlGo (fun ρ m c => tbI C prim n t ρ ω m c) (fun ρ m c => ssI C prim n body ρ ω m c) k ρ m c
      | .bk ρ => .ok (Fl.nx ρ) m c
      | .rt w => .ok (Fl.rt w) m c) else .ok (Fl.nx ρ2) m c) r2 en2 (f2.congr fun ω => rfl)) fun b H3 z => ?_
    obtain ⟨g3, m3, d3, r3, s3, en3, f3⟩ := z
    cases b with
    | false =>
      rw [if_neg (by decide)]
      exact f3.fin (a := .nx ρ2) (m' := m3) (v := .nx σ2) (fun ω => rfl) (Step.refl _ _) r3 en3
    | true =>
      rw [if_pos rfl]
      refine ⟨fun σ' H' => ∃ (g2 : G) (m2 : Mem) (d2 : List Nat) (ρ2 : Env), RelM X.K ca g2 m2 d2.length H' ∧ REnv X.K ca g2 ρ2 σ' ∧
        Fin X.K ca ef (FlRel X.K ca) (wxS WX) (fun ω m c => whlGo (fun ρ m c => tbI C prim n t ρ ω m c) (fun ρ m c => ssI C prim n body ρ ω m c) k ρ2 m c) g2 m2 d2 H' (fun o H' _ _ _ _ => o.q D H'), fun σ' H' w => ⟨k, Nat.lt_succ_self k, w⟩, ?_⟩
      have f3' := f3.congr (f' := fun ω m c => (ssI C prim n body ρ2 ω m c).bind fun f m c => (match f with
        | .nx ρ => whlGo (fun ρ m c => tbI C prim n t ρ ω m c) (fun ρ m c => ssI C prim n body ρ ω m c) k ρ m c
        | .ct ρ => whlGo (fun ρ m c => tbI C prim n t ρ ω m c) (fun ρ m c => ssI C prim n body ρ ω m c) k ρ m c
        | .bk ρ => .ok (Fl.nx ρ) m c
        | .rt w => .ok (Fl.rt w) m c)) fun ω => rfl
      refine ⟨g3, ρ2, m3, d3, r3, en3, (Fin.bind (rel := FlRel X.K ca) f3').imp fun u H4 g4 m4 d4 f z => ?_⟩
      obtain ⟨r4, q4, s4, e4, f4⟩ := z
      cases f <;> cases u <;> try (exact (show False from q4).elim)
      · exact ⟨g4, m4, d4, _, r4, q4, f4.congr fun ω => rfl⟩
      · exact f4.fin (a := .rt _) (m' := m4) (v := .rt _) (fun ω => rfl) (Step.refl _ _) r4 q4
      · exact f4.fin (a := .nx _) (m' := m4) (v := .nx _) (fun ω => rfl) (Step.refl _ _) r4 q4
      · exact ⟨g4, m4, d4, _, r4, q4, f4.congr fun ω => rfl⟩
end
end Lw

set_option maxHeartbeats 2000000
namespace Lw
open PySem PySem.Spec PyProof.Rows L2

section
variable {Z : Tab} {C : Cfg} {prim : Nat → Option Prim} {ca : CA} {ef : Nat → Str} {F : FT} {N : List Str} {n : Nat} {X : Cx} {sc : Scope} {WX : L2.WX}
mutual
theorem soundS (o : Okx Z C prim ca ef F X N sc WX n) (st : Sto X N sc) (hp : PassesOwn (model X.prog X.w) X.A X.env X.xe) : ∀ (s : S) {x : Stmt}, chkS Z C N sc s x = true → PS X x (tS X.K ca ef WX (sI C prim n s))
  | .asg i e, x, h => by
    rw [chkS] at h
    cases z : asAssign x with
    | none => simp only [z] at h; cases h
    | some y =>
      obtain ⟨t, v, p⟩ := y
      obtain rfl := asAssign_of z
      simp only [z] at h
      cases z2 : asName t with
      | none => simp only [z2] at h; cases h
      | some y =>
        obtain ⟨p1, rfl⟩ := asName_of z2
        simp only [z2, Bool.and_eq_true, Bool.or_eq_true, decide_eq_true_eq] at h
        obtain ⟨⟨⟨h1, h2⟩, h3⟩, h4⟩ := h
        rcases h4 with h4 | ⟨h4, h5⟩
        · exact s_asg o st h1 h2 h3 h4
        · cases z3 : asLc v with
          | none => simp only [z3] at h5; cases h5
          | some q =>
            obtain ⟨el, gs, s2, p2⟩ := q
            obtain rfl := asLc_of z3
            simp only [z3, Bool.and_eq_true, decide_eq_true_eq, Bool.not_eq_true'] at h5
            obtain ⟨⟨⟨h5, h6⟩, h7⟩, h8⟩ := h5
            exact s_asgLc o st h1 h4 h3 rfl h5 h6 h7 h8
  | .asgT t e, x, h => by
    rw [chkS] at h
    cases z : asAssign x with
    | none => simp only [z] at h; cases h
    | some y =>
      obtain ⟨y, v, p⟩ := y
      obtain rfl := asAssign_of z
      simp only [z, Bool.and_eq_true] at h
      exact s_asgT o st h.1.1 h.1.2 h.2
  | .par ts es, x, h => by
    rw [chkS] at h
    cases z : asAssign x with
    | none => simp only [z] at h; cases h
    | some y =>
      obtain ⟨y, v, p⟩ := y
      obtain rfl := asAssign_of z
      simp only [z] at h
      cases z2 : asTuple y with
      | none => simp only [z2] at h; cases h
      | some xs =>
        cases z3 : asTuple v with
        | none => simp only [z2, z3] at h; cases h
        | some vs =>
          obtain ⟨k, p1, rfl⟩ := asTuple_of z2
          obtain ⟨k2, p2, rfl⟩ := asTuple_of z3
          simp only [z2, z3, Bool.and_eq_true, decide_eq_true_eq] at h
          obtain ⟨⟨⟨⟨⟨h1, h2⟩, h3⟩, h4⟩, h5⟩, h6⟩ := h
          unfold chkSwap at h6
          cases hs : swOpt sc xs vs with
          | none => rw [hs] at h6; cases h6
          | some r =>
            cases r with
            | none => exact s_par o st h1 h2 h4 h5 hs
            | some ns =>
              simp only [hs] at h6
              split at h6
              · rename_i a b u1 u2 i j
                cases za : asName a with
                | none => simp only [za] at h6; cases h6
                | some x1 =>
                  cases zb : asName b with
                  | none => simp only [za, zb] at h6; cases h6
                  | some x2 =>
                    simp only [za, zb, Bool.and_eq_true, decide_eq_true_eq] at h6
                    obtain ⟨⟨⟨⟨⟨rfl, c1⟩, c2⟩, c3⟩, c4⟩, c5⟩ := h6
                    obtain ⟨q1, rfl⟩ := asName_of za
                    obtain ⟨q2, rfl⟩ := asName_of zb
                    exact s_par2 o h2 h5 c1 c2 c3 c4 c5 hs
              · rename_i a b d u1 u2 u3 i j l
                cases za : asName a with
                | none => simp only [za] at h6; cases h6
                | some x1 =>
                  cases zb : asName b with
                  | none => simp only [za, zb] at h6; cases h6
                  | some x2 =>
                    cases zd : asName d with
                    | none => simp only [za, zb, zd] at h6; cases h6
                    | some x3 =>
                      simp only [za, zb, zd, Bool.and_eq_true, decide_eq_true_eq] at h6
                      obtain ⟨⟨⟨⟨⟨⟨⟨⟨⟨rfl, c1⟩, c2⟩, c3⟩, c4⟩, c5⟩, c6⟩, c7⟩, c8⟩, c9⟩ := h6
                      obtain ⟨q1, rfl⟩ := asName_of za
                      obtain ⟨q2, rfl⟩ := asName_of zb
                      obtain ⟨q3, rfl⟩ := asName_of zd
                      exact s_par3 o h2 h5 c1 c2 c3 c4 c5 c6 c7 c8 c9 hs
              · cases h6
  | .unp ts e, x, h => by
    rw [chkS] at h
    cases z : asAssign x with
    | none => simp only [z] at h; cases h
    | some y =>
      obtain ⟨y, v, p⟩ := y
      obtain rfl := asAssign_of z
      simp only [z] at h
      cases z2 : asTuple y with
      | none => simp only [z2] at h; cases h
      | some xs =>
        obtain ⟨k, p1, rfl⟩ := asTuple_of z2
        simp only [z2, Bool.and_eq_true] at h
        exact s_unp o st h.1.1 h.1.2 h.2
  | .aug i op e, x, h => by
    rw [chkS] at h
    cases z : asAug x with
    | none => simp only [z] at h; cases h
    | some y =>
      obtain ⟨t, q, v, p⟩ := y
      obtain rfl := asAug_of z
      simp only [z] at h
      cases z2 : asName t with
      | none => simp only [z2] at h; cases h
      | some y =>
        obtain ⟨p1, rfl⟩ := asName_of z2
        simp only [z2, Bool.and_eq_true, decide_eq_true_eq] at h
        obtain ⟨⟨⟨⟨h1, h2⟩, h3⟩, h4⟩, h5⟩ := h
        exact s_aug o st h1 h2 h5 h4
  | .augA oe f op e, x, h => by
    rw [chkS] at h
    cases z : asAug x with
    | none => simp only [z] at h; cases h
    | some y =>
      obtain ⟨t, q, v, p⟩ := y
      obtain rfl := asAug_of z
      simp only [z] at h
      cases z2 : asAttr t with
      | none => simp only [z2] at h; cases h
      | some y =>
        obtain ⟨y, f', p1⟩ := y
        obtain rfl := asAttr_of z2
        simp only [z2, Bool.and_eq_true, decide_eq_true_eq] at h
        obtain ⟨⟨⟨⟨rfl, h2⟩, h3⟩, h4⟩, h5⟩ := h
        exact s_augA o h3 h2 h5 h4
  | .ex e, x, h => by
    rw [chkS] at h
    cases z : asExpr x with
    | none => simp only [z] at h; cases h
    | some y =>
      obtain ⟨v, p⟩ := y
      obtain rfl := asExpr_of z
      simp only [z, Bool.and_eq_true] at h
      exact s_ex o h.1 h.2
  | .ife t a b, x, h => by
    rw [chkS] at h
    cases z : asIfS x with
    | none => simp only [z] at h; cases h
    | some y =>
      obtain ⟨c, as, bs⟩ := y
      obtain ⟨p, rfl⟩ := asIfS_of z
      simp only [z, Bool.and_eq_true] at h
      exact s_ifeS (soundT t o h.1.1) (soundSs o st hp a h.1.2) (soundSs o st hp b h.2)
  | .for tg pat it body, x, h => by
    rw [chkS] at h
    cases z : asFor x with
    | none => simp only [z] at h; cases h
    | some y =>
      obtain ⟨t, i, b⟩ := y
      obtain ⟨p, rfl⟩ := asFor_of z
      simp only [z, Bool.and_eq_true] at h
      obtain ⟨⟨⟨⟨h1, h2⟩, h3⟩, h4⟩, h5⟩ := h
      exact s_for o st hp h1 (soundIt it o h2 h3 h1) h4 (soundSs o st hp body h5)
  | .whl t body, x, h => by
    rw [chkS] at h
    cases z : asWhile x with
    | none => simp only [z] at h; cases h
    | some y =>
      obtain ⟨c, b⟩ := y
      obtain ⟨p, rfl⟩ := asWhile_of z
      simp only [z, Bool.and_eq_true] at h
      exact s_whl hp (soundT t o h.1) (soundSs o st hp body h.2)
  | .ret e, x, h => by
    rw [chkS] at h
    cases z : asRet x with
    | none => simp only [z] at h; cases h
    | some y =>
      obtain ⟨p, rfl⟩ := asRet_of z
      cases y with
      | none => simp only [z] at h; cases h
      | some v =>
        simp only [z] at h
        exact s_ret o h
  | .retN, x, h => by
    rw [chkS] at h
    cases z : asRet x with
    | none => simp only [z] at h; cases h
    | some y =>
      obtain ⟨p, rfl⟩ := asRet_of z
      cases y with
      | some v => simp only [z] at h; cases h
      | none => exact s_retN
  | .raise _ _, x, h => by rw [chkS] at h; cases h
  | .pass, x, h => by
    rw [chkS] at h
    obtain ⟨p, rfl⟩ := isPass_of h
    exact s_pass
  | .brk, x, h => by
    rw [chkS] at h
    obtain ⟨p, rfl⟩ := isBrk_of h
    exact s_brk
  | .cont, x, h => by
    rw [chkS] at h
    obtain ⟨p, rfl⟩ := isCont_of h
    exact s_cont
  | .never, x, h => s_never
theorem soundSs (o : Okx Z C prim ca ef F X N sc WX n) (st : Sto X N sc) (hp : PassesOwn (model X.prog X.w) X.A X.env X.xe) : ∀ (s : Ss) {xs : List Stmt}, chkSs Z C N sc s xs = true → PSs X xs (tS X.K ca ef WX (ssI C prim n s))
  | .nil, xs, h => by
    rw [chkSs] at h
    obtain rfl := nil_of h
    exact ss_nil
  | .cons s r, xs, h => by
    rcases xs with _ | ⟨x, xs⟩
    · rw [chkSs] at h; cases h
    · rw [chkSs, Bool.and_eq_true] at h
      exact ss_cons (soundS o st hp s h.1) (soundSs o st hp r h.2)
  | .frz i r, xs, h => by
    rw [chkSs] at h
    exact ss_frz (soundSs o st hp r h)
end
end

/-! ### a def's end -/
section
variable {K : PySem.W.Frag} {ca : CA} {ef : Nat → Str} {g g' : G} {m m' : Mem} {c : Nat} {H H' : Hp} {k : Nat}
def G.trunc (g : G) (k : Nat) : G := { g with μ := fun j => if j < k then g.μ j else none }
theorem trunc_μ {j : Nat} {a : Addr} (h : (g.trunc k).μ j = some a) : j < k ∧ g.μ j = some a := by
  have h' : (if j < k then g.μ j else none) = some a := h
  split at h'
  · exact ⟨by assumption, h'⟩
  · cases h'
theorem trunc_at {j : Nat} (h : j < k) : (g.trunc k).μ j = g.μ j := if_pos h
theorem truncL {f : Nat} (ih : ∀ w v, okW k f w = true → Rep K ca g w v → Rep K ca (g.trunc k) w v) : ∀ (ws : List W) (vs : List V), ws.all (okW k f) = true → Reps K ca g ws vs → Reps K ca (g.trunc k) ws vs
  | [], vs, _, h => by simp only [Reps] at h ⊢; exact h
  | w :: ws, vs, e, h => by
    simp only [Reps] at h ⊢
    obtain ⟨v, r, e1, p, q⟩ := h
    rw [List.all_cons, Bool.and_eq_true] at e
    exact ⟨v, r, e1, ih w v e.1 p, truncL ih ws r e.2 q⟩
theorem trunc_rep : ∀ (f : Nat) (w : W) (v : V), okW k f w = true → Rep K ca g w v → Rep K ca (g.trunc k) w v
  | 0, w, v, e, h => by simp [okW] at e
  | f + 1, w, v, e, h => by
    have ih := truncL (trunc_rep f)
    cases w with
    | ptr j =>
      simp only [okW, decide_eq_true_eq] at e
      simp only [Rep] at h ⊢
      obtain ⟨a, e1, e2⟩ := h
      exact ⟨a, e1, (trunc_at e).trans e2⟩
    | lst xs =>
      simp only [okW] at e
      simp only [Rep] at h ⊢
      obtain ⟨a, vs, e1, e2, e3⟩ := h
      exact ⟨a, vs, e1, e2, ih _ _ e e3⟩
    | tup xs =>
      simp only [okW] at e
      simp only [Rep] at h ⊢
      obtain ⟨a, vs, e1, e2, e3⟩ := h
      exact ⟨a, vs, e1, e2, ih _ _ e e3⟩
    | obj cc ks xs =>
      simp only [okW] at e
      simp only [Rep] at h ⊢
      obtain ⟨a, dx, vs, e1, e2, e3, e4⟩ := h
      exact ⟨a, dx, vs, e1, e2, e3, ih _ _ e e4⟩
    | _ => simp only [Rep] at h ⊢ <;> exact h
theorem trunc_rel (r : RelM K ca g' m' c H') (e : (m'.take k).all (okC k) = true) : RelM K ca (g'.trunc k) (m'.take k) c H' where
  sub := r.sub
  lt := fun j a h => by
    obtain ⟨h1, h2⟩ := trunc_μ h
    have := r.lt j a h2
    rw [List.length_take]
    omega
  live := fun j x h => by
    have hj : j < k := by
      have := (List.getElem?_eq_some_iff.mp h).1
      rw [List.length_take] at this
      omega
    have h' : m'[j]? = some x := by rw [List.getElem?_take, if_pos hj] at h; exact h
    have hx : okC k x = true := List.all_eq_true.mp e x (List.mem_of_getElem? h)
    obtain ⟨a, h1, h2⟩ := r.live j x h'
    refine ⟨a, (trunc_at hj).trans h1, ?_⟩
    cases x with
    | lst xs =>
      obtain ⟨vs, e1, e2⟩ := h2
      exact ⟨vs, e1, truncL (trunc_rep 12) _ _ hx e2⟩
    | ins cc ks ws =>
      obtain ⟨dx, vs, e1, e2, e3⟩ := h2
      exact ⟨dx, vs, e1, e2, truncL (trunc_rep 12) _ _ hx e3⟩
    | dead => trivial
  off := fun j x a h hx h1 => by
    have hj : j < k := (trunc_μ h1).1
    have h' : m'[j]? = some x := by rw [List.getElem?_take, if_pos hj] at h; exact h
    exact r.off j x a h' hx (trunc_μ h1).2
  there := fun j a h => r.there j a (trunc_μ h).2
  inj := fun i j a h1 h2 => r.inj i j a (trunc_μ h1).2 (trunc_μ h2).2
  tok := fun a h => by
    obtain ⟨h1, h2, h3⟩ := r.tok a h
    exact ⟨h1, h2, fun j z => h3 j (trunc_μ z).2⟩
theorem trunc_step (r : RelM K ca g m c H) (s : Step g H g' H') : Step g H (g'.trunc m.length) H' where
  S := s.S
  μ := fun j a h => (trunc_at (r.lt j a h)).trans (s.μ j a h)
  T := s.T
  frame := s.frame
  newS := s.newS
  newμ := fun j a h => s.newμ j a (trunc_μ h).2
  newT := s.newT
  grow := s.grow
/-- what a body wants, from what its def's answer wants -/
theorem exit_ok {keep : Bool} {f : Sm Fl} {d : List Nat} {Q : VK} {E : XK} (r : RelM K ca g m d.length H)
    (h : Fin K ca ef (Rep K ca) (fun _ _ cls dd H' _ _ _ => E cls dd H') (fun ω m c => exitR keep m.length (f ω m c)) g m d H (fun v H' _ _ _ _ => Q v H')) :
    Fin K ca ef (FlRel K ca) (wxS (fun cls d _ H => E cls d H)) f g m d H (fun o H' _ _ _ _ => o.q { nx := fun _ H' => Q .non H', rt := Q } H') where
  good := fun ω a e => h.good ω a (by show exitR keep m.length (f ω m d.length) = _; rw [e]; rfl)
  ok := fun o H' g' m' d' fl s e r' q z => by
    obtain ⟨ω0, a0⟩ := Agree.ex d'
    have hno : ∀ {P : Prop}, exitR keep m.length (.ok fl m' d'.length) = .no → P := fun {P} y =>
      (h.good ω0 (a0.of e) (by show exitR keep m.length (f ω0 m d.length) = _; rw [z ω0 a0]; exact y)).elim
    have hz : ∀ (v : V) (g2 : G) (m2 : Mem) (w : W), Step g H g2 H' → RelM K ca g2 m2 d'.length H' → Rep K ca g2 w v → exitR keep m.length (.ok fl m' d'.length) = .ok w m2 d'.length → Q v H' := fun v g2 m2 w s2 r2 q2 y =>
      h.ok v H' g2 m2 d' w s2 e r2 q2 fun ω a => by show exitR keep m.length (f ω m d.length) = _; rw [z ω a]; exact y
    cases fl <;> cases o <;> try (exact (show False from q).elim)
    · show Q .non H'
      cases keep with
      | true => exact hz .non g' m' .non s r' (by simp only [Rep]) rfl
      | false =>
        by_cases c1 : (m'.take m.length).all (okC m.length) = true
        · exact hz .non _ _ .non (trunc_step r s) (trunc_rel r' c1) (by simp only [Rep]) (by unfold exitR; simp only []; rw [if_neg (by decide), if_pos c1])
        · exact hno (by unfold exitR; simp only []; rw [if_neg (by decide), if_neg c1])
    · rename_i w v
      show Q v H'
      cases keep with
      | true => exact hz v g' m' w s r' q rfl
      | false =>
        cases hf : frz 12 w m' with
        | none => exact hno (by unfold exitR; simp only [hf]; rfl)
        | some u =>
          obtain ⟨w2, m2⟩ := u
          obtain ⟨g2, fo, q2⟩ := frz_ok 12 w m' w2 m2 g' v hf r' q
          by_cases c1 : (okW m.length 12 w2 && (m2.take m.length).all (okC m.length)) = true
          · have c2 := c1
            rw [Bool.and_eq_true] at c2
            exact hz v _ _ w2 (trunc_step r (s.trans fo.step)) (trunc_rel fo.rel c2.2) (trunc_rep 12 w2 v c2.1 q2) (by unfold exitR; simp only [hf]; rw [if_neg (by decide), if_pos c1])
          · exact hno (by unfold exitR; simp only [hf]; rw [if_neg (by decide), if_neg c1])
    · exact hno rfl
    · exact hno rfl
  exc := fun x ρ H' g' m' d' cls dd s e r' z xr σ => by
    obtain ⟨ω0, a0⟩ := Agree.ex d'
    have hno : ∀ {P : Prop}, exitR keep m.length (.exc x ρ m' d'.length) = .no → P := fun {P} y =>
      (h.good ω0 (a0.of e) (by show exitR keep m.length (f ω0 m d.length) = _; rw [z ω0 a0]; exact y)).elim
    have hz : ∀ (g2 : G) (m2 : Mem) (x2 : Exn), Step g H g2 H' → RelM K ca g2 m2 d'.length H' → ExcRel K ca ef g2 H' x2 cls dd → exitR keep m.length (.exc x ρ m' d'.length) = .exc x2 [] m2 d'.length → E cls dd H' := fun g2 m2 x2 s2 r2 q2 y =>
      h.exc x2 [] H' g2 m2 d' cls dd s2 e r2 (fun ω a => by show exitR keep m.length (f ω m d.length) = _; rw [z ω a]; exact y) q2
    show E cls dd H'
    obtain ⟨xc, xa⟩ := x
    cases xa with
    | none =>
      cases keep with
      | true => exact hz g' m' ⟨xc, none⟩ s r' xr rfl
      | false =>
        by_cases c1 : (m'.take m.length).all (okC m.length) = true
        · exact hz _ _ ⟨xc, none⟩ (trunc_step r s) (trunc_rel r' c1) xr (by unfold exitR; simp only []; rw [if_neg (by decide), if_pos c1])
        · exact hno (by unfold exitR; simp only []; rw [if_neg (by decide), if_neg c1])
    | some w =>
      by_cases c0 : okW m.length 12 w = true
      · cases keep with
        | true => exact hz g' m' ⟨xc, some w⟩ s r' xr (by unfold exitR; simp only []; rw [if_pos c0]; rfl)
        | false =>
          by_cases c1 : (m'.take m.length).all (okC m.length) = true
          · obtain ⟨e1, dx, v, e2, e3, e4⟩ := xr
            exact hz _ _ ⟨xc, some w⟩ (trunc_step r s) (trunc_rel r' c1) ⟨e1, dx, v, e2, e3, trunc_rep 12 w v c0 e4⟩ (by unfold exitR; simp only []; rw [if_pos c0, if_neg (by decide), if_pos c1])
          · exact hno (by unfold exitR; simp only []; rw [if_pos c0, if_neg (by decide), if_neg c1])
      · exact hno (by unfold exitR; simp only []; rw [if_neg c0])
end
end Lw

set_option maxHeartbeats 2000000
namespace Lw
open PySem PySem.Spec PyProof.Rows L2

section
variable {Z : Tab} {C : Cfg} {prim : Nat → Option Prim} {ca : CA} {ef : Nat → Str} {F : FT} {K : PySem.W.Frag} {mg : Str → Option Value} {P : Program} {w : World} {base : Heap} {n : Nat}
/-- a def's text is as the table says -/
def DefOk (Z : Tab) (C : Cfg) (F : FT) (K : PySem.W.Frag) (f : Nat) (r : FnRec) : Prop := ∃ (x qual : Str) (pm : Arguments) (body : List Stmt) (sc : Scope) (dvs : List V) (kws : List (Str × V)) (N : List Str), FunD K x qual pm body sc dvs kws (F.fa f) (F.fd f) ∧ FnScope N (F.ps f) sc ∧ N.length = r.slots ∧ chkSs Z C N sc r.body body = true
theorem start_env {g : G} {N : List Str} {slots : Nat} {ws : List W} {vs : List V} (h : N.length = slots) (q : Reps K ca g ws vs) : REnv K ca g (startE slots ws) (L2.start N vs) := by
  have hl := Reps.length q
  refine ⟨by unfold startE L2.start; simp only [List.length_append, List.length_map, List.length_replicate]; rw [h, hl], fun i u e => ?_⟩
  unfold startE at e
  unfold L2.start
  by_cases hi : i < ws.length
  · rw [List.getElem?_append_left (by rw [List.length_map]; exact hi), List.getElem?_map] at e
    cases hw : ws[i]? with
    | none => rw [hw] at e; cases e
    | some x =>
      rw [hw] at e
      cases e
      obtain ⟨v, h1, h2⟩ := Reps.at q hw
      exact ⟨v, by rw [List.getElem?_append_left (by rw [List.length_map, hl]; exact hi), List.getElem?_map, h1]; rfl, h2⟩
  · rw [List.getElem?_append_right (by rw [List.length_map]; omega), List.getElem?_replicate] at e
    split at e <;> cases e
theorem fn_zero {f : Nat} {r : FnRec} (hf : C.fn f = some r) : FnOk P w K mg base (L2.CX P w) (lev 0) (F.fa f) (F.fd f) (F.ps f) (spF C prim ca ef F K 0 f) where
  len := fun vs H Q E h => by
    obtain ⟨g, m, d, ws, r, q, hl, h⟩ := h
    rw [Reps.length q, hl]
  run := fun A outer s H args us vs Q E hr he hb hv h => by
    obtain ⟨g, m, d, ws, r, q, hl, h⟩ := h
    exact h.not fun ω => rfl
theorem fn_ok (fx : Facts Z C ca F K mg) (hn : Fns C prim ca ef F P w K mg base n) {f : Nat} {r : FnRec} (hf : C.fn f = some r) (hp : prim f = none) (dk : DefOk Z C F K f r) :
    FnOk P w K mg base (L2.CX P w) (lev (n + 1)) (F.fa f) (F.fd f) (F.ps f) (spF C prim ca ef F K (n + 1) f) := by
  obtain ⟨x, qual, pm, body, sc, dvs, kws, N, fu, S, hs, hc⟩ := dk
  have lenf : ∀ vs H Q E, spF C prim ca ef F K (n + 1) f vs H Q E → vs.length = (F.ps f).length := fun vs H Q E h => by
    obtain ⟨g, m, d, ws, r, q, hl, h⟩ := h
    rw [Reps.length q, hl]
  show FnOk P w K mg base (L2.CX P w) ((lev n + 1) + 1) (F.fa f) (F.fd f) (F.ps f) (spF C prim ca ef F K (n + 1) f)
  refine fu.ok S lenf fun cdv A outer s H vs Q E hr h => ?_
  obtain ⟨g, m, d, ws, rm, q, hl, h⟩ := h
  have tk : L2.Takes (cxOf (L2.CX P w) P w K mg base N qual sc (F.fa f) cdv A outer s H E) (fun cls d _ H => E cls d H) := takes_of rfl rfl rfl (E₁ := fun e' s'' => L2.CX P w outer H s E e' s'') rfl
  have hp2 : PassesOwn (model P w) (cxOf (L2.CX P w) P w K mg base N qual sc (F.fa f) cdv A outer s H E).A (cxOf (L2.CX P w) P w K mg base N qual sc (F.fa f) cdv A outer s H E).env (cxOf (L2.CX P w) P w K mg base N qual sc (F.fa f) cdv A outer s H E).xe := passes_of (X := cxOf (L2.CX P w) P w K mg base N qual sc (F.fa f) cdv A outer s H E) (K := fun e s'' => L2.CX P w outer H s E e s'') (E₁ := fun e' s'' => L2.CX P w outer H s E e' s'') rfl
  have o : Okx Z C prim ca ef F (cxOf (L2.CX P w) P w K mg base N qual sc (F.fa f) cdv A outer s H E) N sc (fun cls d _ H => E cls d H) n := ⟨rfl, rfl, S.nd, rfl, hr, tk, fx, hn⟩
  have stx : Sto (cxOf (L2.CX P w) P w K mg base N qual sc (F.fa f) cdv A outer s H E) N sc := ⟨rfl, S.nd, rfl, fun y hy => ⟨locB_of hy, .inl rfl⟩⟩
  refine ⟨_, soundSs o stx hp2 r.body hc, g, startE r.slots ws, m, d, rm, start_env hs q, exit_ok (keep := r.keep) rm (h.congr fun ω => ?_)⟩
  show run C prim ω (n + 1) f ws m _ = _
  rw [run]
  simp only [hf, hp]
  rw [if_pos (by rw [hl]; exact fx.fnP f r hf)]
/-- all defs, at every depth -/
theorem fns_all (fx : Facts Z C ca F K mg) (dk : ∀ f r, C.fn f = some r → prim f = none → DefOk Z C F K f r)
    (pk : ∀ f r p, C.fn f = some r → prim f = some p → ∀ n, FnOk P w K mg base (L2.CX P w) (lev (n + 1)) (F.fa f) (F.fd f) (F.ps f) (spF C prim ca ef F K (n + 1) f)) : ∀ n, Fns C prim ca ef F P w K mg base n
  | 0 => fun f r hf => fn_zero hf
  | n + 1 => fun f r hf => by
    cases hp : prim f with
    | none => exact fn_ok fx (fns_all fx dk pk n) hf hp (dk f r hf hp)
    | some p => exact pk f r p hf hp n
end
end Lw

set_option maxHeartbeats 2000000
namespace Lw
open PySem PySem.Spec PyProof.Rows L2

section
variable {Z : Tab} {C C' : Cfg} {prim : Nat → Option Prim} {ca : CA} {ef : Nat → Str} {F : FT} {K : PySem.W.Frag} {mg : Str → Option Value} {P : Program} {w : World} {base : Heap}
def noPrim : Nat → Option Prim := fun _ => none
/-- what the text of a draw comes to -/
def DrawText (C' : Cfg) (f : Nat) : Prop := ∀ (ω : Nat → Nat) (x y z i : Int) (c : Nat), 0 ≤ x → 0 ≤ y → y < 2 ^ 200 → 0 ≤ z → z ≤ 1000000000001 → 0 < i → sizeI i < 9000 →
  ∃ v x' z', 0 ≤ v ∧ v < i ∧ 0 ≤ x' ∧ 0 ≤ z' ∧ z' ≤ z + 1 ∧ run C' noPrim ω 1 f [.ptr 0, .int i] [.lst [.int x, .int y, .int z]] c = .ok (.int v) [.lst [.int x', .int y, .int z']] c
/-- what the text of a spring comes to -/
def SpringText (C' : Cfg) (f : Nat) : Prop := ∀ (ω : Nat → Nat) (ns : List Int) (k : Int) (c : Nat), 0 ≤ k → k < 100000 →
  ∃ x y z, 0 ≤ x ∧ 0 ≤ y ∧ y < 2 ^ 200 ∧ 0 ≤ z ∧ z ≤ 1 ∧ run C' noPrim ω 1 f [.scr ns, .int k] [] c = .ok (.ptr 0) [.lst [.int x, .int y, .int z]] c
theorem ints3 {g : G} {x y z : Int} {vs : List V} (h : Reps K ca g [.int x, .int y, .int z] vs) : vs = [.int x, .int y, .int z] := by
  simp only [Reps, Rep] at h
  obtain ⟨v, r, rfl, rfl, v2, r2, rfl, rfl, v3, r3, rfl, rfl, rfl⟩ := h
  rfl
theorem prim_draw (fx : Facts Z C' ca F K mg) {f : Nat} {r r' : FnRec} (hf' : C'.fn f = some r') (dk : DefOk Z C' F K f r') (tx : DrawText C' f) (hf : C.fn f = some r) (hp : prim f = some .draw) (n : Nat) :
    FnOk P w K mg base (L2.CX P w) (lev (n + 1)) (F.fa f) (F.fd f) (F.ps f) (spF C prim ca ef F K (n + 1) f) := by
  have f1 : FnOk P w K mg base (L2.CX P w) (lev 1) (F.fa f) (F.fd f) (F.ps f) (spF C' noPrim ca ef F K 1 f) := fn_ok fx (fun f r hf => fn_zero hf) hf' rfl dk
  refine (f1.mono (by unfold lev; omega)).imp fun vs H Q E h => ?_
  obtain ⟨g, m, d, ws, rm, q, hl, h⟩ := h
  have key : ∃ i, ws = [.tok, .int i] ∧ 0 < i ∧ sizeI i < 9000 ∧ d.length < drawMax := by
    obtain ⟨ω, a⟩ := Agree.ex d
    have hg := h.good ω a
    rw [run] at hg
    simp only [hf, hp] at hg
    by_cases h1 : ws.length = r.arity
    · rw [if_pos h1] at hg
      unfold runP at hg
      split at hg
      · rename_i i heq
        by_cases h2 : 0 < i ∧ sizeI i < 9000 ∧ d.length < drawMax
        · exact ⟨i, rfl, h2⟩
        · rw [if_neg h2] at hg; exact absurd rfl hg
      · rename_i heq; exact absurd heq (by simp)
      · exact absurd rfl hg
    · rw [if_neg h1] at hg; exact absurd rfl hg
  obtain ⟨i, rfl, hi, hsi, hc⟩ := key
  simp only [Reps, Rep] at q
  obtain ⟨v, r1, rfl, ⟨a, rfl, hT⟩, v2, r2, rfl, rfl, rfl⟩ := q
  obtain ⟨⟨x, y, z, hH, hx, hy, hy2, hz, hz2⟩, hS, hμ⟩ := rm.tok a hT
  have hz3 : z ≤ 1000000000001 := by unfold drawMax at hc; omega
  have rm' : RelM K ca ⟨g.S, fun k => if k = 0 then some a else none, fun _ => False⟩ [.lst [.int x, .int y, .int z]] d.length H := by
    refine ⟨rm.sub, fun k b e => ?_, fun k c e => ?_, fun k c b e hc hb => ?_, fun k b e => ?_, fun k k' b e e' => ?_, fun b hb => hb.elim⟩
    · have e' : (if k = 0 then some a else none) = some b := e
      split at e'
      · subst_vars; exact Nat.zero_lt_one
      · cases e'
    · cases k with
      | zero =>
        simp at e
        subst e
        refine ⟨a, rfl, [.int x, .int y, .int z], hH, ?_⟩
        simp only [Reps, Rep]
        exact ⟨_, _, rfl, rfl, _, _, rfl, rfl, _, _, rfl, rfl, rfl⟩
      | succ k => simp at e
    · have e' : (if k = 0 then some a else none) = some b := hb
      split at e'
      · cases e'; exact hS
      · cases e'
    · have e' : (if k = 0 then some a else none) = some b := e
      split at e'
      · cases e'; exact ⟨_, hH⟩
      · cases e'
    · have z1 : (if k = 0 then some a else none) = some b := e
      have z2 : (if k' = 0 then some a else none) = some b := e'
      split at z1 <;> split at z2 <;> first | omega | (cases z2; done) | (cases z1; done)
  refine ⟨⟨g.S, fun k => if k = 0 then some a else none, fun _ => False⟩, [.lst [.int x, .int y, .int z]], d, [.ptr 0, .int i], rm', ?_, ?_, ?_⟩
  · simp only [Reps, Rep]
    exact ⟨_, _, rfl, ⟨a, rfl, by simp⟩, _, _, rfl, rfl, rfl⟩
  · exact hl
  · refine ⟨fun ω ag e => ?_, fun v H' g2 m2 d2 u s e r2 q2 z0 => ?_, fun xx ρ H' g2 m2 d2 cls dd s e r2 z0 xr => ?_⟩
    · obtain ⟨v, x', z', _, _, _, _, _, h7⟩ := tx ω x y z i d.length hx hy hy2 hz hz3 hi hsi
      rw [h7] at e; cases e
    · obtain ⟨ω0, a0⟩ := Agree.ex d2
      obtain ⟨v0, x', z', h1, h2, h3, h4, h5, h7⟩ := tx ω0 x y z i d.length hx hy hy2 hz hz3 hi hsi
      have h8 := z0 ω0 a0
      rw [h7] at h8
      injection h8 with e1 e2 e3
      subst e1 e2
      simp only [Rep] at q2
      subst q2
      have fr : ∀ b o, H b = some o → b ≠ a → H' b = some o := fun b o hb hne => s.frame b o hb (fun k ek => by
        have e' : (if k = 0 then some a else none) = some b := ek
        split at e'
        · cases e'; exact hne rfl
        · cases e') (fun hf => hf)
      have r3 : RelM K ca g m (d ++ [v0.toNat]).length H' := by
        rw [List.length_append, List.length_singleton]
        refine ⟨fun b o hb => fr b o (rm.sub b o hb) (fun e => by subst e; rw [hS] at hb; cases hb), rm.lt, fun k c ek => ?_, rm.off, fun k b ek => ?_, rm.inj, fun b hb => ?_⟩
        · obtain ⟨b, hb, hc⟩ := rm.live k c ek
          exact ⟨b, hb, hc.keep (Le.refl _) fun o ho => fr b o ho (fun e => by subst e; exact hμ k hb)⟩
        · obtain ⟨o, ho⟩ := rm.there k b ek
          exact s.grow b o ho
        · obtain ⟨t1, t2, t3⟩ := rm.tok b hb
          refine ⟨?_, t2, t3⟩
          by_cases hba : b = a
          · subst hba
            obtain ⟨a2, l1, vs2, l2, l3⟩ := r2.live 0 _ rfl
            have l4 := s.μ 0 b rfl
            rw [l1] at l4
            cases l4
            rw [ints3 l3] at l2
            exact ⟨x', y, z', l2, h3, hy, hy2, h4, by omega⟩
          · obtain ⟨p1, p2, p3, p4, p5, p6, p7, p8, p9⟩ := t1
            exact ⟨p1, p2, p3, fr b _ p4 hba, p5, p6, p7, p8, by omega⟩
      have st : Step g H g H' := ⟨fun _ _ h => h, fun _ _ h => h, fun _ h => h, fun b o hb _ hnT => fr b o hb (fun e => by subst e; exact hnT hT), fun _ _ h => .inl h, fun _ _ h => .inl h, fun _ h => .inl h, s.grow⟩
      refine h.ok (.int v0) H' g m (d ++ [v0.toNat]) (.int v0) st ⟨_, rfl⟩ r3 (by simp only [Rep]) fun ω ag => ?_
      rw [run]
      simp only [hf, hp]
      have har : [W.tok, W.int i].length = r.arity := by
        by_cases z : [W.tok, W.int i].length = r.arity
        · exact z
        · obtain ⟨ω, a⟩ := Agree.ex d
          refine absurd ?_ (h.good ω a)
          rw [run]
          simp only [hf, hp]
          rw [if_neg z]
      rw [if_pos har]
      unfold runP
      simp only []
      rw [if_pos ⟨hi, hsi, hc⟩]
      have hω : ω d.length = v0.toNat := ag d.length v0.toNat (by simp)
      rw [hω, List.length_append, List.length_singleton, Int.toNat_of_nonneg h1, Int.emod_eq_of_lt h1 h2]
    · obtain ⟨ω0, a0⟩ := Agree.ex d2
      obtain ⟨v0, x', z', _, _, _, _, _, h7⟩ := tx ω0 x y z i d.length hx hy hy2 hz hz3 hi hsi
      have h8 := z0 ω0 a0
      rw [h7] at h8; cases h8
theorem prim_spring (fx : Facts Z C' ca F K mg) {f : Nat} {r r' : FnRec} (hf' : C'.fn f = some r') (dk : DefOk Z C' F K f r') (tx : SpringText C' f) (hf : C.fn f = some r) (hp : prim f = some .spring) (n : Nat) :
    FnOk P w K mg base (L2.CX P w) (lev (n + 1)) (F.fa f) (F.fd f) (F.ps f) (spF C prim ca ef F K (n + 1) f) := by
  have f1 : FnOk P w K mg base (L2.CX P w) (lev 1) (F.fa f) (F.fd f) (F.ps f) (spF C' noPrim ca ef F K 1 f) := fn_ok fx (fun f r hf => fn_zero hf) hf' rfl dk
  refine (f1.mono (by unfold lev; omega)).imp fun vs H Q E h => ?_
  obtain ⟨g, m, d, ws, rm, q, hl, h⟩ := h
  have key : ∃ ns k, ws = [.scr ns, .int k] ∧ 0 ≤ k ∧ k < 100000 := by
    obtain ⟨ω, a⟩ := Agree.ex d
    have hg := h.good ω a
    rw [run] at hg
    simp only [hf, hp] at hg
    by_cases h1 : ws.length = r.arity
    · rw [if_pos h1] at hg
      unfold runP at hg
      split at hg
      · rename_i heq; exact absurd heq (by simp)
      · rename_i ns k heq
        by_cases h2 : 0 ≤ k ∧ k < 100000
        · exact ⟨ns, k, rfl, h2⟩
        · rw [if_neg h2] at hg; exact absurd rfl hg
      · exact absurd rfl hg
    · rw [if_neg h1] at hg; exact absurd rfl hg
  obtain ⟨ns, k, rfl, hk, hk2⟩ := key
  have rm' : RelM K ca ⟨g.S, fun _ => none, fun _ => False⟩ [] d.length H := ⟨rm.sub, fun _ _ e => (nomatch e), fun k c e => by simp at e, fun _ _ _ e => by simp at e, fun _ _ e => (nomatch e), fun _ _ _ e => (nomatch e), fun b hb => hb.elim⟩
  refine ⟨⟨g.S, fun _ => none, fun _ => False⟩, [], d, [.scr ns, .int k], rm', ?_, hl, ?_⟩
  · simp only [Reps, Rep] at q ⊢
    exact q
  · refine ⟨fun ω ag e => ?_, fun v H' g2 m2 d2 u s e r2 q2 z0 => ?_, fun xx ρ H' g2 m2 d2 cls dd s e r2 z0 xr => ?_⟩
    · obtain ⟨x, y, z, _, _, _, _, _, h7⟩ := tx ω ns k d.length hk hk2
      rw [h7] at e; cases e
    · obtain ⟨ω0, a0⟩ := Agree.ex d2
      obtain ⟨x, y, zz, h1, h2, h3, hz1, hz2, h7⟩ := tx ω0 ns k d.length hk hk2
      have h8 := z0 ω0 a0
      rw [h7] at h8
      injection h8 with e1 e2 e3
      subst e1 e2
      simp only [Rep] at q2
      obtain ⟨a, rfl, ha⟩ := q2
      have na : H a = none := by
        rcases s.newμ 0 a ha with z | z
        · cases z
        · exact z
      have fr : ∀ b o, H b = some o → H' b = some o := fun b o hb => s.frame b o hb (fun k ek => by cases ek) (fun hf => hf)
      obtain ⟨a2, l1, vs2, l2, l3⟩ := r2.live 0 _ rfl
      rw [ha] at l1
      cases l1
      rw [ints3 l3] at l2
      have off := rm.offNew na
      have r3 : RelM K ca { g with T := fun b => g.T b ∨ b = a } m d.length H' := by
        have l : Le g { g with T := fun b => g.T b ∨ b = a } := ⟨fun _ _ h => h, fun _ _ h => h, fun _ h => .inl h⟩
        refine ⟨fun b o hb => fr b o (rm.sub b o hb), rm.lt, fun k c ek => ?_, rm.off, fun k b ek => ?_, rm.inj, fun b hb => ?_⟩
        · obtain ⟨b, hb, hc⟩ := rm.live k c ek
          exact ⟨b, hb, hc.keep l fun o ho => fr b o ho⟩
        · obtain ⟨o, ho⟩ := rm.there k b ek
          exact s.grow b o ho
        · rcases hb with hb | rfl
          · obtain ⟨t1, t2, t3⟩ := rm.tok b hb
            exact ⟨t1.keep (fun o ho => fr b o ho) (Nat.le_refl _), t2, t3⟩
          · exact ⟨⟨x, y, zz, l2, h1, h2, h3, hz1, by omega⟩, off.S, off.μ⟩
      have st : Step g H { g with T := fun b => g.T b ∨ b = a } H' := ⟨fun _ _ h => h, fun _ _ h => h, fun _ h => .inl h, fun b o hb _ _ => fr b o hb, fun _ _ h => .inl h, fun _ _ h => .inl h, fun b hb => hb.elim .inl (fun e => .inr (e ▸ na)), s.grow⟩
      refine h.ok (.ref a) H' _ m d .tok st (Ext.refl _) r3 (by simp only [Rep]; exact ⟨a, rfl, .inr rfl⟩) fun ω ag => ?_
      have har : [W.scr ns, W.int k].length = r.arity := by
        by_cases z : [W.scr ns, W.int k].length = r.arity
        · exact z
        · obtain ⟨ω, a⟩ := Agree.ex d
          refine absurd ?_ (h.good ω a)
          rw [run]
          simp only [hf, hp]
          rw [if_neg z]
      rw [run]
      simp only [hf, hp]
      rw [if_pos har]
      unfold runP
      simp only []
      rw [if_pos ⟨hk, hk2⟩]
    · obtain ⟨ω0, a0⟩ := Agree.ex d2
      obtain ⟨x, y, z, _, _, _, _, _, h7⟩ := tx ω0 ns k d.length hk hk2
      have h8 := z0 ω0 a0
      rw [h7] at h8; cases h8
end
end Lw

set_option maxHeartbeats 2000000
namespace Lw
open PySem PySem.Spec PyProof.Rows L2

section
variable {K : PySem.W.Frag}
theorem funD_of {x qual : Str} {st : Stmt} {f : Addr} {oc : Value} {od an : Option Addr} {osl : Array (Option Value)} {kV doc pm cdv ct : Value} (l : K.lookup f = some ⟨oc, od, .func (PySem.W.fnOf x qual (defArgs st) (defBody st) (defScope st) .none kV doc pm an cdv ct), osl⟩)
    (c : PySem.W.codeIn K cdv qual = true) (k : PySem.W.keepIn K (.ref f) = true) : FunD K x qual (defArgs st) (defBody st) (defScope st) [] [] f (PySem.W.fnOf x qual (defArgs st) (defBody st) (defScope st) .none kV doc pm an cdv ct) :=
  ⟨⟨oc, od, .none, kV, doc, pm, an, cdv, ct, osl, rfl, l, c, .inl ⟨rfl, rfl⟩, .inl rfl⟩, k⟩
theorem funD_dfl {x qual : Str} {st : Stmt} {f T : Addr} {oc Tc : Value} {od an Td : Option Addr} {osl Ts : Array (Option Value)} {Tn : Nat} {kV doc pm cdv ct : Value} {its : Array Value} {dvs : List V} (l : K.lookup f = some ⟨oc, od, .func (PySem.W.fnOf x qual (defArgs st) (defBody st) (defScope st) (.ref T) kV doc pm an cdv ct), osl⟩)
    (c : PySem.W.codeIn K cdv qual = true) (k : PySem.W.keepIn K (.ref f) = true) (lT : K.lookup T = some ⟨Tc, Td, .seq its Tn, Ts⟩) (hd : dvs ≠ []) (hv : Vals dvs its.toList) :
    FunD K x qual (defArgs st) (defBody st) (defScope st) dvs [] f (PySem.W.fnOf x qual (defArgs st) (defBody st) (defScope st) (.ref T) kV doc pm an cdv ct) :=
  ⟨⟨oc, od, .ref T, kV, doc, pm, an, cdv, ct, osl, rfl, l, c, .inr ⟨hd, T, _, its.toList, Tn, rfl, lT, by simp, hv⟩, .inl rfl⟩, k⟩
theorem binds_full {x qual : Str} {params : Arguments} {body : List Stmt} {scope : Scope} {dvs : List V} {f : Addr} {fd : FuncData} {ps : List Str} (F : FunD K x qual params body scope dvs [] f fd) (hd : dvs ≠ [])
    (h : ∀ (T : Addr) (kV doc pm : Value) (an : Option Addr) (cdv ct : Value) (us its : List Value), us.length = ps.length → its.length = dvs.length →
      ∃ k, bindArgs (PySem.W.fnOf x qual params body scope (.ref T) kV doc pm an cdv ct) ⟨us, []⟩ = seqItems? (.ref T) >>= k ∧ k (some its.toArray) = pure (ps.zip us)) : Binds K fd ps [] := by
  obtain ⟨ds, h1, h2⟩ := F.binds1 (ps := ps) ps.length dvs.length hd (by omega) fun T kV doc pm an cdv ct us its hl hi => by
    obtain ⟨k, e1, e2⟩ := h T kV doc pm an cdv ct us its hl hi
    exact ⟨k, e1, by rw [e2, ← hi, List.drop_length, List.append_nil]⟩
  rw [List.drop_length] at h1
  cases h1
  exact h2
theorem vals_app : ∀ {vs zs : List V} {us ws : List Value}, Vals vs us → Vals zs ws → Vals (vs ++ zs) (us ++ ws)
  | _, _, _, _, .nil, h => h
  | _, _, _, _, .cons h1 h2, h => .cons h1 (vals_app h2 h)
theorem rep_non {ca : CA} {g : G} : Rep K ca g .non .non := by simp only [Rep]
theorem rep_bl {ca : CA} {g : G} {b : Bool} : Rep K ca g (.bl b) (.bl b) := by simp only [Rep]
theorem rep_int {ca : CA} {g : G} {i : Int} : Rep K ca g (.int i) (.int i) := by simp only [Rep]
theorem rep_str {ca : CA} {g : G} {s : Str} : Rep K ca g (.str s) (.str s) := by simp only [Rep]
theorem rep_tup {ca : CA} {g : G} {a : Addr} {its : Array Value} {n : Nat} {sl : Array (Option Value)} {vs : List V} {ws : List W} (l : K.lookup a = some ⟨.type "tuple", none, .seq its n, sl⟩) (hz : its.size ≤ 1000) (hv : Vals vs its.toList) (hr : Reps K ca g ws vs) : Rep K ca g (.tup ws) (.ref a) := by
  simp only [Rep]
  exact ⟨a, vs, rfl, .inr ⟨_, its, n, l, rfl, rfl, by rw [sizeLine_eq]; omega, hv⟩, hr⟩
theorem law_fin {C : Cfg} {prim : Nat → Option Prim} {ca : CA} {ef : Nat → Str} {F : FT} {n f : Nat} {ns : List Int} {a : Addr} {H : Hp} {Q : VK} {E : XK} (hl : ∀ ω, ∃ m c, run C prim ω n f [.scr ns] [] 0 = .ok (.bl true) m c) (hS : SqL K H a (ns.map V.int)) (hp : (F.ps f).length = 1) (k : ∀ H', Q (.bl true) H') :
    spF C prim ca ef F K n f [.ref a] H Q E := by
  refine ⟨⟨H, fun _ => none, fun _ => False⟩, [], [], [.scr ns], ⟨fun _ _ h => h, fun _ _ e => (nomatch e), fun k c e => by simp at e, fun _ _ _ e => by simp at e, fun _ _ e => (nomatch e), fun _ _ _ e => (nomatch e), fun b hb => hb.elim⟩, ?_, by rw [hp]; rfl, ?_⟩
  · simp only [Reps, Rep]
    exact ⟨_, _, rfl, ⟨a, rfl, hS⟩, rfl⟩
  · refine ⟨fun ω _ e => ?_, fun v H' g' m' d' u s e r q z => ?_, fun x ρ H' g' m' d' cls dd s e r z xr => ?_⟩
    · obtain ⟨m, c, h⟩ := hl ω
      rw [show run C prim ω n f [.scr ns] [] ([] : List Nat).length = _ from h] at e
      cases e
    · obtain ⟨ω, ag⟩ := Agree.ex d'
      obtain ⟨m, c, h⟩ := hl ω
      have z' := z ω ag
      rw [show run C prim ω n f [.scr ns] [] ([] : List Nat).length = _ from h] at z'
      injection z' with e1
      subst e1
      simp only [Rep] at q
      subst q
      exact k H'
    · obtain ⟨ω, ag⟩ := Agree.ex d'
      obtain ⟨m, c, h⟩ := hl ω
      have z' := z ω ag
      rw [show run C prim ω n f [.scr ns] [] ([] : List Nat).length = _ from h] at z'
      cases z'
end
end Lw

namespace Lw
open PySem
section
variable {m : Mem} {c : Nat} {cell : Bool} {i j : Int}
theorem ev_add : binW cell .add (.int i) (.int j) m c = .ok (.int (i + j)) m c := rfl
theorem ev_sub : binW cell .sub (.int i) (.int j) m c = .ok (.int (i - j)) m c := rfl
theorem ev_mul (h : sizeI i + sizeI j < 1000000) : binW cell .mul (.int i) (.int j) m c = .ok (.int (i * j)) m c := if_pos h
theorem ev_fdiv (h : 0 < j) (h' : sizeI j < 9000) : binW cell .fdiv (.int i) (.int j) m c = .ok (.int (i / j)) m c := if_pos ⟨h, h'⟩
theorem ev_mod (h : 0 < j) : binW cell .mod (.int i) (.int j) m c = .ok (.int (i % j)) m c := if_pos h
theorem ev_pow (h : 0 ≤ j) (h' : (Builtin.Int.intBits i : Int) * j ≤ 2 ^ 27) : binW cell .pow (.int i) (.int j) m c = .ok (.int (i ^ j.toNat)) m c := if_pos ⟨h, h'⟩
theorem ev_int : bltW cell .int [.int i] m c = .ok (.int i) m c := rfl
theorem ev_intb {b : Bool} : bltW cell .int [.bl b] m c = .ok (.int (if b then 1 else 0)) m c := rfl
theorem ev_abs : bltW cell .abs [.int i] m c = .ok (.int (if i < 0 then -i else i)) m c := rfl
theorem ev_max : bltW cell .max2 [.int i, .int j] m c = .ok (.int (if j > i then j else i)) m c := rfl
theorem ev_min : bltW cell .min2 [.int i, .int j] m c = .ok (.int (if j < i then j else i)) m c := rfl
theorem ev_lenS {ns : List Int} : bltW cell .len [.scr ns] m c = .ok (.int (ns.length : Nat)) m c := rfl
theorem ev_lenL {ns : List W} : bltW cell .len [.lst ns] m c = .ok (.int (ns.length : Nat)) m c := rfl
theorem ev_lenT {ns : List W} : bltW cell .len [.tup ns] m c = .ok (.int (ns.length : Nat)) m c := rfl
theorem ev_tru {b : Bool} : truR (.bl b) m c = .ok b m c := rfl
theorem ev_gt : blR (cmpW .gt (.int i) (.int j) m) m c = .ok (.bl (decide (j < i))) m c := rfl
theorem ev_ge : blR (cmpW .ge (.int i) (.int j) m) m c = .ok (.bl (decide (j ≤ i))) m c := rfl
theorem ev_lt : blR (cmpW .lt (.int i) (.int j) m) m c = .ok (.bl (decide (i < j))) m c := rfl
theorem ev_le : blR (cmpW .le (.int i) (.int j) m) m c = .ok (.bl (decide (i ≤ j))) m c := rfl
theorem sizeI_bits (n : Nat) (h : Builtin.Int.intBits i ≤ n) (hn : 0 < n) : sizeI i < n := by
  have h' := intBits_le_iff.mp h
  unfold sizeI
  by_cases hz : i.natAbs = 0
  · rw [hz]; simpa using hn
  · exact (Nat.log2_lt hz).mpr h'
theorem bits_of {n : Nat} (h0 : 0 ≤ i) (h : i < 2 ^ n) : Builtin.Int.intBits i ≤ n := by
  rw [intBits_le_iff]
  have : ((i.natAbs : Nat) : Int) < ((2 ^ n : Nat) : Int) := by rw [Int.natAbs_of_nonneg h0]; push_cast; exact h
  exact_mod_cast this
end
end Lw

namespace Lw
open PySem PySem.P3
open PySem.PyData (strOk)
theorem R.bind_congr {α β : Type} {r r' : R α} {k : α → Mem → Nat → R β} (h : r = r') : R.bind r k = R.bind r' k := by rw [h]
theorem bnd {α β : Type} {r : R α} {a : α} {m : Mem} {c : Nat} (h : r = .ok a m c) (k : α → Mem → Nat → R β) : R.bind r k = k a m c := by rw [h]; rfl

/-! ### strings -/
theorem ofS_inj {a b : String} : (Str.ofString a = Str.ofString b) = (a = b) := by
  apply propext
  constructor
  · intro h
    rw [Str.ofString_eq_toList, Str.ofString_eq_toList] at h
    injection h with h
    have h2 : a.toList.map Char.toNat = b.toList.map Char.toNat := by simpa using congrArg Array.toList h
    have h3 : ∀ l l' : List Char, l.map Char.toNat = l'.map Char.toNat → l = l' := by
      intro l
      induction l with
      | nil => intro l' e; cases l' with
        | nil => rfl
        | cons _ _ => cases e
      | cons x l ih => intro l' e; cases l' with
        | nil => cases e
        | cons y l' =>
          simp only [List.map_cons, List.cons.injEq] at e
          have : x = y := Char.ext (UInt32.toNat_inj.mp e.1)
          rw [this, ih l' e.2]
    exact String.toList_inj.mp (h3 _ _ h2)
  · intro h; rw [h]
theorem strOk_ofS {a : String} : strOk (Str.ofString a) = true := by
  rw [Str.ofString_eq_toList]
  unfold strOk
  simp only [List.all_toArray, List.all_eq_true, List.mem_map, decide_eq_true_eq]
  rintro x ⟨ch, _, rfl⟩
  have := ch.valid
  unfold UInt32.isValidChar Nat.isValidChar at this
  show ch.val.toNat < _
  omega

/-! ### closed values -/
def cl : Nat → W → Bool
  | 0, _ => false
  | k + 1, w => match w with
    | .ptr _ => false
    | .lst xs => xs.all (cl k)
    | .tup xs => xs.all (cl k)
    | .obj _ _ vs => vs.all (cl k)
    | _ => true
theorem frzL_id {f : W → Mem → Option (W × Mem)} {m : Mem} : ∀ xs : List W, (∀ w ∈ xs, f w m = some (w, m)) → frzL f xs m = some (xs, m)
  | [], _ => rfl
  | x :: xs, h => by
    rw [frzL, h x (by simp)]
    simp only []
    rw [frzL_id xs (fun w hw => h w (by simp [hw]))]
theorem frz_cl : ∀ (k : Nat) (w : W) (m : Mem), cl k w = true → frz k w m = some (w, m)
  | 0, _, _, h => by cases h
  | k + 1, w, m, h => by
    cases w with
    | lst xs => simp only [cl, List.all_eq_true] at h; rw [frz, frzL_id xs (fun w hw => frz_cl k w m (h w hw))]
    | tup xs => simp only [cl, List.all_eq_true] at h; rw [frz, frzL_id xs (fun w hw => frz_cl k w m (h w hw))]
    | obj c ks xs => simp only [cl, List.all_eq_true] at h; rw [frz, frzL_id xs (fun w hw => frz_cl k w m (h w hw))]
    | ptr j => cases h
    | _ => rfl
theorem okW_cl : ∀ (k n : Nat) (w : W), cl k w = true → okW n k w = true
  | 0, _, _, h => by cases h
  | k + 1, n, w, h => by
    cases w with
    | lst xs => simp only [cl, List.all_eq_true] at h; simp only [okW, List.all_eq_true]; exact fun w hw => okW_cl k n w (h w hw)
    | tup xs => simp only [cl, List.all_eq_true] at h; simp only [okW, List.all_eq_true]; exact fun w hw => okW_cl k n w (h w hw)
    | obj c ks xs => simp only [cl, List.all_eq_true] at h; simp only [okW, List.all_eq_true]; exact fun w hw => okW_cl k n w (h w hw)
    | ptr j => cases h
    | _ => rfl
theorem cl_mono : ∀ (k k' : Nat) (w : W), k ≤ k' → cl k w = true → cl k' w = true
  | 0, _, _, _, h => by cases h
  | k + 1, 0, _, hk, _ => by omega
  | k + 1, k' + 1, w, hk, h => by
    cases w with
    | lst xs => simp only [cl, List.all_eq_true] at h ⊢; exact fun w hw => cl_mono k k' w (by omega) (h w hw)
    | tup xs => simp only [cl, List.all_eq_true] at h ⊢; exact fun w hw => cl_mono k k' w (by omega) (h w hw)
    | obj c ks xs => simp only [cl, List.all_eq_true] at h ⊢; exact fun w hw => cl_mono k k' w (by omega) (h w hw)
    | ptr j => cases h
    | _ => rfl
theorem okW_mono : ∀ (k n n' : Nat) (w : W), n ≤ n' → okW n k w = true → okW n' k w = true
  | 0, _, _, _, _, h => by cases h
  | k + 1, n, n', w, hk, h => by
    cases w with
    | lst xs => simp only [okW, List.all_eq_true] at h ⊢; exact fun w hw => okW_mono k n n' w hk (h w hw)
    | tup xs => simp only [okW, List.all_eq_true] at h ⊢; exact fun w hw => okW_mono k n n' w hk (h w hw)
    | obj c ks xs => simp only [okW, List.all_eq_true] at h ⊢; exact fun w hw => okW_mono k n n' w hk (h w hw)
    | ptr j => simp only [okW, decide_eq_true_eq] at h ⊢; omega
    | _ => rfl
theorem okC_mono {n n' : Nat} (hn : n ≤ n') : ∀ x : Cell, okC n x = true → okC n' x = true
  | .lst xs, h => by simp only [okC, List.all_eq_true] at h ⊢; exact fun w hw => okW_mono 12 n n' w hn (h w hw)
  | .ins _ _ xs, h => by simp only [okC, List.all_eq_true] at h ⊢; exact fun w hw => okW_mono 12 n n' w hn (h w hw)
  | .dead, _ => rfl
/-- no cell points beyond the memory -/
def OkM (m : Mem) : Prop := m.all (okC m.length) = true
theorem OkM.all {m : Mem} {n : Nat} (h : OkM m) (hn : m.length ≤ n) : m.all (okC n) = true := by
  unfold OkM at h
  simp only [List.all_eq_true] at h ⊢
  exact fun x hx => okC_mono hn x (h x hx)
theorem okM_nil : OkM [] := rfl
theorem OkM.app {m e : Mem} (h : OkM m) (he : e.all (okC (m.length + e.length)) = true) : OkM (m ++ e) := by
  unfold OkM
  rw [List.all_append, List.length_append, h.all (by omega), he]; rfl
theorem okC_lst {n : Nat} {xs : List W} (h : xs.all (cl 12) = true) : okC n (.lst xs) = true := by
  simp only [okC, List.all_eq_true] at h ⊢
  exact fun w hw => okW_cl 12 n w (h w hw)

/-! ### a def's end -/
theorem exit_rt {m : Mem} {c : Nat} {w : W} (h : OkM m) (hw : cl 12 w = true) : exitR false m.length (.ok (.rt w) m c) = .ok w m c := by
  unfold exitR
  simp only [Bool.false_eq_true, if_false, frz_cl 12 w m hw, okW_cl 12 _ w hw, List.take_length]
  rw [h.all (Nat.le_refl _)]; rfl
theorem exit_rt_app {m e : Mem} {c : Nat} {w : W} (h : OkM m) (hw : cl 12 w = true) : exitR false m.length (.ok (.rt w) (m ++ e) c) = .ok w m c := by
  unfold exitR
  simp only [Bool.false_eq_true, if_false, frz_cl 12 w _ hw, okW_cl 12 _ w hw, List.take_left]
  rw [h.all (Nat.le_refl _)]; rfl
theorem exit_fz {m m2 : Mem} {n c : Nat} {w w' : W} (hf : frz 12 w m2 = some (w', m2')) (hm : m2'.take n = m) (hn : m.length = n) (h : OkM m) (hw : cl 12 w' = true) : exitR false n (.ok (.rt w) m2 c) = .ok w' m c := by
  subst hn
  unfold exitR
  simp only [Bool.false_eq_true, if_false, hf, okW_cl 12 _ w' hw, hm]
  rw [h.all (Nat.le_refl _)]; rfl
theorem exit_nx {m : Mem} {n c : Nat} {ρ : Env} (h : OkM m) (hn : m.length = n) : exitR false n (.ok (.nx ρ) m c) = .ok .non m c := by
  subst hn
  unfold exitR
  simp only [Bool.false_eq_true, if_false, List.take_length]
  rw [h.all (Nat.le_refl _)]; rfl
theorem exit_nx_app {m e : Mem} {n c : Nat} {ρ : Env} (h : OkM m) (hn : m.length = n) : exitR false n (.ok (.nx ρ) (m ++ e) c) = .ok .non m c := by
  subst hn
  unfold exitR
  simp only [Bool.false_eq_true, if_false, List.take_left]
  rw [h.all (Nat.le_refl _)]; rfl
theorem exit_k {m : Mem} {n c : Nat} {w : W} : exitR true n (.ok (.rt w) m c) = .ok w m c := rfl
theorem exit_kn {m : Mem} {n c : Nat} {ρ : Env} : exitR true n (.ok (.nx ρ) m c) = .ok .non m c := rfl
theorem run_eq {C : Cfg} {prim : Nat → Option Prim} {ω : Nat → Nat} {n f : Nat} {ws : List W} {m : Mem} {c : Nat} {r : FnRec} (h : C.fn f = some r) (ha : ws.length = r.arity) (hp : prim f = none) : run C prim ω (n + 1) f ws m c = exitR r.keep m.length (exSs C (run C prim ω n) r.body (startE r.slots ws) m c) := by
  rw [run, h]
  simp only [ha, if_true, hp]
theorem run_eqP {C : Cfg} {prim : Nat → Option Prim} {ω : Nat → Nat} {n f : Nat} {ws : List W} {m : Mem} {c : Nat} {r : FnRec} {p : Prim} (h : C.fn f = some r) (ha : ws.length = r.arity) (hp : prim f = some p) : run C prim ω (n + 1) f ws m c = runP p ω ws m c := by
  rw [run, h]
  simp only [ha, if_true, hp]
theorem ev_draw {ω : Nat → Nat} {i : Int} {m : Mem} {c : Nat} (h : 0 < i) (h' : sizeI i < 9000) (hc : c < drawMax) : runP .draw ω [.tok, .int i] m c = .ok (.int ((ω c : Int) % i)) m (c + 1) := by
  show (if 0 < i ∧ sizeI i < 9000 ∧ c < drawMax then _ else _) = _
  rw [if_pos ⟨h, h', hc⟩]
theorem ev_spring {ω : Nat → Nat} {ns : List Int} {k : Int} {m : Mem} {c : Nat} (h : 0 ≤ k) (h' : k < 100000) : runP .spring ω [.scr ns, .int k] m c = .ok .tok m c := by
  show (if 0 ≤ k ∧ k < 100000 then _ else _) = _
  rw [if_pos ⟨h, h'⟩]

/-! ### walks -/
theorem for_rule {α σ : Type} {gd : Mem → Bool} {bt : W → Env → Option Env} {body : Env → Mem → Nat → R Fl} (X : σ → Env) (Y : σ → Mem) (Z : σ → Nat) (I : List α → σ → Prop) (f : α → W) (nxt : σ → α → σ)
    (hg : ∀ l s, I l s → gd (Y s) = true)
    (hs : ∀ a l s, I (a :: l) s → I l (nxt s a) ∧ ∃ ρ', bt (f a) (X s) = some ρ' ∧ body ρ' (Y s) (Z s) = .ok (.nx (X (nxt s a))) (Y (nxt s a)) (Z (nxt s a))) :
    ∀ (l : List α) (s : σ), I l s → I [] (l.foldl nxt s) ∧ forGo gd bt body (l.map f) (X s) (Y s) (Z s) = .ok (.nx (X (l.foldl nxt s))) (Y (l.foldl nxt s)) (Z (l.foldl nxt s))
  | [], s, h => ⟨h, by rw [List.map_nil, forGo, if_pos (hg _ _ h)]; rfl⟩
  | a :: l, s, h => by
    obtain ⟨h1, ρ', h2, h3⟩ := hs a l s h
    obtain ⟨i1, i2⟩ := for_rule X Y Z I f nxt hg hs l (nxt s a) h1
    refine ⟨i1, ?_⟩
    rw [List.map_cons, forGo, if_pos (hg _ _ h), h2]
    simp only []
    rw [bnd h3]
    exact i2
theorem lc_rule {α σ : Type} {gd : Mem → Bool} {bt : W → Option Env} {cond : Env → Mem → Nat → R Bool} {elt : Env → Mem → Nat → R W} (Y : σ → Mem) (Z : σ → Nat) (I : List α → σ → Prop) (f : α → W) (nxt : σ → α → σ) (p : σ → α → Bool) (v : σ → α → W)
    (hg : ∀ l s, I l s → gd (Y s) = true)
    (hs : ∀ a l s, I (a :: l) s → I l (nxt s a) ∧ ∃ ρ', bt (f a) = some ρ' ∧ ((p s a = true ∧ ∃ mi ci, cond ρ' (Y s) (Z s) = .ok true mi ci ∧ elt ρ' mi ci = .ok (v s a) (Y (nxt s a)) (Z (nxt s a))) ∨ (p s a = false ∧ cond ρ' (Y s) (Z s) = .ok false (Y (nxt s a)) (Z (nxt s a))))) :
    ∀ (l : List α) (s : σ) (acc : List W), acc.length + l.length ≤ sizeLine → I l s →
      I [] (l.foldl nxt s) ∧ lcGo gd bt cond elt (l.map f) acc (Y s) (Z s) = .ok (acc ++ (l.foldl (fun (q : σ × List W) a => (nxt q.1 a, if p q.1 a then q.2 ++ [v q.1 a] else q.2)) (s, [])).2) (Y (l.foldl nxt s)) (Z (l.foldl nxt s))
  | [], s, acc, _, h => ⟨h, by rw [List.map_nil, lcGo, if_pos (hg _ _ h)]; simp⟩
  | a :: l, s, acc, hl, h => by
    obtain ⟨h1, ρ', h2, h3⟩ := hs a l s h
    simp only [List.length_cons] at hl
    have key : ∀ (l : List α) (s : σ) (r r' : List W), (l.foldl (fun (q : σ × List W) a => (nxt q.1 a, if p q.1 a then q.2 ++ [v q.1 a] else q.2)) (s, r ++ r')).2 = r ++ (l.foldl (fun (q : σ × List W) a => (nxt q.1 a, if p q.1 a then q.2 ++ [v q.1 a] else q.2)) (s, r')).2 := by
      intro l
      induction l with
      | nil => intro s r r'; rfl
      | cons b l ih =>
        intro s r r'
        simp only [List.foldl_cons]
        by_cases hp : p s b = true
        · simp only [hp, if_true, List.append_assoc]; exact ih _ _ _
        · simp only [hp, Bool.false_eq_true, if_false]; exact ih _ _ _
    rw [List.map_cons, lcGo, if_pos (hg _ _ h), h2]
    simp only []
    rcases h3 with ⟨hp, mi, ci, h3, h4⟩ | ⟨hp, h3⟩
    · rw [bnd h3]
      simp only [if_true]
      rw [bnd h4]
      rw [if_pos (by omega)]
      obtain ⟨i1, i2⟩ := lc_rule Y Z I f nxt p v hg hs l (nxt s a) (acc ++ [v s a]) (by simp; omega) h1
      refine ⟨i1, ?_⟩
      rw [i2]
      simp only [List.foldl_cons, hp, if_true, List.nil_append, List.append_assoc]
      congr 2
      have := key l (nxt s a) [v s a] []
      rw [List.append_nil] at this
      exact this.symm
    · rw [bnd h3]
      simp only [Bool.false_eq_true, if_false]
      obtain ⟨i1, i2⟩ := lc_rule Y Z I f nxt p v hg hs l (nxt s a) acc (by omega) h1
      refine ⟨i1, ?_⟩
      rw [i2]
      simp only [List.foldl_cons, hp, Bool.false_eq_true, if_false]
/-- a comprehension that changes nothing -/
theorem lc_pure {α : Type} {gd : Mem → Bool} {bt : W → Option Env} {cond : Env → Mem → Nat → R Bool} {elt : Env → Mem → Nat → R W} {m : Mem} {c : Nat} (f : α → W) (p : α → Bool) (v : α → W) (l : List α)
    (hg : gd m = true)
    (hs : ∀ a ∈ l, ∃ ρ', bt (f a) = some ρ' ∧ cond ρ' m c = .ok (p a) m c ∧ (p a = true → elt ρ' m c = .ok (v a) m c)) (acc : List W) (hl : acc.length + l.length ≤ sizeLine) :
    lcGo gd bt cond elt (l.map f) acc m c = .ok (acc ++ (l.filter p).map v) m c := by
  induction l generalizing acc with
  | nil => rw [List.map_nil, lcGo, if_pos hg]; simp
  | cons a l ih =>
    obtain ⟨ρ', h2, h3, h4⟩ := hs a (by simp)
    simp only [List.length_cons] at hl
    rw [List.map_cons, lcGo, if_pos hg, h2]
    simp only []
    rw [bnd h3]
    by_cases hp : p a = true
    · simp only [hp, if_true]
      rw [bnd (h4 hp), if_pos (by omega), ih (fun b hb => hs b (by simp [hb])) _ (by simp; omega)]
      simp [List.filter_cons, hp]
    · simp only [hp, Bool.false_eq_true, if_false]
      rw [ih (fun b hb => hs b (by simp [hb])) _ (by omega)]
      simp [List.filter_cons, hp]

/-! ### comparing -/
def iW (l : List Int) : List W := l.map .int
theorem iW_nil : iW [] = [] := rfl
theorem iW_cons {x : Int} {l : List Int} : iW (x :: l) = .int x :: iW l := rfl
theorem iW_app {l l' : List Int} : iW (l ++ l') = iW l ++ iW l' := List.map_append
theorem iW_len {l : List Int} : (iW l).length = l.length := List.length_map _
theorem cl_iW {k : Nat} (l : List Int) : (iW l).all (cl (k + 1)) = true := by
  simp only [iW, List.all_eq_true, List.mem_map]
  rintro w ⟨i, _, rfl⟩
  rfl
theorem eq_shaped {m : Mem} {a b : W} {d e : PyData} (ha : dat m 30 a = some d) (hb : dat m 30 b = some e) (hd : SeqAt.shaped d = true) (he : SeqAt.shaped e = true) : eqW m a b = some (PyData.eqv d e) := by
  unfold eqW
  rw [show depthMax = 30 from rfl, ha, hb]
  simp only [hd, he, Bool.and_self, if_true]
theorem eq_refl {m : Mem} {a b : W} {d : PyData} (ha : dat m 30 a = some d) (hb : dat m 30 b = some d) (hd : SeqAt.shaped d = true) : eqW m a b = some true := by
  rw [eq_shaped ha hb hd hd, SeqAt.eqv_refl d (SeqAt.canLay_of_shaped hd)]
theorem cmp_eq {m : Mem} {a b : W} : cmpW .eq a b m = eqW m a b := rfl
theorem cmp_ne {m : Mem} {a b : W} : cmpW .ne a b m = (eqW m a b).map (!·) := rfl
theorem ev_eqS {m : Mem} {a b : String} : cmpW .eq (.str (Str.ofString a)) (.str (Str.ofString b)) m = some (decide (a = b)) := by
  rw [cmp_eq, eq_shaped (d := .str (Str.ofString a)) (e := .str (Str.ofString b)) rfl rfl]
  · simp only [PyData.eqv]; congr 1; exact Bool.eq_iff_iff.mpr (by simp [ofS_inj])
  · unfold SeqAt.shaped; simp [PyData.canLay0, strOk_ofS, PyData.depth]
  · unfold SeqAt.shaped; simp [PyData.canLay0, strOk_ofS, PyData.depth]
theorem ev_neS {m : Mem} {a b : String} : cmpW .ne (.str (Str.ofString a)) (.str (Str.ofString b)) m = some (!decide (a = b)) := by
  rw [cmp_ne, ← cmp_eq, ev_eqS]; rfl
theorem ev_eqI {m : Mem} {a b : Int} : cmpW .eq (.int a) (.int b) m = some (decide (a = b)) := by
  rw [cmp_eq, eq_shaped (d := .int a) (e := .int b) rfl rfl rfl rfl]
  simp only [PyData.eqv]; congr 1
theorem ev_neI {m : Mem} {a b : Int} : cmpW .ne (.int a) (.int b) m = some (!decide (a = b)) := by
  rw [cmp_ne, ← cmp_eq, ev_eqI]; rfl
theorem datL_ints {m : Mem} {k : Nat} : ∀ l : List Int, datL (dat m (k + 1)) (iW l) = some (l.map .int)
  | [] => rfl
  | x :: l => by rw [iW_cons, datL, show dat m (k + 1) (.int x) = some (.int x) from rfl]; simp only []; rw [datL_ints l]; rfl
theorem canLay_ints : ∀ l : List Int, PyData.canLayAll0 (l.map .int) = true
  | [] => rfl
  | x :: l => by rw [List.map_cons, PyData.canLayAll0, canLay_ints l]; rfl
theorem reOk {α : Type} {ρ : Env} {a : α} {m : Mem} {c : Nat} : reEnv ρ (.ok a m c) = .ok a m c := rfl
theorem blR_some {x : Bool} {m : Mem} {c : Nat} : blR (some x) m c = .ok (.bl x) m c := rfl
section
variable {m : Mem} {c : Nat} {a0 a1 a2 a3 a4 a5 : W}
theorem vw_int {i : Int} : vw m (.int i) = .int i := rfl
theorem vw_bl {i : Bool} : vw m (.bl i) = .bl i := rfl
theorem vw_str {i : Str} : vw m (.str i) = .str i := rfl
theorem vwTup {i : List W} : vw m (.tup i) = .tup i := rfl
theorem vw_lst {i : List W} : vw m (.lst i) = .lst i := rfl
theorem vw_obj {k : Nat} {ks : List Str} {i : List W} : vw m (.obj k ks i) = .obj k ks i := rfl
theorem vw_non : vw m .non = .non := rfl
theorem isLstW_lst {l : List W} : isLstW (.lst l) = true := rfl
theorem mkT_ok {ws : List W} (h : ws.length ≤ sizeLine) : mkT ws m c = .ok (.tup ws) m c := if_pos h
theorem mkL_ok {ws : List W} (h : ws.length ≤ sizeLine) : mkL false ws m c = .ok (.lst ws) m c := by unfold mkL; rw [if_pos h]; rfl
theorem mkC_ok {ws : List W} (h : ws.length ≤ sizeLine) : mkL true ws m c = .ok (.ptr m.length) (m ++ [.lst ws]) c := by unfold mkL; rw [if_pos h]; rfl
theorem le_sl {n : Nat} (h : n ≤ 1000000) : n ≤ sizeLine := by rw [sizeLine_eq]; omega
theorem lt_sl {n : Nat} (h : n ≤ 1000000) : n < sizeLine := by rw [sizeLine_eq]; omega
theorem mkT0 : mkT [] m c = .ok (.tup []) m c := mkT_ok (le_sl (by simp))
theorem mkT1 : mkT [a0] m c = .ok (.tup [a0]) m c := mkT_ok (le_sl (by simp))
theorem mkT2 : mkT [a0, a1] m c = .ok (.tup [a0, a1]) m c := mkT_ok (le_sl (by simp))
theorem mkT3 : mkT [a0, a1, a2] m c = .ok (.tup [a0, a1, a2]) m c := mkT_ok (le_sl (by simp))
theorem mkT4 : mkT [a0, a1, a2, a3] m c = .ok (.tup [a0, a1, a2, a3]) m c := mkT_ok (le_sl (by simp))
theorem mkT5 : mkT [a0, a1, a2, a3, a4] m c = .ok (.tup [a0, a1, a2, a3, a4]) m c := mkT_ok (le_sl (by simp))
theorem mkT6 : mkT [a0, a1, a2, a3, a4, a5] m c = .ok (.tup [a0, a1, a2, a3, a4, a5]) m c := mkT_ok (le_sl (by simp))
theorem mkL0 : mkL false [] m c = .ok (.lst []) m c := mkL_ok (le_sl (by simp))
theorem mkL1 : mkL false [a0] m c = .ok (.lst [a0]) m c := mkL_ok (le_sl (by simp))
theorem mkC0 : mkL true [] m c = .ok (.ptr m.length) (m ++ [.lst []]) c := mkC_ok (le_sl (by simp))
theorem ev_notN_int {i : Int} : cmpW .notN (.int i) .non m = some true := rfl
theorem ev_notN_non : cmpW .notN .non .non m = some false := rfl
theorem intsOf_iW : ∀ l : List Int, intsOf (iW l) = some l
  | [] => rfl
  | x :: l => by rw [iW_cons, intsOf, intsOf_iW l]; rfl
theorem sortI_len {l : List Int} : (sortI l).length = l.length := List.length_mergeSort _
theorem ev_sortT {l : List Int} (h : l.length ≤ sizeLine) : bltW false .sorted [.tup (iW l)] m c = .ok (.lst (iW (sortI l))) m c := by
  show (match intsOf (iW l) with | some ns => mkL false ((sortI ns).map .int) m c | none => .no) = _
  rw [intsOf_iW]
  exact mkL_ok (by rw [List.length_map, sortI_len]; exact h)
theorem ev_sortL {l : List Int} (h : l.length ≤ sizeLine) : bltW false .sorted [.lst (iW l)] m c = .ok (.lst (iW (sortI l))) m c := by
  show (match intsOf (iW l) with | some ns => mkL false ((sortI ns).map .int) m c | none => .no) = _
  rw [intsOf_iW]
  exact mkL_ok (by rw [List.length_map, sortI_len]; exact h)
theorem ev_sortTC {l : List Int} (h : l.length ≤ sizeLine) : bltW true .sorted [.tup (iW l)] m c = .ok (.ptr m.length) (m ++ [.lst (iW (sortI l))]) c := by
  show (match intsOf (iW l) with | some ns => mkL true ((sortI ns).map .int) m c | none => .no) = _
  rw [intsOf_iW]
  exact mkC_ok (by rw [List.length_map, sortI_len]; exact h)
theorem ev_tupL {l : List W} (h : l.length ≤ sizeLine) : bltW false .tuple [.lst l] m c = .ok (.tup l) m c := mkT_ok h
theorem ev_lstL {l : List W} (h : l.length ≤ sizeLine) : bltW false .list [.lst l] m c = .ok (.lst l) m c := mkL_ok h
theorem ev_lstLC {l : List W} (h : l.length ≤ sizeLine) : bltW true .list [.lst l] m c = .ok (.ptr m.length) (m ++ [.lst l]) c := mkC_ok h
theorem flat_iW (l : List Int) : (iW l).all flatW = true := by
  simp only [iW, List.all_eq_true, List.mem_map]
  rintro w ⟨i, _, rfl⟩
  rfl
theorem inW_iW {p : Int} : ∀ l : List Int, inW (.int p) (iW l) = decide (p ∈ l)
  | [] => by simp [inW, iW_nil]
  | x :: l => by
    have ih := inW_iW (p := p) l
    unfold inW at ih ⊢
    rw [iW_cons, List.any_cons, ih]
    show (x == p || _) = _
    by_cases h : p = x
    · subst h; simp
    · have h' : ¬ x = p := fun e => h e.symm
      simp [h, h']
theorem ev_inT {p : Int} {l : List Int} : cmpW .isIn (.int p) (.tup (iW l)) m = some (decide (p ∈ l)) := by
  show (if flatW (.int p) && (iW l).all flatW then some (inW (.int p) (iW l)) else none) = _
  rw [flat_iW, inW_iW]; rfl
theorem ev_ninT {p : Int} {l : List Int} : cmpW .notIn (.int p) (.tup (iW l)) m = some (!decide (p ∈ l)) := by
  show (if flatW (.int p) && (iW l).all flatW then some (!inW (.int p) (iW l)) else none) = _
  rw [flat_iW, inW_iW]; rfl
theorem depthAll_ints : ∀ l : List Int, PyData.depthAll (l.map .int) = 0
  | [] => rfl
  | x :: l => by rw [List.map_cons, PyData.depthAll, depthAll_ints l]; rfl
theorem sh_tup {ds : List PyData} (h : PyData.canLayAll0 ds = true) (hd : PyData.depthAll ds ≤ 20) : SeqAt.shaped (.tuple ds) = true := by
  unfold SeqAt.shaped
  simp only [PyData.canLay0, h, Bool.true_and, decide_eq_true_eq]
  show PyData.depthAll ds + 1 ≤ 64
  omega
theorem sh_lst {ds : List PyData} (h : PyData.canLayAll0 ds = true) (hd : PyData.depthAll ds ≤ 20) : SeqAt.shaped (.list ds) = true := by
  unfold SeqAt.shaped
  simp only [PyData.canLay0, h, Bool.true_and, decide_eq_true_eq]
  show PyData.depthAll ds + 1 ≤ 64
  omega
theorem dat_tup {k : Nat} {ws : List W} {ds : List PyData} (h : datL (dat m k) ws = some ds) : dat m (k + 1) (.tup ws) = some (.tuple ds) := by
  unfold dat; simp only [vwTup]; rw [h]; rfl
theorem dat_lst {k : Nat} {ws : List W} {ds : List PyData} (h : datL (dat m k) ws = some ds) : dat m (k + 1) (.lst ws) = some (.list ds) := by
  unfold dat; simp only [vw_lst]; rw [h]; rfl
theorem dat_ptr {k n : Nat} {ws : List W} {ds : List PyData} (hm : m[n]? = some (.lst ws)) (h : datL (dat m k) ws = some ds) : dat m (k + 1) (.ptr n) = some (.list ds) := by
  unfold dat
  have : vw m (.ptr n) = .lst ws := by simp only [vw, hm]
  simp only [this]; rw [h]; rfl
theorem datL_map {α : Type} {k : Nat} {f : α → W} {g : α → PyData} : ∀ l : List α, (∀ a ∈ l, dat m k (f a) = some (g a)) → datL (dat m k) (l.map f) = some (l.map g)
  | [], _ => rfl
  | a :: l, h => by rw [List.map_cons, datL, h a (by simp)]; simp only []; rw [datL_map l (fun x hx => h x (by simp [hx]))]; rfl
theorem ev_eqN {l : List Int} : cmpW .eq (.tup (iW l)) (.tup []) m = some (decide (l = [])) := by
  rw [cmp_eq, eq_shaped (dat_tup (datL_ints l)) (dat_tup (ds := []) rfl) (sh_tup (canLay_ints l) (by rw [depthAll_ints]; omega)) rfl]
  cases l <;> simp [PyData.eqv, PyData.eqvAll]
theorem ev_neN {l : List Int} : cmpW .ne (.tup (iW l)) (.tup []) m = some (!decide (l = [])) := by
  rw [cmp_ne, ← cmp_eq, ev_eqN]; rfl
theorem idx0 {x : W} {l : List W} : idxW m (.tup (x :: l)) (.int 0) = some x := by
  have : place (l.length + 1) 0 = some 0 := by unfold place; rw [if_pos (by decide), if_pos (by omega)]; rfl
  simp only [idxW, vwTup, List.length_cons, this, Option.bind_some, List.getElem?_cons_zero]
theorem idx1 {x y : W} {l : List W} : idxW m (.tup (x :: y :: l)) (.int 1) = some y := by
  have : place (l.length + 1 + 1) 1 = some 1 := by unfold place; rw [if_pos (by decide), if_pos (by omega)]; rfl
  simp only [idxW, vwTup, List.length_cons, this, Option.bind_some, List.getElem?_cons_zero, List.getElem?_cons_succ]
theorem idx2 {x y z : W} {l : List W} : idxW m (.tup (x :: y :: z :: l)) (.int 2) = some z := by
  have : place (l.length + 1 + 1 + 1) 2 = some 2 := by unfold place; rw [if_pos (by decide), if_pos (by omega)]; rfl
  simp only [idxW, vwTup, List.length_cons, this, Option.bind_some, List.getElem?_cons_zero, List.getElem?_cons_succ]
theorem idx3 {x y z u : W} {l : List W} : idxW m (.tup (x :: y :: z :: u :: l)) (.int 3) = some u := by
  have : place (l.length + 1 + 1 + 1 + 1) 3 = some 3 := by unfold place; rw [if_pos (by decide), if_pos (by omega)]; rfl
  simp only [idxW, vwTup, List.length_cons, this, Option.bind_some, List.getElem?_cons_zero, List.getElem?_cons_succ]
theorem idx4 {x y z u v : W} {l : List W} : idxW m (.tup (x :: y :: z :: u :: v :: l)) (.int 4) = some v := by
  have : place (l.length + 1 + 1 + 1 + 1 + 1) 4 = some 4 := by unfold place; rw [if_pos (by decide), if_pos (by omega)]; rfl
  simp only [idxW, vwTup, List.length_cons, this, Option.bind_some, List.getElem?_cons_zero, List.getElem?_cons_succ]
theorem idxL0 {x : W} {l : List W} : idxW m (.lst (x :: l)) (.int 0) = some x := by
  have : place (l.length + 1) 0 = some 0 := by unfold place; rw [if_pos (by decide), if_pos (by omega)]; rfl
  simp only [idxW, vw_lst, List.length_cons, this, Option.bind_some, List.getElem?_cons_zero]
theorem place_nat {n j : Nat} (h : j < n) : place n (j : Int) = some j := by unfold place; rw [if_pos (by omega), if_pos (by omega)]; simp
theorem idxLn {l : List W} {j : Nat} (h : j < l.length) : idxW m (.lst l) (.int (j : Int)) = l[j]? := by
  simp only [idxW, vw_lst, place_nat h, Option.bind_some]
/-- numbered -/
def en {α : Type} : Nat → List α → List (Nat × α)
  | _, [] => []
  | i, a :: l => (i, a) :: en (i + 1) l
theorem enumW_map {α : Type} {f : α → W} : ∀ (l : List α) (i : Nat), enumW i (l.map f) = (en i l).map (fun p => .tup [.int (p.1 : Nat), f p.2])
  | [], _ => rfl
  | a :: l, i => by rw [List.map_cons, enumW, enumW_map l]; rfl
theorem gdL_lst {xs ws : List W} {m : Mem} : gdL (.lst xs) ws m = true := rfl
theorem set_mid {pre e : Mem} {x y : Cell} : (pre ++ x :: e).set pre.length y = pre ++ y :: e := by simp
theorem get_mid {pre e : Mem} {x : Cell} : (pre ++ x :: e)[pre.length]? = some x := by simp
theorem setA_mid {pre e : Mem} {k : Nat} {ks : List Str} {vs : List W} {w : W} {f : Str} (h : ks.length < 900) : setA (.ptr pre.length) w f (pre ++ .ins k ks vs :: e) = some (pre ++ .ins k (putField f w ks vs).1 (putField f w ks vs).2 :: e) := by
  unfold setA
  simp only [get_mid, if_pos h, set_mid]
theorem vw_mid {pre e : Mem} {k : Nat} {ks : List Str} {vs : List W} : vw (pre ++ .ins k ks vs :: e) (.ptr pre.length) = .obj k ks vs := by
  simp only [vw, get_mid]
theorem bind_pat2 {i j : Nat} {x y : W} {ρ : Lw.Env} : bindTg [i, j] true (.tup [x, y]) ρ = some ((ρ.set i (some x)).set j (some y)) := rfl
theorem bind_one {i : Nat} {x : W} {ρ : Lw.Env} : bindTg [i] false x ρ = some (ρ.set i (some x)) := rfl
theorem cst0 : ((0 : Nat) : Int) = 0 := rfl
theorem cst1 : ((1 : Nat) : Int) = 1 := rfl
theorem cst2 : ((2 : Nat) : Int) = 2 := rfl
theorem cst3 : ((3 : Nat) : Int) = 3 := rfl
theorem cst4 : ((4 : Nat) : Int) = 4 := rfl
theorem cst5 : ((5 : Nat) : Int) = 5 := rfl
theorem cst6 : ((6 : Nat) : Int) = 6 := rfl
theorem cst7 : ((7 : Nat) : Int) = 7 := rfl
theorem cst8 : ((8 : Nat) : Int) = 8 := rfl
theorem isLst_lst {l : List W} : isiW m (.lst l) .list = some true := rfl
theorem isTup_tup {l : List W} : isiW m (.tup l) .tuple = some true := rfl
theorem isStr_str {s : Str} : isiW m (.str s) .str = some true := rfl
theorem isBl_bl {x : Bool} : isiW m (.bl x) .bool = some true := rfl
theorem isInt_int {x : Int} : isiW m (.int x) .int = some true := rfl
theorem isBl_int {x : Int} : isiW m (.int x) .bool = some false := rfl
theorem isBl_non : isiW m .non .bool = some false := rfl
end
end Lw

namespace K10
open PySem Lw
def b_law_S1 : Ss := (.cons (.ife (.not (.e (.call 1 (.cons (.call 2 (.cons (.var 0) (.cons (.var 1) .nil))) .nil)))) (.cons (.ret (.con (.bl false))) .nil) .nil) .nil)
def b_law_right_S1 : Ss := (.cons (.asg 5 (.call 5 (.cons (.idx (.var 2) (.var 4)) .nil))) (.cons (.ife (.or (.not (.e (.isi (.var 5) .str))) (.e (.cmp .ne (.var 5) (.sjoin (.con (.str (Str.ofString "\n"))) (.call 7 (.cons (.idx (.var 1) (.var 4)) .nil)))))) (.cons (.ret (.con (.bl false))) .nil) .nil) .nil))
def b_law_right_E2 : E := (.call 8 (.cons (.var 0) (.cons (.var 3) .nil)))
def b_book_text_E1 : E := (.sjoin (.con (.str (Str.ofString " "))) (.lst false (.cons (.fstr (.cons (.var 2) (.cons (.con (.str (Str.ofString ":"))) .nil))) (.star (.meth 11 (.var 0) (.cons (.var 2) .nil)) .nil))))
def b_law_lines_E1 : E := (.call 13 (.cons (.idx (.var 1) (.var 2)) (.cons (.idx (.idx (.var 0) (.con (.int 1))) (.var 2)) .nil)))
def b_law_made_S1 : Ss := (.cons (.asg 5 (.meth 17 (.var 5) (.cons (.idx (.var 4) (.var 6)) (.cons (.idx (.var 3) (.var 6)) .nil)))) .nil)
def b_law_plan_E1 : E := (.call 18 (.cons (.var 0) .nil))
def b_Book__init__S1 : Ss := (.cons (.ife (.not (.e (.call 20 (.cons (.var 12) .nil)))) (.cons (.never) .nil) .nil) .nil)
def b_Book_taking_E1 : E := (.ife (.e (.cmp .isIn (.var 4) (.var 2))) (.meth 11 (.var 1) (.cons (.var 4) .nil)) (.meth 11 (.var 0) (.cons (.var 4) .nil)))
def b_Book_with_rule_E1 : E := (.ife (.e (.cmp .eq (.var 4) (.var 1))) (.var 2) (.var 5))
def b_law_rule_E1 : E := (.idx (.var 1) (.call 9 (.cons (.var 0) (.cons (.con (.int 7)) .nil))))
def b_is_rule_E1 : E := (.and (.isi (.var 1) .str) (.cmp .isIn (.var 1) (.glob 0)))
def b_are_moments_E1 : E := (.call 19 (.cons (.var 1) .nil))
def b_law : Ss := (.cons (.for [1] false (.rng (.blt false .max2 (.cons (.con (.int 1)) (.cons (.blt false .min2 (.cons (.con (.int 6)) (.cons (.blt false .len (.cons (.var 0) .nil)) .nil))) .nil)))) b_law_S1) (.cons (.ret (.con (.bl true))) .nil))
def b_law_right : Ss := (.cons (.asg 1 (.lst false (.cons (.call 10 (.cons (.var 0) .nil)) (.cons (.tup (.cons (.bin false .add (.con (.int 1)) (.call 9 (.cons (.var 0) (.cons (.con (.int 30)) .nil)))) (.cons (.bin false .mul (.tup (.cons (.tup .nil) .nil)) (.con (.int 8))) .nil))) .nil)))) (.cons (.asg 2 (.lc false [3] false (.lst (.var 1)) .yes b_law_right_E2)) (.cons (.for [4] false (.tup (.tup (.cons (.con (.int 0)) (.cons (.con (.int 1)) (.cons (.con (.int 0)) (.cons (.con (.int 1)) .nil)))))) b_law_right_S1) (.cons (.ife (.e (.cmp .ne (.callK 5 [(Str.ofString "book")] [0] (.cons (.call 6 (.cons (.idx (.var 1) (.con (.int 0))) .nil)) .nil)) (.sjoin (.con (.str (Str.ofString "\n"))) (.call 7 (.cons (.idx (.var 1) (.con (.int 0))) .nil))))) (.cons (.ret (.con (.bl false))) .nil) .nil) (.cons (.ret (.and (.cmp .eq (.meth 3 (.idx (.var 2) (.con (.int 0))) .nil) (.idx (.idx (.var 1) (.con (.int 0))) (.con (.int 1)))) (.cmp .eq (.meth 4 (.idx (.var 2) (.con (.int 1))) .nil) (.idx (.idx (.var 1) (.con (.int 1))) (.con (.int 0)))))) .nil)))))
def b_law_pot : Ss := .nil
def b_Book_rules : Ss := (.cons (.ret (.attr (.var 0) (Str.ofString "rule_row"))) .nil)
def b_Book_days : Ss := (.cons (.ret (.attr (.var 0) (Str.ofString "limit"))) .nil)
def b_book_text : Ss := (.cons (.asg 1 (.lst true (.cons (.fstr (.cons (.con (.str (Str.ofString "days "))) (.cons (.meth 4 (.var 0) .nil) .nil))) .nil))) (.cons (.ex (.bm .extend (.var 1) (.cons (.lc false [2] false (.tup (.glob 1)) .yes b_book_text_E1) .nil))) (.frz 1 (.cons (.ret (.sjoin (.con (.str (Str.ofString "\n"))) (.var 1))) .nil))))
def b_law_book : Ss := (.cons (.asg 1 (.idx (.var 0) (.con (.int 1)))) (.cons (.ret (.make 0 true (.cons (.idx (.var 0) (.con (.int 0))) (.cons (.idx (.var 1) (.con (.int 0))) (.cons (.idx (.var 1) (.con (.int 1))) (.cons (.idx (.var 1) (.con (.int 2))) (.cons (.idx (.var 1) (.con (.int 3))) (.cons (.idx (.var 1) (.con (.int 4))) (.cons (.idx (.var 1) (.con (.int 5))) (.cons (.idx (.var 1) (.con (.int 6))) (.cons (.idx (.var 1) (.con (.int 7))) .nil))))))))))) .nil))
def b_law_lines : Ss := (.cons (.asg 1 (.call 14 .nil)) (.cons (.ret (.bin false .add (.lst false (.cons (.bin false .add (.con (.str (Str.ofString "days "))) (.blt false .str (.cons (.idx (.var 0) (.con (.int 0))) .nil))) .nil)) (.lc false [2] false (.rng (.con (.int 8))) .yes b_law_lines_E1))) .nil))
def b_law_made : Ss := (.cons (.par [(.name 2), (.name 3), (.name 4)] (.cons (.call 9 (.cons (.var 0) (.cons (.con (.int 4)) .nil))) (.cons (.idx (.var 1) (.con (.int 1))) (.cons (.call 14 .nil) .nil)))) (.cons (.ife (.e (.cmp .eq (.var 2) (.con (.int 1)))) (.cons (.asg 5 (.makeK 0 true 8 [] [0, 1, 2, 3, 4, 5, 6, 7, 8, 9] (.cons (.idx (.var 1) (.con (.int 0))) .nil) .nil)) (.cons (.for [6] false (.rng (.con (.int 8))) b_law_made_S1) (.cons (.ret (.var 5)) .nil))) .nil) (.cons (.ife (.e (.cmp .eq (.var 2) (.con (.int 2)))) (.cons (.asg 7 (.call 9 (.cons (.var 0) (.cons (.con (.int 9)) .nil)))) (.cons (.asg 8 (.call 6 (.cons (.tup (.cons (.idx (.var 1) (.con (.int 0))) (.cons (.bin false .add (.slc false (.var 3) .none (.some (.var 7))) (.bin false .mul (.tup (.cons (.tup .nil) .nil)) (.bin false .sub (.con (.int 8)) (.var 7)))) .nil))) .nil))) (.cons (.asg 9 (.call 6 (.cons (.tup (.cons (.bin false .add (.con (.int 1)) (.call 9 (.cons (.var 0) (.cons (.con (.int 30)) .nil)))) (.cons (.bin false .add (.bin false .mul (.tup (.cons (.tup (.cons (.con (.str (Str.ofString "off"))) .nil)) .nil)) (.var 7)) (.slc false (.var 3) (.some (.var 7)) .none)) .nil))) .nil))) (.cons (.ret (.meth 16 (.var 8) (.cons (.var 9) (.cons (.blt false .tuple (.cons (.rev false (.slc false (.var 4) (.some (.var 7)) .none)) .nil)) .nil)))) .nil)))) .nil) (.cons (.ife (.e (.cmp .eq (.var 2) (.con (.int 3)))) (.cons (.ret (.meth 15 (.call 6 (.cons (.tup (.cons (.bin false .add (.con (.int 1)) (.call 9 (.cons (.var 0) (.cons (.con (.int 30)) .nil)))) (.cons (.var 3) .nil))) .nil)) (.cons (.idx (.var 1) (.con (.int 0))) .nil))) .nil) .nil) (.cons (.ret (.call 6 (.cons (.var 1) .nil))) .nil)))))
def b_law_dip : Ss := .nil
def b_law_plan : Ss := (.cons (.ret (.tup (.cons (.bin false .add (.con (.int 1)) (.call 9 (.cons (.var 0) (.cons (.con (.int 30)) .nil)))) (.cons (.blt false .tuple (.cons (.lc false [1] false (.rng (.con (.int 8))) .yes b_law_plan_E1) .nil)) .nil)))) .nil)
def b_Book_rule : Ss := (.cons (.ife (.not (.e (.call 19 (.cons (.var 1) .nil)))) (.cons (.never) .nil) .nil) (.cons (.ret (.idx (.attr (.var 0) (Str.ofString "rule_row")) (.gidx 1 (.var 1)))) .nil))
def b_Book__init_ : Ss := (.cons (.ife (.or (.not (.e (.call 21 (.cons (.var 1) .nil)))) (.not (.e (.chain .le .le (.con (.int 1)) (.var 1) (.glob 3))))) (.cons (.never) .nil) .nil) (.cons (.asg 10 (.tup (.cons (.var 2) (.cons (.var 3) (.cons (.var 4) (.cons (.var 5) (.cons (.var 6) (.cons (.var 7) (.cons (.var 8) (.cons (.var 9) .nil)))))))))) (.cons (.for [11, 12] true (.zip (.glob 1) (.var 10)) b_Book__init__S1) (.cons (.asgT (.attr (.var 0) (Str.ofString "limit")) (.var 1)) (.cons (.asgT (.attr (.var 0) (Str.ofString "rule_row")) (.var 10)) .nil)))))
def b_law_line : Ss := (.cons (.ret (.sjoin (.con (.str (Str.ofString " "))) (.bin false .add (.lst false (.cons (.bin false .add (.var 0) (.con (.str (Str.ofString ":")))) .nil)) (.blt false .list (.cons (.var 1) .nil))))) .nil)
def b_law_moments : Ss := (.cons (.ret (.lst false (.cons (.con (.str (Str.ofString "given"))) (.cons (.con (.str (Str.ofString "laid"))) (.cons (.con (.str (Str.ofString "left"))) (.cons (.con (.str (Str.ofString "opened"))) (.cons (.con (.str (Str.ofString "taken"))) (.cons (.con (.str (Str.ofString "gone"))) (.cons (.con (.str (Str.ofString "late"))) (.cons (.con (.str (Str.ofString "power"))) .nil)))))))))) .nil)
def b_Book_with_days : Ss := (.cons (.ret (.make 0 true (.cons (.var 1) (.star (.attr (.var 0) (Str.ofString "rule_row")) .nil)))) .nil)
def b_Book_taking : Ss := (.cons (.ife (.not (.e (.call 22 (.cons (.var 2) .nil)))) (.cons (.never) .nil) .nil) (.cons (.asg 3 (.lc false [4] false (.tup (.glob 1)) .yes b_Book_taking_E1)) (.cons (.ret (.make 0 true (.cons (.attr (.var 0) (Str.ofString "limit")) (.star (.var 3) .nil)))) .nil)))
def b_Book_with_rule : Ss := (.cons (.ife (.not (.e (.call 19 (.cons (.var 1) .nil)))) (.cons (.never) .nil) .nil) (.cons (.ife (.not (.e (.call 20 (.cons (.var 2) .nil)))) (.cons (.never) .nil) .nil) (.cons (.asg 3 (.lc false [4, 5] true (.zip (.glob 1) (.attr (.var 0) (Str.ofString "rule_row"))) .yes b_Book_with_rule_E1)) (.cons (.ret (.make 0 true (.cons (.attr (.var 0) (Str.ofString "limit")) (.star (.var 3) .nil)))) .nil))))
def b_law_rule : Ss := (.cons (.asg 1 (.lst false (.cons (.con (.str (Str.ofString "free"))) (.cons (.con (.str (Str.ofString "full"))) (.cons (.con (.str (Str.ofString "off"))) (.cons (.con (.str (Str.ofString "code"))) (.cons (.con (.str (Str.ofString "void"))) (.cons (.con (.str (Str.ofString "look"))) (.cons (.con (.str (Str.ofString "lock"))) .nil))))))))) (.cons (.ret (.blt false .tuple (.cons (.lc false [2] false (.rng (.call 9 (.cons (.var 0) (.cons (.con (.int 7)) .nil)))) .yes b_law_rule_E1) .nil))) .nil))
def b_is_moment : Ss := (.cons (.ret (.and (.isi (.var 0) .str) (.cmp .isIn (.var 0) (.glob 1)))) .nil)
def b_is_rule : Ss := (.cons (.ife (.or (.not (.e (.isi (.var 0) .tuple))) (.e (.cmp .gt (.blt false .len (.cons (.var 0) .nil)) (.glob 2)))) (.cons (.ret (.con (.bl false))) .nil) .nil) (.cons (.ret (.blt false .all (.cons (.lc false [1] false (.tup (.var 0)) .yes b_is_rule_E1) .nil))) .nil))
def b_is_whole : Ss := (.cons (.ret (.and (.isi (.var 0) .int) (.not (.e (.isi (.var 0) .bool))))) .nil)
def b_are_moments : Ss := (.cons (.ife (.or (.not (.e (.isi (.var 0) .tuple))) (.not (.e (.blt false .all (.cons (.lc false [1] false (.tup (.var 0)) .yes b_are_moments_E1) .nil))))) (.cons (.ret (.con (.bl false))) .nil) .nil) (.cons (.ret (.cmp .eq (.lset (.var 0)) (.blt false .len (.cons (.var 0) .nil)))) .nil))
def fns : List FnRec := [⟨none, 1, 2, false, b_law⟩,
  ⟨none, 1, 6, false, b_law_right⟩,
  ⟨none, 2, 3, false, b_law_pot⟩,
  ⟨some 0, 1, 1, false, b_Book_rules⟩,
  ⟨some 0, 1, 1, false, b_Book_days⟩,
  ⟨none, 1, 3, false, b_book_text⟩,
  ⟨none, 1, 2, false, b_law_book⟩,
  ⟨none, 1, 3, false, b_law_lines⟩,
  ⟨none, 2, 10, false, b_law_made⟩,
  ⟨none, 2, 4, false, b_law_dip⟩,
  ⟨none, 1, 2, false, b_law_plan⟩,
  ⟨some 0, 2, 2, false, b_Book_rule⟩,
  ⟨some 0, 10, 13, false, b_Book__init_⟩,
  ⟨none, 2, 2, false, b_law_line⟩,
  ⟨none, 0, 0, false, b_law_moments⟩,
  ⟨some 0, 2, 2, false, b_Book_with_days⟩,
  ⟨some 0, 3, 5, false, b_Book_taking⟩,
  ⟨some 0, 3, 6, false, b_Book_with_rule⟩,
  ⟨none, 1, 3, false, b_law_rule⟩,
  ⟨none, 1, 1, false, b_is_moment⟩,
  ⟨none, 1, 2, false, b_is_rule⟩,
  ⟨none, 1, 1, false, b_is_whole⟩,
  ⟨none, 1, 2, false, b_are_moments⟩]
def globs : List W := [.tup [.str (Str.ofString "free"), .str (Str.ofString "full"), .str (Str.ofString "off"), .str (Str.ofString "code"), .str (Str.ofString "void"), .str (Str.ofString "look"), .str (Str.ofString "lock")], .tup [.str (Str.ofString "given"), .str (Str.ofString "laid"), .str (Str.ofString "left"), .str (Str.ofString "opened"), .str (Str.ofString "taken"), .str (Str.ofString "gone"), .str (Str.ofString "late"), .str (Str.ofString "power")], .int 6, .int 30]
def clss : List Lw.ClsRec := [⟨12⟩]
def fnames : List Str := [(Str.ofString "law"), (Str.ofString "_law_right"), (Str.ofString "_law_pot"), (Str.ofString "rules"), (Str.ofString "days"), (Str.ofString "book_text"), (Str.ofString "_law_book"), (Str.ofString "_law_lines"), (Str.ofString "_law_made"), (Str.ofString "_law_dip"), (Str.ofString "_law_plan"), (Str.ofString "rule"), (Str.ofString "__init__"), (Str.ofString "_law_line"), (Str.ofString "_law_moments"), (Str.ofString "with_days"), (Str.ofString "taking"), (Str.ofString "with_rule"), (Str.ofString "_law_rule"), (Str.ofString "is_moment"), (Str.ofString "is_rule"), (Str.ofString "is_whole"), (Str.ofString "are_moments")]
def gnames : List Str := [(Str.ofString "ACTIONS"), (Str.ofString "MOMENTS"), (Str.ofString "MOST_ACTIONS"), (Str.ofString "MOST_DAYS")]
def cnames : List Str := [(Str.ofString "Book")]
def slots : List (List Str) := [[(Str.ofString "script"), (Str.ofString "k")],
  [(Str.ofString "pot"), (Str.ofString "plans"), (Str.ofString "books"), (Str.ofString "plan"), (Str.ofString "k"), (Str.ofString "found")],
  [(Str.ofString "script"), (Str.ofString "k"), (Str.ofString "cell")],
  [(Str.ofString "self")],
  [(Str.ofString "self")],
  [(Str.ofString "book"), (Str.ofString "lines"), (Str.ofString "moment")],
  [(Str.ofString "plan"), (Str.ofString "row")],
  [(Str.ofString "plan"), (Str.ofString "words"), (Str.ofString "k")],
  [(Str.ofString "pot"), (Str.ofString "plan"), (Str.ofString "way"), (Str.ofString "row"), (Str.ofString "words"), (Str.ofString "work"), (Str.ofString "k"), (Str.ofString "spot"), (Str.ofString "one"), (Str.ofString "two")],
  [(Str.ofString "pot"), (Str.ofString "many"), (Str.ofString "found"), (Str.ofString "mixed")],
  [(Str.ofString "pot"), (Str.ofString "k")],
  [(Str.ofString "self"), (Str.ofString "moment")],
  [(Str.ofString "self"), (Str.ofString "days"), (Str.ofString "given"), (Str.ofString "laid"), (Str.ofString "left"), (Str.ofString "opened"), (Str.ofString "taken"), (Str.ofString "gone"), (Str.ofString "late"), (Str.ofString "power"), (Str.ofString "row"), (Str.ofString "moment"), (Str.ofString "rule")],
  [(Str.ofString "word"), (Str.ofString "row")],
  [],
  [(Str.ofString "self"), (Str.ofString "days")],
  [(Str.ofString "self"), (Str.ofString "good"), (Str.ofString "moments"), (Str.ofString "row"), (Str.ofString "moment")],
  [(Str.ofString "self"), (Str.ofString "moment"), (Str.ofString "rule"), (Str.ofString "row"), (Str.ofString "name"), (Str.ofString "kept")],
  [(Str.ofString "pot"), (Str.ofString "some"), (Str.ofString "k")],
  [(Str.ofString "thing")],
  [(Str.ofString "thing"), (Str.ofString "action")],
  [(Str.ofString "thing")],
  [(Str.ofString "thing"), (Str.ofString "moment")]]
def cfg : Cfg := ⟨fun i => (globs[i]?).getD .bad, fun i => fns[i]?, fun i => clss[i]?, 1000⟩
def prim : Nat → Option Prim := fun i => match i with | 2 => some .spring | 9 => some .draw | _ => none
def tab : Tab := ⟨fun i => (gnames[i]?).getD Str.empty, 4, fun i => (fnames[i]?).getD Str.empty, fun i => (cnames[i]?).getD Str.empty, 1, fun _ => Str.empty, [(Str.ofString "moment"), (Str.ofString "limit"), (Str.ofString "rule_row")], [(5, [(Str.ofString "book")], [0])], [(0, 8, 1, [], [0, 1, 2, 3, 4, 5, 6, 7, 8, 9])], [], []⟩
def pspring_b : Ss := (.cons (.asg 2 (.con (.int 0))) (.cons (.ife (.e (.cmp .lt (.var 1) (.blt false .len (.cons (.var 0) .nil)))) (.cons (.asg 2 (.blt false .abs (.cons (.blt false .int (.cons (.idx (.var 0) (.var 1)) .nil)) .nil))) .nil) .nil) (.cons (.ret (.lst true (.cons (.blt false .max2 (.cons (.con (.int 0)) (.cons (.bin false .sub (.var 2) (.bin false .pow (.con (.int 10)) (.con (.int 18)))) .nil))) (.cons (.bin true .add (.bin false .mod (.blt false .int (.cons (.var 2) .nil)) (.bin false .add (.bin false .pow (.con (.int 10)) (.con (.int 33))) (.con (.int 33)))) (.bin false .mul (.con (.int 524309)) (.var 1))) (.cons (.con (.int 0)) .nil))))) .nil)))
def pspring_slots : List Str := [(Str.ofString "script"), (Str.ofString "k"), (Str.ofString "cell")]
def pspring : FnRec := ⟨none, 2, 3, true, pspring_b⟩
def pdraw_b : Ss := (.cons (.ife (.e (.cmp .gt (.idx (.var 0) (.con (.int 0))) (.con (.int 0)))) (.cons (.asg 2 (.bin false .mod (.blt false .int (.cons (.idx (.var 0) (.con (.int 0))) .nil)) (.var 1))) (.cons (.asgT (.sub (.var 0) (.con (.int 0))) (.bin false .fdiv (.idx (.var 0) (.con (.int 0))) (.var 1))) (.cons (.ret (.var 2)) .nil))) .nil) (.cons (.asgT (.sub (.var 0) (.con (.int 2))) (.bin false .add (.idx (.var 0) (.con (.int 2))) (.con (.int 1)))) (.cons (.asg 3 (.bin false .mod (.blt false .int (.cons (.bin false .pow (.bin false .add (.idx (.var 0) (.con (.int 1))) (.bin false .mul (.con (.int 86028121)) (.idx (.var 0) (.con (.int 2))))) (.con (.int 3))) .nil)) (.bin false .add (.bin false .pow (.con (.int 10)) (.con (.int 41))) (.con (.int 9))))) (.cons (.asg 3 (.bin false .mod (.blt false .int (.cons (.bin false .pow (.bin false .add (.var 3) (.bin false .mul (.con (.int 179424673)) (.idx (.var 0) (.con (.int 2))))) (.con (.int 3))) .nil)) (.bin false .add (.bin false .pow (.con (.int 10)) (.con (.int 39))) (.con (.int 57))))) (.cons (.ret (.bin false .mod (.blt false .int (.cons (.bin false .fdiv (.var 3) (.bin false .pow (.con (.int 10)) (.con (.int 7)))) .nil)) (.var 1))) .nil)))))
def pdraw_slots : List Str := [(Str.ofString "pot"), (Str.ofString "many"), (Str.ofString "found"), (Str.ofString "mixed")]
def pdraw : FnRec := ⟨none, 2, 4, false, pdraw_b⟩
def pcfg : Cfg := ⟨fun i => (globs[i]?).getD .bad, fun i => match i with | 2 => some pspring | 9 => some pdraw | _ => none, fun _ => none, 1000⟩
theorem pcfg_ok : ∀ f r, pcfg.fn f = some r → ∃ r0, cfg.fn f = some r0 ∧ r0.cls = r.cls ∧ r0.arity = r.arity := fun f r h => by
  unfold pcfg at h
  simp only at h
  split at h <;> first | (cases h; exact ⟨_, rfl, rfl, rfl⟩) | cases h
def top (i : Nat) : Stmt := PySem.Challenge.pw_lockerwall_k10_book_texts.main.body.getD i (.Pass ⟨0, 0, 0, 0⟩)
abbrev s_law : Stmt := (top 30)
abbrev s_law_right : Stmt := (top 29)
abbrev s_law_pot : Stmt := (top 20)
abbrev s_Book_rules : Stmt := (L2.inClass (top 16) 4)
abbrev s_Book_days : Stmt := (L2.inClass (top 16) 2)
abbrev s_book_text : Stmt := (top 18)
abbrev s_law_book : Stmt := (top 25)
abbrev s_law_lines : Stmt := (top 28)
abbrev s_law_made : Stmt := (top 26)
abbrev s_law_dip : Stmt := (top 21)
abbrev s_law_plan : Stmt := (top 23)
abbrev s_Book_rule : Stmt := (L2.inClass (top 16) 3)
abbrev s_Book__init_ : Stmt := (L2.inClass (top 16) 0)
abbrev s_law_line : Stmt := (top 27)
abbrev s_law_moments : Stmt := (top 24)
abbrev s_Book_with_days : Stmt := (L2.inClass (top 16) 6)
abbrev s_Book_taking : Stmt := (L2.inClass (top 16) 7)
abbrev s_Book_with_rule : Stmt := (L2.inClass (top 16) 5)
abbrev s_law_rule : Stmt := (top 22)
abbrev s_is_moment : Stmt := (top 13)
abbrev s_is_rule : Stmt := (top 15)
abbrev s_is_whole : Stmt := (top 7)
abbrev s_are_moments : Stmt := (top 14)
end K10
namespace K10
open PySem Lw
theorem c_law : chkSs tab cfg ((slots[0]?).getD []) (L2.defScope s_law) b_law (L2.defBody s_law) = true := by decide +kernel
theorem c_law_right : chkSs tab cfg ((slots[1]?).getD []) (L2.defScope s_law_right) b_law_right (L2.defBody s_law_right) = true := by decide +kernel
theorem c_Book_rules : chkSs tab cfg ((slots[3]?).getD []) (L2.defScope s_Book_rules) b_Book_rules (L2.defBody s_Book_rules) = true := by decide +kernel
theorem c_Book_days : chkSs tab cfg ((slots[4]?).getD []) (L2.defScope s_Book_days) b_Book_days (L2.defBody s_Book_days) = true := by decide +kernel
theorem c_book_text : chkSs tab cfg ((slots[5]?).getD []) (L2.defScope s_book_text) b_book_text (L2.defBody s_book_text) = true := by decide +kernel
theorem c_law_book : chkSs tab cfg ((slots[6]?).getD []) (L2.defScope s_law_book) b_law_book (L2.defBody s_law_book) = true := by decide +kernel
theorem c_law_lines : chkSs tab cfg ((slots[7]?).getD []) (L2.defScope s_law_lines) b_law_lines (L2.defBody s_law_lines) = true := by decide +kernel
theorem c_law_made : chkSs tab cfg ((slots[8]?).getD []) (L2.defScope s_law_made) b_law_made (L2.defBody s_law_made) = true := by decide +kernel
theorem c_law_plan : chkSs tab cfg ((slots[10]?).getD []) (L2.defScope s_law_plan) b_law_plan (L2.defBody s_law_plan) = true := by decide +kernel
theorem c_Book_rule : chkSs tab cfg ((slots[11]?).getD []) (L2.defScope s_Book_rule) b_Book_rule (L2.defBody s_Book_rule) = true := by decide +kernel
theorem c_Book__init_ : chkSs tab cfg ((slots[12]?).getD []) (L2.defScope s_Book__init_) b_Book__init_ (L2.defBody s_Book__init_) = true := by decide +kernel
theorem c_law_line : chkSs tab cfg ((slots[13]?).getD []) (L2.defScope s_law_line) b_law_line (L2.defBody s_law_line) = true := by decide +kernel
theorem c_law_moments : chkSs tab cfg ((slots[14]?).getD []) (L2.defScope s_law_moments) b_law_moments (L2.defBody s_law_moments) = true := by decide +kernel
theorem c_Book_with_days : chkSs tab cfg ((slots[15]?).getD []) (L2.defScope s_Book_with_days) b_Book_with_days (L2.defBody s_Book_with_days) = true := by decide +kernel
theorem c_Book_taking : chkSs tab cfg ((slots[16]?).getD []) (L2.defScope s_Book_taking) b_Book_taking (L2.defBody s_Book_taking) = true := by decide +kernel
theorem c_Book_with_rule : chkSs tab cfg ((slots[17]?).getD []) (L2.defScope s_Book_with_rule) b_Book_with_rule (L2.defBody s_Book_with_rule) = true := by decide +kernel
theorem c_law_rule : chkSs tab cfg ((slots[18]?).getD []) (L2.defScope s_law_rule) b_law_rule (L2.defBody s_law_rule) = true := by decide +kernel
theorem c_is_moment : chkSs tab cfg ((slots[19]?).getD []) (L2.defScope s_is_moment) b_is_moment (L2.defBody s_is_moment) = true := by decide +kernel
theorem c_is_rule : chkSs tab cfg ((slots[20]?).getD []) (L2.defScope s_is_rule) b_is_rule (L2.defBody s_is_rule) = true := by decide +kernel
theorem c_is_whole : chkSs tab cfg ((slots[21]?).getD []) (L2.defScope s_is_whole) b_is_whole (L2.defBody s_is_whole) = true := by decide +kernel
theorem c_are_moments : chkSs tab cfg ((slots[22]?).getD []) (L2.defScope s_are_moments) b_are_moments (L2.defBody s_are_moments) = true := by decide +kernel
theorem pspring_chk : chkSs tab pcfg pspring_slots (L2.defScope s_law_pot) pspring_b (L2.defBody s_law_pot) = true := by decide +kernel
theorem pdraw_chk : chkSs tab pcfg pdraw_slots (L2.defScope s_law_dip) pdraw_b (L2.defBody s_law_dip) = true := by decide +kernel
end K10

set_option maxHeartbeats 4000000
namespace K10
open PySem Lw
theorem bts {i : Int} (n : Nat) (h0 : 0 ≤ i) (h : i < 2 ^ n) : Builtin.Int.intBits i ≤ n := bits_of h0 h
theorem ev_exit_int {n : Nat} {i : Int} {m : Mem} {c : Nat} (h : (m.take n).all (okC n) = true) : exitR false n (.ok (.rt (.int i)) m c) = .ok (.int i) (m.take n) c := by
  have e : exitR false n (.ok (.rt (.int i)) m c) = if (m.take n).all (okC n) then .ok (.int i) (m.take n) c else .no := rfl
  rw [e, if_pos h]
theorem ok3 {x y z : Int} : ([Cell.lst [.int x, .int y, .int z]] : Mem).all (okC 1) = true := rfl
theorem pdraw_text : DrawText pcfg 9 := by
  intro ω x y z i c hx hy hy2 hz hz2 hi hs
  by_cases h : 0 < x
  · refine ⟨x % i, x / i, z, Int.emod_nonneg _ (by omega), Int.emod_lt_of_pos _ hi, Int.ediv_nonneg hx (by omega), hz, by omega, ?_⟩
    rw [Lw.run]
    simp [pcfg, pdraw, noPrim, pdraw_b, startE, exSs, exS, evE, evEs, evT, evTg, R.bind_ok, Lit.w, vw, idxW, place, setI, ev_int, ev_gt, ev_tru, h, ev_mod hi, ev_fdiv hi hs]
    exact ev_exit_int ok3
  · have hx0 : x = 0 := by omega
    have z64 : sizeI (z + 1) < 64 := sizeI_bits (i := z + 1) 64 (bts 64 (by omega) (by omega)) (by decide)
    have e1 : ∀ (m : Mem) (c : Nat) (cell : Bool), binW cell .mul (.int 86028121) (.int (z + 1)) m c = .ok (.int (86028121 * (z + 1))) m c := fun m c cell => ev_mul (by
      have h2 : sizeI 86028121 < 100 := by decide
      omega)
    have e2 : ∀ (m : Mem) (c : Nat) (cell : Bool), binW cell .pow (.int (y + 86028121 * (z + 1))) (.int 3) m c = .ok (.int ((y + 86028121 * (z + 1)) ^ 3)) m c := fun m c cell => ev_pow (by decide) (by
      have h1 : y + 86028121 * (z + 1) < 2 ^ 210 := by
        have h2 : (2 ^ 200 + 86028121 * 1000000000002 : Int) < 2 ^ 210 := by decide
        omega
      have := bts (i := y + 86028121 * (z + 1)) 210 (by omega) h1
      omega)
    have e3 : ∀ (m : Mem) (c : Nat) (cell : Bool), binW cell .mul (.int 179424673) (.int (z + 1)) m c = .ok (.int (179424673 * (z + 1))) m c := fun m c cell => ev_mul (by
      have h2 : sizeI 179424673 < 100 := by decide
      omega)
    have e4 : ∀ (m : Mem) (c : Nat) (cell : Bool), binW cell .pow (.int 10) (.int 41) m c = .ok (.int (10 ^ 41)) m c := fun m c cell => ev_pow (by decide) (by decide)
    have e5 : ∀ (m : Mem) (c : Nat) (cell : Bool), binW cell .pow (.int 10) (.int 39) m c = .ok (.int (10 ^ 39)) m c := fun m c cell => ev_pow (by decide) (by decide)
    have e6 : ∀ (m : Mem) (c : Nat) (cell : Bool), binW cell .pow (.int 10) (.int 7) m c = .ok (.int (10 ^ 7)) m c := fun m c cell => ev_pow (by decide) (by decide)
    generalize hA : (y + 86028121 * (z + 1)) ^ 3 % 100000000000000000000000000000000000000009 = A
    have A0 : 0 ≤ A := by rw [← hA]; exact Int.emod_nonneg _ (by decide)
    have A1 : A < 100000000000000000000000000000000000000009 := by rw [← hA]; exact Int.emod_lt_of_pos _ (by decide)
    have e7 : ∀ (m : Mem) (c : Nat) (cell : Bool), binW cell .pow (.int (A + 179424673 * (z + 1))) (.int 3) m c = .ok (.int ((A + 179424673 * (z + 1)) ^ 3)) m c := fun m c cell => ev_pow (by decide) (by
      have h1 : A + 179424673 * (z + 1) < 2 ^ 200 := by
        have h2 : (100000000000000000000000000000000000000009 + 179424673 * 1000000000002 : Int) < 2 ^ 200 := by decide
        omega
      have := bts (i := A + 179424673 * (z + 1)) 200 (by omega) h1
      omega)
    generalize hB : (A + 179424673 * (z + 1)) ^ 3 % 1000000000000000000000000000000000000057 = B
    have f8 : sizeI (10000000 : Int) < 9000 := by decide
    refine ⟨B / 10000000 % i, x, z + 1, Int.emod_nonneg _ (by omega), Int.emod_lt_of_pos _ hi, hx, by omega, by omega, ?_⟩
    rw [Lw.run]
    have m1 : ∀ (t : Int) (m : Mem) (c : Nat) (cell : Bool), binW cell .mod (.int t) (.int 100000000000000000000000000000000000000009) m c = .ok (.int (t % 100000000000000000000000000000000000000009)) m c := fun t m c cell => ev_mod (by decide)
    have m2 : ∀ (t : Int) (m : Mem) (c : Nat) (cell : Bool), binW cell .mod (.int t) (.int 1000000000000000000000000000000000000057) m c = .ok (.int (t % 1000000000000000000000000000000000000057)) m c := fun t m c cell => ev_mod (by decide)
    have m3 : ∀ (t : Int) (m : Mem) (c : Nat) (cell : Bool), binW cell .fdiv (.int t) (.int 10000000) m c = .ok (.int (t / 10000000)) m c := fun t m c cell => ev_fdiv (by decide) f8
    simp only [pcfg, pdraw, noPrim, pdraw_b, startE, exSs, exS, evE, evEs, evT, evTg, R.bind_ok, Lit.w, List.length_cons, List.length_nil, List.map_cons, List.map_nil, List.cons_append, List.nil_append]
    simp [vw, idxW, place, setI, ev_int, ev_gt, ev_tru, h, R.bind_ok, ev_add, e1, e2, e3, e4, e5, e6, m1, m2, m3, hA, e7, hB, ev_mod hi]
    exact ev_exit_int ok3
theorem ev_mkC {ws : List W} {m : Mem} {c : Nat} (h : ws.length ≤ 1000) : mkL true ws m c = .ok (.ptr m.length) (m ++ [.lst ws]) c := by
  unfold mkL
  rw [if_pos (by rw [sizeLine_eq]; omega)]
  rfl
theorem spring_run {ω : Nat → Nat} {ns : List Int} {k z : Int} {c : Nat} (hk : 0 ≤ k) (hk2 : k < 100000) (hz : (if k < ns.length then (ns[k.toNat]?).getD 0 else 0) = z) :
    run pcfg noPrim ω 1 2 [.scr ns, .int k] [] c = .ok (.ptr 0) [.lst [.int (if (if z < 0 then -z else z) - 1000000000000000000 > 0 then (if z < 0 then -z else z) - 1000000000000000000 else 0), .int ((if z < 0 then -z else z) % 1000000000000000000000000000000033 + 524309 * k), .int 0]] c := by
  have e1 : ∀ (m : Mem) (c : Nat) (cell : Bool), binW cell .pow (.int 10) (.int 18) m c = .ok (.int (10 ^ 18)) m c := fun m c cell => ev_pow (by decide) (by decide)
  have e2 : ∀ (m : Mem) (c : Nat) (cell : Bool), binW cell .pow (.int 10) (.int 33) m c = .ok (.int (10 ^ 33)) m c := fun m c cell => ev_pow (by decide) (by decide)
  have m1 : ∀ (t : Int) (m : Mem) (c : Nat) (cell : Bool), binW cell .mod (.int t) (.int 1000000000000000000000000000000033) m c = .ok (.int (t % 1000000000000000000000000000000033)) m c := fun t m c cell => ev_mod (by decide)
  have m2 : ∀ (m : Mem) (c : Nat) (cell : Bool), binW cell .mul (.int 524309) (.int k) m c = .ok (.int (524309 * k)) m c := fun m c cell => ev_mul (by
    have := sizeI_bits (i := k) 64 (bts 64 (by omega) (by omega)) (by decide)
    have h2 : sizeI 524309 < 100 := by decide
    omega)
  have mk : ∀ (a b : W) (m : Mem) (c : Nat), mkL true [a, b, .int 0] m c = .ok (.ptr m.length) (m ++ [.lst [a, b, .int 0]]) c := fun a b m c => ev_mkC (by simp)
  rw [Lw.run]
  by_cases hl : k < ns.length
  · have hj : k.toNat < ns.length := by omega
    have hx : ns[k.toNat]? = some z := by
      rw [if_pos hl, List.getElem?_eq_getElem hj] at hz
      rw [List.getElem?_eq_getElem hj]
      exact congrArg some hz
    have ix : ∀ m, idxW m (.scr ns) (.int k) = some (.int z) := fun m => by simp only [idxW, vw, place, if_pos hk, if_pos hl, Option.bind_some, hx, Option.map_some]
    simp only [pcfg, pspring, noPrim, pspring_b, startE, exSs, exS, evE, evEs, evT, evTg, R.bind_ok, Lit.w, List.length_cons, List.length_nil, List.map_cons, List.map_nil, List.cons_append, List.nil_append]
    simp [ev_int, ev_lenS, ev_lt, ev_tru, hl, R.bind_ok, ev_add, ev_sub, e1, e2, m1, m2, mk, ix, ev_abs, ev_max, exitR]
  · have hz0 : z = 0 := by rw [if_neg hl] at hz; exact hz.symm
    subst hz0
    simp only [pcfg, pspring, noPrim, pspring_b, startE, exSs, exS, evE, evEs, evT, evTg, R.bind_ok, Lit.w, List.length_cons, List.length_nil, List.map_cons, List.map_nil, List.cons_append, List.nil_append]
    simp [ev_int, ev_lenS, ev_lt, ev_tru, hl, R.bind_ok, ev_add, ev_sub, e1, e2, m1, m2, mk, ev_abs, ev_max, exitR]
theorem pspring_text : SpringText pcfg 2 := by
  intro ω ns k c hk hk2
  generalize hz : (if k < ns.length then (ns[k.toNat]?).getD 0 else 0) = z
  refine ⟨_, _, 0, ?_, ?_, ?_, by decide, by decide, spring_run hk hk2 hz⟩
  · split <;> omega
  · have := Int.emod_nonneg (if z < 0 then -z else z) (show (1000000000000000000000000000000033 : Int) ≠ 0 by decide)
    omega
  · have := Int.emod_lt_of_pos (if z < 0 then -z else z) (show (0 : Int) < 1000000000000000000000000000000033 by decide)
    have h2 : (1000000000000000000000000000000033 + 524309 * 100001 : Int) < 2 ^ 200 := by decide
    omega
end K10


set_option maxHeartbeats 4000000
namespace K10
open PySem PySem.Spec PyProof.Rows L2 Lw
/-- law takes the script and answers True -/
def spLaw (K : PySem.W.Frag) : Sp := fun vs H Q _ => ∃ (a : Addr) (ns : List Int), vs = [.ref a] ∧ SqL K H a (ns.map V.int) ∧ ns.length ≤ 63 ∧ (∀ z ∈ ns, Builtin.Int.intBits z ≤ 1048576) ∧ ∀ H', Q (.bl true) H'
/-- the plain law -/
def LawRuns : Prop := ∀ (ω : Nat → Nat) (ns : List Int), ns.length ≤ 63 → (∀ z ∈ ns, Builtin.Int.intBits z ≤ 1048576) → ∃ m c, run cfg prim ω 12 0 [.scr ns] [] 0 = .ok (.bl true) m c
theorem law_sp (hl : LawRuns) {ca : CA} {ef : Nat → Str} {F : FT} {K : PySem.W.Frag} {vs : List V} {H : Hp} {Q : VK} {E : XK} (hp : (F.ps 0).length = 1) (hs : spLaw K vs H Q E) : spF cfg prim ca ef F K 12 0 vs H Q E := by
  obtain ⟨a, ns, rfl, hS, hlen, hb, k⟩ := hs
  exact law_fin (fun ω => hl ω ns hlen hb) hS hp k
theorem enum {P : Nat → FnRec → Prop} (h0 : ∀ r, fns[0]? = some r → P 0 r) (h1 : ∀ r, fns[1]? = some r → P 1 r) (h2 : ∀ r, fns[2]? = some r → P 2 r) (h3 : ∀ r, fns[3]? = some r → P 3 r) (h4 : ∀ r, fns[4]? = some r → P 4 r) (h5 : ∀ r, fns[5]? = some r → P 5 r) (h6 : ∀ r, fns[6]? = some r → P 6 r) (h7 : ∀ r, fns[7]? = some r → P 7 r) (h8 : ∀ r, fns[8]? = some r → P 8 r) (h9 : ∀ r, fns[9]? = some r → P 9 r) (h10 : ∀ r, fns[10]? = some r → P 10 r) (h11 : ∀ r, fns[11]? = some r → P 11 r) (h12 : ∀ r, fns[12]? = some r → P 12 r) (h13 : ∀ r, fns[13]? = some r → P 13 r) (h14 : ∀ r, fns[14]? = some r → P 14 r) (h15 : ∀ r, fns[15]? = some r → P 15 r) (h16 : ∀ r, fns[16]? = some r → P 16 r) (h17 : ∀ r, fns[17]? = some r → P 17 r) (h18 : ∀ r, fns[18]? = some r → P 18 r) (h19 : ∀ r, fns[19]? = some r → P 19 r) (h20 : ∀ r, fns[20]? = some r → P 20 r) (h21 : ∀ r, fns[21]? = some r → P 21 r) (h22 : ∀ r, fns[22]? = some r → P 22 r) : ∀ f r, cfg.fn f = some r → P f r
  | 0, r, hf => h0 r hf
  | 1, r, hf => h1 r hf
  | 2, r, hf => h2 r hf
  | 3, r, hf => h3 r hf
  | 4, r, hf => h4 r hf
  | 5, r, hf => h5 r hf
  | 6, r, hf => h6 r hf
  | 7, r, hf => h7 r hf
  | 8, r, hf => h8 r hf
  | 9, r, hf => h9 r hf
  | 10, r, hf => h10 r hf
  | 11, r, hf => h11 r hf
  | 12, r, hf => h12 r hf
  | 13, r, hf => h13 r hf
  | 14, r, hf => h14 r hf
  | 15, r, hf => h15 r hf
  | 16, r, hf => h16 r hf
  | 17, r, hf => h17 r hf
  | 18, r, hf => h18 r hf
  | 19, r, hf => h19 r hf
  | 20, r, hf => h20 r hf
  | 21, r, hf => h21 r hf
  | 22, r, hf => h22 r hf
  | n + 23, r, hf => by simp [cfg, fns] at hf
def ftOf (f0 : Addr) (f1 : Addr) (f2 : Addr) (f3 : Addr) (f4 : Addr) (f5 : Addr) (f6 : Addr) (f7 : Addr) (f8 : Addr) (f9 : Addr) (f10 : Addr) (f11 : Addr) (f12 : Addr) (f13 : Addr) (f14 : Addr) (f15 : Addr) (f16 : Addr) (f17 : Addr) (f18 : Addr) (f19 : Addr) (f20 : Addr) (f21 : Addr) (f22 : Addr) (d0 : FuncData) (d1 : FuncData) (d2 : FuncData) (d3 : FuncData) (d4 : FuncData) (d5 : FuncData) (d6 : FuncData) (d7 : FuncData) (d8 : FuncData) (d9 : FuncData) (d10 : FuncData) (d11 : FuncData) (d12 : FuncData) (d13 : FuncData) (d14 : FuncData) (d15 : FuncData) (d16 : FuncData) (d17 : FuncData) (d18 : FuncData) (d19 : FuncData) (d20 : FuncData) (d21 : FuncData) (d22 : FuncData) : FT := ⟨fun i => match i with | 0 => f0 | 1 => f1 | 2 => f2 | 3 => f3 | 4 => f4 | 5 => f5 | 6 => f6 | 7 => f7 | 8 => f8 | 9 => f9 | 10 => f10 | 11 => f11 | 12 => f12 | 13 => f13 | 14 => f14 | 15 => f15 | 16 => f16 | 17 => f17 | 18 => f18 | 19 => f19 | 20 => f20 | 21 => f21 | 22 => f22 | _ => f0, fun i => match i with | 0 => d0 | 1 => d1 | 2 => d2 | 3 => d3 | 4 => d4 | 5 => d5 | 6 => d6 | 7 => d7 | 8 => d8 | 9 => d9 | 10 => d10 | 11 => d11 | 12 => d12 | 13 => d13 | 14 => d14 | 15 => d15 | 16 => d16 | 17 => d17 | 18 => d18 | 19 => d19 | 20 => d20 | 21 => d21 | 22 => d22 | _ => d0, fun i => match i with | 0 => ["script"] | 1 => ["pot"] | 2 => ["script", "k"] | 3 => ["self"] | 4 => ["self"] | 5 => ["book"] | 6 => ["plan"] | 7 => ["plan"] | 8 => ["pot", "plan"] | 9 => ["pot", "many"] | 10 => ["pot"] | 11 => ["self", "moment"] | 12 => ["self", "days", "given", "laid", "left", "opened", "taken", "gone", "late", "power"] | 13 => ["word", "row"] | 14 => [] | 15 => ["self", "days"] | 16 => ["self", "good", "moments"] | 17 => ["self", "moment", "rule"] | 18 => ["pot"] | 19 => ["thing"] | 20 => ["thing"] | 21 => ["thing"] | 22 => ["thing"] | _ => []⟩
theorem sc_0 : FnScope ((slots[0]?).getD []) ["script"] (defScope s_law) := ⟨by decide +kernel, by decide +kernel, by decide +kernel, by decide +kernel, by decide +kernel, by decide +kernel, by decide +kernel⟩
theorem sc_1 : FnScope ((slots[1]?).getD []) ["pot"] (defScope s_law_right) := ⟨by decide +kernel, by decide +kernel, by decide +kernel, by decide +kernel, by decide +kernel, by decide +kernel, by decide +kernel⟩
theorem sc_2 : FnScope pspring_slots ["script", "k"] (defScope s_law_pot) := ⟨by decide +kernel, by decide +kernel, by decide +kernel, by decide +kernel, by decide +kernel, by decide +kernel, by decide +kernel⟩
theorem sc_3 : FnScope ((slots[3]?).getD []) ["self"] (defScope s_Book_rules) := ⟨by decide +kernel, by decide +kernel, by decide +kernel, by decide +kernel, by decide +kernel, by decide +kernel, by decide +kernel⟩
theorem sc_4 : FnScope ((slots[4]?).getD []) ["self"] (defScope s_Book_days) := ⟨by decide +kernel, by decide +kernel, by decide +kernel, by decide +kernel, by decide +kernel, by decide +kernel, by decide +kernel⟩
theorem sc_5 : FnScope ((slots[5]?).getD []) ["book"] (defScope s_book_text) := ⟨by decide +kernel, by decide +kernel, by decide +kernel, by decide +kernel, by decide +kernel, by decide +kernel, by decide +kernel⟩
theorem sc_6 : FnScope ((slots[6]?).getD []) ["plan"] (defScope s_law_book) := ⟨by decide +kernel, by decide +kernel, by decide +kernel, by decide +kernel, by decide +kernel, by decide +kernel, by decide +kernel⟩
theorem sc_7 : FnScope ((slots[7]?).getD []) ["plan"] (defScope s_law_lines) := ⟨by decide +kernel, by decide +kernel, by decide +kernel, by decide +kernel, by decide +kernel, by decide +kernel, by decide +kernel⟩
theorem sc_8 : FnScope ((slots[8]?).getD []) ["pot", "plan"] (defScope s_law_made) := ⟨by decide +kernel, by decide +kernel, by decide +kernel, by decide +kernel, by decide +kernel, by decide +kernel, by decide +kernel⟩
theorem sc_9 : FnScope pdraw_slots ["pot", "many"] (defScope s_law_dip) := ⟨by decide +kernel, by decide +kernel, by decide +kernel, by decide +kernel, by decide +kernel, by decide +kernel, by decide +kernel⟩
theorem sc_10 : FnScope ((slots[10]?).getD []) ["pot"] (defScope s_law_plan) := ⟨by decide +kernel, by decide +kernel, by decide +kernel, by decide +kernel, by decide +kernel, by decide +kernel, by decide +kernel⟩
theorem sc_11 : FnScope ((slots[11]?).getD []) ["self", "moment"] (defScope s_Book_rule) := ⟨by decide +kernel, by decide +kernel, by decide +kernel, by decide +kernel, by decide +kernel, by decide +kernel, by decide +kernel⟩
theorem sc_12 : FnScope ((slots[12]?).getD []) ["self", "days", "given", "laid", "left", "opened", "taken", "gone", "late", "power"] (defScope s_Book__init_) := ⟨by decide +kernel, by decide +kernel, by decide +kernel, by decide +kernel, by decide +kernel, by decide +kernel, by decide +kernel⟩
theorem sc_13 : FnScope ((slots[13]?).getD []) ["word", "row"] (defScope s_law_line) := ⟨by decide +kernel, by decide +kernel, by decide +kernel, by decide +kernel, by decide +kernel, by decide +kernel, by decide +kernel⟩
theorem sc_14 : FnScope ((slots[14]?).getD []) [] (defScope s_law_moments) := ⟨by decide +kernel, by decide +kernel, by decide +kernel, by decide +kernel, by decide +kernel, by decide +kernel, by decide +kernel⟩
theorem sc_15 : FnScope ((slots[15]?).getD []) ["self", "days"] (defScope s_Book_with_days) := ⟨by decide +kernel, by decide +kernel, by decide +kernel, by decide +kernel, by decide +kernel, by decide +kernel, by decide +kernel⟩
theorem sc_16 : FnScope ((slots[16]?).getD []) ["self", "good", "moments"] (defScope s_Book_taking) := ⟨by decide +kernel, by decide +kernel, by decide +kernel, by decide +kernel, by decide +kernel, by decide +kernel, by decide +kernel⟩
theorem sc_17 : FnScope ((slots[17]?).getD []) ["self", "moment", "rule"] (defScope s_Book_with_rule) := ⟨by decide +kernel, by decide +kernel, by decide +kernel, by decide +kernel, by decide +kernel, by decide +kernel, by decide +kernel⟩
theorem sc_18 : FnScope ((slots[18]?).getD []) ["pot"] (defScope s_law_rule) := ⟨by decide +kernel, by decide +kernel, by decide +kernel, by decide +kernel, by decide +kernel, by decide +kernel, by decide +kernel⟩
theorem sc_19 : FnScope ((slots[19]?).getD []) ["thing"] (defScope s_is_moment) := ⟨by decide +kernel, by decide +kernel, by decide +kernel, by decide +kernel, by decide +kernel, by decide +kernel, by decide +kernel⟩
theorem sc_20 : FnScope ((slots[20]?).getD []) ["thing"] (defScope s_is_rule) := ⟨by decide +kernel, by decide +kernel, by decide +kernel, by decide +kernel, by decide +kernel, by decide +kernel, by decide +kernel⟩
theorem sc_21 : FnScope ((slots[21]?).getD []) ["thing"] (defScope s_is_whole) := ⟨by decide +kernel, by decide +kernel, by decide +kernel, by decide +kernel, by decide +kernel, by decide +kernel, by decide +kernel⟩
theorem sc_22 : FnScope ((slots[22]?).getD []) ["thing"] (defScope s_are_moments) := ⟨by decide +kernel, by decide +kernel, by decide +kernel, by decide +kernel, by decide +kernel, by decide +kernel, by decide +kernel⟩
theorem all_mk {l : PySem.W.OpenLaw} {w : World} {K : PySem.W.Frag} {h : Heap} {mg : Str → Option Value} {fa : Addr}
    {C0 : Addr}
    {f0 : Addr} {od0 an0 : Option Addr} {sl0 : Array (Option Value)} {oc0 kV0 dc0 pm0 cd0 ct0 : Value}
    {f1 : Addr} {od1 an1 : Option Addr} {sl1 : Array (Option Value)} {oc1 kV1 dc1 pm1 cd1 ct1 : Value}
    {f2 : Addr} {od2 an2 : Option Addr} {sl2 : Array (Option Value)} {oc2 kV2 dc2 pm2 cd2 ct2 : Value}
    {f3 : Addr} {od3 an3 : Option Addr} {sl3 : Array (Option Value)} {oc3 kV3 dc3 pm3 cd3 ct3 : Value}
    {f4 : Addr} {od4 an4 : Option Addr} {sl4 : Array (Option Value)} {oc4 kV4 dc4 pm4 cd4 ct4 : Value}
    {f5 : Addr} {od5 an5 : Option Addr} {sl5 : Array (Option Value)} {oc5 kV5 dc5 pm5 cd5 ct5 : Value}
    {f6 : Addr} {od6 an6 : Option Addr} {sl6 : Array (Option Value)} {oc6 kV6 dc6 pm6 cd6 ct6 : Value}
    {f7 : Addr} {od7 an7 : Option Addr} {sl7 : Array (Option Value)} {oc7 kV7 dc7 pm7 cd7 ct7 : Value}
    {f8 : Addr} {od8 an8 : Option Addr} {sl8 : Array (Option Value)} {oc8 kV8 dc8 pm8 cd8 ct8 : Value}
    {f9 : Addr} {od9 an9 : Option Addr} {sl9 : Array (Option Value)} {oc9 kV9 dc9 pm9 cd9 ct9 : Value}
    {f10 : Addr} {od10 an10 : Option Addr} {sl10 : Array (Option Value)} {oc10 kV10 dc10 pm10 cd10 ct10 : Value}
    {f11 : Addr} {od11 an11 : Option Addr} {sl11 : Array (Option Value)} {oc11 kV11 dc11 pm11 cd11 ct11 : Value}
    {f12 : Addr} {od12 an12 : Option Addr} {sl12 : Array (Option Value)} {oc12 kV12 dc12 pm12 cd12 ct12 : Value}
    {T12 : Addr} {Tc12 : Value} {Td12 : Option Addr} {Tn12 : Nat} {Ts12 : Array (Option Value)} {e12_0 : Addr} {e12_1 : Addr} {e12_2 : Addr} {e12_3 : Addr} {e12_4 : Addr} {e12_5 : Addr} {e12_6 : Addr} {e12_7 : Addr}
    {dn12_0 : Nat} {ds12_0 : Array (Option Value)} {dn12_1 : Nat} {ds12_1 : Array (Option Value)} {dn12_2 : Nat} {ds12_2 : Array (Option Value)} {dn12_3 : Nat} {ds12_3 : Array (Option Value)} {dn12_4 : Nat} {ds12_4 : Array (Option Value)} {dn12_5 : Nat} {ds12_5 : Array (Option Value)} {dn12_6 : Nat} {ds12_6 : Array (Option Value)} {dn12_7 : Nat} {ds12_7 : Array (Option Value)}
    {f13 : Addr} {od13 an13 : Option Addr} {sl13 : Array (Option Value)} {oc13 kV13 dc13 pm13 cd13 ct13 : Value}
    {f14 : Addr} {od14 an14 : Option Addr} {sl14 : Array (Option Value)} {oc14 kV14 dc14 pm14 cd14 ct14 : Value}
    {f15 : Addr} {od15 an15 : Option Addr} {sl15 : Array (Option Value)} {oc15 kV15 dc15 pm15 cd15 ct15 : Value}
    {f16 : Addr} {od16 an16 : Option Addr} {sl16 : Array (Option Value)} {oc16 kV16 dc16 pm16 cd16 ct16 : Value}
    {f17 : Addr} {od17 an17 : Option Addr} {sl17 : Array (Option Value)} {oc17 kV17 dc17 pm17 cd17 ct17 : Value}
    {f18 : Addr} {od18 an18 : Option Addr} {sl18 : Array (Option Value)} {oc18 kV18 dc18 pm18 cd18 ct18 : Value}
    {f19 : Addr} {od19 an19 : Option Addr} {sl19 : Array (Option Value)} {oc19 kV19 dc19 pm19 cd19 ct19 : Value}
    {f20 : Addr} {od20 an20 : Option Addr} {sl20 : Array (Option Value)} {oc20 kV20 dc20 pm20 cd20 ct20 : Value}
    {f21 : Addr} {od21 an21 : Option Addr} {sl21 : Array (Option Value)} {oc21 kV21 dc21 pm21 cd21 ct21 : Value}
    {f22 : Addr} {od22 an22 : Option Addr} {sl22 : Array (Option Value)} {oc22 kV22 dc22 pm22 cd22 ct22 : Value}
    {t_0_0 : Nat}
    {t_0_1 : Nat}
    {t_0_2 : Nat}
    {t_0_3 : Nat}
    {t_0_4 : Nat}
    {t_0_5 : Nat}
    {t_0_6 : Nat}
    {g_0 : Addr} {gn_0 : Nat} {gs_0 : Array (Option Value)}
    {t_1_0 : Nat}
    {t_1_1 : Nat}
    {t_1_2 : Nat}
    {t_1_3 : Nat}
    {t_1_4 : Nat}
    {t_1_5 : Nat}
    {t_1_6 : Nat}
    {t_1_7 : Nat}
    {g_1 : Addr} {gn_1 : Nat} {gs_1 : Array (Option Value)}
    {t_2 : Nat}
    {t_3 : Nat}
    (X : K.In h) (G : h.Ns mainGlobals mg) (hfa : mg "law" = some (.ref fa))
    (aC0 : PySem.W.nsIn K mainGlobals "Book" = some (some (.ref C0)))
    (pg0 : PySem.W.plainGet K C0 Str.empty = true)
    (hd0 : PySem.W.hasDictIn K C0 = true)
    (po0 : PySem.W.plainOver K C0 = true)
    (sa0 : PySem.W.findIn K (.ref C0) "__setattr__" = some (some (.builtin "object.__setattr__")))
    (mk0 : PySem.W.makesIn K C0 = true)
    (kc0 : PySem.W.keepIn K (.ref C0) = true)
    (n0_0 : PySem.W.findIn K (.ref C0) "moment" = some none)
    (n0_1 : PySem.W.findIn K (.ref C0) "limit" = some none)
    (n0_2 : PySem.W.findIn K (.ref C0) "rule_row" = some none)
    (a0 : PySem.W.nsIn K mainGlobals "law" = some (some (.ref f0)))
    (l0 : K.lookup f0 = some ⟨oc0, od0, .func (PySem.W.fnOf "law" "law" (L2.defArgs s_law) (L2.defBody s_law) (L2.defScope s_law) .none kV0 dc0 pm0 an0 cd0 ct0), sl0⟩)
    (c0 : PySem.W.codeIn K cd0 "law" = true)
    (k0 : PySem.W.keepIn K (.ref f0) = true)
    (a1 : PySem.W.nsIn K mainGlobals "_law_right" = some (some (.ref f1)))
    (l1 : K.lookup f1 = some ⟨oc1, od1, .func (PySem.W.fnOf "_law_right" "_law_right" (L2.defArgs s_law_right) (L2.defBody s_law_right) (L2.defScope s_law_right) .none kV1 dc1 pm1 an1 cd1 ct1), sl1⟩)
    (c1 : PySem.W.codeIn K cd1 "_law_right" = true)
    (k1 : PySem.W.keepIn K (.ref f1) = true)
    (a2 : PySem.W.nsIn K mainGlobals "_law_pot" = some (some (.ref f2)))
    (l2 : K.lookup f2 = some ⟨oc2, od2, .func (PySem.W.fnOf "_law_pot" "_law_pot" (L2.defArgs s_law_pot) (L2.defBody s_law_pot) (L2.defScope s_law_pot) .none kV2 dc2 pm2 an2 cd2 ct2), sl2⟩)
    (c2 : PySem.W.codeIn K cd2 "_law_pot" = true)
    (k2 : PySem.W.keepIn K (.ref f2) = true)
    (a3 : PySem.W.findIn K (.ref C0) "rules" = some (some (.ref f3)))
    (i3 : PySem.W.isFn K (.ref f3) = true)
    (l3 : K.lookup f3 = some ⟨oc3, od3, .func (PySem.W.fnOf "rules" "Book.rules" (L2.defArgs s_Book_rules) (L2.defBody s_Book_rules) (L2.defScope s_Book_rules) .none kV3 dc3 pm3 an3 cd3 ct3), sl3⟩)
    (c3 : PySem.W.codeIn K cd3 "Book.rules" = true)
    (k3 : PySem.W.keepIn K (.ref f3) = true)
    (a4 : PySem.W.findIn K (.ref C0) "days" = some (some (.ref f4)))
    (i4 : PySem.W.isFn K (.ref f4) = true)
    (l4 : K.lookup f4 = some ⟨oc4, od4, .func (PySem.W.fnOf "days" "Book.days" (L2.defArgs s_Book_days) (L2.defBody s_Book_days) (L2.defScope s_Book_days) .none kV4 dc4 pm4 an4 cd4 ct4), sl4⟩)
    (c4 : PySem.W.codeIn K cd4 "Book.days" = true)
    (k4 : PySem.W.keepIn K (.ref f4) = true)
    (a5 : PySem.W.nsIn K mainGlobals "book_text" = some (some (.ref f5)))
    (l5 : K.lookup f5 = some ⟨oc5, od5, .func (PySem.W.fnOf "book_text" "book_text" (L2.defArgs s_book_text) (L2.defBody s_book_text) (L2.defScope s_book_text) .none kV5 dc5 pm5 an5 cd5 ct5), sl5⟩)
    (c5 : PySem.W.codeIn K cd5 "book_text" = true)
    (k5 : PySem.W.keepIn K (.ref f5) = true)
    (a6 : PySem.W.nsIn K mainGlobals "_law_book" = some (some (.ref f6)))
    (l6 : K.lookup f6 = some ⟨oc6, od6, .func (PySem.W.fnOf "_law_book" "_law_book" (L2.defArgs s_law_book) (L2.defBody s_law_book) (L2.defScope s_law_book) .none kV6 dc6 pm6 an6 cd6 ct6), sl6⟩)
    (c6 : PySem.W.codeIn K cd6 "_law_book" = true)
    (k6 : PySem.W.keepIn K (.ref f6) = true)
    (a7 : PySem.W.nsIn K mainGlobals "_law_lines" = some (some (.ref f7)))
    (l7 : K.lookup f7 = some ⟨oc7, od7, .func (PySem.W.fnOf "_law_lines" "_law_lines" (L2.defArgs s_law_lines) (L2.defBody s_law_lines) (L2.defScope s_law_lines) .none kV7 dc7 pm7 an7 cd7 ct7), sl7⟩)
    (c7 : PySem.W.codeIn K cd7 "_law_lines" = true)
    (k7 : PySem.W.keepIn K (.ref f7) = true)
    (a8 : PySem.W.nsIn K mainGlobals "_law_made" = some (some (.ref f8)))
    (l8 : K.lookup f8 = some ⟨oc8, od8, .func (PySem.W.fnOf "_law_made" "_law_made" (L2.defArgs s_law_made) (L2.defBody s_law_made) (L2.defScope s_law_made) .none kV8 dc8 pm8 an8 cd8 ct8), sl8⟩)
    (c8 : PySem.W.codeIn K cd8 "_law_made" = true)
    (k8 : PySem.W.keepIn K (.ref f8) = true)
    (a9 : PySem.W.nsIn K mainGlobals "_law_dip" = some (some (.ref f9)))
    (l9 : K.lookup f9 = some ⟨oc9, od9, .func (PySem.W.fnOf "_law_dip" "_law_dip" (L2.defArgs s_law_dip) (L2.defBody s_law_dip) (L2.defScope s_law_dip) .none kV9 dc9 pm9 an9 cd9 ct9), sl9⟩)
    (c9 : PySem.W.codeIn K cd9 "_law_dip" = true)
    (k9 : PySem.W.keepIn K (.ref f9) = true)
    (a10 : PySem.W.nsIn K mainGlobals "_law_plan" = some (some (.ref f10)))
    (l10 : K.lookup f10 = some ⟨oc10, od10, .func (PySem.W.fnOf "_law_plan" "_law_plan" (L2.defArgs s_law_plan) (L2.defBody s_law_plan) (L2.defScope s_law_plan) .none kV10 dc10 pm10 an10 cd10 ct10), sl10⟩)
    (c10 : PySem.W.codeIn K cd10 "_law_plan" = true)
    (k10 : PySem.W.keepIn K (.ref f10) = true)
    (a11 : PySem.W.findIn K (.ref C0) "rule" = some (some (.ref f11)))
    (i11 : PySem.W.isFn K (.ref f11) = true)
    (l11 : K.lookup f11 = some ⟨oc11, od11, .func (PySem.W.fnOf "rule" "Book.rule" (L2.defArgs s_Book_rule) (L2.defBody s_Book_rule) (L2.defScope s_Book_rule) .none kV11 dc11 pm11 an11 cd11 ct11), sl11⟩)
    (c11 : PySem.W.codeIn K cd11 "Book.rule" = true)
    (k11 : PySem.W.keepIn K (.ref f11) = true)
    (a12 : PySem.W.findIn K (.ref C0) "__init__" = some (some (.ref f12)))
    (i12 : PySem.W.isFn K (.ref f12) = true)
    (l12 : K.lookup f12 = some ⟨oc12, od12, .func (PySem.W.fnOf "__init__" "Book.__init__" (L2.defArgs s_Book__init_) (L2.defBody s_Book__init_) (L2.defScope s_Book__init_) (.ref T12) kV12 dc12 pm12 an12 cd12 ct12), sl12⟩)
    (c12 : PySem.W.codeIn K cd12 "Book.__init__" = true)
    (k12 : PySem.W.keepIn K (.ref f12) = true)
    (d12 : K.lookup T12 = some ⟨Tc12, Td12, .seq #[.ref e12_0, .ref e12_1, .ref e12_2, .ref e12_3, .ref e12_4, .ref e12_5, .ref e12_6, .ref e12_7] Tn12, Ts12⟩)
    (dl12_0 : K.lookup e12_0 = some ⟨.type "tuple", none, .seq #[] dn12_0, ds12_0⟩)
    (dl12_1 : K.lookup e12_1 = some ⟨.type "tuple", none, .seq #[] dn12_1, ds12_1⟩)
    (dl12_2 : K.lookup e12_2 = some ⟨.type "tuple", none, .seq #[] dn12_2, ds12_2⟩)
    (dl12_3 : K.lookup e12_3 = some ⟨.type "tuple", none, .seq #[] dn12_3, ds12_3⟩)
    (dl12_4 : K.lookup e12_4 = some ⟨.type "tuple", none, .seq #[] dn12_4, ds12_4⟩)
    (dl12_5 : K.lookup e12_5 = some ⟨.type "tuple", none, .seq #[] dn12_5, ds12_5⟩)
    (dl12_6 : K.lookup e12_6 = some ⟨.type "tuple", none, .seq #[] dn12_6, ds12_6⟩)
    (dl12_7 : K.lookup e12_7 = some ⟨.type "tuple", none, .seq #[] dn12_7, ds12_7⟩)
    (a13 : PySem.W.nsIn K mainGlobals "_law_line" = some (some (.ref f13)))
    (l13 : K.lookup f13 = some ⟨oc13, od13, .func (PySem.W.fnOf "_law_line" "_law_line" (L2.defArgs s_law_line) (L2.defBody s_law_line) (L2.defScope s_law_line) .none kV13 dc13 pm13 an13 cd13 ct13), sl13⟩)
    (c13 : PySem.W.codeIn K cd13 "_law_line" = true)
    (k13 : PySem.W.keepIn K (.ref f13) = true)
    (a14 : PySem.W.nsIn K mainGlobals "_law_moments" = some (some (.ref f14)))
    (l14 : K.lookup f14 = some ⟨oc14, od14, .func (PySem.W.fnOf "_law_moments" "_law_moments" (L2.defArgs s_law_moments) (L2.defBody s_law_moments) (L2.defScope s_law_moments) .none kV14 dc14 pm14 an14 cd14 ct14), sl14⟩)
    (c14 : PySem.W.codeIn K cd14 "_law_moments" = true)
    (k14 : PySem.W.keepIn K (.ref f14) = true)
    (a15 : PySem.W.findIn K (.ref C0) "with_days" = some (some (.ref f15)))
    (i15 : PySem.W.isFn K (.ref f15) = true)
    (l15 : K.lookup f15 = some ⟨oc15, od15, .func (PySem.W.fnOf "with_days" "Book.with_days" (L2.defArgs s_Book_with_days) (L2.defBody s_Book_with_days) (L2.defScope s_Book_with_days) .none kV15 dc15 pm15 an15 cd15 ct15), sl15⟩)
    (c15 : PySem.W.codeIn K cd15 "Book.with_days" = true)
    (k15 : PySem.W.keepIn K (.ref f15) = true)
    (a16 : PySem.W.findIn K (.ref C0) "taking" = some (some (.ref f16)))
    (i16 : PySem.W.isFn K (.ref f16) = true)
    (l16 : K.lookup f16 = some ⟨oc16, od16, .func (PySem.W.fnOf "taking" "Book.taking" (L2.defArgs s_Book_taking) (L2.defBody s_Book_taking) (L2.defScope s_Book_taking) .none kV16 dc16 pm16 an16 cd16 ct16), sl16⟩)
    (c16 : PySem.W.codeIn K cd16 "Book.taking" = true)
    (k16 : PySem.W.keepIn K (.ref f16) = true)
    (a17 : PySem.W.findIn K (.ref C0) "with_rule" = some (some (.ref f17)))
    (i17 : PySem.W.isFn K (.ref f17) = true)
    (l17 : K.lookup f17 = some ⟨oc17, od17, .func (PySem.W.fnOf "with_rule" "Book.with_rule" (L2.defArgs s_Book_with_rule) (L2.defBody s_Book_with_rule) (L2.defScope s_Book_with_rule) .none kV17 dc17 pm17 an17 cd17 ct17), sl17⟩)
    (c17 : PySem.W.codeIn K cd17 "Book.with_rule" = true)
    (k17 : PySem.W.keepIn K (.ref f17) = true)
    (a18 : PySem.W.nsIn K mainGlobals "_law_rule" = some (some (.ref f18)))
    (l18 : K.lookup f18 = some ⟨oc18, od18, .func (PySem.W.fnOf "_law_rule" "_law_rule" (L2.defArgs s_law_rule) (L2.defBody s_law_rule) (L2.defScope s_law_rule) .none kV18 dc18 pm18 an18 cd18 ct18), sl18⟩)
    (c18 : PySem.W.codeIn K cd18 "_law_rule" = true)
    (k18 : PySem.W.keepIn K (.ref f18) = true)
    (a19 : PySem.W.nsIn K mainGlobals "is_moment" = some (some (.ref f19)))
    (l19 : K.lookup f19 = some ⟨oc19, od19, .func (PySem.W.fnOf "is_moment" "is_moment" (L2.defArgs s_is_moment) (L2.defBody s_is_moment) (L2.defScope s_is_moment) .none kV19 dc19 pm19 an19 cd19 ct19), sl19⟩)
    (c19 : PySem.W.codeIn K cd19 "is_moment" = true)
    (k19 : PySem.W.keepIn K (.ref f19) = true)
    (a20 : PySem.W.nsIn K mainGlobals "is_rule" = some (some (.ref f20)))
    (l20 : K.lookup f20 = some ⟨oc20, od20, .func (PySem.W.fnOf "is_rule" "is_rule" (L2.defArgs s_is_rule) (L2.defBody s_is_rule) (L2.defScope s_is_rule) .none kV20 dc20 pm20 an20 cd20 ct20), sl20⟩)
    (c20 : PySem.W.codeIn K cd20 "is_rule" = true)
    (k20 : PySem.W.keepIn K (.ref f20) = true)
    (a21 : PySem.W.nsIn K mainGlobals "is_whole" = some (some (.ref f21)))
    (l21 : K.lookup f21 = some ⟨oc21, od21, .func (PySem.W.fnOf "is_whole" "is_whole" (L2.defArgs s_is_whole) (L2.defBody s_is_whole) (L2.defScope s_is_whole) .none kV21 dc21 pm21 an21 cd21 ct21), sl21⟩)
    (c21 : PySem.W.codeIn K cd21 "is_whole" = true)
    (k21 : PySem.W.keepIn K (.ref f21) = true)
    (a22 : PySem.W.nsIn K mainGlobals "are_moments" = some (some (.ref f22)))
    (l22 : K.lookup f22 = some ⟨oc22, od22, .func (PySem.W.fnOf "are_moments" "are_moments" (L2.defArgs s_are_moments) (L2.defBody s_are_moments) (L2.defScope s_are_moments) .none kV22 dc22 pm22 an22 cd22 ct22), sl22⟩)
    (c22 : PySem.W.codeIn K cd22 "are_moments" = true)
    (k22 : PySem.W.keepIn K (.ref f22) = true)
    (z_len : PySem.W.nsIn K mainGlobals "len" = some none)
    (z_int : PySem.W.nsIn K mainGlobals "int" = some none)
    (z_abs : PySem.W.nsIn K mainGlobals "abs" = some none)
    (z_max : PySem.W.nsIn K mainGlobals "max" = some none)
    (z_min : PySem.W.nsIn K mainGlobals "min" = some none)
    (z_sorted : PySem.W.nsIn K mainGlobals "sorted" = some none)
    (z_list : PySem.W.nsIn K mainGlobals "list" = some none)
    (z_tuple : PySem.W.nsIn K mainGlobals "tuple" = some none)
    (z_str : PySem.W.nsIn K mainGlobals "str" = some none)
    (z_all : PySem.W.nsIn K mainGlobals "all" = some none)
    (z_any : PySem.W.nsIn K mainGlobals "any" = some none)
    (z_sum : PySem.W.nsIn K mainGlobals "sum" = some none)
    (z_isinstance : PySem.W.nsIn K mainGlobals "isinstance" = some none)
    (z_range : PySem.W.nsIn K mainGlobals "range" = some none)
    (z_enumerate : PySem.W.nsIn K mainGlobals "enumerate" = some none)
    (z_zip : PySem.W.nsIn K mainGlobals "zip" = some none)
    (z_bool : PySem.W.nsIn K mainGlobals "bool" = some none)
    (z_set : PySem.W.nsIn K mainGlobals "set" = some none)
    (gl_0 : K.lookup g_0 = some ⟨.type "tuple", none, .seq #[.str "free" t_0_0, .str "full" t_0_1, .str "off" t_0_2, .str "code" t_0_3, .str "void" t_0_4, .str "look" t_0_5, .str "lock" t_0_6] gn_0, gs_0⟩)
    (g0 : PySem.W.nsIn K mainGlobals "ACTIONS" = some (some (.ref g_0)))
    (gl_1 : K.lookup g_1 = some ⟨.type "tuple", none, .seq #[.str "given" t_1_0, .str "laid" t_1_1, .str "left" t_1_2, .str "opened" t_1_3, .str "taken" t_1_4, .str "gone" t_1_5, .str "late" t_1_6, .str "power" t_1_7] gn_1, gs_1⟩)
    (g1 : PySem.W.nsIn K mainGlobals "MOMENTS" = some (some (.ref g_1)))
    (g2 : PySem.W.nsIn K mainGlobals "MOST_ACTIONS" = some (some (.int 6 t_2)))
    (g3 : PySem.W.nsIn K mainGlobals "MOST_DAYS" = some (some (.int 30 t_3)))
    (run_law : LawRuns) :
    ∃ fd : FuncData, (∀ (s : Shared) (v : Value), BindsTo s fd ⟨[v], []⟩ [("script", v)]) ∧ ∀ base : Heap, K.In base → base.Ns mainGlobals mg → FnOk l.prog w K mg base (L2.CX l.prog w) (lev 12) fa fd ["script"] (spLaw K) := by
  have e : f0 = fa := by have e := (PySem.W.mg_of X G a0).symm.trans hfa; injection e with e; injection e
  rw [← e]
  let D0 : FuncData := (PySem.W.fnOf "law" "law" (L2.defArgs s_law) (L2.defBody s_law) (L2.defScope s_law) .none kV0 dc0 pm0 an0 cd0 ct0)
  let D1 : FuncData := (PySem.W.fnOf "_law_right" "_law_right" (L2.defArgs s_law_right) (L2.defBody s_law_right) (L2.defScope s_law_right) .none kV1 dc1 pm1 an1 cd1 ct1)
  let D2 : FuncData := (PySem.W.fnOf "_law_pot" "_law_pot" (L2.defArgs s_law_pot) (L2.defBody s_law_pot) (L2.defScope s_law_pot) .none kV2 dc2 pm2 an2 cd2 ct2)
  let D3 : FuncData := (PySem.W.fnOf "rules" "Book.rules" (L2.defArgs s_Book_rules) (L2.defBody s_Book_rules) (L2.defScope s_Book_rules) .none kV3 dc3 pm3 an3 cd3 ct3)
  let D4 : FuncData := (PySem.W.fnOf "days" "Book.days" (L2.defArgs s_Book_days) (L2.defBody s_Book_days) (L2.defScope s_Book_days) .none kV4 dc4 pm4 an4 cd4 ct4)
  let D5 : FuncData := (PySem.W.fnOf "book_text" "book_text" (L2.defArgs s_book_text) (L2.defBody s_book_text) (L2.defScope s_book_text) .none kV5 dc5 pm5 an5 cd5 ct5)
  let D6 : FuncData := (PySem.W.fnOf "_law_book" "_law_book" (L2.defArgs s_law_book) (L2.defBody s_law_book) (L2.defScope s_law_book) .none kV6 dc6 pm6 an6 cd6 ct6)
  let D7 : FuncData := (PySem.W.fnOf "_law_lines" "_law_lines" (L2.defArgs s_law_lines) (L2.defBody s_law_lines) (L2.defScope s_law_lines) .none kV7 dc7 pm7 an7 cd7 ct7)
  let D8 : FuncData := (PySem.W.fnOf "_law_made" "_law_made" (L2.defArgs s_law_made) (L2.defBody s_law_made) (L2.defScope s_law_made) .none kV8 dc8 pm8 an8 cd8 ct8)
  let D9 : FuncData := (PySem.W.fnOf "_law_dip" "_law_dip" (L2.defArgs s_law_dip) (L2.defBody s_law_dip) (L2.defScope s_law_dip) .none kV9 dc9 pm9 an9 cd9 ct9)
  let D10 : FuncData := (PySem.W.fnOf "_law_plan" "_law_plan" (L2.defArgs s_law_plan) (L2.defBody s_law_plan) (L2.defScope s_law_plan) .none kV10 dc10 pm10 an10 cd10 ct10)
  let D11 : FuncData := (PySem.W.fnOf "rule" "Book.rule" (L2.defArgs s_Book_rule) (L2.defBody s_Book_rule) (L2.defScope s_Book_rule) .none kV11 dc11 pm11 an11 cd11 ct11)
  let D12 : FuncData := (PySem.W.fnOf "__init__" "Book.__init__" (L2.defArgs s_Book__init_) (L2.defBody s_Book__init_) (L2.defScope s_Book__init_) (.ref T12) kV12 dc12 pm12 an12 cd12 ct12)
  let D13 : FuncData := (PySem.W.fnOf "_law_line" "_law_line" (L2.defArgs s_law_line) (L2.defBody s_law_line) (L2.defScope s_law_line) .none kV13 dc13 pm13 an13 cd13 ct13)
  let D14 : FuncData := (PySem.W.fnOf "_law_moments" "_law_moments" (L2.defArgs s_law_moments) (L2.defBody s_law_moments) (L2.defScope s_law_moments) .none kV14 dc14 pm14 an14 cd14 ct14)
  let D15 : FuncData := (PySem.W.fnOf "with_days" "Book.with_days" (L2.defArgs s_Book_with_days) (L2.defBody s_Book_with_days) (L2.defScope s_Book_with_days) .none kV15 dc15 pm15 an15 cd15 ct15)
  let D16 : FuncData := (PySem.W.fnOf "taking" "Book.taking" (L2.defArgs s_Book_taking) (L2.defBody s_Book_taking) (L2.defScope s_Book_taking) .none kV16 dc16 pm16 an16 cd16 ct16)
  let D17 : FuncData := (PySem.W.fnOf "with_rule" "Book.with_rule" (L2.defArgs s_Book_with_rule) (L2.defBody s_Book_with_rule) (L2.defScope s_Book_with_rule) .none kV17 dc17 pm17 an17 cd17 ct17)
  let D18 : FuncData := (PySem.W.fnOf "_law_rule" "_law_rule" (L2.defArgs s_law_rule) (L2.defBody s_law_rule) (L2.defScope s_law_rule) .none kV18 dc18 pm18 an18 cd18 ct18)
  let D19 : FuncData := (PySem.W.fnOf "is_moment" "is_moment" (L2.defArgs s_is_moment) (L2.defBody s_is_moment) (L2.defScope s_is_moment) .none kV19 dc19 pm19 an19 cd19 ct19)
  let D20 : FuncData := (PySem.W.fnOf "is_rule" "is_rule" (L2.defArgs s_is_rule) (L2.defBody s_is_rule) (L2.defScope s_is_rule) .none kV20 dc20 pm20 an20 cd20 ct20)
  let D21 : FuncData := (PySem.W.fnOf "is_whole" "is_whole" (L2.defArgs s_is_whole) (L2.defBody s_is_whole) (L2.defScope s_is_whole) .none kV21 dc21 pm21 an21 cd21 ct21)
  let D22 : FuncData := (PySem.W.fnOf "are_moments" "are_moments" (L2.defArgs s_are_moments) (L2.defBody s_are_moments) (L2.defScope s_are_moments) .none kV22 dc22 pm22 an22 cd22 ct22)
  let F : FT := ftOf f0 f1 f2 f3 f4 f5 f6 f7 f8 f9 f10 f11 f12 f13 f14 f15 f16 f17 f18 f19 f20 f21 f22 D0 D1 D2 D3 D4 D5 D6 D7 D8 D9 D10 D11 D12 D13 D14 D15 D16 D17 D18 D19 D20 D21 D22
  let ca : CA := ⟨fun c => match c with  | _ => C0, tab.flds⟩
  have F0 : FunD K "law" "law" (defArgs s_law) (defBody s_law) (defScope s_law) [] [] f0 D0 := funD_of l0 c0 k0
  have b0 : Binds K D0 ["script"] [] := F0.bindsN fun _ _ _ _ _ _ us hl => match us, hl with | [_], _ => rfl
  have F1 : FunD K "_law_right" "_law_right" (defArgs s_law_right) (defBody s_law_right) (defScope s_law_right) [] [] f1 D1 := funD_of l1 c1 k1
  have b1 : Binds K D1 ["pot"] [] := F1.bindsN fun _ _ _ _ _ _ us hl => match us, hl with | [_], _ => rfl
  have F2 : FunD K "_law_pot" "_law_pot" (defArgs s_law_pot) (defBody s_law_pot) (defScope s_law_pot) [] [] f2 D2 := funD_of l2 c2 k2
  have b2 : Binds K D2 ["script", "k"] [] := F2.bindsN fun _ _ _ _ _ _ us hl => match us, hl with | [_, _], _ => rfl
  have F3 : FunD K "rules" "Book.rules" (defArgs s_Book_rules) (defBody s_Book_rules) (defScope s_Book_rules) [] [] f3 D3 := funD_of l3 c3 k3
  have b3 : Binds K D3 ["self"] [] := F3.bindsN fun _ _ _ _ _ _ us hl => match us, hl with | [_], _ => rfl
  have F4 : FunD K "days" "Book.days" (defArgs s_Book_days) (defBody s_Book_days) (defScope s_Book_days) [] [] f4 D4 := funD_of l4 c4 k4
  have b4 : Binds K D4 ["self"] [] := F4.bindsN fun _ _ _ _ _ _ us hl => match us, hl with | [_], _ => rfl
  have F5 : FunD K "book_text" "book_text" (defArgs s_book_text) (defBody s_book_text) (defScope s_book_text) [] [] f5 D5 := funD_of l5 c5 k5
  have b5 : Binds K D5 ["book"] [] := F5.bindsN fun _ _ _ _ _ _ us hl => match us, hl with | [_], _ => rfl
  have F6 : FunD K "_law_book" "_law_book" (defArgs s_law_book) (defBody s_law_book) (defScope s_law_book) [] [] f6 D6 := funD_of l6 c6 k6
  have b6 : Binds K D6 ["plan"] [] := F6.bindsN fun _ _ _ _ _ _ us hl => match us, hl with | [_], _ => rfl
  have F7 : FunD K "_law_lines" "_law_lines" (defArgs s_law_lines) (defBody s_law_lines) (defScope s_law_lines) [] [] f7 D7 := funD_of l7 c7 k7
  have b7 : Binds K D7 ["plan"] [] := F7.bindsN fun _ _ _ _ _ _ us hl => match us, hl with | [_], _ => rfl
  have F8 : FunD K "_law_made" "_law_made" (defArgs s_law_made) (defBody s_law_made) (defScope s_law_made) [] [] f8 D8 := funD_of l8 c8 k8
  have b8 : Binds K D8 ["pot", "plan"] [] := F8.bindsN fun _ _ _ _ _ _ us hl => match us, hl with | [_, _], _ => rfl
  have F9 : FunD K "_law_dip" "_law_dip" (defArgs s_law_dip) (defBody s_law_dip) (defScope s_law_dip) [] [] f9 D9 := funD_of l9 c9 k9
  have b9 : Binds K D9 ["pot", "many"] [] := F9.bindsN fun _ _ _ _ _ _ us hl => match us, hl with | [_, _], _ => rfl
  have F10 : FunD K "_law_plan" "_law_plan" (defArgs s_law_plan) (defBody s_law_plan) (defScope s_law_plan) [] [] f10 D10 := funD_of l10 c10 k10
  have b10 : Binds K D10 ["pot"] [] := F10.bindsN fun _ _ _ _ _ _ us hl => match us, hl with | [_], _ => rfl
  have F11 : FunD K "rule" "Book.rule" (defArgs s_Book_rule) (defBody s_Book_rule) (defScope s_Book_rule) [] [] f11 D11 := funD_of l11 c11 k11
  have b11 : Binds K D11 ["self", "moment"] [] := F11.bindsN fun _ _ _ _ _ _ us hl => match us, hl with | [_, _], _ => rfl
  have F12 : FunD K "__init__" "Book.__init__" (defArgs s_Book__init_) (defBody s_Book__init_) (defScope s_Book__init_) [.ref e12_0, .ref e12_1, .ref e12_2, .ref e12_3, .ref e12_4, .ref e12_5, .ref e12_6, .ref e12_7] [] f12 D12 := funD_dfl l12 c12 k12 d12 (by simp) (.cons rfl (.cons rfl (.cons rfl (.cons rfl (.cons rfl (.cons rfl (.cons rfl (.cons rfl .nil))))))))
  have b12 : Binds K D12 ["self", "days", "given", "laid", "left", "opened", "taken", "gone", "late", "power"] [] := binds_full F12 (by simp) fun _ _ _ _ _ _ _ us its hl hi => match us, hl, its, hi with | [_, _, _, _, _, _, _, _, _, _], _, [_, _, _, _, _, _, _, _], _ => ⟨_, rfl, rfl⟩
  have F13 : FunD K "_law_line" "_law_line" (defArgs s_law_line) (defBody s_law_line) (defScope s_law_line) [] [] f13 D13 := funD_of l13 c13 k13
  have b13 : Binds K D13 ["word", "row"] [] := F13.bindsN fun _ _ _ _ _ _ us hl => match us, hl with | [_, _], _ => rfl
  have F14 : FunD K "_law_moments" "_law_moments" (defArgs s_law_moments) (defBody s_law_moments) (defScope s_law_moments) [] [] f14 D14 := funD_of l14 c14 k14
  have b14 : Binds K D14 [] [] := F14.bindsN fun _ _ _ _ _ _ us hl => match us, hl with | [], _ => rfl
  have F15 : FunD K "with_days" "Book.with_days" (defArgs s_Book_with_days) (defBody s_Book_with_days) (defScope s_Book_with_days) [] [] f15 D15 := funD_of l15 c15 k15
  have b15 : Binds K D15 ["self", "days"] [] := F15.bindsN fun _ _ _ _ _ _ us hl => match us, hl with | [_, _], _ => rfl
  have F16 : FunD K "taking" "Book.taking" (defArgs s_Book_taking) (defBody s_Book_taking) (defScope s_Book_taking) [] [] f16 D16 := funD_of l16 c16 k16
  have b16 : Binds K D16 ["self", "good", "moments"] [] := F16.bindsN fun _ _ _ _ _ _ us hl => match us, hl with | [_, _, _], _ => rfl
  have F17 : FunD K "with_rule" "Book.with_rule" (defArgs s_Book_with_rule) (defBody s_Book_with_rule) (defScope s_Book_with_rule) [] [] f17 D17 := funD_of l17 c17 k17
  have b17 : Binds K D17 ["self", "moment", "rule"] [] := F17.bindsN fun _ _ _ _ _ _ us hl => match us, hl with | [_, _, _], _ => rfl
  have F18 : FunD K "_law_rule" "_law_rule" (defArgs s_law_rule) (defBody s_law_rule) (defScope s_law_rule) [] [] f18 D18 := funD_of l18 c18 k18
  have b18 : Binds K D18 ["pot"] [] := F18.bindsN fun _ _ _ _ _ _ us hl => match us, hl with | [_], _ => rfl
  have F19 : FunD K "is_moment" "is_moment" (defArgs s_is_moment) (defBody s_is_moment) (defScope s_is_moment) [] [] f19 D19 := funD_of l19 c19 k19
  have b19 : Binds K D19 ["thing"] [] := F19.bindsN fun _ _ _ _ _ _ us hl => match us, hl with | [_], _ => rfl
  have F20 : FunD K "is_rule" "is_rule" (defArgs s_is_rule) (defBody s_is_rule) (defScope s_is_rule) [] [] f20 D20 := funD_of l20 c20 k20
  have b20 : Binds K D20 ["thing"] [] := F20.bindsN fun _ _ _ _ _ _ us hl => match us, hl with | [_], _ => rfl
  have F21 : FunD K "is_whole" "is_whole" (defArgs s_is_whole) (defBody s_is_whole) (defScope s_is_whole) [] [] f21 D21 := funD_of l21 c21 k21
  have b21 : Binds K D21 ["thing"] [] := F21.bindsN fun _ _ _ _ _ _ us hl => match us, hl with | [_], _ => rfl
  have F22 : FunD K "are_moments" "are_moments" (defArgs s_are_moments) (defBody s_are_moments) (defScope s_are_moments) [] [] f22 D22 := funD_of l22 c22 k22
  have b22 : Binds K D22 ["thing"] [] := F22.bindsN fun _ _ _ _ _ _ us hl => match us, hl with | [_], _ => rfl
  have fx : ∀ C : Cfg, (∀ f r, C.fn f = some r → ∃ r0, cfg.fn f = some r0 ∧ r0.cls = r.cls ∧ r0.arity = r.arity) → (∀ i, C.glob i = cfg.glob i) → (∀ c r, C.cls c = some r → cfg.cls c = some r) → Facts tab C ca F K mg := fun C hC hG hK => {
    gl := fun i hi => by rw [hG]; exact (match i, hi with
      | 0, _ => ⟨_, .ref g_0, PySem.W.mg_of X G g0, rfl, rep_tup gl_0 (vs := [.str "free", .str "full", .str "off", .str "code", .str "void", .str "look", .str "lock"]) (by simp) (.cons ⟨_, rfl⟩ (.cons ⟨_, rfl⟩ (.cons ⟨_, rfl⟩ (.cons ⟨_, rfl⟩ (.cons ⟨_, rfl⟩ (.cons ⟨_, rfl⟩ (.cons ⟨_, rfl⟩ .nil))))))) (Reps.cons (rep_str) (Reps.cons (rep_str) (Reps.cons (rep_str) (Reps.cons (rep_str) (Reps.cons (rep_str) (Reps.cons (rep_str) (Reps.cons (rep_str) Reps.nil)))))))⟩
      | 1, _ => ⟨_, .ref g_1, PySem.W.mg_of X G g1, rfl, rep_tup gl_1 (vs := [.str "given", .str "laid", .str "left", .str "opened", .str "taken", .str "gone", .str "late", .str "power"]) (by simp) (.cons ⟨_, rfl⟩ (.cons ⟨_, rfl⟩ (.cons ⟨_, rfl⟩ (.cons ⟨_, rfl⟩ (.cons ⟨_, rfl⟩ (.cons ⟨_, rfl⟩ (.cons ⟨_, rfl⟩ (.cons ⟨_, rfl⟩ .nil)))))))) (Reps.cons (rep_str) (Reps.cons (rep_str) (Reps.cons (rep_str) (Reps.cons (rep_str) (Reps.cons (rep_str) (Reps.cons (rep_str) (Reps.cons (rep_str) (Reps.cons (rep_str) Reps.nil))))))))⟩
      | 2, _ => ⟨_, .int 6, PySem.W.mg_of X G g2, ⟨_, rfl⟩, rep_int⟩
      | 3, _ => ⟨_, .int 30, PySem.W.mg_of X G g3, ⟨_, rfl⟩, rep_int⟩
      | n + 4, h => absurd h (by simp [tab]))
    gd := fun i hi ht t hm => by rw [hG] at ht; exact (match i, hi, ht, hm with
      | 0, _, _, hm => by have e := hm.symm.trans (PySem.W.mg_of X G g0); cases e; exact ⟨_, gl_0, rfl, rfl⟩
      | 1, _, _, hm => by have e := hm.symm.trans (PySem.W.mg_of X G g1); cases e; exact ⟨_, gl_1, rfl, rfl⟩
      | 2, _, ht, _ => Bool.noConfusion (show false = true from ht)
      | 3, _, ht, _ => Bool.noConfusion (show false = true from ht)
      | n + 4, h, _, _ => absurd h (by simp [tab]))
    blt := fun b => match b with | .len => PySem.W.mg_none_of X G z_len | .int => PySem.W.mg_none_of X G z_int | .abs => PySem.W.mg_none_of X G z_abs | .max2 => PySem.W.mg_none_of X G z_max | .min2 => PySem.W.mg_none_of X G z_min | .sorted => PySem.W.mg_none_of X G z_sorted | .list => PySem.W.mg_none_of X G z_list | .tuple => PySem.W.mg_none_of X G z_tuple | .str => PySem.W.mg_none_of X G z_str | .all => PySem.W.mg_none_of X G z_all | .any => PySem.W.mg_none_of X G z_any | .sum => PySem.W.mg_none_of X G z_sum
    isin := PySem.W.mg_none_of X G z_isinstance
    rng := PySem.W.mg_none_of X G z_range
    enu := PySem.W.mg_none_of X G z_enumerate
    set := PySem.W.mg_none_of X G z_set
    zip := PySem.W.mg_none_of X G z_zip
    boo := PySem.W.mg_none_of X G z_bool
    hfl := rfl
    cls := fun c f hf => by
      have hm : f ∈ tab.flds := by simpa using hf
      have hm2 : f = "moment" ∨ f = "limit" ∨ f = "rule_row" := by simpa [tab] using hm
      match c with
      | n + 0 => exact ⟨⟨pg0, hd0, po0, sa0⟩, by rcases hm2 with rfl | rfl | rfl <;> assumption⟩
    cgl := fun c hc => match c, hc with | 0, _ => PySem.W.mg_of X G aC0 | n + 1, h => absurd h (by simp [tab])
    fnG := fun f r hf hc => by
      obtain ⟨r0, h0, h1, h2⟩ := hC f r hf
      rw [← h1] at hc
      revert hc
      exact enum (P := fun f r => r.cls = none → mg (tab.fnm f) = some (.ref (F.fa f)) ∧ PySem.W.keepIn K (.ref (F.fa f)) = true) (fun _ _ _ => ⟨PySem.W.mg_of X G a0, k0⟩) (fun _ _ _ => ⟨PySem.W.mg_of X G a1, k1⟩) (fun _ _ _ => ⟨PySem.W.mg_of X G a2, k2⟩) (fun r hr hc => by cases hr; cases hc) (fun r hr hc => by cases hr; cases hc) (fun _ _ _ => ⟨PySem.W.mg_of X G a5, k5⟩) (fun _ _ _ => ⟨PySem.W.mg_of X G a6, k6⟩) (fun _ _ _ => ⟨PySem.W.mg_of X G a7, k7⟩) (fun _ _ _ => ⟨PySem.W.mg_of X G a8, k8⟩) (fun _ _ _ => ⟨PySem.W.mg_of X G a9, k9⟩) (fun _ _ _ => ⟨PySem.W.mg_of X G a10, k10⟩) (fun r hr hc => by cases hr; cases hc) (fun r hr hc => by cases hr; cases hc) (fun _ _ _ => ⟨PySem.W.mg_of X G a13, k13⟩) (fun _ _ _ => ⟨PySem.W.mg_of X G a14, k14⟩) (fun r hr hc => by cases hr; cases hc) (fun r hr hc => by cases hr; cases hc) (fun r hr hc => by cases hr; cases hc) (fun _ _ _ => ⟨PySem.W.mg_of X G a18, k18⟩) (fun _ _ _ => ⟨PySem.W.mg_of X G a19, k19⟩) (fun _ _ _ => ⟨PySem.W.mg_of X G a20, k20⟩) (fun _ _ _ => ⟨PySem.W.mg_of X G a21, k21⟩) (fun _ _ _ => ⟨PySem.W.mg_of X G a22, k22⟩) f r0 h0
    fnM := fun f r c hf hc => by
      obtain ⟨r0, h0, h1, h2⟩ := hC f r hf
      rw [← h1] at hc
      revert hc
      exact enum (P := fun f r => r.cls = some c → Cls K (ca c) ∧ Meth K (ca c) (tab.fnm f) (F.fa f) ∧ ca.flds.contains (tab.fnm f) = false) (fun r hr hc => by cases hr; cases hc) (fun r hr hc => by cases hr; cases hc) (fun r hr hc => by cases hr; cases hc) (fun r hr hc => by cases hr; cases hc; exact ⟨⟨pg0, hd0, po0, sa0⟩, ⟨a3, i3, k3⟩, (show tab.flds.contains (tab.fnm 3) = false from by decide +kernel)⟩) (fun r hr hc => by cases hr; cases hc; exact ⟨⟨pg0, hd0, po0, sa0⟩, ⟨a4, i4, k4⟩, (show tab.flds.contains (tab.fnm 4) = false from by decide +kernel)⟩) (fun r hr hc => by cases hr; cases hc) (fun r hr hc => by cases hr; cases hc) (fun r hr hc => by cases hr; cases hc) (fun r hr hc => by cases hr; cases hc) (fun r hr hc => by cases hr; cases hc) (fun r hr hc => by cases hr; cases hc) (fun r hr hc => by cases hr; cases hc; exact ⟨⟨pg0, hd0, po0, sa0⟩, ⟨a11, i11, k11⟩, (show tab.flds.contains (tab.fnm 11) = false from by decide +kernel)⟩) (fun r hr hc => by cases hr; cases hc; exact ⟨⟨pg0, hd0, po0, sa0⟩, ⟨a12, i12, k12⟩, (show tab.flds.contains (tab.fnm 12) = false from by decide +kernel)⟩) (fun r hr hc => by cases hr; cases hc) (fun r hr hc => by cases hr; cases hc) (fun r hr hc => by cases hr; cases hc; exact ⟨⟨pg0, hd0, po0, sa0⟩, ⟨a15, i15, k15⟩, (show tab.flds.contains (tab.fnm 15) = false from by decide +kernel)⟩) (fun r hr hc => by cases hr; cases hc; exact ⟨⟨pg0, hd0, po0, sa0⟩, ⟨a16, i16, k16⟩, (show tab.flds.contains (tab.fnm 16) = false from by decide +kernel)⟩) (fun r hr hc => by cases hr; cases hc; exact ⟨⟨pg0, hd0, po0, sa0⟩, ⟨a17, i17, k17⟩, (show tab.flds.contains (tab.fnm 17) = false from by decide +kernel)⟩) (fun r hr hc => by cases hr; cases hc) (fun r hr hc => by cases hr; cases hc) (fun r hr hc => by cases hr; cases hc) (fun r hr hc => by cases hr; cases hc) (fun r hr hc => by cases hr; cases hc) f r0 h0
    fnB := fun f r hf => by
      obtain ⟨r0, h0, h1, h2⟩ := hC f r hf
      exact enum (P := fun f r => Binds K (F.fd f) (F.ps f) []) (fun _ _ => b0) (fun _ _ => b1) (fun _ _ => b2) (fun _ _ => b3) (fun _ _ => b4) (fun _ _ => b5) (fun _ _ => b6) (fun _ _ => b7) (fun _ _ => b8) (fun _ _ => b9) (fun _ _ => b10) (fun _ _ => b11) (fun _ _ => b12) (fun _ _ => b13) (fun _ _ => b14) (fun _ _ => b15) (fun _ _ => b16) (fun _ _ => b17) (fun _ _ => b18) (fun _ _ => b19) (fun _ _ => b20) (fun _ _ => b21) (fun _ _ => b22) f r0 h0
    fnP := fun f r hf => by
      obtain ⟨r0, h0, h1, h2⟩ := hC f r hf
      rw [← h2]
      exact enum (P := fun f r => (F.ps f).length = r.arity) (fun r hr => by cases hr; rfl) (fun r hr => by cases hr; rfl) (fun r hr => by cases hr; rfl) (fun r hr => by cases hr; rfl) (fun r hr => by cases hr; rfl) (fun r hr => by cases hr; rfl) (fun r hr => by cases hr; rfl) (fun r hr => by cases hr; rfl) (fun r hr => by cases hr; rfl) (fun r hr => by cases hr; rfl) (fun r hr => by cases hr; rfl) (fun r hr => by cases hr; rfl) (fun r hr => by cases hr; rfl) (fun r hr => by cases hr; rfl) (fun r hr => by cases hr; rfl) (fun r hr => by cases hr; rfl) (fun r hr => by cases hr; rfl) (fun r hr => by cases hr; rfl) (fun r hr => by cases hr; rfl) (fun r hr => by cases hr; rfl) (fun r hr => by cases hr; rfl) (fun r hr => by cases hr; rfl) (fun r hr => by cases hr; rfl) f r0 h0
    mks := fun c r hr hc => by
      have hr2 := hK c r hr
      match c, hc, hr2 with
      | 0, _, h2 => cases h2; exact ⟨mk0, a12, i12, kc0⟩
      | n + 1, h, _ => exact absurd h (by simp [tab])
    kwd := fun f ks ord hm s us as hs hl ha => by
      have hm2 : (f = 5 ∧ ks = [Str.ofString "book"] ∧ ord = [0]) := by simpa [tab] using hm
      rcases hm2 with ⟨rfl, rfl, rfl⟩
      · match us, hl with
        | [u0], _ => cases ha; exact .of_eq rfl
    kwm := fun f ks ord hm s u us as hs hl ha => by
      have hm2 : False := by simpa [tab] using hm
      exact hm2.elim
    mkd := fun k rc nd n ks ord hm hk => by
      have hm2 : (k = 0 ∧ nd = 8 ∧ n = 1 ∧ ks = [] ∧ ord = [0, 1, 2, 3, 4, 5, 6, 7, 8, 9]) := by simpa [tab] using hm
      rcases hm2 with ⟨rfl, rfl, rfl, rfl, rfl⟩
      · have h2 := hK _ rc hk
        cases h2
        obtain ⟨its, hb⟩ := F12.kbindsD (ps := ["self", "days", "given", "laid", "left", "opened", "taken", "gone", "late", "power"]) 2 [] (fun {α} us its ws => (selL (us ++ ws ++ its) [0, 1, 2, 3, 4, 5, 6, 7, 8, 9]).getD []) (by simp) (fun h1 h2 h3 => sel_vals (vals_app (vals_app h1 h3) h2)) (fun _ _ _ _ _ _ _ us its ws l1 l2 l3 => match us, l1, its, l2, ws, l3 with | [_, _], _, [_, _, _, _, _, _, _, _], _, [], _ => ⟨_, rfl, rfl⟩)
        exact ⟨_, its, (Reps.cons (rep_tup dl12_0 (vs := []) (by simp) .nil Reps.nil) (Reps.cons (rep_tup dl12_1 (vs := []) (by simp) .nil Reps.nil) (Reps.cons (rep_tup dl12_2 (vs := []) (by simp) .nil Reps.nil) (Reps.cons (rep_tup dl12_3 (vs := []) (by simp) .nil Reps.nil) (Reps.cons (rep_tup dl12_4 (vs := []) (by simp) .nil Reps.nil) (Reps.cons (rep_tup dl12_5 (vs := []) (by simp) .nil Reps.nil) (Reps.cons (rep_tup dl12_6 (vs := []) (by simp) .nil Reps.nil) (Reps.cons (rep_tup dl12_7 (vs := []) (by simp) .nil Reps.nil) Reps.nil)))))))), hb⟩
    dfl := fun f z hm => by
      simp [tab] at hm
  }
  have dk : ∀ f r, cfg.fn f = some r → prim f = none → DefOk tab cfg F K f r := enum (P := fun f r => prim f = none → DefOk tab cfg F K f r) (fun r hr _ => by cases hr; exact ⟨_, _, _, _, _, _, _, (slots[0]?).getD [], F0, sc_0, rfl, c_law⟩) (fun r hr _ => by cases hr; exact ⟨_, _, _, _, _, _, _, (slots[1]?).getD [], F1, sc_1, rfl, c_law_right⟩) (fun r hr hp => by cases hp) (fun r hr _ => by cases hr; exact ⟨_, _, _, _, _, _, _, (slots[3]?).getD [], F3, sc_3, rfl, c_Book_rules⟩) (fun r hr _ => by cases hr; exact ⟨_, _, _, _, _, _, _, (slots[4]?).getD [], F4, sc_4, rfl, c_Book_days⟩) (fun r hr _ => by cases hr; exact ⟨_, _, _, _, _, _, _, (slots[5]?).getD [], F5, sc_5, rfl, c_book_text⟩) (fun r hr _ => by cases hr; exact ⟨_, _, _, _, _, _, _, (slots[6]?).getD [], F6, sc_6, rfl, c_law_book⟩) (fun r hr _ => by cases hr; exact ⟨_, _, _, _, _, _, _, (slots[7]?).getD [], F7, sc_7, rfl, c_law_lines⟩) (fun r hr _ => by cases hr; exact ⟨_, _, _, _, _, _, _, (slots[8]?).getD [], F8, sc_8, rfl, c_law_made⟩) (fun r hr hp => by cases hp) (fun r hr _ => by cases hr; exact ⟨_, _, _, _, _, _, _, (slots[10]?).getD [], F10, sc_10, rfl, c_law_plan⟩) (fun r hr _ => by cases hr; exact ⟨_, _, _, _, _, _, _, (slots[11]?).getD [], F11, sc_11, rfl, c_Book_rule⟩) (fun r hr _ => by cases hr; exact ⟨_, _, _, _, _, _, _, (slots[12]?).getD [], F12, sc_12, rfl, c_Book__init_⟩) (fun r hr _ => by cases hr; exact ⟨_, _, _, _, _, _, _, (slots[13]?).getD [], F13, sc_13, rfl, c_law_line⟩) (fun r hr _ => by cases hr; exact ⟨_, _, _, _, _, _, _, (slots[14]?).getD [], F14, sc_14, rfl, c_law_moments⟩) (fun r hr _ => by cases hr; exact ⟨_, _, _, _, _, _, _, (slots[15]?).getD [], F15, sc_15, rfl, c_Book_with_days⟩) (fun r hr _ => by cases hr; exact ⟨_, _, _, _, _, _, _, (slots[16]?).getD [], F16, sc_16, rfl, c_Book_taking⟩) (fun r hr _ => by cases hr; exact ⟨_, _, _, _, _, _, _, (slots[17]?).getD [], F17, sc_17, rfl, c_Book_with_rule⟩) (fun r hr _ => by cases hr; exact ⟨_, _, _, _, _, _, _, (slots[18]?).getD [], F18, sc_18, rfl, c_law_rule⟩) (fun r hr _ => by cases hr; exact ⟨_, _, _, _, _, _, _, (slots[19]?).getD [], F19, sc_19, rfl, c_is_moment⟩) (fun r hr _ => by cases hr; exact ⟨_, _, _, _, _, _, _, (slots[20]?).getD [], F20, sc_20, rfl, c_is_rule⟩) (fun r hr _ => by cases hr; exact ⟨_, _, _, _, _, _, _, (slots[21]?).getD [], F21, sc_21, rfl, c_is_whole⟩) (fun r hr _ => by cases hr; exact ⟨_, _, _, _, _, _, _, (slots[22]?).getD [], F22, sc_22, rfl, c_are_moments⟩)
  have hcf := fx cfg (fun f r hf => ⟨r, hf, rfl, rfl⟩) (fun _ => rfl) (fun _ _ h => h)
  have hpf := fx pcfg pcfg_ok (fun _ => rfl) (fun _ _ h => by simp [pcfg] at h)
  have pk : ∀ (P : Program) (w : World) (base : Heap) f r p, cfg.fn f = some r → prim f = some p → ∀ n, FnOk P w K mg base (L2.CX P w) (lev (n + 1)) (F.fa f) (F.fd f) (F.ps f) (spF cfg prim ca (fun _ => Str.empty) F K (n + 1) f) := fun P w base f r p hf hp n => by
    by_cases h9 : f = 9
    · subst h9; cases hp; exact prim_draw hpf (f := 9) (r' := pdraw) rfl ⟨_, _, _, _, _, _, _, pdraw_slots, F9, sc_9, rfl, pdraw_chk⟩ pdraw_text hf rfl n
    by_cases h2 : f = 2
    · subst h2; cases hp; exact prim_spring hpf (f := 2) (r' := pspring) rfl ⟨_, _, _, _, _, _, _, pspring_slots, F2, sc_2, rfl, pspring_chk⟩ pspring_text hf rfl n
    · exfalso; unfold prim at hp; split at hp <;> first | contradiction | simp_all
  refine ⟨D0, fun s v => .of_eq rfl, fun base _ _ => ?_⟩
  have fo := fns_all (P := l.prog) (w := w) (base := base) (ef := fun _ => Str.empty) hcf dk (pk l.prog w base) 12 0 _ rfl
  exact fo.imp fun vs H Q E hs => law_sp run_law rfl hs
end K10

set_option maxHeartbeats 4000000
namespace K10
open PySem Lw
theorem fn_law : cfg.fn 0 = some ⟨none, 1, 2, false, b_law⟩ := rfl
theorem r_law {ω : Nat → Nat} {n : Nat} {ws : List W} {m : Mem} {c : Nat} (h : ws.length = 1) : run cfg prim ω (n + 1) 0 ws m c = exitR false m.length (exSs cfg (run cfg prim ω n) b_law (startE 2 ws) m c) := run_eq fn_law h rfl
theorem fn_law_right : cfg.fn 1 = some ⟨none, 1, 6, false, b_law_right⟩ := rfl
theorem r_law_right {ω : Nat → Nat} {n : Nat} {ws : List W} {m : Mem} {c : Nat} (h : ws.length = 1) : run cfg prim ω (n + 1) 1 ws m c = exitR false m.length (exSs cfg (run cfg prim ω n) b_law_right (startE 6 ws) m c) := run_eq fn_law_right h rfl
theorem fn_law_pot : cfg.fn 2 = some ⟨none, 2, 3, false, b_law_pot⟩ := rfl
theorem r_law_pot {ω : Nat → Nat} {n : Nat} {ws : List W} {m : Mem} {c : Nat} (h : ws.length = 2) : run cfg prim ω (n + 1) 2 ws m c = runP .spring ω ws m c := run_eqP fn_law_pot h rfl
theorem fn_Book_rules : cfg.fn 3 = some ⟨some 0, 1, 1, false, b_Book_rules⟩ := rfl
theorem r_Book_rules {ω : Nat → Nat} {n : Nat} {ws : List W} {m : Mem} {c : Nat} (h : ws.length = 1) : run cfg prim ω (n + 1) 3 ws m c = exitR false m.length (exSs cfg (run cfg prim ω n) b_Book_rules (startE 1 ws) m c) := run_eq fn_Book_rules h rfl
theorem fn_Book_days : cfg.fn 4 = some ⟨some 0, 1, 1, false, b_Book_days⟩ := rfl
theorem r_Book_days {ω : Nat → Nat} {n : Nat} {ws : List W} {m : Mem} {c : Nat} (h : ws.length = 1) : run cfg prim ω (n + 1) 4 ws m c = exitR false m.length (exSs cfg (run cfg prim ω n) b_Book_days (startE 1 ws) m c) := run_eq fn_Book_days h rfl
theorem fn_book_text : cfg.fn 5 = some ⟨none, 1, 3, false, b_book_text⟩ := rfl
theorem r_book_text {ω : Nat → Nat} {n : Nat} {ws : List W} {m : Mem} {c : Nat} (h : ws.length = 1) : run cfg prim ω (n + 1) 5 ws m c = exitR false m.length (exSs cfg (run cfg prim ω n) b_book_text (startE 3 ws) m c) := run_eq fn_book_text h rfl
theorem fn_law_book : cfg.fn 6 = some ⟨none, 1, 2, false, b_law_book⟩ := rfl
theorem r_law_book {ω : Nat → Nat} {n : Nat} {ws : List W} {m : Mem} {c : Nat} (h : ws.length = 1) : run cfg prim ω (n + 1) 6 ws m c = exitR false m.length (exSs cfg (run cfg prim ω n) b_law_book (startE 2 ws) m c) := run_eq fn_law_book h rfl
theorem fn_law_lines : cfg.fn 7 = some ⟨none, 1, 3, false, b_law_lines⟩ := rfl
theorem r_law_lines {ω : Nat → Nat} {n : Nat} {ws : List W} {m : Mem} {c : Nat} (h : ws.length = 1) : run cfg prim ω (n + 1) 7 ws m c = exitR false m.length (exSs cfg (run cfg prim ω n) b_law_lines (startE 3 ws) m c) := run_eq fn_law_lines h rfl
theorem fn_law_made : cfg.fn 8 = some ⟨none, 2, 10, false, b_law_made⟩ := rfl
theorem r_law_made {ω : Nat → Nat} {n : Nat} {ws : List W} {m : Mem} {c : Nat} (h : ws.length = 2) : run cfg prim ω (n + 1) 8 ws m c = exitR false m.length (exSs cfg (run cfg prim ω n) b_law_made (startE 10 ws) m c) := run_eq fn_law_made h rfl
theorem fn_law_dip : cfg.fn 9 = some ⟨none, 2, 4, false, b_law_dip⟩ := rfl
theorem r_law_dip {ω : Nat → Nat} {n : Nat} {ws : List W} {m : Mem} {c : Nat} (h : ws.length = 2) : run cfg prim ω (n + 1) 9 ws m c = runP .draw ω ws m c := run_eqP fn_law_dip h rfl
theorem fn_law_plan : cfg.fn 10 = some ⟨none, 1, 2, false, b_law_plan⟩ := rfl
theorem r_law_plan {ω : Nat → Nat} {n : Nat} {ws : List W} {m : Mem} {c : Nat} (h : ws.length = 1) : run cfg prim ω (n + 1) 10 ws m c = exitR false m.length (exSs cfg (run cfg prim ω n) b_law_plan (startE 2 ws) m c) := run_eq fn_law_plan h rfl
theorem fn_Book_rule : cfg.fn 11 = some ⟨some 0, 2, 2, false, b_Book_rule⟩ := rfl
theorem r_Book_rule {ω : Nat → Nat} {n : Nat} {ws : List W} {m : Mem} {c : Nat} (h : ws.length = 2) : run cfg prim ω (n + 1) 11 ws m c = exitR false m.length (exSs cfg (run cfg prim ω n) b_Book_rule (startE 2 ws) m c) := run_eq fn_Book_rule h rfl
theorem fn_Book__init_ : cfg.fn 12 = some ⟨some 0, 10, 13, false, b_Book__init_⟩ := rfl
theorem r_Book__init_ {ω : Nat → Nat} {n : Nat} {ws : List W} {m : Mem} {c : Nat} (h : ws.length = 10) : run cfg prim ω (n + 1) 12 ws m c = exitR false m.length (exSs cfg (run cfg prim ω n) b_Book__init_ (startE 13 ws) m c) := run_eq fn_Book__init_ h rfl
theorem fn_law_line : cfg.fn 13 = some ⟨none, 2, 2, false, b_law_line⟩ := rfl
theorem r_law_line {ω : Nat → Nat} {n : Nat} {ws : List W} {m : Mem} {c : Nat} (h : ws.length = 2) : run cfg prim ω (n + 1) 13 ws m c = exitR false m.length (exSs cfg (run cfg prim ω n) b_law_line (startE 2 ws) m c) := run_eq fn_law_line h rfl
theorem fn_law_moments : cfg.fn 14 = some ⟨none, 0, 0, false, b_law_moments⟩ := rfl
theorem r_law_moments {ω : Nat → Nat} {n : Nat} {ws : List W} {m : Mem} {c : Nat} (h : ws.length = 0) : run cfg prim ω (n + 1) 14 ws m c = exitR false m.length (exSs cfg (run cfg prim ω n) b_law_moments (startE 0 ws) m c) := run_eq fn_law_moments h rfl
theorem fn_Book_with_days : cfg.fn 15 = some ⟨some 0, 2, 2, false, b_Book_with_days⟩ := rfl
theorem r_Book_with_days {ω : Nat → Nat} {n : Nat} {ws : List W} {m : Mem} {c : Nat} (h : ws.length = 2) : run cfg prim ω (n + 1) 15 ws m c = exitR false m.length (exSs cfg (run cfg prim ω n) b_Book_with_days (startE 2 ws) m c) := run_eq fn_Book_with_days h rfl
theorem fn_Book_taking : cfg.fn 16 = some ⟨some 0, 3, 5, false, b_Book_taking⟩ := rfl
theorem r_Book_taking {ω : Nat → Nat} {n : Nat} {ws : List W} {m : Mem} {c : Nat} (h : ws.length = 3) : run cfg prim ω (n + 1) 16 ws m c = exitR false m.length (exSs cfg (run cfg prim ω n) b_Book_taking (startE 5 ws) m c) := run_eq fn_Book_taking h rfl
theorem fn_Book_with_rule : cfg.fn 17 = some ⟨some 0, 3, 6, false, b_Book_with_rule⟩ := rfl
theorem r_Book_with_rule {ω : Nat → Nat} {n : Nat} {ws : List W} {m : Mem} {c : Nat} (h : ws.length = 3) : run cfg prim ω (n + 1) 17 ws m c = exitR false m.length (exSs cfg (run cfg prim ω n) b_Book_with_rule (startE 6 ws) m c) := run_eq fn_Book_with_rule h rfl
theorem fn_law_rule : cfg.fn 18 = some ⟨none, 1, 3, false, b_law_rule⟩ := rfl
theorem r_law_rule {ω : Nat → Nat} {n : Nat} {ws : List W} {m : Mem} {c : Nat} (h : ws.length = 1) : run cfg prim ω (n + 1) 18 ws m c = exitR false m.length (exSs cfg (run cfg prim ω n) b_law_rule (startE 3 ws) m c) := run_eq fn_law_rule h rfl
theorem fn_is_moment : cfg.fn 19 = some ⟨none, 1, 1, false, b_is_moment⟩ := rfl
theorem r_is_moment {ω : Nat → Nat} {n : Nat} {ws : List W} {m : Mem} {c : Nat} (h : ws.length = 1) : run cfg prim ω (n + 1) 19 ws m c = exitR false m.length (exSs cfg (run cfg prim ω n) b_is_moment (startE 1 ws) m c) := run_eq fn_is_moment h rfl
theorem fn_is_rule : cfg.fn 20 = some ⟨none, 1, 2, false, b_is_rule⟩ := rfl
theorem r_is_rule {ω : Nat → Nat} {n : Nat} {ws : List W} {m : Mem} {c : Nat} (h : ws.length = 1) : run cfg prim ω (n + 1) 20 ws m c = exitR false m.length (exSs cfg (run cfg prim ω n) b_is_rule (startE 2 ws) m c) := run_eq fn_is_rule h rfl
theorem fn_is_whole : cfg.fn 21 = some ⟨none, 1, 1, false, b_is_whole⟩ := rfl
theorem r_is_whole {ω : Nat → Nat} {n : Nat} {ws : List W} {m : Mem} {c : Nat} (h : ws.length = 1) : run cfg prim ω (n + 1) 21 ws m c = exitR false m.length (exSs cfg (run cfg prim ω n) b_is_whole (startE 1 ws) m c) := run_eq fn_is_whole h rfl
theorem fn_are_moments : cfg.fn 22 = some ⟨none, 1, 2, false, b_are_moments⟩ := rfl
theorem r_are_moments {ω : Nat → Nat} {n : Nat} {ws : List W} {m : Mem} {c : Nat} (h : ws.length = 1) : run cfg prim ω (n + 1) 22 ws m c = exitR false m.length (exSs cfg (run cfg prim ω n) b_are_moments (startE 2 ws) m c) := run_eq fn_are_moments h rfl
theorem gl_ACTIONS : cfg.glob 0 = .tup [.str (Str.ofString "free"), .str (Str.ofString "full"), .str (Str.ofString "off"), .str (Str.ofString "code"), .str (Str.ofString "void"), .str (Str.ofString "look"), .str (Str.ofString "lock")] := rfl
theorem gl_MOMENTS : cfg.glob 1 = .tup [.str (Str.ofString "given"), .str (Str.ofString "laid"), .str (Str.ofString "left"), .str (Str.ofString "opened"), .str (Str.ofString "taken"), .str (Str.ofString "gone"), .str (Str.ofString "late"), .str (Str.ofString "power")] := rfl
theorem gl_MOST_ACTIONS : cfg.glob 2 = .int 6 := rfl
theorem gl_MOST_DAYS : cfg.glob 3 = .int 30 := rfl
theorem cls_Book : cfg.cls 0 = some ⟨12⟩ := rfl
end K10

set_option maxHeartbeats 4000000
namespace K10
open PySem Lw
/-! ### the play, plainly -/
inductive Act where
  | free | full | off | code | void | look | lock
  deriving DecidableEq
def Act.s : Act → String
  | .free => "free" | .full => "full" | .off => "off" | .code => "code" | .void => "void" | .look => "look" | .lock => "lock"
def Act.w (a : Act) : W := .str (Str.ofString a.s)
inductive Tf where
  | free | full | off
  deriving DecidableEq
def Tf.s : Tf → String
  | .free => "free" | .full => "full" | .off => "off"
def Tf.w (a : Tf) : W := .str (Str.ofString a.s)
inductive Mo where
  | given | laid | left | opened | taken | gone | late | power
  deriving DecidableEq
def Mo.s : Mo → String
  | .given => "given" | .laid => "laid" | .left => "left" | .opened => "opened" | .taken => "taken" | .gone => "gone" | .late => "late" | .power => "power"
def Mo.i : Mo → Nat
  | .given => 0 | .laid => 1 | .left => 2 | .opened => 3 | .taken => 4 | .gone => 5 | .late => 6 | .power => 7
def Mo.w (a : Mo) : W := .str (Str.ofString a.s)
structure Bk where
  lim : Int
  r : Mo → List Act
def rW (l : List Act) : W := .tup (l.map Act.w)
def bks : List Str := [Str.ofString "limit", Str.ofString "rule_row"]
def Bk.row (b : Bk) : W := .tup [rW (b.r .given), rW (b.r .laid), rW (b.r .left), rW (b.r .opened), rW (b.r .taken), rW (b.r .gone), rW (b.r .late), rW (b.r .power)]
def Bk.w (b : Bk) : W := .obj 0 bks [.int b.lim, b.row]
def oW : Option Int → W
  | none => .non
  | some i => .int i
structure St where
  op : Bool
  ins : List Int
  tf : Tf
  val : List Int
  wt : Option Int
  la : Option Int
structure Dg extends St where
  le : List Int
  ho : Bool
  got : List Int
  mo : List Mo
  db : Bool
  em : Bool
def carry1 (d : Dg) : Act → Dg
  | .free => { d with tf := .free }
  | .full => { d with tf := .full }
  | .off => { d with tf := .off }
  | .look => { d with tf := if d.ins = [] then .free else .full }
  | .lock => { d with op := false }
  | .void => { d with val := [] }
  | .code => match d.la with
    | none => d
    | some p => if d.tf = .full then { d with le := d.le ++ [p], val := if p ∈ d.val then d.val else sortI (d.val ++ [p]) } else d
def carry (b : Bk) (d : Dg) (j : Mo) : Dg := (b.r j).foldl carry1 { d with mo := d.mo ++ [j] }
def leave (b : Bk) (d : Dg) (shuts : Bool) (js jo : Mo) : Dg := if d.op then carry b { d with op := !shuts } (if shuts then js else jo) else d
def take (d : Dg) : Dg := { d with got := d.ins, ins := [] }
def lay (d : Dg) (num : Int) (lays : Bool) : Dg := if lays && d.op then { d with db := !decide (d.ins = []), ins := d.ins ++ [num] } else d
def bring (b : Bk) (d : Dg) (num : Int) (lays shuts : Bool) : Dg := leave b (lay (carry b { d with ho := true, op := true, wt := some 0, la := some num } .given) num lays) shuts .laid .left
def takes (d : Dg) (t : Bool) : Dg := if t && d.op then take d else d
def enter (b : Bk) (d : Dg) (p : Int) (t shuts : Bool) : Dg := leave b (takes (carry b { d with ho := true, op := true, em := !decide (p ∈ d.ins) } .opened) t) shuts .taken .gone
def passDay (b : Bk) (d : Dg) : Dg := match d.wt with
  | none => d
  | some t => if t + 1 = b.lim then carry b { d with wt := some (t + 1) } .late else { d with wt := some (t + 1) }
inductive Deed where
  | bring (l s : Bool) | code (p : Int) (t s : Bool) | pass | day | power
def Deed.w : Deed → W
  | .bring l s => .tup [.str (Str.ofString "bring"), .bl l, .bl s]
  | .code p t s => .tup [.str (Str.ofString "code"), .int p, .bl t, .bl s]
  | .pass => .tup [.str (Str.ofString "pass")]
  | .day => .tup [.str (Str.ofString "day")]
  | .power => .tup [.str (Str.ofString "power")]
def start (b : Bk) (d : Dg) (a : Deed) (num : Int) : Dg := match a with
  | .bring l s => if d.tf = .free then bring b d num l s else d
  | .code p t s => if p ∈ d.val then enter b d p t s else d
  | .pass => if d.op then take d else d
  | .day => passDay b d
  | .power => carry b d .power
def fresh (s : St) : Dg := { s with le := [], ho := false, got := [], mo := [], db := false, em := false }
def doing (b : Bk) (s : St) (a : Deed) (num : Int) : Dg := start b (fresh s) a num
def St.w (s : St) : W := .tup [.bl s.op, .tup (iW s.ins), s.tf.w, .tup (iW s.val), oW s.wt, oW s.la]
def st0 : St := ⟨false, [], .free, [], none, none⟩
def Deed.n : Deed → Int
  | .bring _ _ => 1
  | _ => 0
def doings (b : Bk) : St → Int → List Deed → List Dg
  | _, _, [] => []
  | s, k, a :: as => doing b s a (k + a.n) :: doings b (doing b s a (k + a.n)).toSt (k + a.n) as

/-! ### a doing in memory -/
def dks : List Str := [Str.ofString "plan", Str.ofString "is_open", Str.ofString "inside", Str.ofString "taken_for", Str.ofString "valid", Str.ofString "waited", Str.ofString "last", Str.ofString "letters", Str.ofString "has_opened", Str.ofString "got", Str.ofString "moments", Str.ofString "is_double", Str.ofString "is_empty"]
def Dg.vs (d : Dg) (pl l m : W) : List W := [pl, .bl d.op, .tup (iW d.ins), d.tf.w, .tup (iW d.val), oW d.wt, oW d.la, l, .bl d.ho, .tup (iW d.got), m, .bl d.db, .bl d.em]
def moW (l : List Mo) : List W := l.map Mo.w
def Dg.cells (d : Dg) (b : Bk) (n : Nat) : List Cell := [.ins 1 dks (d.vs b.w (.ptr (n + 1)) (.ptr (n + 2))), .lst (iW d.le), .lst (moW d.mo)]
def D (pre : Mem) (b : Bk) (d : Dg) : Mem := pre ++ d.cells b pre.length
/-- frozen -/
def Dg.w (d : Dg) (b : Bk) : W := .obj 1 dks (d.vs b.w (.lst (iW d.le)) (.lst (moW d.mo)))
theorem g0 {pre : Mem} {x y z : Cell} : (pre ++ [x, y, z])[pre.length]? = some x := by simp
theorem g1 {pre : Mem} {x y z : Cell} : (pre ++ [x, y, z])[pre.length + 1]? = some y := by simp
theorem g2 {pre : Mem} {x y z : Cell} : (pre ++ [x, y, z])[pre.length + 2]? = some z := by simp
theorem s0 {pre : Mem} {x y z u : Cell} : (pre ++ [x, y, z]).set pre.length u = pre ++ [u, y, z] := by simp
theorem s1 {pre : Mem} {x y z u : Cell} : (pre ++ [x, y, z]).set (pre.length + 1) u = pre ++ [x, u, z] := by simp
theorem s2 {pre : Mem} {x y z u : Cell} : (pre ++ [x, y, z]).set (pre.length + 2) u = pre ++ [x, y, u] := by simp
section
variable {pre : Mem} {b : Bk} {d : Dg} {c : Nat} {pl l m : W}
theorem vwD0 : vw (D pre b d) (.ptr pre.length) = .obj 1 dks (d.vs b.w (.ptr (pre.length + 1)) (.ptr (pre.length + 2))) := by simp only [D, Dg.cells, vw, g0]
theorem vwD1 : vw (D pre b d) (.ptr (pre.length + 1)) = .lst (iW d.le) := by simp only [D, Dg.cells, vw, g1]
theorem vwD2 : vw (D pre b d) (.ptr (pre.length + 2)) = .lst (moW d.mo) := by simp only [D, Dg.cells, vw, g2]
theorem lenD : (D pre b d).length = pre.length + 3 := by unfold D Dg.cells; simp
theorem fo_plan : fieldOf (Str.ofString "plan") dks (d.vs pl l m) = some pl := by kernel_rfl
theorem fo_op : fieldOf (Str.ofString "is_open") dks (d.vs pl l m) = some (.bl d.op) := by kernel_rfl
theorem fo_ins : fieldOf (Str.ofString "inside") dks (d.vs pl l m) = some (.tup (iW d.ins)) := by kernel_rfl
theorem fo_tf : fieldOf (Str.ofString "taken_for") dks (d.vs pl l m) = some d.tf.w := by kernel_rfl
theorem fo_val : fieldOf (Str.ofString "valid") dks (d.vs pl l m) = some (.tup (iW d.val)) := by kernel_rfl
theorem fo_wt : fieldOf (Str.ofString "waited") dks (d.vs pl l m) = some (oW d.wt) := by kernel_rfl
theorem fo_la : fieldOf (Str.ofString "last") dks (d.vs pl l m) = some (oW d.la) := by kernel_rfl
theorem fo_le : fieldOf (Str.ofString "letters") dks (d.vs pl l m) = some l := by kernel_rfl
theorem fo_ho : fieldOf (Str.ofString "has_opened") dks (d.vs pl l m) = some (.bl d.ho) := by kernel_rfl
theorem fo_got : fieldOf (Str.ofString "got") dks (d.vs pl l m) = some (.tup (iW d.got)) := by kernel_rfl
theorem fo_mo : fieldOf (Str.ofString "moments") dks (d.vs pl l m) = some m := by kernel_rfl
theorem fo_db : fieldOf (Str.ofString "is_double") dks (d.vs pl l m) = some (.bl d.db) := by kernel_rfl
theorem fo_em : fieldOf (Str.ofString "is_empty") dks (d.vs pl l m) = some (.bl d.em) := by kernel_rfl
theorem fo_lim : fieldOf (Str.ofString "limit") bks [.int b.lim, b.row] = some (.int b.lim) := by kernel_rfl
theorem fo_row : fieldOf (Str.ofString "rule_row") bks [.int b.lim, b.row] = some b.row := by kernel_rfl
theorem setD {f : Str} {w : W} {d' : Dg} (h : ∀ pl l m, putField f w dks (d.vs pl l m) = (dks, d'.vs pl l m)) (hl : d'.le = d.le) (hm : d'.mo = d.mo) : setA (.ptr pre.length) w f (D pre b d) = some (D pre b d') := by
  unfold D Dg.cells setA
  simp only [g0]
  rw [h, hl, hm, s0]
  rfl
theorem set_op {x : Bool} : setA (.ptr pre.length) (.bl x) (Str.ofString "is_open") (D pre b d) = some (D pre b { d with op := x }) := setD (fun _ _ _ => by kernel_rfl) rfl rfl
theorem set_ins {x : List Int} : setA (.ptr pre.length) (.tup (iW x)) (Str.ofString "inside") (D pre b d) = some (D pre b { d with ins := x }) := setD (fun _ _ _ => by kernel_rfl) rfl rfl
theorem set_tf {x : Tf} : setA (.ptr pre.length) x.w (Str.ofString "taken_for") (D pre b d) = some (D pre b { d with tf := x }) := setD (fun _ _ _ => by kernel_rfl) rfl rfl
theorem set_val {x : List Int} : setA (.ptr pre.length) (.tup (iW x)) (Str.ofString "valid") (D pre b d) = some (D pre b { d with val := x }) := setD (fun _ _ _ => by kernel_rfl) rfl rfl
theorem set_wt {x : Int} : setA (.ptr pre.length) (.int x) (Str.ofString "waited") (D pre b d) = some (D pre b { d with wt := some x }) := setD (fun _ _ _ => by kernel_rfl) rfl rfl
theorem set_la {x : Int} : setA (.ptr pre.length) (.int x) (Str.ofString "last") (D pre b d) = some (D pre b { d with la := some x }) := setD (fun _ _ _ => by kernel_rfl) rfl rfl
theorem set_ho {x : Bool} : setA (.ptr pre.length) (.bl x) (Str.ofString "has_opened") (D pre b d) = some (D pre b { d with ho := x }) := setD (fun _ _ _ => by kernel_rfl) rfl rfl
theorem set_got {x : List Int} : setA (.ptr pre.length) (.tup (iW x)) (Str.ofString "got") (D pre b d) = some (D pre b { d with got := x }) := setD (fun _ _ _ => by kernel_rfl) rfl rfl
theorem set_db {x : Bool} : setA (.ptr pre.length) (.bl x) (Str.ofString "is_double") (D pre b d) = some (D pre b { d with db := x }) := setD (fun _ _ _ => by kernel_rfl) rfl rfl
theorem set_em {x : Bool} : setA (.ptr pre.length) (.bl x) (Str.ofString "is_empty") (D pre b d) = some (D pre b { d with em := x }) := setD (fun _ _ _ => by kernel_rfl) rfl rfl
theorem app_le {p : Int} (h : d.le.length < sizeLine) : bmW .append (.ptr (pre.length + 1)) [.int p] (D pre b d) c = .ok .non (D pre b { d with le := d.le ++ [p] }) c := by
  unfold D Dg.cells bmW
  simp only [isIdx, g1, bmL, iW_len, if_pos h, s1, Bool.false_eq_true, if_false]
  rw [iW_app]; rfl
theorem app_mo {j : Mo} (h : d.mo.length < sizeLine) : bmW .append (.ptr (pre.length + 2)) [j.w] (D pre b d) c = .ok .non (D pre b { d with mo := d.mo ++ [j] }) c := by
  unfold D Dg.cells bmW
  have h' : (moW d.mo).length < sizeLine := by unfold moW; rw [List.length_map]; exact h
  simp only [isIdx, g2, bmL, if_pos h', s2, Bool.false_eq_true, if_false]
  unfold moW
  rw [List.map_append]; rfl
theorem cl_acts (l : List Act) : (l.map Act.w).all (cl 2) = true := by
  simp only [List.all_eq_true, List.mem_map]
  rintro w ⟨i, _, rfl⟩
  rfl
theorem cl_b : cl 5 b.w = true := by
  have h : ∀ j, cl 3 (rW (b.r j)) = true := fun j => cl_acts _
  have h2 : cl 4 b.row = true := by
    show ([rW (b.r .given), rW (b.r .laid), rW (b.r .left), rW (b.r .opened), rW (b.r .taken), rW (b.r .gone), rW (b.r .late), rW (b.r .power)].all (cl 3)) = true
    simp only [List.all_cons, List.all_nil, h, Bool.and_self]
  show (cl 4 (.int b.lim) && (cl 4 b.row && true)) = true
  rw [h2]; rfl
theorem ok_oW {n k : Nat} (o : Option Int) : okW n (k + 1) (oW o) = true := by cases o <;> rfl
theorem ok_tW {n k : Nat} (l : List Int) : okW n (k + 2) (.tup (iW l)) = true := okW_cl (k + 2) n _ (cl_iW l)
theorem okD (h : OkM pre) : OkM (D pre b d) := by
  unfold D
  refine h.app ?_
  have e1 : okW (pre.length + 3) 12 b.w = true := okW_cl 12 _ _ (cl_mono 5 12 _ (by decide) cl_b)
  have e2 : okC (pre.length + 3) (.lst (iW d.le)) = true := okC_lst (cl_iW _)
  have e3 : okC (pre.length + 3) (.lst (moW d.mo)) = true := okC_lst (by
    unfold moW
    simp only [List.all_eq_true, List.mem_map]
    rintro w ⟨i, _, rfl⟩
    rfl)
  show ((okC (pre.length + 3) (.ins 1 dks (d.vs b.w (.ptr (pre.length + 1)) (.ptr (pre.length + 2)))) && (okC (pre.length + 3) (.lst (iW d.le)) && (okC (pre.length + 3) (.lst (moW d.mo)) && true)))) = true
  rw [e2, e3]
  simp only [Bool.and_true]
  show ([b.w, .bl d.op, .tup (iW d.ins), d.tf.w, .tup (iW d.val), oW d.wt, oW d.la, .ptr (pre.length + 1), .bl d.ho, .tup (iW d.got), .ptr (pre.length + 2), .bl d.db, .bl d.em] : List W).all (okW (pre.length + 3) 12) = true
  simp only [List.all_cons, List.all_nil, e1, ok_oW, ok_tW, Bool.true_and, Bool.and_true]
  have a1 : ∀ x : Bool, okW (pre.length + 3) 12 (.bl x) = true := fun _ => rfl
  have a2 : okW (pre.length + 3) 12 d.tf.w = true := rfl
  have a3 : okW (pre.length + 3) 12 (.ptr (pre.length + 1)) = true := decide_eq_true (by omega)
  have a4 : okW (pre.length + 3) 12 (.ptr (pre.length + 2)) = true := decide_eq_true (by omega)
  simp only [a1, a2, a3, a4, Bool.and_self]
end
end K10


set_option maxHeartbeats 4000000
namespace K10
open PySem Lw
section
variable {ω : Nat → Nat} {pre : Mem} {b : Bk} {d : Dg} {c k : Nat} {m : Mem}
/-- bounds of the lists -/
def Dg.sz (d : Dg) (N : Nat) : Prop := d.le.length ≤ N ∧ d.val.length ≤ N ∧ d.ins.length ≤ N ∧ d.mo.length ≤ N
theorem set_tf1 : setA (.ptr pre.length) (.str (Str.ofString "free")) (Str.ofString "taken_for") (D pre b d) = some (D pre b { d with tf := .free }) := set_tf (x := .free)
theorem set_tf2 : setA (.ptr pre.length) (.str (Str.ofString "full")) (Str.ofString "taken_for") (D pre b d) = some (D pre b { d with tf := .full }) := set_tf (x := .full)
theorem set_tf3 : setA (.ptr pre.length) (.str (Str.ofString "off")) (Str.ofString "taken_for") (D pre b d) = some (D pre b { d with tf := .off }) := set_tf (x := .off)
theorem set_val0 : setA (.ptr pre.length) (.tup []) (Str.ofString "valid") (D pre b d) = some (D pre b { d with val := [] }) := set_val (x := [])
theorem set_ins0 : setA (.ptr pre.length) (.tup []) (Str.ofString "inside") (D pre b d) = some (D pre b { d with ins := [] }) := set_ins (x := [])
theorem isIn3 {a : Act} : cmpW .isIn (.str (Str.ofString a.s)) (.tup [.str (Str.ofString "free"), .str (Str.ofString "full"), .str (Str.ofString "off")]) m = some (match a with | .free => true | .full => true | .off => true | _ => false) := by cases a <;> kernel_rfl
theorem in1 : cmpW .isIn (.str (Str.ofString "free")) (.tup [.str (Str.ofString "free"), .str (Str.ofString "full"), .str (Str.ofString "off")]) m = some true := isIn3 (a := .free)
theorem in2 : cmpW .isIn (.str (Str.ofString "full")) (.tup [.str (Str.ofString "free"), .str (Str.ofString "full"), .str (Str.ofString "off")]) m = some true := isIn3 (a := .full)
theorem in3 : cmpW .isIn (.str (Str.ofString "off")) (.tup [.str (Str.ofString "free"), .str (Str.ofString "full"), .str (Str.ofString "off")]) m = some true := isIn3 (a := .off)
theorem in4 : cmpW .isIn (.str (Str.ofString "code")) (.tup [.str (Str.ofString "free"), .str (Str.ofString "full"), .str (Str.ofString "off")]) m = some false := isIn3 (a := .code)
theorem in5 : cmpW .isIn (.str (Str.ofString "void")) (.tup [.str (Str.ofString "free"), .str (Str.ofString "full"), .str (Str.ofString "off")]) m = some false := isIn3 (a := .void)
theorem in6 : cmpW .isIn (.str (Str.ofString "look")) (.tup [.str (Str.ofString "free"), .str (Str.ofString "full"), .str (Str.ofString "off")]) m = some false := isIn3 (a := .look)
theorem in7 : cmpW .isIn (.str (Str.ofString "lock")) (.tup [.str (Str.ofString "free"), .str (Str.ofString "full"), .str (Str.ofString "off")]) m = some false := isIn3 (a := .lock)
theorem eqTf {x : Tf} {s : String} : cmpW .eq x.w (.str (Str.ofString s)) m = some (decide (x.s = s)) := ev_eqS
theorem tf_full {x : Tf} : (x.s = "full") = (x = .full) := by cases x <;> simp [Tf.s]
theorem tf_free {x : Tf} : (x.s = "free") = (x = .free) := by cases x <;> simp [Tf.s]
/-! bounds -/
theorem sz_mono {N N' : Nat} (h : d.sz N) (hn : N ≤ N') : d.sz N' := by
  obtain ⟨a, b, c, e⟩ := h
  exact ⟨by omega, by omega, by omega, by omega⟩
theorem sz_carry1 {N : Nat} {a : Act} (h : d.sz N) : (carry1 d a).sz (N + 1) := by
  obtain ⟨h1, h2, h3, h4⟩ := h
  cases a
  case code =>
    unfold carry1
    cases hla : d.la with
    | none => exact ⟨by simpa using by omega, by simpa using by omega, by simpa using by omega, by simpa using by omega⟩
    | some p =>
      simp only []
      split
      · refine ⟨by simp; omega, ?_, by simp; omega, by simp; omega⟩
        simp only []
        split
        · omega
        · rw [sortI_len]; simp; omega
      · exact ⟨by omega, by omega, by omega, by omega⟩
  all_goals exact ⟨by simp [carry1]; omega, by simp [carry1]; try omega, by simp [carry1]; omega, by simp [carry1]; omega⟩
theorem sz_fold {N : Nat} : ∀ (l : List Act) (d : Dg), d.sz N → (l.foldl carry1 d).sz (N + l.length)
  | [], d, h => h
  | a :: l, d, h => by
    have := sz_fold (N := N + 1) l (carry1 d a) (sz_carry1 h)
    simp only [List.foldl_cons, List.length_cons]
    exact sz_mono this (by omega)
def Bk.ok (b : Bk) : Prop := ∀ j, (b.r j).length ≤ 6
theorem sz_carry {N : Nat} {j : Mo} (hb : b.ok) (h : d.sz N) : (carry b d j).sz (N + 7) := by
  unfold carry
  have h0 : ({ d with mo := d.mo ++ [j] } : Dg).sz (N + 1) := by
    obtain ⟨h1, h2, h3, h4⟩ := h
    exact ⟨by simp; omega, by simp; omega, by simp; omega, by simp; omega⟩
  exact sz_mono (sz_fold _ _ h0) (by have := hb j; omega)

/-! ### the book -/
theorem is_moment_run {j : Mo} (h : OkM m) : run cfg prim ω (k + 1) 19 [j.w] m c = .ok (.bl true) m c := by
  rw [r_is_moment rfl]
  have e : exSs cfg (run cfg prim ω k) b_is_moment (startE 1 [j.w]) m c = .ok (.rt (.bl true)) m c := by cases j <;> kernel_rfl
  rw [e]; exact exit_rt h rfl
theorem gidx_mo {j : Mo} : gidxW (cfg.glob 1) j.w = some j.i := by cases j <;> kernel_rfl
theorem idx_row {j : Mo} : idxW m b.row (.int (j.i : Nat)) = some (rW (b.r j)) := by cases j <;> rfl
theorem vw_bk : vw m b.w = .obj 0 bks [.int b.lim, b.row] := rfl
theorem rule_run {j : Mo} (h : OkM m) : run cfg prim ω (k + 2) 11 [b.w, j.w] m c = .ok (rW (b.r j)) m c := by
  rw [r_Book_rule rfl]
  have e : exSs cfg (run cfg prim ω (k + 1)) b_Book_rule (startE 2 [b.w, j.w]) m c = .ok (.rt (rW (b.r j))) m c := by
    unfold b_Book_rule
    simp only [exSs, exS, evE, evEs, evT, evTg, evTgs, evIt, evO, R.bind_ok, Lit.w, startE, List.map_cons, List.map_nil, List.length_cons, List.length_nil, List.replicate, List.cons_append, List.nil_append, List.append_nil, List.getElem?_cons_succ, List.getElem?_cons_zero, List.set_cons_succ, List.set_cons_zero, reOk, ↓reduceIte, Nat.reduceAdd, Nat.reduceSub, ev_tru, blR_some, vw_int, vw_bl, vw_str, vwTup, vw_lst, vw_obj, vw_non, isLstW_lst, Bool.false_eq_true, Bool.not_true, Bool.not_false, decide_true, decide_false, decide_eq_true_eq, ev_int, ev_intb, ev_add, ev_gt, ev_lt, ev_ge, ev_le, ev_eqI, ev_neI, ev_eqS, ev_neS, String.reduceEq, mkT0, mkT1, mkT2, mkT3, mkT4, mkT5, mkT6, ev_notN_int, ev_notN_non, Nat.add_zero, idx0, idx1, idx2, idx3, idx4, isLst_lst, isTup_tup, isStr_str, isBl_bl, isInt_int, isBl_int, isBl_non, ev_lenT, ev_lenL, gdL_lst, exit_k, cst0, cst1, cst2, cst3, cst4, cst5, cst6, cst7, cst8, Int.reduceEq, is_moment_run h, vw_bk, fo_row, gidx_mo, idx_row]
  rw [e]; exact exit_rt h (cl_mono 3 12 _ (by decide) (cl_acts _))
theorem days_run (h : OkM m) : run cfg prim ω (k + 1) 4 [b.w] m c = .ok (.int b.lim) m c := by
  rw [r_Book_days rfl]
  have e : exSs cfg (run cfg prim ω k) b_Book_days (startE 1 [b.w]) m c = .ok (.rt (.int b.lim)) m c := by
    unfold b_Book_days
    simp only [exSs, exS, evE, evEs, evT, evTg, evTgs, evIt, evO, R.bind_ok, Lit.w, startE, List.map_cons, List.map_nil, List.length_cons, List.length_nil, List.replicate, List.cons_append, List.nil_append, List.append_nil, List.getElem?_cons_succ, List.getElem?_cons_zero, List.set_cons_succ, List.set_cons_zero, reOk, ↓reduceIte, Nat.reduceAdd, Nat.reduceSub, ev_tru, blR_some, vw_int, vw_bl, vw_str, vwTup, vw_lst, vw_obj, vw_non, isLstW_lst, Bool.false_eq_true, Bool.not_true, Bool.not_false, decide_true, decide_false, decide_eq_true_eq, ev_int, ev_intb, ev_add, ev_gt, ev_lt, ev_ge, ev_le, ev_eqI, ev_neI, ev_eqS, ev_neS, String.reduceEq, mkT0, mkT1, mkT2, mkT3, mkT4, mkT5, mkT6, ev_notN_int, ev_notN_non, Nat.add_zero, idx0, idx1, idx2, idx3, idx4, isLst_lst, isTup_tup, isStr_str, isBl_bl, isInt_int, isBl_int, isBl_non, ev_lenT, ev_lenL, gdL_lst, exit_k, cst0, cst1, cst2, cst3, cst4, cst5, cst6, cst7, cst8, Int.reduceEq, vw_bk, fo_lim]
  rw [e]; exact exit_rt h rfl
end
end K10


set_option maxHeartbeats 4000000
namespace K10
open PySem Lw
section
variable {ω : Nat → Nat} {pre : Mem} {b : Bk} {d : Dg} {c k : Nat} {m : Mem}
theorem exit_D {ρ : Lw.Env} {d' : Dg} (hm : OkM pre) : exitR false (D pre b d).length (.ok (.nx ρ) (D pre b d') c) = .ok .non (D pre b d') c := exit_nx (okD hm) (lenD.trans lenD.symm)
theorem sz_lay {N : Nat} {num : Int} {l : Bool} (h : d.sz N) : (lay d num l).sz (N + 1) := by
  obtain ⟨h1, h2, h3, h4⟩ := h
  unfold lay
  split
  · exact ⟨by simp; omega, by simp; omega, by simp; omega, by simp; omega⟩
  · exact ⟨by omega, by omega, by omega, by omega⟩
theorem sz_take {N : Nat} (h : d.sz N) : (take d).sz N := by
  obtain ⟨h1, h2, h3, h4⟩ := h
  exact ⟨h1, h2, by simp [take], h4⟩
theorem sz_takes {N : Nat} {t : Bool} (h : d.sz N) : (takes d t).sz N := by
  unfold takes
  split
  · exact sz_take h
  · exact h
theorem sz_leave {N : Nat} {s : Bool} {js jo : Mo} (hb : b.ok) (h : d.sz N) : (leave b d s js jo).sz (N + 7) := by
  unfold leave
  split
  · exact sz_carry hb h
  · exact sz_mono h (by omega)
end
end K10


set_option maxHeartbeats 4000000
namespace K10
open PySem Lw
section
variable {ω : Nat → Nat} {pre : Mem} {b : Bk} {d : Dg} {c k : Nat} {m : Mem}
theorem cl_st {s : St} : cl 3 s.w = true := by
  have h1 : ∀ o : Option Int, cl 2 (oW o) = true := fun o => by cases o <;> rfl
  have h2 : ∀ l : List Int, cl 2 (.tup (iW l)) = true := fun l => cl_iW l
  show ([.bl s.op, .tup (iW s.ins), s.tf.w, .tup (iW s.val), oW s.wt, oW s.la] : List W).all (cl 2) = true
  simp only [List.all_cons, List.all_nil, h1, h2]
  rfl
def Deed.ok : Deed → Prop
  | .code p _ _ => 1 ≤ p ∧ p ≤ 1000000000
  | _ => True
theorem is_whole_run {x : Int} (hm : OkM m) : run cfg prim ω (k + 1) 21 [.int x] m c = .ok (.bl true) m c := by
  rw [r_is_whole rfl]
  have e : exSs cfg (run cfg prim ω k) b_is_whole (startE 1 [.int x]) m c = .ok (.rt (.bl true)) m c := by
    unfold b_is_whole
    simp only [exSs, exS, evE, evEs, evT, evTg, evTgs, evIt, evO, R.bind_ok, Lit.w, startE, List.map_cons, List.map_nil, List.length_cons, List.length_nil, List.replicate, List.cons_append, List.nil_append, List.append_nil, List.getElem?_cons_succ, List.getElem?_cons_zero, List.set_cons_succ, List.set_cons_zero, reOk, ↓reduceIte, Nat.reduceAdd, Nat.reduceSub, ev_tru, blR_some, vw_int, vw_bl, vw_str, vwTup, vw_lst, vw_obj, vw_non, isLstW_lst, Bool.false_eq_true, Bool.not_true, Bool.not_false, decide_true, decide_false, decide_eq_true_eq, ev_int, ev_intb, ev_add, ev_gt, ev_lt, ev_ge, ev_le, ev_eqI, ev_neI, ev_eqS, ev_neS, String.reduceEq, mkT0, mkT1, mkT2, mkT3, mkT4, mkT5, mkT6, ev_notN_int, ev_notN_non, Nat.add_zero, idx0, idx1, idx2, idx3, idx4, isLst_lst, isTup_tup, isStr_str, isBl_bl, isInt_int, isBl_int, isBl_non, ev_lenT, ev_lenL, gdL_lst, exit_k, cst0, cst1, cst2, cst3, cst4, cst5, cst6, cst7, cst8, Int.reduceEq]
  rw [e]; exact exit_rt hm rfl
theorem le_some {i j : Int} : cmpW .le (.int i) (.int j) m = some (decide (i ≤ j)) := rfl
theorem deed_ne {a : Deed} : cmpW .eq a.w (.tup []) m = some false := by
  cases a <;> kernel_rfl
/-- no code ahead of its parcel -/
def brOk : Int → List Deed → Prop
  | _, [] => True
  | k, .code p t s :: as => p ≤ k ∧ brOk k as
  | k, a :: as => brOk (k + a.n) as
theorem dW_isLst {l : List W} : isLstW (.lst l) = true := rfl
end
end K10


set_option maxHeartbeats 4000000
namespace K10
open PySem Lw
section
variable {ω : Nat → Nat} {pre : Mem} {b : Bk} {d : Dg} {c k : Nat} {m : Mem}
def objs (b : Bk) : Nat → List Dg → Mem
  | _, [] => []
  | n, d :: ds => d.cells b n ++ objs b (n + 3) ds
def ptrs : Nat → List Dg → List W
  | _, [] => []
  | n, d :: ds => .ptr n :: ptrs (n + 3) ds
theorem objs_len : ∀ (ds : List Dg) (n : Nat), (objs b n ds).length = 3 * ds.length
  | [], _ => rfl
  | d :: ds, n => by rw [objs, List.length_append, objs_len ds]; simp [Dg.cells]; omega
theorem ptrs_len : ∀ (ds : List Dg) (n : Nat), (ptrs n ds).length = ds.length
  | [], _ => rfl
  | d :: ds, n => by rw [ptrs, List.length_cons, ptrs_len ds]; rfl
theorem objs_app : ∀ (ds : List Dg) (n : Nat) (d : Dg), objs b n (ds ++ [d]) = objs b n ds ++ d.cells b (n + 3 * ds.length)
  | [], n, d => by simp [objs]
  | e :: ds, n, d => by
    rw [List.cons_append, objs, objs_app ds, objs, List.append_assoc]
    congr 3
    simp; omega
theorem ptrs_app : ∀ (ds : List Dg) (n : Nat) (d : Dg), ptrs n (ds ++ [d]) = ptrs n ds ++ [.ptr (n + 3 * ds.length)]
  | [], n, d => by simp [ptrs]
  | e :: ds, n, d => by
    rw [List.cons_append, ptrs, ptrs_app ds, ptrs, List.cons_append]
    congr 4
    simp; omega
/-- the memory in doings_of -/
def Mo5 (pre : Mem) (b : Bk) (ds : List Dg) : Mem := pre ++ .lst (ptrs (pre.length + 1) ds) :: objs b (pre.length + 1) ds
theorem mo5_len {ds : List Dg} : (Mo5 pre b ds).length = pre.length + 1 + 3 * ds.length := by
  unfold Mo5; rw [List.length_append, List.length_cons, objs_len]; omega
theorem cells_ok {n L : Nat} (h : n + 3 ≤ L) : (d.cells b n).all (okC L) = true := by
  have e1 : okW L 12 b.w = true := okW_cl 12 _ _ (cl_mono 5 12 _ (by decide) cl_b)
  have e2 : okC L (.lst (iW d.le)) = true := okC_lst (cl_iW _)
  have e3 : okC L (.lst (moW d.mo)) = true := okC_lst (by
    unfold moW
    simp only [List.all_eq_true, List.mem_map]
    rintro w ⟨i, _, rfl⟩
    rfl)
  show ((okC L (.ins 1 dks (d.vs b.w (.ptr (n + 1)) (.ptr (n + 2)))) && (okC L (.lst (iW d.le)) && (okC L (.lst (moW d.mo)) && true)))) = true
  rw [e2, e3]
  simp only [Bool.and_true]
  show ([b.w, .bl d.op, .tup (iW d.ins), d.tf.w, .tup (iW d.val), oW d.wt, oW d.la, .ptr (n + 1), .bl d.ho, .tup (iW d.got), .ptr (n + 2), .bl d.db, .bl d.em] : List W).all (okW L 12) = true
  simp only [List.all_cons, List.all_nil, e1, ok_oW, ok_tW, Bool.true_and, Bool.and_true]
  have a1 : ∀ x : Bool, okW L 12 (.bl x) = true := fun _ => rfl
  have a2 : okW L 12 d.tf.w = true := rfl
  have a3 : okW L 12 (.ptr (n + 1)) = true := decide_eq_true (by omega)
  have a4 : okW L 12 (.ptr (n + 2)) = true := decide_eq_true (by omega)
  simp only [a1, a2, a3, a4, Bool.and_self]
theorem objs_ok : ∀ (ds : List Dg) (n L : Nat), n + 3 * ds.length ≤ L → (objs b n ds).all (okC L) = true
  | [], _, _, _ => rfl
  | d :: ds, n, L, h => by
    simp only [List.length_cons] at h
    rw [objs, List.all_append, cells_ok (by omega), objs_ok ds (n + 3) L (by omega)]; rfl
theorem ptrs_ok : ∀ (ds : List Dg) (n L : Nat), n + 3 * ds.length ≤ L → (ptrs n ds).all (okW L 12) = true
  | [], _, _, _ => rfl
  | d :: ds, n, L, h => by
    simp only [List.length_cons] at h
    rw [ptrs, List.all_cons, ptrs_ok ds (n + 3) L (by omega)]
    show (decide (n < L) && true) = true
    rw [decide_eq_true (by omega)]; rfl
theorem mo5_ok {ds : List Dg} (hm : OkM pre) : OkM (Mo5 pre b ds) := by
  unfold OkM
  rw [mo5_len]
  unfold Mo5
  rw [List.all_append, hm.all (by omega), List.all_cons, objs_ok ds _ _ (Nat.le_refl _)]
  simp only [okC, ptrs_ok ds _ _ (Nat.le_refl _)]; rfl
theorem mo5_D {ds : List Dg} : D (Mo5 pre b ds) b d = pre ++ .lst (ptrs (pre.length + 1) ds) :: (objs b (pre.length + 1) ds ++ d.cells b (pre.length + 1 + 3 * ds.length)) := by
  unfold D
  rw [mo5_len]
  unfold Mo5
  simp
theorem app_found {ds : List Dg} (h : ds.length < sizeLine) : bmW .append (.ptr pre.length) [.ptr (Mo5 pre b ds).length] (D (Mo5 pre b ds) b d) c = .ok .non (Mo5 pre b (ds ++ [d])) c := by
  rw [mo5_D, mo5_len]
  unfold bmW
  simp only [isIdx, get_mid, bmL, ptrs_len, if_pos h, set_mid, Bool.false_eq_true, if_false]
  unfold Mo5
  rw [ptrs_app, objs_app]
theorem vw_found {ds : List Dg} : vw (D (Mo5 pre b ds) b d) (.ptr pre.length) = .lst (ptrs (pre.length + 1) ds) := by
  rw [mo5_D]; simp only [vw, get_mid]
theorem vw_last {ds : List Dg} : vw (Mo5 pre b (ds ++ [d])) (.ptr (Mo5 pre b ds).length) = .obj 1 dks (d.vs b.w (.ptr ((Mo5 pre b ds).length + 1)) (.ptr ((Mo5 pre b ds).length + 2))) := by
  have e : Mo5 pre b (ds ++ [d]) = (pre ++ .lst (ptrs (pre.length + 1) (ds ++ [d])) :: objs b (pre.length + 1) ds) ++ .ins 1 dks (d.vs b.w (.ptr ((Mo5 pre b ds).length + 1)) (.ptr ((Mo5 pre b ds).length + 2))) :: [.lst (iW d.le), .lst (moW d.mo)] := by
    rw [mo5_len]
    unfold Mo5
    rw [objs_app]
    simp [Dg.cells]
  have e2 : (Mo5 pre b ds).length = (pre ++ .lst (ptrs (pre.length + 1) (ds ++ [d])) :: objs b (pre.length + 1) ds).length := by
    rw [mo5_len]; simp [objs_len]; omega
  rw [e]
  generalize (Mo5 pre b ds).length = L at e2 ⊢
  subst e2
  exact vw_mid
/-! freezing -/
theorem frz_one {A R : Mem} : frz 11 (.ptr A.length) (A ++ (d.cells b A.length ++ R)) = some (d.w b, A ++ (.dead :: .dead :: .dead :: R)) := by
  have e0 : A ++ (d.cells b A.length ++ R) = A ++ .ins 1 dks (d.vs b.w (.ptr (A.length + 1)) (.ptr (A.length + 2))) :: (.lst (iW d.le) :: .lst (moW d.mo) :: R) := rfl
  rw [e0, frz]
  simp only [get_mid, set_mid]
  have fc : ∀ (w : W) (m : Mem), cl 10 w = true → frz 10 w m = some (w, m) := fun w m h => frz_cl 10 w m h
  have q1 : ∀ x y z : Cell, (A ++ x :: y :: z :: R)[A.length + 1]? = some y := fun x y z => by simp
  have q2 : ∀ x y z : Cell, (A ++ x :: y :: z :: R)[A.length + 2]? = some z := fun x y z => by simp
  have q3 : ∀ x y z u : Cell, (A ++ x :: y :: z :: R).set (A.length + 1) u = A ++ x :: u :: z :: R := fun x y z u => by simp
  have q4 : ∀ x y z u : Cell, (A ++ x :: y :: z :: R).set (A.length + 2) u = A ++ x :: y :: u :: R := fun x y z u => by simp
  have r1 : ∀ x z : Cell, frz 10 (.ptr (A.length + 1)) (A ++ x :: .lst (iW d.le) :: z :: R) = some (.lst (iW d.le), A ++ x :: .dead :: z :: R) := fun x z => by
    rw [frz]
    simp only [q1, q3]
    rw [frzL_id (iW d.le) (fun w hw => frz_cl 9 w _ (List.all_eq_true.mp (cl_iW d.le) w hw))]
  have hmo : (moW d.mo).all (cl 9) = true := by
    unfold moW
    simp only [List.all_eq_true, List.mem_map]
    rintro w ⟨i, _, rfl⟩
    rfl
  have r2 : ∀ x y : Cell, frz 10 (.ptr (A.length + 2)) (A ++ x :: y :: .lst (moW d.mo) :: R) = some (.lst (moW d.mo), A ++ x :: y :: .dead :: R) := fun x y => by
    rw [frz]
    simp only [q2, q4]
    rw [frzL_id (moW d.mo) (fun w hw => frz_cl 9 w _ (List.all_eq_true.mp hmo w hw))]
  have cb : ∀ m, frz 10 b.w m = some (b.w, m) := fun m => fc _ m (cl_mono 5 10 _ (by decide) cl_b)
  have cbl : ∀ x m, frz 10 (.bl x) m = some (.bl x, m) := fun x m => rfl
  have cti : ∀ l m, frz 10 (.tup (iW l)) m = some (.tup (iW l), m) := fun l m => fc _ m (cl_iW l)
  have co : ∀ o m, frz 10 (oW o) m = some (oW o, m) := fun o m => fc _ m (by cases o <;> rfl)
  have ctf : ∀ (t : Tf) m, frz 10 t.w m = some (t.w, m) := fun t m => rfl
  simp only [Dg.vs, frzL, cb, cbl, cti, co, ctf, r1, r2]
  rfl
def deads : Nat → Mem
  | 0 => []
  | n + 1 => .dead :: .dead :: .dead :: deads n
theorem frz_objs : ∀ (ds : List Dg) (A : Mem), frzL (frz 11) (ptrs A.length ds) (A ++ objs b A.length ds) = some (ds.map (Dg.w · b), A ++ deads ds.length)
  | [], A => rfl
  | d :: ds, A => by
    rw [ptrs, objs, frzL, frz_one]
    simp only []
    have e : A ++ Cell.dead :: .dead :: .dead :: objs b (A.length + 3) ds = (A ++ [.dead, .dead, .dead]) ++ objs b ((A ++ [.dead, .dead, .dead] : Mem).length) ds := by simp
    have e2 : A.length + 3 = (A ++ [.dead, .dead, .dead] : Mem).length := by simp
    rw [e]
    rw [show ptrs (A.length + 3) ds = ptrs ((A ++ [.dead, .dead, .dead] : Mem).length) ds from by rw [← e2], frz_objs ds (A ++ [Cell.dead, Cell.dead, Cell.dead] : Mem)]
    simp [deads]
theorem frz_found {ds : List Dg} : ∃ E, frz 12 (.ptr pre.length) (Mo5 pre b ds) = some (.lst (ds.map (Dg.w · b)), pre ++ E) := by
  unfold Mo5
  rw [frz]
  simp only [get_mid, set_mid]
  have e : pre ++ Cell.dead :: objs b (pre.length + 1) ds = (pre ++ [.dead]) ++ objs b ((pre ++ [.dead] : Mem).length) ds := by simp
  have e2 : pre.length + 1 = (pre ++ [.dead] : Mem).length := by simp
  rw [e, show ptrs (pre.length + 1) ds = ptrs ((pre ++ [.dead] : Mem).length) ds from by rw [← e2], frz_objs ds (pre ++ [Cell.dead] : Mem)]
  exact ⟨_, by rw [List.append_assoc]⟩
theorem cl_dg : cl 7 (d.w b) = true := by
  have h1 : ∀ o : Option Int, cl 6 (oW o) = true := fun o => by cases o <;> rfl
  have h2 : ∀ l : List Int, cl 6 (.tup (iW l)) = true := fun l => cl_iW l
  have h3 : cl 6 (.lst (iW d.le)) = true := cl_iW _
  have h4 : cl 6 (.lst (moW d.mo)) = true := by
    show (moW d.mo).all (cl 5) = true
    unfold moW
    simp only [List.all_eq_true, List.mem_map]
    rintro w ⟨i, _, rfl⟩
    rfl
  have h5 : cl 6 b.w = true := cl_mono 5 6 _ (by decide) cl_b
  show ([b.w, .bl d.op, .tup (iW d.ins), d.tf.w, .tup (iW d.val), oW d.wt, oW d.la, .lst (iW d.le), .bl d.ho, .tup (iW d.got), .lst (moW d.mo), .bl d.db, .bl d.em] : List W).all (cl 6) = true
  simp only [List.all_cons, List.all_nil, h1, h2, h3, h4, h5]
  rfl
theorem cl_dgs {ds : List Dg} : cl 8 (.lst (ds.map (Dg.w · b))) = true := by
  show (ds.map (Dg.w · b)).all (cl 7) = true
  simp only [List.all_eq_true, List.mem_map]
  rintro w ⟨i, _, rfl⟩
  exact cl_dg
/-! sizes of what stands -/
def St.sz (s : St) (N : Nat) : Prop := s.val.length ≤ N ∧ s.ins.length ≤ N
theorem sz_fresh {s : St} {N : Nat} (h : s.sz N) : (fresh s).sz N := ⟨Nat.zero_le _, h.1, h.2, Nat.zero_le _⟩
theorem sz_start {N : Nat} {a : Deed} {num : Int} (hb : b.ok) (h : d.sz N) : (start b d a num).sz (N + 20) := by
  cases a with
  | bring l s =>
    unfold start
    simp only []
    split
    · have h1 : (carry b { d with ho := true, op := true, wt := some 0, la := some num } .given).sz (N + 7) := sz_carry (d := { d with ho := true, op := true, wt := some 0, la := some num }) hb h
      exact sz_mono (sz_leave hb (sz_lay h1)) (by omega)
    · exact sz_mono h (by omega)
  | code p t s =>
    unfold start
    simp only []
    split
    · have h1 : (carry b { d with ho := true, op := true, em := !decide (p ∈ d.ins) } .opened).sz (N + 7) := sz_carry (d := { d with ho := true, op := true, em := !decide (p ∈ d.ins) }) hb h
      exact sz_mono (sz_leave hb (sz_takes h1)) (by omega)
    · exact sz_mono h (by omega)
  | pass =>
    unfold start
    simp only []
    split
    · exact sz_mono (sz_take h) (by omega)
    · exact sz_mono h (by omega)
  | day =>
    unfold start passDay
    simp only []
    split
    · exact sz_mono h (by omega)
    · rename_i t _
      split
      · exact sz_mono (sz_carry (d := { d with wt := some (t + 1) }) hb h) (by omega)
      · exact sz_mono (d := { d with wt := some (t + 1) }) h (by omega)
  | power => exact sz_mono (sz_carry hb h) (by omega)
theorem sz_doing {s : St} {N : Nat} {a : Deed} {num : Int} (hb : b.ok) (h : s.sz N) : (doing b s a num).toSt.sz (N + 20) := by
  have := sz_start (a := a) (num := num) hb (sz_fresh h)
  exact ⟨this.2.1, this.2.2.1⟩
def lastSt (b : Bk) : St → Int → List Deed → St
  | s, _, [] => s
  | s, k, a :: as => lastSt b (doing b s a (k + a.n)).toSt (k + a.n) as
theorem eq_str_bring {a : Deed} : idxW m a.w (.int 0) = some (.str (Str.ofString (match a with | .bring _ _ => "bring" | .code _ _ _ => "code" | .pass => "pass" | .day => "day" | .power => "power"))) := by
  cases a <;> simp only [Deed.w, idx0]
theorem doings_nil {s : St} {n : Int} : doings b s n [] = [] := rfl
theorem doings_cons {s : St} {n : Int} {a : Deed} {as : List Deed} : doings b s n (a :: as) = doing b s a (n + a.n) :: doings b (doing b s a (n + a.n)).toSt (n + a.n) as := rfl
end
end K10


set_option maxHeartbeats 4000000
namespace K10
open PySem Lw
section
variable {ω : Nat → Nat} {pre : Mem} {b : Bk} {d : Dg} {c k : Nat} {m : Mem}
theorem in_acts {a : Act} : cmpW .isIn a.w (cfg.glob 0) m = some true := by cases a <;> kernel_rfl
theorem lcn {α : Type} {r : R α} {a : α} {m' : Mem} {c' : Nat} (h : r = .ok a m' c') : noExc r = .ok a m' c' := by rw [h]; rfl
theorem bl_all : ∀ l : List Act, blsOf (l.map fun _ => W.bl true) = some (l.map fun _ => true)
  | [] => rfl
  | a :: l => by rw [List.map_cons, blsOf, bl_all l]; rfl
theorem is_rule_run {l : List Act} (hm : OkM m) (hl : l.length ≤ 6) : run cfg prim ω (k + 1) 20 [rW l] m c = .ok (.bl true) m c := by
  rw [r_is_rule rfl]
  have e : exSs cfg (run cfg prim ω k) b_is_rule (startE 2 [rW l]) m c = .ok (.rt (.bl true)) m c := by
    unfold b_is_rule rW
    have h0 : ¬ (6 : Int) < ((l.map Act.w).length : Nat) := by rw [List.length_map]; omega
    have h1 := lc_pure (gd := fun _ => true) (bt := fun w => bindTg [1] false w (wipeE [some (.tup (l.map Act.w)), none] [1])) (cond := fun ρ m c => .ok true m c) (elt := fun ρ m c => evE cfg (run cfg prim ω k) b_is_rule_E1 ρ m c) (m := m) (c := c) Act.w (fun _ => true) (fun _ => .bl true) l rfl
      (fun a _ => ⟨[some (.tup (l.map Act.w)), some a.w], rfl, rfl, fun _ => by
        unfold b_is_rule_E1
        simp only [exSs, exS, evE, evEs, evT, evTg, evTgs, evIt, evO, R.bind_ok, Lit.w, startE, List.map_cons, List.map_nil, List.length_cons, List.length_nil, List.replicate, List.cons_append, List.nil_append, List.append_nil, List.getElem?_cons_succ, List.getElem?_cons_zero, List.set_cons_succ, List.set_cons_zero, reOk, ↓reduceIte, Nat.reduceAdd, Nat.reduceSub, ev_tru, blR_some, vw_int, vw_bl, vw_str, vwTup, vw_lst, vw_obj, vw_non, isLstW_lst, Bool.false_eq_true, Bool.not_true, Bool.not_false, decide_true, decide_false, decide_eq_true_eq, ev_int, ev_intb, ev_add, ev_gt, ev_lt, ev_ge, ev_le, ev_eqI, ev_neI, ev_eqS, ev_neS, String.reduceEq, mkT0, mkT1, mkT2, mkT3, mkT4, mkT5, mkT6, ev_notN_int, ev_notN_non, Nat.add_zero, idx0, idx1, idx2, idx3, idx4, isLst_lst, isTup_tup, isStr_str, isBl_bl, isInt_int, isBl_int, isBl_non, ev_lenT, ev_lenL, gdL_lst, exit_k, cst0, cst1, cst2, cst3, cst4, cst5, cst6, cst7, cst8, Int.reduceEq, Act.w] at *
        have := in_acts (m := m) (a := a)
        unfold Act.w at this
        simp only [this, exSs, exS, evE, evEs, evT, evTg, evTgs, evIt, evO, R.bind_ok, Lit.w, startE, List.map_cons, List.map_nil, List.length_cons, List.length_nil, List.replicate, List.cons_append, List.nil_append, List.append_nil, List.getElem?_cons_succ, List.getElem?_cons_zero, List.set_cons_succ, List.set_cons_zero, reOk, ↓reduceIte, Nat.reduceAdd, Nat.reduceSub, ev_tru, blR_some, vw_int, vw_bl, vw_str, vwTup, vw_lst, vw_obj, vw_non, isLstW_lst, Bool.false_eq_true, Bool.not_true, Bool.not_false, decide_true, decide_false, decide_eq_true_eq, ev_int, ev_intb, ev_add, ev_gt, ev_lt, ev_ge, ev_le, ev_eqI, ev_neI, ev_eqS, ev_neS, String.reduceEq, mkT0, mkT1, mkT2, mkT3, mkT4, mkT5, mkT6, ev_notN_int, ev_notN_non, Nat.add_zero, idx0, idx1, idx2, idx3, idx4, isLst_lst, isTup_tup, isStr_str, isBl_bl, isInt_int, isBl_int, isBl_non, ev_lenT, ev_lenL, gdL_lst, exit_k, cst0, cst1, cst2, cst3, cst4, cst5, cst6, cst7, cst8, Int.reduceEq]⟩) [] (by rw [sizeLine_eq]; simp; omega)
    have h2 : bltW false .all [.lst (l.map fun _ => W.bl true)] m c = .ok (.bl true) m c := by
      show (match blsOf (l.map fun _ => W.bl true) with | some bs => R.ok (W.bl (bs.all id)) m c | none => .no) = _
      rw [bl_all]
      simp
    have h3 : mkL false (l.map fun _ => W.bl true) m c = .ok (.lst (l.map fun _ => W.bl true)) m c := mkL_ok (by rw [sizeLine_eq]; simp; omega)
    have hf : l.filter (fun _ => true) = l := by simp
    rw [hf, List.nil_append] at h1
    simp only [exSs, exS, evE, evEs, evT, evTg, evTgs, evIt, evO, R.bind_ok, Lit.w, startE, List.map_cons, List.map_nil, List.length_cons, List.length_nil, List.replicate, List.cons_append, List.nil_append, List.append_nil, List.getElem?_cons_succ, List.getElem?_cons_zero, List.set_cons_succ, List.set_cons_zero, reOk, ↓reduceIte, Nat.reduceAdd, Nat.reduceSub, ev_tru, blR_some, vw_int, vw_bl, vw_str, vwTup, vw_lst, vw_obj, vw_non, isLstW_lst, Bool.false_eq_true, Bool.not_true, Bool.not_false, decide_true, decide_false, decide_eq_true_eq, ev_int, ev_intb, ev_add, ev_gt, ev_lt, ev_ge, ev_le, ev_eqI, ev_neI, ev_eqS, ev_neS, String.reduceEq, mkT0, mkT1, mkT2, mkT3, mkT4, mkT5, mkT6, ev_notN_int, ev_notN_non, Nat.add_zero, idx0, idx1, idx2, idx3, idx4, isLst_lst, isTup_tup, isStr_str, isBl_bl, isInt_int, isBl_int, isBl_non, ev_lenT, ev_lenL, gdL_lst, exit_k, cst0, cst1, cst2, cst3, cst4, cst5, cst6, cst7, cst8, Int.reduceEq, gl_MOST_ACTIONS, h0]
    rw [bnd (lcn h1)]
    simp only [exSs, exS, evE, evEs, evT, evTg, evTgs, evIt, evO, R.bind_ok, Lit.w, startE, List.map_cons, List.map_nil, List.length_cons, List.length_nil, List.replicate, List.cons_append, List.nil_append, List.append_nil, List.getElem?_cons_succ, List.getElem?_cons_zero, List.set_cons_succ, List.set_cons_zero, reOk, ↓reduceIte, Nat.reduceAdd, Nat.reduceSub, ev_tru, blR_some, vw_int, vw_bl, vw_str, vwTup, vw_lst, vw_obj, vw_non, isLstW_lst, Bool.false_eq_true, Bool.not_true, Bool.not_false, decide_true, decide_false, decide_eq_true_eq, ev_int, ev_intb, ev_add, ev_gt, ev_lt, ev_ge, ev_le, ev_eqI, ev_neI, ev_eqS, ev_neS, String.reduceEq, mkT0, mkT1, mkT2, mkT3, mkT4, mkT5, mkT6, ev_notN_int, ev_notN_non, Nat.add_zero, idx0, idx1, idx2, idx3, idx4, isLst_lst, isTup_tup, isStr_str, isBl_bl, isInt_int, isBl_int, isBl_non, ev_lenT, ev_lenL, gdL_lst, exit_k, cst0, cst1, cst2, cst3, cst4, cst5, cst6, cst7, cst8, Int.reduceEq, h3, h2]
  rw [e]; exact exit_rt hm rfl
theorem is_whole_run' {x : Int} (hm : OkM m) : run cfg prim ω (k + 1) 21 [.int x] m c = .ok (.bl true) m c := is_whole_run hm
theorem okM_ins0 (hm : OkM pre) {ks : List Str} {vs : List W} (hv : vs.all (cl 12) = true) : OkM (pre ++ [.ins 0 ks vs]) := by
  refine hm.app ?_
  have : okC (pre.length + 1) (.ins 0 ks vs) = true := by
    simp only [okC, List.all_eq_true] at hv ⊢
    exact fun w hw => okW_cl 12 _ w (hv w hw)
  show (okC (pre.length + 1) (.ins 0 ks vs) && true) = true
  rw [this]; rfl
theorem mk_row {a0 a1 a2 a3 a4 a5 a6 a7 : W} : mkT [a0, a1, a2, a3, a4, a5, a6, a7] m c = .ok (.tup [a0, a1, a2, a3, a4, a5, a6, a7]) m c := mkT_ok (le_sl (by simp))
theorem cl_row : cl 4 b.row = true := by
  have h : ∀ j, cl 3 (rW (b.r j)) = true := fun j => cl_acts _
  show ([rW (b.r .given), rW (b.r .laid), rW (b.r .left), rW (b.r .opened), rW (b.r .taken), rW (b.r .gone), rW (b.r .late), rW (b.r .power)].all (cl 3)) = true
  simp only [List.all_cons, List.all_nil, h, Bool.and_self]
theorem book_init (hm : OkM pre) (hb : b.ok) (h1 : 1 ≤ b.lim) (h2 : b.lim ≤ 30) : run cfg prim ω (k + 2) 12 [.ptr pre.length, .int b.lim, rW (b.r .given), rW (b.r .laid), rW (b.r .left), rW (b.r .opened), rW (b.r .taken), rW (b.r .gone), rW (b.r .late), rW (b.r .power)] (pre ++ [.ins 0 [] []]) c = .ok .non (pre ++ [.ins 0 bks [.int b.lim, b.row]]) c := by
  rw [r_Book__init_ rfl]
  have hm0 : OkM (pre ++ [.ins 0 [] []]) := okM_ins0 hm rfl
  have hr : ∀ j, run cfg prim ω (k + 1) 20 [rW (b.r j)] (pre ++ [.ins 0 [] []]) c = .ok (.bl true) (pre ++ [.ins 0 [] []]) c := fun j => is_rule_run hm0 (hb j)
  have hrow : W.tup [rW (b.r .given), rW (b.r .laid), rW (b.r .left), rW (b.r .opened), rW (b.r .taken), rW (b.r .gone), rW (b.r .late), rW (b.r .power)] = b.row := rfl
  have hk : [Str.ofString "limit", Str.ofString "rule_row"] = bks := rfl
  have e : ∃ ρ, exSs cfg (run cfg prim ω (k + 1)) b_Book__init_ (startE 13 [.ptr pre.length, .int b.lim, rW (b.r .given), rW (b.r .laid), rW (b.r .left), rW (b.r .opened), rW (b.r .taken), rW (b.r .gone), rW (b.r .late), rW (b.r .power)]) (pre ++ [.ins 0 [] []]) c = .ok (.nx ρ) (pre ++ [.ins 0 bks [.int b.lim, b.row]]) c := by
    generalize hg : startE 13 [.ptr pre.length, .int b.lim, rW (b.r .given), rW (b.r .laid), rW (b.r .left), rW (b.r .opened), rW (b.r .taken), rW (b.r .gone), rW (b.r .late), rW (b.r .power)] = ρ0
    refine ⟨(((ρ0.set 10 (some b.row)).set 11 (some (.str (Str.ofString "power")))).set 12 (some (rW (b.r .power)))), ?_⟩
    subst hg
    unfold b_Book__init_
    simp only [exSs, exS, evE, evEs, evT, evTg, evTgs, evIt, evO, R.bind_ok, Lit.w, startE, List.map_cons, List.map_nil, List.length_cons, List.length_nil, List.replicate, List.cons_append, List.nil_append, List.append_nil, List.getElem?_cons_succ, List.getElem?_cons_zero, List.set_cons_succ, List.set_cons_zero, reOk, ↓reduceIte, Nat.reduceAdd, Nat.reduceSub, ev_tru, blR_some, vw_int, vw_bl, vw_str, vwTup, vw_lst, vw_obj, vw_non, isLstW_lst, Bool.false_eq_true, Bool.not_true, Bool.not_false, decide_true, decide_false, decide_eq_true_eq, ev_int, ev_intb, ev_add, ev_gt, ev_lt, ev_ge, ev_le, ev_eqI, ev_neI, ev_eqS, ev_neS, String.reduceEq, mkT0, mkT1, mkT2, mkT3, mkT4, mkT5, mkT6, ev_notN_int, ev_notN_non, Nat.add_zero, idx0, idx1, idx2, idx3, idx4, isLst_lst, isTup_tup, isStr_str, isBl_bl, isInt_int, isBl_int, isBl_non, ev_lenT, ev_lenL, gdL_lst, exit_k, cst0, cst1, cst2, cst3, cst4, cst5, cst6, cst7, cst8, Int.reduceEq, is_whole_run hm0, gl_MOST_DAYS, gl_MOMENTS, le_some, h1, h2, mk_row, zipW, forGo, bind_pat2, b_Book__init__S1, hr]
    simp only [setA_mid, putField, ofS_inj, exSs, exS, evE, evEs, evT, evTg, evTgs, evIt, evO, R.bind_ok, Lit.w, startE, List.map_cons, List.map_nil, List.length_cons, List.length_nil, List.replicate, List.cons_append, List.nil_append, List.append_nil, List.getElem?_cons_succ, List.getElem?_cons_zero, List.set_cons_succ, List.set_cons_zero, reOk, ↓reduceIte, Nat.reduceAdd, Nat.reduceSub, ev_tru, blR_some, vw_int, vw_bl, vw_str, vwTup, vw_lst, vw_obj, vw_non, isLstW_lst, Bool.false_eq_true, Bool.not_true, Bool.not_false, decide_true, decide_false, decide_eq_true_eq, ev_int, ev_intb, ev_add, ev_gt, ev_lt, ev_ge, ev_le, ev_eqI, ev_neI, ev_eqS, ev_neS, String.reduceEq, mkT0, mkT1, mkT2, mkT3, mkT4, mkT5, mkT6, ev_notN_int, ev_notN_non, Nat.add_zero, idx0, idx1, idx2, idx3, idx4, isLst_lst, isTup_tup, isStr_str, isBl_bl, isInt_int, isBl_int, isBl_non, ev_lenT, ev_lenL, gdL_lst, exit_k, cst0, cst1, cst2, cst3, cst4, cst5, cst6, cst7, cst8, Int.reduceEq, Nat.reduceLT, hrow, hk]
  obtain ⟨ρ, e⟩ := e
  rw [e]
  exact exit_nx (okM_ins0 hm (by
    show (cl 12 (.int b.lim) && (cl 12 b.row && true)) = true
    rw [cl_mono 4 12 _ (by decide) cl_row]; rfl)) (by simp)
theorem frz_book : frz 12 (.ptr pre.length) (pre ++ [.ins 0 bks [.int b.lim, b.row]]) = some (b.w, pre ++ [.dead]) := by
  rw [frz]
  simp only [get_mid, set_mid]
  rw [frzL_id [.int b.lim, b.row] (fun w hw => by
    rcases List.mem_cons.mp hw with rfl | hw
    · rfl
    · rcases List.mem_cons.mp hw with rfl | hw
      · exact frz_cl 11 _ _ (cl_mono 4 11 _ (by decide) cl_row)
      · cases hw)]
  rfl
theorem i8_0 {a0 a1 a2 a3 a4 a5 a6 a7 : W} : idxW m (.lst [a0, a1, a2, a3, a4, a5, a6, a7]) (.int 0) = some a0 := by kernel_rfl
theorem i8_1 {a0 a1 a2 a3 a4 a5 a6 a7 : W} : idxW m (.lst [a0, a1, a2, a3, a4, a5, a6, a7]) (.int 1) = some a1 := by kernel_rfl
theorem i8_2 {a0 a1 a2 a3 a4 a5 a6 a7 : W} : idxW m (.lst [a0, a1, a2, a3, a4, a5, a6, a7]) (.int 2) = some a2 := by kernel_rfl
theorem i8_3 {a0 a1 a2 a3 a4 a5 a6 a7 : W} : idxW m (.lst [a0, a1, a2, a3, a4, a5, a6, a7]) (.int 3) = some a3 := by kernel_rfl
theorem i8_4 {a0 a1 a2 a3 a4 a5 a6 a7 : W} : idxW m (.lst [a0, a1, a2, a3, a4, a5, a6, a7]) (.int 4) = some a4 := by kernel_rfl
theorem i8_5 {a0 a1 a2 a3 a4 a5 a6 a7 : W} : idxW m (.lst [a0, a1, a2, a3, a4, a5, a6, a7]) (.int 5) = some a5 := by kernel_rfl
theorem i8_6 {a0 a1 a2 a3 a4 a5 a6 a7 : W} : idxW m (.lst [a0, a1, a2, a3, a4, a5, a6, a7]) (.int 6) = some a6 := by kernel_rfl
theorem i8_7 {a0 a1 a2 a3 a4 a5 a6 a7 : W} : idxW m (.lst [a0, a1, a2, a3, a4, a5, a6, a7]) (.int 7) = some a7 := by kernel_rfl
theorem frzR_book : frzR (.ptr pre.length) (pre ++ [.ins 0 bks [.int b.lim, b.row]]) c = .ok b.w (pre ++ [.dead]) c := by
  unfold frzR
  rw [frz_book]
def Bk.rows (b : Bk) : List W := [rW (b.r .given), rW (b.r .laid), rW (b.r .left), rW (b.r .opened), rW (b.r .taken), rW (b.r .gone), rW (b.r .late), rW (b.r .power)]
/-! reports -/
structure Rp where
  le : List Int
  ho : Bool
  got : List Int
def Dg.rp (d : Dg) : Rp := ⟨d.le, d.ho, sortI d.got⟩
def Rp.w (r : Rp) : W := .tup [.lst (iW r.le), .bl r.ho, .lst (iW r.got)]
def Dg.bd (d : Dg) : Prop := d.le.length ≤ 1000000 ∧ d.got.length ≤ 1000000
theorem vw_dg : vw m (d.w b) = .obj 1 dks (d.vs b.w (.lst (iW d.le)) (.lst (moW d.mo))) := rfl
theorem got_carry1 {a : Act} : (carry1 d a).got = d.got := by
  cases a <;> try rfl
  unfold carry1
  cases d.la with
  | none => rfl
  | some p => simp only []; split <;> rfl
theorem got_fold : ∀ (l : List Act) (d : Dg), (l.foldl carry1 d).got = d.got
  | [], _ => rfl
  | a :: l, d => by rw [List.foldl_cons, got_fold l, got_carry1]
theorem got_carry {j : Mo} : (carry b d j).got = d.got := got_fold _ _
theorem got_leave {s : Bool} {js jo : Mo} : (leave b d s js jo).got = d.got := by
  unfold leave
  split
  · rw [got_carry]
  · rfl
theorem got_lay {n : Int} {l : Bool} : (lay d n l).got = d.got := by
  unfold lay
  split <;> rfl
theorem bd_start {N : Nat} {a : Deed} {num : Int} (hb : b.ok) (h : d.sz N) (hg : d.got.length ≤ N) : (start b d a num).got.length ≤ N + 20 := by
  cases a with
  | bring l s =>
    unfold start
    simp only []
    split
    · unfold bring; rw [got_leave, got_lay, got_carry]; simp only []; omega
    · omega
  | code p t s =>
    unfold start
    simp only []
    split
    · unfold enter
      rw [got_leave]
      have h1 : (carry b { d with ho := true, op := true, em := !decide (p ∈ d.ins) } .opened).sz (N + 7) := sz_carry (d := { d with ho := true, op := true, em := !decide (p ∈ d.ins) }) hb h
      have h2 : (carry b { d with ho := true, op := true, em := !decide (p ∈ d.ins) } .opened).got = d.got := got_carry
      unfold takes take
      split
      · simp only []; have := h1.2.2.1; omega
      · rw [h2]; omega
    · omega
  | pass =>
    unfold start take
    simp only []
    split
    · simp only []; have := h.2.2.1; omega
    · omega
  | day =>
    unfold start passDay
    simp only []
    split
    · omega
    · split
      · rw [got_carry]; simp only []; omega
      · simp only []; omega
  | power => unfold start; simp only []; rw [got_carry]; omega
theorem doings_sz (hb : b.ok) : ∀ (as : List Deed) (s : St) (n : Int) (N : Nat), s.sz N → ∀ d ∈ doings b s n as, d.sz (N + 20 * as.length) ∧ d.got.length ≤ N + 20 * as.length
  | [], s, n, N, _, d, h => by cases h
  | a :: as, s, n, N, hs, d, h => by
    rw [doings_cons] at h
    rcases List.mem_cons.mp h with rfl | h
    · have h1 := sz_start (a := a) (num := n + a.n) hb (sz_fresh hs)
      have h2 := bd_start (a := a) (num := n + a.n) hb (sz_fresh hs) (Nat.zero_le _)
      exact ⟨sz_mono h1 (by simp; omega), by unfold doing; simp; omega⟩
    · have := doings_sz hb as _ _ (N + 20) (sz_doing hb hs) d h
      simp only [List.length_cons]
      exact ⟨sz_mono this.1 (by omega), by have := this.2; omega⟩
theorem doings_len : ∀ (as : List Deed) (s : St) (n : Int), (doings b s n as).length = as.length
  | [], _, _ => rfl
  | a :: as, s, n => by rw [doings_cons, List.length_cons, doings_len as, List.length_cons]
theorem doings_bd (hb : b.ok) {as : List Deed} (hl : as.length ≤ 10000) : ∀ d ∈ doings b st0 0 as, d.bd := fun d hd => by
  have h := doings_sz hb as st0 0 0 ⟨Nat.le_refl _, Nat.le_refl _⟩ d hd
  exact ⟨by have := h.1.1; omega, by have := h.2; omega⟩
end
end K10


set_option maxHeartbeats 4000000
namespace K10
open PySem Lw
section
variable {ω : Nat → Nat} {pre : Mem} {b : Bk} {d : Dg} {c k : Nat} {m : Mem} {as : List Deed}
/-- what play needs -/
structure Good (b : Bk) (as : List Deed) : Prop where
  hb : b.ok
  ha : ∀ a ∈ as, a.ok
  br : brOk 0 as
  ln8 : as.length ≤ 800
theorem Good.ln {b : Bk} {as : List Deed} (G : Good b as) : as.length ≤ 10000 := Nat.le_trans G.ln8 (by decide)
def dgs (b : Bk) (as : List Deed) : List Dg := doings b st0 0 as
def dW (as : List Deed) : W := .lst (as.map Deed.w)
def reports (b : Bk) (as : List Deed) : List Rp := (dgs b as).map Dg.rp
def Rp.cells (r : Rp) : List Cell := [.lst (iW r.le), .lst (iW r.got)]
def rcells : List Rp → Mem
  | [] => []
  | r :: rs => .lst (iW r.le) :: .lst (iW r.got) :: rcells rs
def rptrs : Nat → List Rp → List W
  | _, [] => []
  | n, r :: rs => .tup [.ptr n, .bl r.ho, .ptr (n + 1)] :: rptrs (n + 2) rs
theorem rcells_len : ∀ rs : List Rp, (rcells rs).length = 2 * rs.length
  | [] => rfl
  | r :: rs => by rw [rcells, List.length_cons, List.length_cons, rcells_len rs, List.length_cons]; omega
theorem rcells_app : ∀ (rs qs : List Rp), rcells (rs ++ qs) = rcells rs ++ rcells qs
  | [], _ => rfl
  | r :: rs, qs => by rw [List.cons_append, rcells, rcells_app rs]; rfl
theorem rptrs_len : ∀ (rs : List Rp) (n : Nat), (rptrs n rs).length = rs.length
  | [], _ => rfl
  | r :: rs, n => by rw [rptrs, List.length_cons, rptrs_len rs, List.length_cons]
theorem dgs_len : (dgs b as).length = as.length := doings_len _ _ _
/-! boxes -/
def lastOf (b : Bk) (as : List Deed) : St := match (dgs b as).getLast? with
  | none => st0
  | some d => d.toSt
def St.bw (s : St) : W := .tup [.bl s.op, .lst (iW (sortI s.ins)), s.tf.w, .lst (iW (sortI s.val)), oW s.wt]
theorem tru_lst {l : List W} : truR (.lst l) m c = .ok (!l.isEmpty) m c := rfl
theorem idx_last {l : List W} {x : W} : idxW m (.lst (l ++ [x])) (.int (-1)) = some x := by
  have : place (l.length + 1) (-1) = some l.length := by
    unfold place
    rw [if_neg (by decide), if_pos (by omega)]
    congr 1
    omega
  simp only [idxW, vw_lst, List.length_append, List.length_cons, List.length_nil, Nat.zero_add, this, Option.bind_some]
  simp
theorem stand_last (G : Good b as) : (lastOf b as).val.length ≤ 1000000 ∧ (lastOf b as).ins.length ≤ 1000000 := by
  unfold lastOf
  cases h : (dgs b as).getLast? with
  | none => exact ⟨Nat.zero_le _, Nat.zero_le _⟩
  | some d =>
    have hd : d ∈ dgs b as := List.mem_of_getLast? h
    have hs := doings_sz G.hb as st0 0 0 ⟨Nat.le_refl _, Nat.le_refl _⟩ d hd
    have := G.ln
    exact ⟨by have := hs.1.2.1; simp only []; omega, by have := hs.1.2.2.1; simp only []; omega⟩
end
end K10


set_option maxHeartbeats 4000000
namespace K10
open PySem Lw
section
variable {ω : Nat → Nat} {pre : Mem} {b : Bk} {d : Dg} {c k : Nat} {m : Mem} {as : List Deed}
theorem lt_get {α : Type} {l : List α} {i : Nat} {x : α} (h : l[i]? = some x) : i < l.length := (List.getElem?_eq_some_iff.mp h).1
theorem ss_cons {C : Cfg} {cl : Call} {s : S} {r : Ss} {ρ ρ' : Lw.Env} {m m' : Mem} {c c' : Nat} {X : R Fl} (h : exS C cl s ρ m c = .ok (.nx ρ') m' c') (k : exSs C cl r ρ' m' c' = X) : exSs C cl (.cons s r) ρ m c = X := by
  rw [exSs, bnd h]; exact k
theorem t_and {cl : Call} {a e : T} {ρ : Lw.Env} {x y : Bool} (h : evT cfg cl a ρ m c = .ok x m c) (h' : evT cfg cl e ρ m c = .ok y m c) : evT cfg cl (.and a e) ρ m c = .ok (x && y) m c := by
  rw [evT, bnd h]
  cases x
  · rfl
  · simp only [if_true, h', Bool.true_and]
theorem ev_inP {p : Int} {l : List Int} {w : W} (h : vw m w = .lst (iW l)) : cmpW .isIn (.int p) w m = some (decide (p ∈ l)) := by
  show (match vw m w with | .lst xs => if flatW (.int p) && xs.all flatW then some (inW (.int p) xs) else none | .tup xs => if flatW (.int p) && xs.all flatW then some (inW (.int p) xs) else none | _ => none) = _
  rw [h]
  simp only [flat_iW, inW_iW]; rfl
theorem ev_ninP {p : Int} {l : List Int} {w : W} (h : vw m w = .lst (iW l)) : cmpW .notIn (.int p) w m = some (!decide (p ∈ l)) := by
  show (match vw m w with | .lst xs => if flatW (.int p) && xs.all flatW then some (!inW (.int p) xs) else none | .tup xs => if flatW (.int p) && xs.all flatW then some (!inW (.int p) xs) else none | _ => none) = _
  rw [h]
  simp only [flat_iW, inW_iW]; rfl
theorem ev_neNL {l : List Int} : cmpW .ne (.lst (iW l)) (.lst []) m = some (!decide (l = [])) := by
  rw [cmp_ne, eq_shaped (dat_lst (datL_ints l)) (dat_lst (ds := []) rfl) (sh_lst (canLay_ints l) (by rw [depthAll_ints]; omega)) rfl]
  cases l <;> simp [PyData.eqv, PyData.eqvAll]
end
end K10


set_option maxHeartbeats 4000000
namespace K10
open PySem Lw
section
variable {ω : Nat → Nat} {pre : Mem} {b : Bk} {d : Dg} {c k : Nat} {m : Mem} {as : List Deed}
theorem drop_run {i : Int} (h : 0 < i) (h2 : i ≤ 1000000) (hc : c < 1000000) : ∃ v : Int, 0 ≤ v ∧ v < i ∧ run cfg prim ω (k + 1) 9 [.tok, .int i] m c = .ok (.int v) m (c + 1) := by
  refine ⟨(ω c : Int) % i, Int.emod_nonneg _ (by omega), Int.emod_lt_of_pos _ h, ?_⟩
  rw [r_law_dip rfl]
  exact ev_draw h (Nat.lt_of_lt_of_le (sizeI_bits 100 (bits_of (by omega) (by omega)) (by decide)) (by decide)) (by unfold drawMax; omega)
theorem rngW_len : ∀ (n : Nat) (lo : Int), (rngW lo n).length = n
  | 0, _ => rfl
  | n + 1, lo => by rw [rngW, List.length_cons, rngW_len n]
end
end K10


set_option maxHeartbeats 4000000
namespace K10
open PySem Lw
section
variable {ω : Nat → Nat} {pre : Mem} {b : Bk} {d : Dg} {c k : Nat} {m : Mem} {as : List Deed}
/-! comparing reports -/
def Rp.pd (r : Rp) : PyData := .tuple [.list (r.le.map .int), .bool r.ho, .list (r.got.map .int)]
theorem dat_rp {r : Rp} {j : Nat} : dat m (j + 3) r.w = some r.pd := by
  unfold Rp.w Rp.pd
  refine dat_tup ?_
  rw [datL, dat_lst (datL_ints r.le)]
  simp only []
  rw [datL, show dat m (j + 2) (.bl r.ho) = some (.bool r.ho) from rfl]
  simp only []
  rw [datL, dat_lst (datL_ints r.got)]
  rfl
theorem dat_rpp {r : Rp} {j p q : Nat} (hp : m[p]? = some (.lst (iW r.le))) (hq : m[q]? = some (.lst (iW r.got))) : dat m (j + 3) (.tup [.ptr p, .bl r.ho, .ptr q]) = some r.pd := by
  unfold Rp.pd
  refine dat_tup ?_
  rw [datL, dat_ptr hp (datL_ints r.le)]
  simp only []
  rw [datL, show dat m (j + 2) (.bl r.ho) = some (.bool r.ho) from rfl]
  simp only []
  rw [datL, dat_ptr hq (datL_ints r.got)]
  rfl
theorem canLay_all {α : Type} {g : α → PyData} (h : ∀ a, (g a).canLay0 = true) : ∀ l : List α, PyData.canLayAll0 (l.map g) = true
  | [] => rfl
  | a :: l => by rw [List.map_cons, PyData.canLayAll0, canLay_all h l, h]; rfl
theorem depth_all {α : Type} {g : α → PyData} {n : Nat} (h : ∀ a, (g a).depth ≤ n) : ∀ l : List α, PyData.depthAll (l.map g) ≤ n
  | [] => Nat.zero_le _
  | a :: l => by rw [List.map_cons, PyData.depthAll]; exact Nat.max_le.mpr ⟨h a, depth_all h l⟩
theorem canLay_rp (r : Rp) : r.pd.canLay0 = true := by
  show (PyData.canLayAll0 (r.le.map .int) && (true && (PyData.canLayAll0 (r.got.map .int) && true))) = true
  rw [canLay_ints, canLay_ints]; rfl
theorem depth_rp (r : Rp) : r.pd.depth ≤ 2 := by
  show max (PyData.depthAll (r.le.map .int) + 1) (max 0 (max (PyData.depthAll (r.got.map .int) + 1) 0)) + 1 ≤ 2
  rw [depthAll_ints, depthAll_ints]; decide
theorem sh_rps (rs : List Rp) : SeqAt.shaped (.list (rs.map Rp.pd)) = true := sh_lst (canLay_all canLay_rp rs) (Nat.le_trans (depth_all depth_rp rs) (by decide))
theorem dat_rps {rs : List Rp} : dat m 30 (.lst (rs.map Rp.w)) = some (.list (rs.map Rp.pd)) := dat_lst (datL_map rs fun _ _ => dat_rp)
theorem eq_rps {rs : List Rp} : eqW m (.lst (rs.map Rp.w)) (.lst (rs.map Rp.w)) = some true := eq_refl dat_rps dat_rps (sh_rps rs)
/-! comparing deeds -/
def Deed.pd : Deed → PyData
  | .bring l s => .tuple [.str (Str.ofString "bring"), .bool l, .bool s]
  | .code p t s => .tuple [.str (Str.ofString "code"), .int p, .bool t, .bool s]
  | .pass => .tuple [.str (Str.ofString "pass")]
  | .day => .tuple [.str (Str.ofString "day")]
  | .power => .tuple [.str (Str.ofString "power")]
theorem dat_deed {a : Deed} {j : Nat} : dat m (j + 2) a.w = some a.pd := by cases a <;> rfl
theorem canLay_deed (a : Deed) : a.pd.canLay0 = true := by
  cases a <;> simp [Deed.pd, PyData.canLay0, PyData.canLayAll0, strOk_ofS]
theorem depth_deed (a : Deed) : a.pd.depth ≤ 1 := by
  cases a <;> simp [Deed.pd, PyData.depth, PyData.depthAll]
theorem eq_deeds : eqW m (dW as) (dW as) = some true := eq_refl (d := .list (as.map Deed.pd)) (dat_lst (datL_map as fun _ _ => dat_deed)) (dat_lst (datL_map as fun _ _ => dat_deed)) (sh_lst (canLay_all canLay_deed as) (Nat.le_trans (depth_all depth_deed as) (by decide)))
/-! a cell that is walked does not change -/
theorem beq_rptrs : ∀ (rs : List Rp) (n : Nat), beqL (rptrs n rs) (rptrs n rs) = true
  | [], _ => rfl
  | r :: rs, n => by
    rw [rptrs, beqL, beq_rptrs rs]
    simp [beqW, beqL]
theorem gdL_ptr {n : Nat} {ws : List W} (h : m[n]? = some (.lst ws)) (hb : beqL ws ws = true) : gdL (.ptr n) ws m = true := by
  simp only [gdL, h, hb]
/-! is it a report -/
theorem ev_eqNL0 : cmpW .eq (.lst []) (.lst []) m = some true := by
  rw [cmp_eq]; exact eq_refl (dat_lst (ds := []) rfl) (dat_lst (ds := []) rfl) rfl
theorem ev_neNL0 : cmpW .ne (.lst []) (.lst []) m = some false := by
  rw [cmp_ne, ← cmp_eq, ev_eqNL0]; rfl
end
end K10


set_option maxHeartbeats 4000000
namespace K10
open PySem Lw
section
variable {ω : Nat → Nat} {pre : Mem} {b : Bk} {d : Dg} {c k : Nat} {m : Mem} {as : List Deed}
/-! wrongs -/
theorem ne_of_eqT {x y : W} (h : eqW m x y = some true) : cmpW .ne x y m = some false := by rw [cmp_ne, h]; rfl
theorem eq_of_eqT {x y : W} (h : eqW m x y = some true) : cmpW .eq x y m = some true := by rw [cmp_eq, h]
theorem ev_listL {l : List W} (h : l.length ≤ sizeLine) : bltW false .list [.lst l] m c = .ok (.lst l) m c := mkL_ok h
theorem sel10 {α : Type} {x y : α} : selL [x, y] [1, 0] = some [y, x] := rfl
theorem app_ptr {n : Nat} {l : List W} {w : W} (h : m[n]? = some (.lst l)) (hl : l.length < sizeLine) : bmW .append (.ptr n) [w] m c = .ok .non (m.set n (.lst (l ++ [w]))) c := by
  unfold bmW
  simp only [isIdx, h, bmL, if_pos hl, Bool.false_eq_true, if_false]
theorem isLst_ptr {n : Nat} {l : List W} (h : m[n]? = some (.lst l)) : isiW m (.ptr n) .list = some true := by simp only [isiW, vw, h]
theorem vw_ptr {n : Nat} {l : List W} (h : m[n]? = some (.lst l)) : vw m (.ptr n) = .lst l := by simp only [vw, h]
/-! stands -/
theorem bw_eq {s : St} {p q : Nat} (hp : m[p]? = some (.lst (iW (sortI s.ins)))) (hq : m[q]? = some (.lst (iW (sortI s.val)))) : eqW m (.tup [.bl s.op, .ptr p, s.tf.w, .ptr q, oW s.wt]) s.bw = some true := by
  have o1 : ∀ o : Option Int, ∃ z : PyData, (∀ m j, dat m (j + 1) (oW o) = some z) ∧ z.canLay0 = true ∧ z.depth = 0 := fun o => by
    cases o with
    | none => exact ⟨.none, fun _ _ => rfl, rfl, rfl⟩
    | some i => exact ⟨.int i, fun _ _ => rfl, rfl, rfl⟩
  obtain ⟨z, z1, z2, z3⟩ := o1 s.wt
  have d1 : dat m 30 (.tup [.bl s.op, .ptr p, s.tf.w, .ptr q, oW s.wt]) = some (.tuple [.bool s.op, .list ((sortI s.ins).map .int), .str (Str.ofString s.tf.s), .list ((sortI s.val).map .int), z]) := by
    refine dat_tup ?_
    rw [datL, show dat m 29 (.bl s.op) = some (.bool s.op) from rfl]
    simp only []
    rw [datL, dat_ptr hp (datL_ints _)]
    simp only []
    rw [datL, show dat m 29 s.tf.w = some (.str (Str.ofString s.tf.s)) from rfl]
    simp only []
    rw [datL, dat_ptr hq (datL_ints _)]
    simp only []
    rw [datL, z1 m 28]
    rfl
  have d2 : dat m 30 s.bw = some (.tuple [.bool s.op, .list ((sortI s.ins).map .int), .str (Str.ofString s.tf.s), .list ((sortI s.val).map .int), z]) := by
    unfold St.bw
    refine dat_tup ?_
    rw [datL, show dat m 29 (.bl s.op) = some (.bool s.op) from rfl]
    simp only []
    rw [datL, dat_lst (datL_ints _)]
    simp only []
    rw [datL, show dat m 29 s.tf.w = some (.str (Str.ofString s.tf.s)) from rfl]
    simp only []
    rw [datL, dat_lst (datL_ints _)]
    simp only []
    rw [datL, z1 m 28]
    rfl
  refine eq_refl d1 d2 (sh_tup ?_ ?_)
  · simp only [PyData.canLayAll0, PyData.canLay0, canLay_ints, strOk_ofS, z2, Bool.and_self]
  · simp only [PyData.depthAll, PyData.depth, depthAll_ints, z3]; decide
theorem bw_eq0 {s : St} : eqW m s.bw s.bw = some true := by
  have o1 : ∀ o : Option Int, ∃ z : PyData, (∀ m j, dat m (j + 1) (oW o) = some z) ∧ z.canLay0 = true ∧ z.depth = 0 := fun o => by
    cases o with
    | none => exact ⟨.none, fun _ _ => rfl, rfl, rfl⟩
    | some i => exact ⟨.int i, fun _ _ => rfl, rfl, rfl⟩
  obtain ⟨z, z1, z2, z3⟩ := o1 s.wt
  have d2 : dat m 30 s.bw = some (.tuple [.bool s.op, .list ((sortI s.ins).map .int), .str (Str.ofString s.tf.s), .list ((sortI s.val).map .int), z]) := by
    unfold St.bw
    refine dat_tup ?_
    rw [datL, show dat m 29 (.bl s.op) = some (.bool s.op) from rfl]
    simp only []
    rw [datL, dat_lst (datL_ints _)]
    simp only []
    rw [datL, show dat m 29 s.tf.w = some (.str (Str.ofString s.tf.s)) from rfl]
    simp only []
    rw [datL, dat_lst (datL_ints _)]
    simp only []
    rw [datL, z1 m 28]
    rfl
  refine eq_refl d2 d2 (sh_tup ?_ ?_)
  · simp only [PyData.canLayAll0, PyData.canLay0, canLay_ints, strOk_ofS, z2, Bool.and_self]
  · simp only [PyData.depthAll, PyData.depth, depthAll_ints, z3]; decide
theorem oW_bl {o : Option Int} : isiW m (oW o) .bool = some false := by cases o <;> rfl
theorem ints_eq {p : Nat} {l : List Int} (hp : m[p]? = some (.lst (iW l))) : cmpW .ne (.ptr p) (.lst (iW l)) m = some false := ne_of_eqT (eq_refl (dat_ptr hp (datL_ints l)) (dat_lst (datL_ints l)) (sh_lst (canLay_ints l) (by rw [depthAll_ints]; omega)))
theorem two0 {x y : Cell} : (m ++ [x, y])[m.length]? = some x := by simp
theorem two1 {x y : Cell} : (m ++ [x, y])[m.length + 1]? = some y := by simp
theorem two_s0 {x y u : Cell} : (m ++ [x, y]).set m.length u = m ++ [u, y] := by simp
theorem two_s1 {x y u : Cell} : (m ++ [x, y]).set (m.length + 1) u = m ++ [x, u] := by simp
theorem okM2 {x y : List W} (hm : OkM m) (hx : x.all (cl 12) = true) (hy : y.all (cl 12) = true) : OkM (m ++ [.lst x, .lst y]) := by
  refine hm.app ?_
  have e1 : okC (m.length + 2) (.lst x) = true := okC_lst hx
  have e2 : okC (m.length + 2) (.lst y) = true := okC_lst hy
  show (okC (m.length + 2) (.lst x) && (okC (m.length + 2) (.lst y) && true)) = true
  rw [e1, e2]; rfl
end
end K10


set_option maxHeartbeats 4000000
namespace K10
open PySem Lw
section
variable {ω : Nat → Nat} {pre : Mem} {b : Bk} {d : Dg} {c k : Nat} {m : Mem} {as : List Deed}
/-! more for the laws -/
theorem it_rng {cl : Call} {e : E} {ρ : Lw.Env} {n : Nat} {m m' : Mem} {c c' : Nat} (h : evE cfg cl e ρ m c = .ok (.int (n : Nat)) m' c') (hn : n ≤ 1000000) : evIt cfg cl (.rng e) ρ m c = .ok ⟨rngW 0 n, fun _ => true⟩ m' c' := by
  obtain ⟨Z, hZ⟩ : ∃ Z : Int, Z = (n : Nat) := ⟨_, rfl⟩
  rw [← hZ] at h
  rw [evIt, bnd h]
  have lim : lim62 Z = true := by unfold lim62; simp only [Bool.and_eq_true, decide_eq_true_eq]; omega
  have hN : Z.toNat = n := by omega
  simp only [lim, if_true, hN]
theorem rngW_map : ∀ (n i : Nat), rngW (i : Int) n = (List.range' i n).map (fun j : Nat => W.int (j : Int))
  | 0, _ => rfl
  | n + 1, i => by
    rw [rngW, List.range'_succ, List.map_cons]
    have := rngW_map n (i + 1)
    rw [show ((i + 1 : Nat) : Int) = (i : Int) + 1 by omega] at this
    rw [this]
theorem inW_acts {a : Act} : ∀ l : List Act, inW a.w (l.map Act.w) = decide (a ∈ l)
  | [] => by simp [inW]
  | x :: l => by
    have ih := inW_acts (a := a) l
    unfold inW at ih ⊢
    rw [List.map_cons, List.any_cons, ih]
    have h : flatEq x.w a.w = decide (x = a) := by
      show decide (Str.ofString x.s = Str.ofString a.s) = _
      rw [decide_eq_decide, ofS_inj]
      cases x <;> cases a <;> simp [Act.s]
    rw [h]
    by_cases e : a = x
    · subst e; simp
    · have e' : ¬ x = a := fun h => e h.symm
      simp [e, e']
theorem flat_acts (l : List Act) : (l.map Act.w).all flatW = true := by
  simp only [List.all_eq_true, List.mem_map]
  rintro w ⟨i, _, rfl⟩
  rfl
theorem notIn_act {a : Act} {l : List Act} : cmpW .notIn a.w (rW l) m = some (!decide (a ∈ l)) := by
  show (if flatW a.w && (l.map Act.w).all flatW then some (!inW a.w (l.map Act.w)) else none) = _
  rw [flat_acts, inW_acts]; rfl
theorem isIn_act {a : Act} {l : List Act} : cmpW .isIn a.w (rW l) m = some (decide (a ∈ l)) := by
  show (if flatW a.w && (l.map Act.w).all flatW then some (inW a.w (l.map Act.w)) else none) = _
  rw [flat_acts, inW_acts]; rfl
theorem last_lastSt : ∀ (as : List Deed) (s : St) (n : Int), (match (doings b s n as).getLast? with | none => s | some d => d.toSt) = lastSt b s n as
  | [], _, _ => rfl
  | a :: as, s, n => by
    have ih := last_lastSt as (doing b s a (n + a.n)).toSt (n + a.n)
    rw [doings_cons, lastSt, ← ih]
    cases h : doings b (doing b s a (n + a.n)).toSt (n + a.n) as with
    | nil => rfl
    | cons x xs =>
      have : (x :: xs).getLast? = some ((x :: xs).getLast (by simp)) := List.getLast?_eq_some_getLast (by simp)
      rw [List.getLast?_cons_cons, this]
theorem lastOf_eq : lastOf b as = lastSt b st0 0 as := last_lastSt as st0 0
theorem sortI_sorted {l : List Int} (h : l.Pairwise (· ≤ ·)) : sortI l = l := by
  unfold sortI
  exact List.mergeSort_of_pairwise (h.imp fun h => by simpa using h)
theorem run_T {X : R W} {m : Mem} {c : Nat} (h : X = .ok (.bl true) m c) : ∃ m c, X = .ok (.bl true) m c := ⟨m, c, h⟩
theorem lc_rules {bt : W → Option Lw.Env} {elt : Lw.Env → Mem → Nat → R W} {ws : List Act} (hb : ∀ w, ∃ ρ, bt w = some ρ) (he : ∀ ρ' w c, bt w = some ρ' → c + 200 ≤ 1000000 → ∃ l c', elt ρ' m c = .ok (rW l) m c' ∧ l.length ≤ 6 ∧ (∀ a ∈ l, a ∈ ws) ∧ c' ≤ c + 101) :
    ∀ (xs : List W) (acc : List W) (c : Nat), c + 101 * xs.length + 200 ≤ 1000000 → acc.length + xs.length ≤ 1000 → ∃ (ls : List (List Act)) (c' : Nat), lcGo (fun _ => true) bt (fun ρ m c => .ok true m c) elt xs acc m c = .ok (acc ++ ls.map rW) m c' ∧ ls.length = xs.length ∧ (∀ l ∈ ls, l.length ≤ 6 ∧ ∀ a ∈ l, a ∈ ws) ∧ c' ≤ c + 101 * xs.length := by
  intro xs
  induction xs with
  | nil => intro acc c _ _; exact ⟨[], c, by rw [lcGo, if_pos rfl, List.map_nil, List.append_nil], rfl, (fun _ h => by cases h), Nat.le_refl _⟩
  | cons x xs ih =>
    intro acc c hc ha
    simp only [List.length_cons] at hc ha
    obtain ⟨ρ, hρ⟩ := hb x
    obtain ⟨l, c1, h1, h2, h3, h4⟩ := he ρ x c hρ (by omega)
    obtain ⟨ls, c2, i1, i2, i3, i4⟩ := ih (acc ++ [rW l]) c1 (by omega) (by simp; omega)
    refine ⟨l :: ls, c2, ?_, by simp [i2], ?_, by simp only [List.length_cons]; omega⟩
    · rw [lcGo, if_pos rfl, hρ]
      simp only [R.bind_ok, if_true]
      rw [bnd h1, if_pos (by rw [sizeLine_eq]; omega), i1]
      simp
    · intro q hq
      rcases List.mem_cons.mp hq with rfl | hq
      · exact ⟨h2, h3⟩
      · exact i3 q hq
theorem len3 {α : Type} {l : List α} (h : l.length = 3) : ∃ a b c, l = [a, b, c] := by
  match l, h with
  | [a, b, c], _ => exact ⟨a, b, c, rfl⟩
theorem len5 {α : Type} {l : List α} (h : l.length = 5) : ∃ a b c d e, l = [a, b, c, d, e] := by
  match l, h with
  | [a, b, c, d, e], _ => exact ⟨a, b, c, d, e, rfl⟩
theorem frz_cell {n : Nat} {l : List W} (h : m[n]? = some (.lst l)) (hl : l.all (cl 11) = true) : frz 12 (.ptr n) m = some (.lst l, m.set n .dead) := by
  rw [frz]
  simp only [h]
  rw [frzL_id l (fun w hw => frz_cl 11 w _ (List.all_eq_true.mp hl w hw))]
theorem cl_deed {k : Nat} (a : Deed) : cl (k + 2) a.w = true := by cases a <;> rfl
theorem cl_deeds {k : Nat} (l : List Deed) : (l.map Deed.w).all (cl (k + 2)) = true := by
  simp only [List.all_eq_true, List.mem_map]
  rintro w ⟨a, _, rfl⟩
  exact cl_deed a
def allActs : List Act := [.free, .full, .off, .code, .void, .look, .lock]
def bkOf (lim : Int) (l0 l1 l2 l3 l4 l5 l6 l7 : List Act) : Bk := ⟨lim, fun j => match j with
  | .given => l0 | .laid => l1 | .left => l2 | .opened => l3 | .taken => l4 | .gone => l5 | .late => l6 | .power => l7⟩
theorem rows_bk {lim : Int} {l0 l1 l2 l3 l4 l5 l6 l7 : List Act} : (bkOf lim l0 l1 l2 l3 l4 l5 l6 l7).rows = [rW l0, rW l1, rW l2, rW l3, rW l4, rW l5, rW l6, rW l7] := rfl
theorem ev_call3 {cl : Call} {f : Nat} {a1 a2 a3 : E} {ρ : Lw.Env} {x1 x2 x3 w : W} {m m' : Mem} {c c' : Nat} (h1 : evE cfg cl a1 ρ m c = .ok x1 m c) (h2 : evE cfg cl a2 ρ m c = .ok x2 m c) (h3 : evE cfg cl a3 ρ m c = .ok x3 m c) (hr : cl f [x1, x2, x3] m c = .ok w m' c') :
    evE cfg cl (.call f (.cons a1 (.cons a2 (.cons a3 .nil)))) ρ m c = .ok w m' c' := by
  rw [evE, evEs, bnd h1, evEs, bnd h2, evEs, bnd h3, evEs]
  simp only [R.bind_ok, hr, reOk]
theorem if_not {cl : Call} {e : E} {x : Ss} {ρ : Lw.Env} {m m' : Mem} {c c' : Nat} (h : evE cfg cl e ρ m c = .ok (.bl true) m' c') : exS cfg cl (.ife (.not (.e e)) x .nil) ρ m c = .ok (.nx ρ) m' c' := by
  rw [exS, evT, evT, bnd h]
  simp only [exSs, exS, evE, evEs, evT, evTg, evTgs, evIt, evO, R.bind_ok, Lit.w, startE, List.map_cons, List.map_nil, List.length_cons, List.length_nil, List.replicate, List.cons_append, List.nil_append, List.append_nil, List.getElem?_cons_succ, List.getElem?_cons_zero, List.set_cons_succ, List.set_cons_zero, reOk, ↓reduceIte, Nat.reduceAdd, Nat.reduceSub, ev_tru, blR_some, vw_int, vw_bl, vw_str, vwTup, vw_lst, vw_obj, vw_non, isLstW_lst, Bool.false_eq_true, Bool.not_true, Bool.not_false, decide_true, decide_false, decide_eq_true_eq, ev_int, ev_intb, ev_add, ev_gt, ev_lt, ev_ge, ev_le, ev_eqI, ev_neI, ev_eqS, ev_neS, String.reduceEq, mkT0, mkT1, mkT2, mkT3, mkT4, mkT5, mkT6, ev_notN_int, ev_notN_non, Nat.add_zero, idx0, idx1, idx2, idx3, idx4, isLst_lst, isTup_tup, isStr_str, isBl_bl, isInt_int, isBl_int, isBl_non, ev_lenT, ev_lenL, gdL_lst, exit_k, cst0, cst1, cst2, cst3, cst4, cst5, cst6, cst7, cst8, Int.reduceEq]
theorem ret_e {cl : Call} {e : E} {ρ : Lw.Env} {m m' : Mem} {c c' : Nat} {w : W} (h : evE cfg cl e ρ m c = .ok w m' c') : exSs cfg cl (.cons (.ret e) .nil) ρ m c = .ok (.rt w) m' c' := by
  rw [exSs, exS, bnd h]
  simp only [exSs, exS, evE, evEs, evT, evTg, evTgs, evIt, evO, R.bind_ok, Lit.w, startE, List.map_cons, List.map_nil, List.length_cons, List.length_nil, List.replicate, List.cons_append, List.nil_append, List.append_nil, List.getElem?_cons_succ, List.getElem?_cons_zero, List.set_cons_succ, List.set_cons_zero, reOk, ↓reduceIte, Nat.reduceAdd, Nat.reduceSub, ev_tru, blR_some, vw_int, vw_bl, vw_str, vwTup, vw_lst, vw_obj, vw_non, isLstW_lst, Bool.false_eq_true, Bool.not_true, Bool.not_false, decide_true, decide_false, decide_eq_true_eq, ev_int, ev_intb, ev_add, ev_gt, ev_lt, ev_ge, ev_le, ev_eqI, ev_neI, ev_eqS, ev_neS, String.reduceEq, mkT0, mkT1, mkT2, mkT3, mkT4, mkT5, mkT6, ev_notN_int, ev_notN_non, Nat.add_zero, idx0, idx1, idx2, idx3, idx4, isLst_lst, isTup_tup, isStr_str, isBl_bl, isInt_int, isBl_int, isBl_non, ev_lenT, ev_lenL, gdL_lst, exit_k, cst0, cst1, cst2, cst3, cst4, cst5, cst6, cst7, cst8, Int.reduceEq]
theorem asg_e {cl : Call} {i : Nat} {e : E} {ρ : Lw.Env} {m m' : Mem} {c c' : Nat} {w : W} (h : evE cfg cl e ρ m c = .ok w m' c') : exS cfg cl (.asg i e) ρ m c = .ok (.nx (ρ.set i (some w))) m' c' := by
  rw [exS, bnd h]
theorem e_and {cl : Call} {a e : E} {ρ : Lw.Env} {x y : Bool} (h : evE cfg cl a ρ m c = .ok (.bl x) m c) (h' : evE cfg cl e ρ m c = .ok (.bl y) m c) : evE cfg cl (.and a e) ρ m c = .ok (.bl (x && y)) m c := by
  rw [evE, bnd h]
  cases x
  · rfl
  · simp only [if_true, h', Bool.true_and]
theorem cut1 {xs : List W} : cutW xs (some 1) none = xs.drop 1 := by
  cases xs with
  | nil => rfl
  | cons x xs => simp [cutW, cutIx]
theorem nl_lock {l : List Act} : cmpW .notIn (.str (Str.ofString "lock")) (rW l) m = some (!decide (.lock ∈ l)) := notIn_act (a := .lock)
end
end K10


set_option maxHeartbeats 4000000
namespace K10
open PySem Lw
section
variable {ω : Nat → Nat} {b : Bk} {d : Dg} {c k p : Nat} {m : Mem} {s : St} {le : List Int}
/-! ### the law's own walk of a rule -/
def boxC (s : St) : List W := [.bl s.op, .lst (iW s.ins), s.tf.w, .lst (iW s.val), .int (s.la.getD 0)]
structure Inv (s : St) : Prop where
  vs : s.val.Pairwise (· < ·)
  lp : ∀ q, s.la = some q → 0 < q
/-- what an action does to what stands and the letters -/
def c1 (x : St × List Int) : Act → St × List Int
  | .free => ({ x.1 with tf := .free }, x.2)
  | .full => ({ x.1 with tf := .full }, x.2)
  | .off => ({ x.1 with tf := .off }, x.2)
  | .look => ({ x.1 with tf := if x.1.ins = [] then .free else .full }, x.2)
  | .lock => ({ x.1 with op := false }, x.2)
  | .void => ({ x.1 with val := [] }, x.2)
  | .code => match x.1.la with
    | none => x
    | some p => if x.1.tf = .full then ({ x.1 with val := if p ∈ x.1.val then x.1.val else sortI (x.1.val ++ [p]) }, x.2 ++ [p]) else x
theorem carry1_c1 {a : Act} : carry1 d a = { d with toSt := (c1 (d.toSt, d.le) a).1, le := (c1 (d.toSt, d.le) a).2 } := by
  obtain ⟨⟨op, ins, tf, val, wt, la⟩, le, ho, got, mo, db, em⟩ := d
  cases a <;> try rfl
  cases la with
  | none => rfl
  | some p =>
    simp only [carry1, c1]
    by_cases h : tf = .full <;> simp [h]
theorem fold_c1 : ∀ (l : List Act) (d : Dg), l.foldl carry1 d = { d with toSt := (l.foldl c1 (d.toSt, d.le)).1, le := (l.foldl c1 (d.toSt, d.le)).2 }
  | [], d => rfl
  | a :: l, d => by rw [List.foldl_cons, fold_c1 l, carry1_c1, List.foldl_cons]
theorem c1_pre {a : Act} {x y : List Int} : c1 (s, x ++ y) a = ((c1 (s, y) a).1, x ++ (c1 (s, y) a).2) := by
  cases a <;> try rfl
  cases hla : s.la with
  | none => simp only [c1, hla]
  | some p => by_cases h : s.tf = .full <;> simp [c1, hla, h]
theorem fold_pre : ∀ (l : List Act) (s : St) (x y : List Int), l.foldl c1 (s, x ++ y) = ((l.foldl c1 (s, y)).1, x ++ (l.foldl c1 (s, y)).2)
  | [], _, _, _ => rfl
  | a :: l, s, x, y => by rw [List.foldl_cons, c1_pre, fold_pre l, List.foldl_cons]
theorem fold_pre0 {l : List Act} {x : List Int} : l.foldl c1 (s, x) = ((l.foldl c1 (s, [])).1, x ++ (l.foldl c1 (s, [])).2) := by
  have := fold_pre l s x []
  rwa [List.append_nil] at this
theorem nodup_lt {l : List Int} (h : l.Pairwise (· < ·)) : l.Nodup := h.imp fun h => by omega
theorem sort_perm {l l' : List Int} (h : l'.Perm l) (hs : l.Pairwise (· ≤ ·)) : sortI l' = l := by
  refine List.Perm.eq_of_pairwise (le := (· ≤ ·)) (fun a b _ _ h1 h2 => by omega) ?_ hs ((List.mergeSort_perm l' _).trans h)
  have := List.pairwise_mergeSort (le := fun a b : Int => decide (a ≤ b)) (fun a b c h1 h2 => by simp at *; omega) (fun a b => by simp; omega) l'
  exact this.imp fun h => by simpa using h
theorem sort_lt {l : List Int} (hn : l.Nodup) : (sortI l).Pairwise (· < ·) := by
  have h1 : (sortI l).Pairwise (· ≤ ·) := by
    have := List.pairwise_mergeSort (le := fun a b : Int => decide (a ≤ b)) (fun a b c h1 h2 => by simp at *; omega) (fun a b => by simp; omega) l
    exact this.imp fun h => by simpa using h
  have h2 : (sortI l).Nodup := (List.mergeSort_perm l _).nodup_iff.mpr hn
  exact (h1.and h2).imp fun h => by obtain ⟨h, h'⟩ := h; omega
theorem sort_re {l : List Int} {q : Int} (h : l.Pairwise (· < ·)) : sortI (l.filter (fun x => !decide (x = q)) ++ [q]) = if q ∈ l then l else sortI (l ++ [q]) := by
  split
  · rename_i hq
    refine sort_perm ?_ (h.imp fun h => by omega)
    have hn := nodup_lt h
    have h1 : l.Perm (q :: l.erase q) := List.perm_cons_erase hq
    have h2 : l.erase q = l.filter (fun x => !decide (x = q)) := by
      rw [hn.erase_eq_filter]
      congr 1
    rw [← h2]
    exact (List.perm_append_comm.trans (by simp)).trans h1.symm
  · rename_i hq
    congr 2
    rw [List.filter_eq_self]
    intro x hx
    have : x ≠ q := fun e => hq (e ▸ hx)
    simp [this]
theorem inv_c1 {a : Act} (h : Inv s) : Inv (c1 (s, le) a).1 := by
  obtain ⟨h1, h2⟩ := h
  cases a
  case code =>
    cases hla : s.la with
    | none => simp only [c1, hla]; exact ⟨h1, h2⟩
    | some p =>
      by_cases ht : s.tf = .full
      · simp only [c1, hla, ht, if_true]
        refine ⟨?_, fun q hq => h2 q (by rw [hla]; exact hq)⟩
        simp only []
        split
        · exact h1
        · rename_i hp
          refine sort_lt ?_
          rw [List.nodup_append]
          refine ⟨nodup_lt h1, by simp, fun x hx y hy e => ?_⟩
          simp at hy
          subst hy e
          exact hp hx
      · simp only [c1, hla, ht, if_false]; exact ⟨h1, h2⟩
  case void => exact ⟨List.Pairwise.nil, h2⟩
  all_goals exact ⟨h1, h2⟩
theorem inv_fold : ∀ (l : List Act) (x : St × List Int), Inv x.1 → Inv (l.foldl c1 x).1
  | [], _, h => h
  | a :: l, x, h => by rw [List.foldl_cons]; exact inv_fold l _ (inv_c1 h)
theorem le_c1 {a : Act} {x : St × List Int} : (c1 x a).2.length ≤ x.2.length + 1 := by
  cases a <;> simp only [c1] <;> (try omega)
  split
  · omega
  · split
    · simp
    · omega
theorem le_fold : ∀ (l : List Act) (x : St × List Int), (l.foldl c1 x).2.length ≤ x.2.length + l.length
  | [], _ => Nat.le_refl _
  | a :: l, x => by
    rw [List.foldl_cons]
    have := le_fold l (c1 x a)
    have := le_c1 (a := a) (x := x)
    simp only [List.length_cons]; omega
theorem idx_ptr {n : Nat} {l : List W} {i : W} (h : m[n]? = some (.lst l)) : idxW m (.ptr n) i = idxW m (.lst l) i := by
  have : vw m (.ptr n) = .lst l := by simp only [vw, h]
  unfold idxW
  rw [this]; rfl
theorem ev_eqNL {l : List Int} : cmpW .eq (.lst (iW l)) (.lst []) m = some (decide (l = [])) := by
  rw [cmp_eq, eq_shaped (dat_lst (datL_ints l)) (dat_lst (ds := []) rfl) (sh_lst (canLay_ints l) (by rw [depthAll_ints]; omega)) rfl]
  cases l <;> simp [PyData.eqv, PyData.eqvAll]
theorem ife_f {cl : Call} {t : T} {x y : Ss} {ρ : Lw.Env} {m m' : Mem} {c c' : Nat} (h : evT cfg cl t ρ m c = .ok false m' c') : exS cfg cl (.ife t x y) ρ m c = exSs cfg cl y ρ m' c' := by
  rw [exS, bnd h]; rfl
theorem ife_t {cl : Call} {t : T} {x y : Ss} {ρ : Lw.Env} {m m' : Mem} {c c' : Nat} (h : evT cfg cl t ρ m c = .ok true m' c') : exS cfg cl (.ife t x y) ρ m c = exSs cfg cl x ρ m' c' := by
  rw [exS, bnd h]; rfl
theorem ss_one {cl : Call} {s : S} {ρ : Lw.Env} {m : Mem} {c : Nat} : exSs cfg cl (.cons s .nil) ρ m c = exS cfg cl s ρ m c := by
  rw [exSs]
  cases exS cfg cl s ρ m c with
  | ok f m c => cases f <;> rfl
  | exc x ρ m c => rfl
  | no => rfl
theorem okM_set {x : List W} (hm : OkM m) (hx : x.all (cl 12) = true) : OkM (m.set p (.lst x)) := by
  unfold OkM at hm ⊢
  rw [List.length_set]
  simp only [List.all_eq_true] at hm ⊢
  intro y hy
  rcases List.mem_or_eq_of_mem_set hy with h | h
  · exact hm y h
  · subst h; exact okC_lst hx
theorem cl_box {s : St} : (boxC s).all (cl 12) = true := by
  show (true && (cl 12 (.lst (iW s.ins)) && (true && (cl 12 (.lst (iW s.val)) && (true && true))))) = true
  rw [show cl 12 (.lst (iW s.ins)) = true from cl_iW _, show cl 12 (.lst (iW s.val)) = true from cl_iW _]; rfl
theorem sz_c1 {a : Act} {x : St × List Int} {N : Nat} (h : x.1.val.length ≤ N) : (c1 x a).1.val.length ≤ N + 1 := by
  cases a <;> simp only [c1] <;> (try omega)
  · split
    · omega
    · split
      · simp only []
        split
        · omega
        · rw [sortI_len]; simp; omega
      · omega
  · simp
theorem i5_0 {a0 a1 a2 a3 a4 : W} : idxW m (.lst [a0, a1, a2, a3, a4]) (.int 0) = some a0 := by kernel_rfl
theorem i5_1 {a0 a1 a2 a3 a4 : W} : idxW m (.lst [a0, a1, a2, a3, a4]) (.int 1) = some a1 := by kernel_rfl
theorem i5_2 {a0 a1 a2 a3 a4 : W} : idxW m (.lst [a0, a1, a2, a3, a4]) (.int 2) = some a2 := by kernel_rfl
theorem i5_3 {a0 a1 a2 a3 a4 : W} : idxW m (.lst [a0, a1, a2, a3, a4]) (.int 3) = some a3 := by kernel_rfl
theorem i5_4 {a0 a1 a2 a3 a4 : W} : idxW m (.lst [a0, a1, a2, a3, a4]) (.int 4) = some a4 := by kernel_rfl
end
end K10


set_option maxHeartbeats 4000000
namespace K10
open PySem Lw
section
variable {ω : Nat → Nat} {b : Bk} {d : Dg} {c k p : Nat} {m : Mem} {s : St} {le : List Int}
/-! ### carry by what stands and letters -/
theorem carry_parts {j : Mo} : (carry b d j).toSt = ((b.r j).foldl c1 (d.toSt, [])).1 ∧ (carry b d j).le = d.le ++ ((b.r j).foldl c1 (d.toSt, [])).2 ∧ (carry b d j).ho = d.ho ∧ (carry b d j).got = d.got ∧ (carry b d j).db = d.db ∧ (carry b d j).em = d.em := by
  unfold carry
  rw [fold_c1, fold_pre0]
  exact ⟨rfl, rfl, rfl, rfl, rfl, rfl⟩
theorem c1_keeps {a : Act} {x : St × List Int} : (c1 x a).1.la = x.1.la ∧ (c1 x a).1.wt = x.1.wt ∧ (c1 x a).1.ins = x.1.ins := by
  cases a <;> try exact ⟨rfl, rfl, rfl⟩
  cases hla : x.1.la with
  | none => simp only [c1, hla]; exact ⟨trivial, trivial, trivial⟩
  | some p => by_cases h : x.1.tf = .full <;> simp [c1, hla, h]
theorem fold_keeps : ∀ (l : List Act) (x : St × List Int), (l.foldl c1 x).1.la = x.1.la ∧ (l.foldl c1 x).1.wt = x.1.wt ∧ (l.foldl c1 x).1.ins = x.1.ins
  | [], _ => ⟨rfl, rfl, rfl⟩
  | a :: l, x => by
    rw [List.foldl_cons]
    have h1 := fold_keeps l (c1 x a)
    have h2 := c1_keeps (a := a) (x := x)
    exact ⟨h1.1.trans h2.1, h1.2.1.trans h2.2.1, h1.2.2.trans h2.2.2⟩
/-! one deed more -/
def cntB (as : List Deed) : Int := (as.map Deed.n).sum
theorem lastSt_snoc : ∀ (as : List Deed) (s : St) (n : Int) (a : Deed), lastSt b s n (as ++ [a]) = (doing b (lastSt b s n as) a (n + cntB as + a.n)).toSt
  | [], s, n, a => by simp [lastSt, cntB]
  | x :: as, s, n, a => by
    rw [List.cons_append, lastSt, lastSt_snoc as, lastSt]
    congr 2
    simp [cntB]; omega
theorem doings_snoc : ∀ (as : List Deed) (s : St) (n : Int) (a : Deed), doings b s n (as ++ [a]) = doings b s n as ++ [doing b (lastSt b s n as) a (n + cntB as + a.n)]
  | [], s, n, a => by simp [doings, lastSt, cntB]
  | x :: as, s, n, a => by
    rw [List.cons_append, doings_cons, doings_snoc as, doings_cons, List.cons_append, lastSt]
    congr 4
    simp [cntB]; omega
theorem cntB_snoc {as : List Deed} {a : Deed} : cntB (as ++ [a]) = cntB as + a.n := by simp [cntB]
theorem cntB_nn {as : List Deed} : 0 ≤ cntB as := by
  unfold cntB
  induction as with
  | nil => simp
  | cons a as ih => cases a <;> simp [Deed.n] at * <;> omega
theorem cntB_le {as : List Deed} : cntB as ≤ (as.length : Nat) := by
  unfold cntB
  induction as with
  | nil => simp
  | cons a as ih => cases a <;> simp [Deed.n] at * <;> omega
theorem lastSt_sz (hb : b.ok) {as : List Deed} : (lastSt b st0 0 as).sz (20 * as.length) := by
  have h := last_lastSt (b := b) as st0 0
  rw [← h]
  cases hg : (doings b st0 0 as).getLast? with
  | none => exact ⟨Nat.zero_le _, Nat.zero_le _⟩
  | some d =>
    have hd := doings_sz hb as st0 0 0 ⟨Nat.le_refl _, Nat.le_refl _⟩ d (List.mem_of_getLast? hg)
    exact ⟨by have := hd.1.2.1; simp only []; omega, by have := hd.1.2.2.1; simp only []; omega⟩
theorem inv_st0 : Inv st0 := ⟨List.Pairwise.nil, fun q h => by cases h⟩
/-- closed lists alone -/
theorem okM_lsts : ∀ (xs : List (List W)), (∀ x ∈ xs, x.all (cl 12) = true) → OkM (xs.map Cell.lst) := fun xs h => by
  unfold OkM
  simp only [List.all_eq_true, List.mem_map]
  rintro y ⟨x, hx, rfl⟩
  exact okC_lst (h x hx)
theorem cl_rps {rs : List Rp} : (rs.map Rp.w).all (cl 11) = true := by
  simp only [List.all_eq_true, List.mem_map]
  rintro w ⟨r, _, rfl⟩
  show (cl 10 (.lst (iW r.le)) && (true && (cl 10 (.lst (iW r.got)) && true))) = true
  rw [show cl 10 (.lst (iW r.le)) = true from cl_iW _, show cl 10 (.lst (iW r.got)) = true from cl_iW _]; rfl
theorem all_mono {l : List W} (h : l.all (cl 11) = true) : l.all (cl 12) = true := by
  simp only [List.all_eq_true] at h ⊢
  exact fun w hw => cl_mono 11 12 w (by omega) (h w hw)
theorem rp_eq {d : Dg} {h : Bool} {l : List Int} (h1 : d.le = l) (h2 : d.ho = h) (h3 : d.got = []) : d.rp.w = .tup [.lst (iW l), .bl h, .lst []] := by
  unfold Dg.rp Rp.w
  simp only [h1, h2, h3]
  have : sortI [] = [] := by simp [sortI]
  rw [this]; rfl
end
end K10


set_option maxHeartbeats 4000000
namespace K10
open PySem Lw
section
variable {ω : Nat → Nat} {b : Bk} {d : Dg} {c k p : Nat} {m : Mem} {s : St} {le : List Int} {x : List W}
/-- a changed cell, and a list of numbers behind -/
def BX (m : Mem) (p : Nat) (x : List W) (le : List Int) : Mem := m.set p (.lst x) ++ [.lst (iW le)]
theorem BX_get (hp : p < m.length) : (BX m p x le)[p]? = some (.lst x) := by
  unfold BX
  rw [List.getElem?_append_left (by rw [List.length_set]; exact hp), List.getElem?_set_self hp]
theorem BX_last : (BX m p x le)[m.length]? = some (.lst (iW le)) := by
  unfold BX
  have : m.length = (m.set p (.lst x)).length := by rw [List.length_set]
  rw [this]; exact get_mid
theorem BX_set {x' : List W} (hp : p < m.length) : (BX m p x le).set p (.lst x') = BX m p x' le := by
  unfold BX
  rw [List.set_append_left _ _ (by rw [List.length_set]; exact hp), List.set_set]
theorem BX_setl {le' : List Int} : (BX m p x le).set m.length (.lst (iW le')) = BX m p x le' := by
  unfold BX
  have : m.length = (m.set p (.lst x)).length := by rw [List.length_set]
  rw [this]; exact set_mid
theorem BX_dead : ((BX m p x le).set m.length .dead).take m.length = m.set p (.lst x) := by
  unfold BX
  have : m.length = (m.set p (.lst x)).length := by rw [List.length_set]
  have e2 : (m.set p (Cell.lst x) ++ [Cell.lst (iW le)]).set m.length Cell.dead = m.set p (Cell.lst x) ++ [Cell.dead] := by
    conv => lhs; arg 2; rw [this]
    exact set_mid
  rw [e2]
  conv => lhs; arg 1; rw [this]
  rw [List.take_left]
theorem set_self {x : List W} (h : m[p]? = some (.lst x)) : m.set p (.lst x) = m := by
  have hp := lt_get h
  apply List.ext_getElem?
  intro i
  by_cases hip : i = p
  · subst hip; rw [List.getElem?_set_self hp, h]
  · rw [List.getElem?_set_ne (fun e => hip e.symm)]
theorem set_get {x : List W} (hp : p < m.length) : (m.set p (.lst x))[p]? = some (.lst x) := List.getElem?_set_self hp
theorem ix2_0 {x y : W} : idxW m (.lst [x, y]) (.int 0) = some x := by kernel_rfl
theorem ix2_1 {x y : W} : idxW m (.lst [x, y]) (.int 1) = some y := by kernel_rfl
theorem set2_0 {x y w : W} (h : m[p]? = some (.lst [x, y])) : setI (.ptr p) (.int 0) w m = some (m.set p (.lst [w, y])) := by
  unfold setI; simp only [h]; rfl
theorem set2_1 {x y w : W} (h : m[p]? = some (.lst [x, y])) : setI (.ptr p) (.int 1) w m = some (m.set p (.lst [x, w])) := by
  unfold setI; simp only [h]; rfl
theorem ne_tf {x : Tf} {z : String} : cmpW .ne x.w (.str (Str.ofString z)) m = some (!decide (x.s = z)) := ev_neS
theorem ev_inL {p : Int} {l : List Int} : cmpW .isIn (.int p) (.lst (iW l)) m = some (decide (p ∈ l)) := ev_inP rfl
theorem take_cut {n : Nat} {xs : List W} : cutW xs none (some (n : Int)) = xs.take n := by
  unfold cutW cutIx
  simp only [List.drop_zero, Nat.sub_zero]
  rw [if_neg (by omega)]
  have : min (n : Int).toNat xs.length = min n xs.length := by simp
  rw [this]
  by_cases h : n ≤ xs.length
  · rw [Nat.min_eq_left h]
  · rw [Nat.min_eq_right (by omega), List.take_of_length_le (Nat.le_refl _), List.take_of_length_le (by omega)]
theorem brOk_take : ∀ (as : List Deed) (k : Int) (n : Nat), brOk k as → brOk k (as.take n)
  | [], _, _, _ => by simp [brOk]
  | a :: as, k, 0, _ => by simp [brOk]
  | a :: as, k, n + 1, h => by
    rw [List.take_succ_cons]
    cases a with
    | code p t u => exact ⟨h.1, brOk_take as k n h.2⟩
    | _ => exact brOk_take as _ n h
theorem brOk_app : ∀ (as bs : List Deed) (k : Int), brOk k as → brOk (k + cntB as) bs → brOk k (as ++ bs)
  | [], bs, k, _, h => by simpa [cntB] using h
  | a :: as, bs, k, h, h2 => by
    have e : k + cntB (a :: as) = k + a.n + cntB as := by simp [cntB]; omega
    rw [e] at h2
    cases a with
    | code p t u =>
      have h2' : brOk (k + cntB as) bs := by simpa [Deed.n] using h2
      exact ⟨h.1, brOk_app as bs k h.2 h2'⟩
    | _ => exact brOk_app as bs _ h h2
theorem set_len {x : Cell} : (m.set p x).length = m.length := List.length_set
theorem ev_call1 {cl : Call} {f : Nat} {a1 : E} {ρ : Lw.Env} {x1 w : W} {m m' : Mem} {c c' : Nat} (h1 : evE cfg cl a1 ρ m c = .ok x1 m c) (hr : cl f [x1] m c = .ok w m' c') :
    evE cfg cl (.call f (.cons a1 .nil)) ρ m c = .ok w m' c' := by
  rw [evE, evEs, bnd h1, evEs]
  simp only [R.bind_ok, hr, reOk]
theorem mul_b {x : W} {b : Bool} : ∀ m c, binW false .mul (.lst [x]) (.int (if b then 1 else 0)) m c = mkL false (if b then [x] else []) m c := fun m c => by
  cases b
  · simp only [binW, vw_lst, vw_int, Bool.false_eq_true, if_false]
    rw [if_pos ⟨by decide, by decide, by rw [sizeLine_eq]; simp⟩]; rfl
  · simp only [binW, vw_lst, vw_int, if_true]
    rw [if_pos ⟨by decide, by decide, by rw [sizeLine_eq]; simp⟩]; rfl
theorem eq_oI {o : Option Int} {x : Int} : cmpW .eq (oW o) (.int x) m = some (decide (o = some x)) := by
  cases o with
  | none => rfl
  | some y => simp only [oW, ev_eqI, Option.some.injEq]
theorem ev_ninL {p : Int} {l : List Int} : cmpW .notIn (.int p) (.lst (iW l)) m = some (!decide (p ∈ l)) := ev_ninP rfl
theorem ev_tup3 {cl : Call} {a1 a2 a3 : E} {ρ : Lw.Env} {x1 x2 x3 : W} {m m' : Mem} {c c' : Nat} (h1 : evE cfg cl a1 ρ m c = .ok x1 m c) (h2 : evE cfg cl a2 ρ m c = .ok x2 m c) (h3 : evE cfg cl a3 ρ m c = .ok x3 m' c') :
    evE cfg cl (.tup (.cons a1 (.cons a2 (.cons a3 .nil)))) ρ m c = .ok (.tup [x1, x2, x3]) m' c' := by
  rw [evE, evEs, bnd h1, evEs, bnd h2, evEs, bnd h3, evEs]
  simp only [R.bind_ok, mkT3]
theorem ev_tup5 {cl : Call} {a1 a2 a3 a4 a5 : E} {ρ : Lw.Env} {x1 x2 x3 x4 x5 : W} {m m' : Mem} {c c' : Nat} (h1 : evE cfg cl a1 ρ m c = .ok x1 m c) (h2 : evE cfg cl a2 ρ m c = .ok x2 m c) (h3 : evE cfg cl a3 ρ m c = .ok x3 m c) (h4 : evE cfg cl a4 ρ m c = .ok x4 m c) (h5 : evE cfg cl a5 ρ m c = .ok x5 m' c') :
    evE cfg cl (.tup (.cons a1 (.cons a2 (.cons a3 (.cons a4 (.cons a5 .nil)))))) ρ m c = .ok (.tup [x1, x2, x3, x4, x5]) m' c' := by
  rw [evE, evEs, bnd h1, evEs, bnd h2, evEs, bnd h3, evEs, bnd h4, evEs, bnd h5, evEs]
  simp only [R.bind_ok, mkT5]
theorem ev_call2 {cl : Call} {f : Nat} {a1 a2 : E} {ρ : Lw.Env} {x1 x2 w : W} {m m' : Mem} {c c' : Nat} (h1 : evE cfg cl a1 ρ m c = .ok x1 m c) (h2 : evE cfg cl a2 ρ m c = .ok x2 m c) (hr : cl f [x1, x2] m c = .ok w m' c') :
    evE cfg cl (.call f (.cons a1 (.cons a2 .nil))) ρ m c = .ok w m' c' := by
  rw [evE, evEs, bnd h1, evEs, bnd h2, evEs]
  simp only [R.bind_ok, hr, reOk]
theorem unp3 {cl : Call} {e : E} {ρ : Lw.Env} {x1 x2 x3 : W} {m m' : Mem} {c c' i j l : Nat} (h : evE cfg cl e ρ m c = .ok (.tup [x1, x2, x3]) m' c') :
    exS cfg cl (.unp [.name i, .name j, .name l] e) ρ m c = .ok (.nx (((ρ.set i (some x1)).set j (some x2)).set l (some x3))) m' c' := by
  rw [exS, bnd h]
  simp only [vwTup, List.length_cons, List.length_nil, Nat.reduceAdd, if_true, evTgs, evTg, R.bind_ok]
theorem if_nots {cl : Call} {a b : E} {x : Ss} {ρ : Lw.Env} {m : Mem} {c : Nat} (h1 : evE cfg cl a ρ m c = .ok (.bl true) m c) (h2 : evE cfg cl b ρ m c = .ok (.bl true) m c) :
    exS cfg cl (.ife (.or (.not (.e a)) (.not (.e b))) x .nil) ρ m c = .ok (.nx ρ) m c := by
  rw [exS, evT, evT, evT, bnd h1]
  simp only [R.bind_ok, ev_tru, Bool.not_true, Bool.false_eq_true, if_false]
  rw [evT, evT, bnd h2]
  simp only [exSs, exS, evE, evEs, evT, evTg, evTgs, evIt, evO, R.bind_ok, Lit.w, startE, List.map_cons, List.map_nil, List.length_cons, List.length_nil, List.replicate, List.cons_append, List.nil_append, List.append_nil, List.getElem?_cons_succ, List.getElem?_cons_zero, List.set_cons_succ, List.set_cons_zero, reOk, ↓reduceIte, Nat.reduceAdd, Nat.reduceSub, ev_tru, blR_some, vw_int, vw_bl, vw_str, vwTup, vw_lst, vw_obj, vw_non, isLstW_lst, Bool.false_eq_true, Bool.not_true, Bool.not_false, decide_true, decide_false, decide_eq_true_eq, ev_int, ev_intb, ev_add, ev_gt, ev_lt, ev_ge, ev_le, ev_eqI, ev_neI, ev_eqS, ev_neS, String.reduceEq, mkT0, mkT1, mkT2, mkT3, mkT4, mkT5, mkT6, ev_notN_int, ev_notN_non, Nat.add_zero, idx0, idx1, idx2, idx3, idx4, isLst_lst, isTup_tup, isStr_str, isBl_bl, isInt_int, isBl_int, isBl_non, ev_lenT, ev_lenL, gdL_lst, exit_k, cst0, cst1, cst2, cst3, cst4, cst5, cst6, cst7, cst8, Int.reduceEq]
theorem okM_dead (hm : OkM m) : OkM (m.set p .dead) := by
  unfold OkM at hm ⊢
  rw [List.length_set]
  simp only [List.all_eq_true] at hm ⊢
  intro y hy
  rcases List.mem_or_eq_of_mem_set hy with h | h
  · exact hm y h
  · subst h; rfl
theorem cut_from {n : Nat} {xs : List W} (h : n ≤ xs.length) : cutW xs (some (n : Int)) none = xs.drop n := by
  unfold cutW cutIx
  simp only []
  have h0 : ¬ (n : Int) < 0 := by omega
  have h1 : min (n : Int).toNat xs.length = n := by simp; omega
  simp only [h0, if_false, h1]
  exact List.take_of_length_le (by rw [List.length_drop]; omega)
theorem idx_d0 {a : Deed} : idxW m a.w (.int 0) = some (.str (Str.ofString (match a with | .bring _ _ => "bring" | .code _ _ _ => "code" | .pass => "pass" | .day => "day" | .power => "power"))) := by
  cases a <;> simp only [Deed.w, idx0]
end
end K10


set_option maxHeartbeats 4000000
namespace K10
open PySem Lw
section
variable {ω : Nat → Nat} {b : Bk} {d : Dg} {c k p : Nat} {m : Mem} {s : St} {le : List Int}
/-- what stands after a bring, by parts -/
def b1 (b : Bk) (s : St) (num : Int) : St × List Int := (b.r .given).foldl c1 ({ s with op := true, wt := some 0, la := some num }, [])
def b2 (b : Bk) (s : St) (num : Int) (l : Bool) : St := if l && (b1 b s num).1.op then { (b1 b s num).1 with ins := (b1 b s num).1.ins ++ [num] } else (b1 b s num).1
def b3 (b : Bk) (s : St) (num : Int) (l u : Bool) : St × List Int := if (b2 b s num l).op then ((if u then b.r .laid else b.r .left).foldl c1 ({ b2 b s num l with op := !u }, [])) else (b2 b s num l, [])
theorem doing_bring {num : Int} {l u : Bool} (ht : s.tf = .free) :
    (doing b s (.bring l u) num).toSt = (b3 b s num l u).1 ∧ (doing b s (.bring l u) num).le = (b1 b s num).2 ++ (b3 b s num l u).2 ∧ (doing b s (.bring l u) num).ho = true ∧ (doing b s (.bring l u) num).got = [] := by
  have e : doing b s (.bring l u) num = bring b (fresh s) num l u := by
    unfold doing start
    simp only [fresh, ht, if_true]
  rw [e]
  unfold bring
  have h1 := carry_parts (b := b) (d := { fresh s with ho := true, op := true, wt := some 0, la := some num }) (j := .given)
  obtain ⟨p1, p2, p3, p4, p5, p6⟩ := h1
  generalize carry b { fresh s with ho := true, op := true, wt := some 0, la := some num } .given = d1 at p1 p2 p3 p4 p5 p6 ⊢
  have q1 : d1.toSt = (b1 b s num).1 := p1
  have q2 : d1.le = (b1 b s num).2 := p2
  have h2 : (lay d1 num l).toSt = b2 b s num l ∧ (lay d1 num l).le = d1.le ∧ (lay d1 num l).ho = true ∧ (lay d1 num l).got = [] := by
    unfold lay b2
    rw [← q1]
    split
    · exact ⟨rfl, rfl, p3, p4⟩
    · exact ⟨rfl, rfl, p3, p4⟩
  obtain ⟨r1, r2, r3, r4⟩ := h2
  generalize lay d1 num l = d2 at r1 r2 r3 r4 ⊢
  unfold leave b3
  rw [← r1]
  have h3 := carry_parts (b := b) (d := { d2 with op := !u }) (j := if u then .laid else .left)
  obtain ⟨t1, t2, t3, t4, _, _⟩ := h3
  split
  · refine ⟨?_, ?_, t3.trans r3, t4.trans r4⟩
    · rw [t1]; cases u <;> rfl
    · rw [t2, ← q2, ← r2]; cases u <;> rfl
  · exact ⟨rfl, by rw [r2, q2, List.append_nil], r3, r4⟩
theorem doing_bring_no {num : Int} {l u : Bool} (ht : s.tf ≠ .free) : doing b s (.bring l u) num = fresh s := by
  unfold doing start
  simp only [fresh, ht, if_false]
theorem doing_power {num : Int} : (doing b s .power num).toSt = ((b.r .power).foldl c1 (s, [])).1 ∧ (doing b s .power num).le = ((b.r .power).foldl c1 (s, [])).2 ∧ (doing b s .power num).ho = false ∧ (doing b s .power num).got = [] := by
  have h := carry_parts (b := b) (d := fresh s) (j := .power)
  exact ⟨h.1, h.2.1, h.2.2.1, h.2.2.2.1⟩
end
end K10


set_option maxHeartbeats 4000000
namespace K10
open PySem Lw
section
variable {ω : Nat → Nat} {b : Bk} {d : Dg} {c k : Nat} {m : Mem}
def Bk.withR (b : Bk) (j : Mo) (l : List Act) : Bk := ⟨b.lim, fun i => if i = j then l else b.r i⟩
def allMo : List Mo := [.given, .laid, .left, .opened, .taken, .gone, .late, .power]
theorem mo_eq {i j : Mo} : cmpW .eq i.w j.w m = some (decide (i = j)) := by
  have : decide (i.s = j.s) = decide (i = j) := by cases i <;> cases j <;> rfl
  rw [← this]; exact ev_eqS
theorem withR_ok {j : Mo} {l : List Act} (hb : b.ok) (hl : l.length ≤ 6) : (b.withR j l).ok := fun i => by
  show (if i = j then l else b.r i).length ≤ 6
  split
  · exact hl
  · exact hb i
theorem withR_lim {j : Mo} {l : List Act} : (b.withR j l).lim = b.lim := rfl
theorem evS (x : Int) (r : List W) {cl : Call} {e1 e2 : E} {ρ : Lw.Env} (h1 : evE cfg cl e1 ρ m c = .ok (.int x) m c) (h2 : evE cfg cl e2 ρ m c = .ok (.lst r) m c) : evEs cfg cl (.cons e1 (.star e2 .nil)) ρ m c = .ok (.int x :: r) m c := by
  rw [evEs, bnd h1, evEs, bnd h2]
  simp only [vw_lst, evEs, R.bind_ok, List.append_nil]
theorem with_run {j : Mo} {l : List Act} (hm : OkM m) (hb : b.ok) (hl : l.length ≤ 6) (h1 : 1 ≤ b.lim) (h2 : b.lim ≤ 30) : run cfg prim ω (k + 3) 17 [b.w, j.w, rW l] m c = .ok (b.withR j l).w m c := by
  rw [r_Book_with_rule rfl]
  have q1 : run cfg prim ω (k + 2) 19 [j.w] m c = .ok (.bl true) m c := is_moment_run hm
  have q2 : run cfg prim ω (k + 2) 20 [rW l] m c = .ok (.bl true) m c := is_rule_run hm hl
  let ρ (e3 e4 e5 : Option W) : Lw.Env := [some b.w, some j.w, some (rW l), e3, e4, e5]
  have e : exSs cfg (run cfg prim ω (k + 2)) b_Book_with_rule (startE 6 [b.w, j.w, rW l]) m c = .ok (.rt (b.withR j l).w) (m ++ [.dead]) c := by
    unfold b_Book_with_rule
    have c1 : evE cfg (run cfg prim ω (k + 2)) (.call 19 (.cons (.var 1) .nil)) (ρ none none none) m c = .ok (.bl true) m c := by
      rw [evE, evEs]
      simp only [ρ, exSs, exS, evE, evEs, evT, evTg, evTgs, evIt, evO, R.bind_ok, Lit.w, startE, List.map_cons, List.map_nil, List.length_cons, List.length_nil, List.replicate, List.cons_append, List.nil_append, List.append_nil, List.getElem?_cons_succ, List.getElem?_cons_zero, List.set_cons_succ, List.set_cons_zero, reOk, ↓reduceIte, Nat.reduceAdd, Nat.reduceSub, ev_tru, blR_some, vw_int, vw_bl, vw_str, vwTup, vw_lst, vw_obj, vw_non, isLstW_lst, Bool.false_eq_true, Bool.not_true, Bool.not_false, decide_true, decide_false, decide_eq_true_eq, ev_int, ev_intb, ev_add, ev_gt, ev_lt, ev_ge, ev_le, ev_eqI, ev_neI, ev_eqS, ev_neS, String.reduceEq, mkT0, mkT1, mkT2, mkT3, mkT4, mkT5, mkT6, ev_notN_int, ev_notN_non, Nat.add_zero, idx0, idx1, idx2, idx3, idx4, isLst_lst, isTup_tup, isStr_str, isBl_bl, isInt_int, isBl_int, isBl_non, ev_lenT, ev_lenL, gdL_lst, exit_k, cst0, cst1, cst2, cst3, cst4, cst5, cst6, cst7, cst8, Int.reduceEq, q1]
    have c2 : evE cfg (run cfg prim ω (k + 2)) (.call 20 (.cons (.var 2) .nil)) (ρ none none none) m c = .ok (.bl true) m c := by
      rw [evE, evEs]
      simp only [ρ, exSs, exS, evE, evEs, evT, evTg, evTgs, evIt, evO, R.bind_ok, Lit.w, startE, List.map_cons, List.map_nil, List.length_cons, List.length_nil, List.replicate, List.cons_append, List.nil_append, List.append_nil, List.getElem?_cons_succ, List.getElem?_cons_zero, List.set_cons_succ, List.set_cons_zero, reOk, ↓reduceIte, Nat.reduceAdd, Nat.reduceSub, ev_tru, blR_some, vw_int, vw_bl, vw_str, vwTup, vw_lst, vw_obj, vw_non, isLstW_lst, Bool.false_eq_true, Bool.not_true, Bool.not_false, decide_true, decide_false, decide_eq_true_eq, ev_int, ev_intb, ev_add, ev_gt, ev_lt, ev_ge, ev_le, ev_eqI, ev_neI, ev_eqS, ev_neS, String.reduceEq, mkT0, mkT1, mkT2, mkT3, mkT4, mkT5, mkT6, ev_notN_int, ev_notN_non, Nat.add_zero, idx0, idx1, idx2, idx3, idx4, isLst_lst, isTup_tup, isStr_str, isBl_bl, isInt_int, isBl_int, isBl_non, ev_lenT, ev_lenL, gdL_lst, exit_k, cst0, cst1, cst2, cst3, cst4, cst5, cst6, cst7, cst8, Int.reduceEq, q2]
    refine ss_cons (ρ' := ρ none none none) (m' := m) (c' := c) (if_not c1) ?_
    refine ss_cons (ρ' := ρ none none none) (m' := m) (c' := c) (if_not c2) ?_
    refine ss_cons (ρ' := ρ (some (.lst (b.withR j l).rows)) none none) (m' := m) (c' := c) (asg_e (i := 3) (ρ := ρ none none none) ?_) ?_
    · have h := lc_pure (gd := fun _ => true) (bt := fun w => bindTg [4, 5] true w (wipeE (ρ none none none) [4, 5])) (cond := fun ρ m c => .ok true m c) (elt := fun ρ m c => evE cfg (run cfg prim ω (k + 2)) b_Book_with_rule_E1 ρ m c) (m := m) (c := c) (fun i : Mo => W.tup [i.w, rW (b.r i)]) (fun _ => true) (fun i => rW ((b.withR j l).r i)) allMo rfl
        (fun i _ => ⟨ρ none (some i.w) (some (rW (b.r i))), bind_pat2, rfl, fun _ => by
          unfold b_Book_with_rule_E1
          have ht : evT cfg (run cfg prim ω (k + 2)) (.e (.cmp .eq (.var 4) (.var 1))) (ρ none (some i.w) (some (rW (b.r i)))) m c = .ok (decide (i = j)) m c := by
            rw [evT, evE]
            simp only [ρ, exSs, exS, evE, evEs, evT, evTg, evTgs, evIt, evO, R.bind_ok, Lit.w, startE, List.map_cons, List.map_nil, List.length_cons, List.length_nil, List.replicate, List.cons_append, List.nil_append, List.append_nil, List.getElem?_cons_succ, List.getElem?_cons_zero, List.set_cons_succ, List.set_cons_zero, reOk, ↓reduceIte, Nat.reduceAdd, Nat.reduceSub, ev_tru, blR_some, vw_int, vw_bl, vw_str, vwTup, vw_lst, vw_obj, vw_non, isLstW_lst, Bool.false_eq_true, Bool.not_true, Bool.not_false, decide_true, decide_false, decide_eq_true_eq, ev_int, ev_intb, ev_add, ev_gt, ev_lt, ev_ge, ev_le, ev_eqI, ev_neI, ev_eqS, ev_neS, String.reduceEq, mkT0, mkT1, mkT2, mkT3, mkT4, mkT5, mkT6, ev_notN_int, ev_notN_non, Nat.add_zero, idx0, idx1, idx2, idx3, idx4, isLst_lst, isTup_tup, isStr_str, isBl_bl, isInt_int, isBl_int, isBl_non, ev_lenT, ev_lenL, gdL_lst, exit_k, cst0, cst1, cst2, cst3, cst4, cst5, cst6, cst7, cst8, Int.reduceEq, mo_eq]
          rw [evE, bnd ht]
          show _ = R.ok (rW (if i = j then l else b.r i)) m c
          by_cases hij : i = j
          · simp only [hij, decide_true, if_true]; rw [evE]; rfl
          · simp only [hij, decide_false, if_false, Bool.false_eq_true]; rw [evE]; rfl⟩) [] (by rw [sizeLine_eq]; decide)
      have hf : allMo.filter (fun _ => true) = allMo := rfl
      rw [hf, List.nil_append] at h
      have hit : evIt cfg (run cfg prim ω (k + 2)) (.zip (.glob 1) (.attr (.var 0) (Str.ofString "rule_row"))) (ρ none none none) m c = .ok ⟨allMo.map (fun i : Mo => W.tup [i.w, rW (b.r i)]), fun _ => true⟩ m c := by
        simp only [ρ, exSs, exS, evE, evEs, evT, evTg, evTgs, evIt, evO, R.bind_ok, Lit.w, startE, List.map_cons, List.map_nil, List.length_cons, List.length_nil, List.replicate, List.cons_append, List.nil_append, List.append_nil, List.getElem?_cons_succ, List.getElem?_cons_zero, List.set_cons_succ, List.set_cons_zero, reOk, ↓reduceIte, Nat.reduceAdd, Nat.reduceSub, ev_tru, blR_some, vw_int, vw_bl, vw_str, vwTup, vw_lst, vw_obj, vw_non, isLstW_lst, Bool.false_eq_true, Bool.not_true, Bool.not_false, decide_true, decide_false, decide_eq_true_eq, ev_int, ev_intb, ev_add, ev_gt, ev_lt, ev_ge, ev_le, ev_eqI, ev_neI, ev_eqS, ev_neS, String.reduceEq, mkT0, mkT1, mkT2, mkT3, mkT4, mkT5, mkT6, ev_notN_int, ev_notN_non, Nat.add_zero, idx0, idx1, idx2, idx3, idx4, isLst_lst, isTup_tup, isStr_str, isBl_bl, isInt_int, isBl_int, isBl_non, ev_lenT, ev_lenL, gdL_lst, exit_k, cst0, cst1, cst2, cst3, cst4, cst5, cst6, cst7, cst8, Int.reduceEq, gl_MOMENTS, vw_bk, fo_row, Bk.row, zipW]
        rfl
      rw [evE, bnd hit]
      have hy : (fun ρ m c => evT cfg (run cfg prim ω (k + 2)) .yes ρ m c) = fun (ρ : Lw.Env) (m : Mem) (c : Nat) => R.ok true m c := by funext ρ m c; rw [evT]
      rw [hy]
      refine (bnd (lcn h) _).trans ?_
      exact mkL_ok (by rw [List.length_map, sizeLine_eq]; decide)
    refine ret_e ?_
    have hes : evEs cfg (run cfg prim ω (k + 2)) (.cons (.attr (.var 0) (Str.ofString "limit")) (.star (.var 3) .nil)) (ρ (some (.lst (b.withR j l).rows)) none none) m c = .ok (.int b.lim :: (b.withR j l).rows) m c := evS _ _ (by simp only [ρ, exSs, exS, evE, evEs, evT, evTg, evTgs, evIt, evO, R.bind_ok, Lit.w, startE, List.map_cons, List.map_nil, List.length_cons, List.length_nil, List.replicate, List.cons_append, List.nil_append, List.append_nil, List.getElem?_cons_succ, List.getElem?_cons_zero, List.set_cons_succ, List.set_cons_zero, reOk, ↓reduceIte, Nat.reduceAdd, Nat.reduceSub, ev_tru, blR_some, vw_int, vw_bl, vw_str, vwTup, vw_lst, vw_obj, vw_non, isLstW_lst, Bool.false_eq_true, Bool.not_true, Bool.not_false, decide_true, decide_false, decide_eq_true_eq, ev_int, ev_intb, ev_add, ev_gt, ev_lt, ev_ge, ev_le, ev_eqI, ev_neI, ev_eqS, ev_neS, String.reduceEq, mkT0, mkT1, mkT2, mkT3, mkT4, mkT5, mkT6, ev_notN_int, ev_notN_non, Nat.add_zero, idx0, idx1, idx2, idx3, idx4, isLst_lst, isTup_tup, isStr_str, isBl_bl, isInt_int, isBl_int, isBl_non, ev_lenT, ev_lenL, gdL_lst, exit_k, cst0, cst1, cst2, cst3, cst4, cst5, cst6, cst7, cst8, Int.reduceEq, vw_bk, fo_lim]) rfl
    rw [evE]
    simp only [cls_Book]
    rw [bnd hes]
    have hi := book_init (ω := ω) (k := k) (pre := m) (c := c) (b := b.withR j l) hm (withR_ok hb hl) h1 h2
    have hi' : run cfg prim ω (k + 2) 12 (.ptr m.length :: .int b.lim :: (b.withR j l).rows) (m ++ [.ins 0 [] []]) c = _ := hi
    rw [hi']
    simp only [reOk, R.bind_ok, if_true, frzR_book]
  rw [e]
  exact exit_rt_app hm (cl_mono 5 12 _ (by decide) cl_b)
theorem idx8 {l0 l1 l2 l3 l4 l5 l6 l7 : List Act} : ∀ i : Mo, idxW m (.lst [rW l0, rW l1, rW l2, rW l3, rW l4, rW l5, rW l6, rW l7]) (.int (i.i : Int)) = some (rW ((bkOf 1 l0 l1 l2 l3 l4 l5 l6 l7).r i))
  | .given => i8_0 | .laid => i8_1 | .left => i8_2 | .opened => i8_3 | .taken => i8_4 | .gone => i8_5 | .late => i8_6 | .power => i8_7
theorem book_eta {b b' : Bk} (h : b.lim = b'.lim) (h2 : ∀ i, b.r i = b'.r i) : b = b' := by
  obtain ⟨l, r⟩ := b
  obtain ⟨l', r'⟩ := b'
  obtain rfl : l = l' := h
  obtain rfl : r = r' := funext h2
  rfl
end
end K10


set_option maxHeartbeats 4000000
namespace K10
open PySem Lw
section
variable {ω : Nat → Nat} {b : Bk} {d : Dg} {c k p n0 : Nat} {m : Mem}
theorem set_ptr {xs : List W} {j : Nat} {w : W} (h : m[p]? = some (.lst xs)) (hj : j < xs.length) : setI (.ptr p) (.int (j : Int)) w m = some (m.set p (.lst (xs.set j w))) := by
  unfold setI
  simp only [h]
  have hp : place xs.length (j : Int) = some j := by
    unfold place
    rw [if_pos (by omega), if_pos (by omega)]
    simp
  rw [hp]
theorem rows_cl {rs : List (List Act)} : (rs.map rW).all (cl 11) = true := by
  simp only [List.all_eq_true, List.mem_map]
  rintro w ⟨i, _, rfl⟩
  exact cl_mono 3 11 _ (by decide) (cl_acts _)
theorem rows_cl12 {rs : List (List Act)} : (rs.map rW).all (cl 12) = true := by
  simp only [List.all_eq_true, List.mem_map]
  rintro w ⟨i, _, rfl⟩
  exact cl_mono 3 12 _ (by decide) (cl_acts _)
def ER (p : Nat) (e3 : Option W) : Lw.Env := [some .tok, some (.lst (allActs.map Act.w)), some (.ptr p), e3]
def rs0 : List (List Act) := [[.void, .full], [.look, .code], [.lock, .look, .code], [], [.look], [.lock, .look], [], []]
def rs1 : List (List Act) := [[.full], [.code, .free], [.code], [], [.free], [.free], [.full, .code], []]
end
end K10


set_option maxHeartbeats 4000000
namespace K10
open PySem Lw
section
variable {ω : Nat → Nat} {b : Bk} {d : Dg} {c k p : Nat} {m : Mem}
/-! the deeds drawn -/
def nice (n : Int) : Deed → Prop
  | .code p _ _ => 1 ≤ p ∧ p ≤ n
  | _ => True
def niceAll : Int → List Deed → Prop
  | _, [] => True
  | n, a :: as => nice n a ∧ niceAll (n + a.n) as
theorem nice_app : ∀ (as : List Deed) (n : Int) (a : Deed), niceAll n as → nice (n + cntB as) a → niceAll n (as ++ [a])
  | [], n, a, _, h => ⟨by simpa [cntB] using h, trivial⟩
  | x :: as, n, a, h, h2 => by
    have e : n + cntB (x :: as) = n + x.n + cntB as := by simp [cntB]; omega
    rw [e] at h2
    exact ⟨h.1, nice_app as (n + x.n) a h.2 h2⟩
theorem brOk_nice : ∀ (as : List Deed) (k : Int), niceAll k as → brOk k as
  | [], _, _ => trivial
  | a :: as, k, h => by
    have := brOk_nice as (k + a.n) h.2
    cases a with
    | code p t u =>
      have e : k + (Deed.code p t u).n = k := by simp [Deed.n]
      rw [e] at this
      exact ⟨h.1.2, this⟩
    | _ => exact this
theorem ok_nice : ∀ (as : List Deed) (k : Int), 0 ≤ k → k + (as.length : Nat) ≤ 1000000 → niceAll k as → ∀ a ∈ as, a.ok
  | [], _, _, _, _, _, h => by cases h
  | x :: as, k, h0, hk, h, a, ha => by
    have hx : 0 ≤ x.n ∧ x.n ≤ 1 := by cases x <;> simp [Deed.n]
    simp only [List.length_cons] at hk
    rcases List.mem_cons.mp ha with rfl | ha
    · have h1 := h.1
      cases a with
      | code p t u => exact ⟨h1.1, by have := h1.2; omega⟩
      | _ => trivial
    · exact ok_nice as (k + x.n) (by omega) (by omega) h.2 a ha
theorem cntB_nn2 : ∀ {as : List Deed}, 0 ≤ cntB as ∧ cntB as ≤ (as.length : Nat)
  | [] => by simp [cntB]
  | a :: as => by
    have := cntB_nn2 (as := as)
    have e : cntB (a :: as) = a.n + cntB as := by simp [cntB]
    have hx : 0 ≤ a.n ∧ a.n ≤ 1 := by cases a <;> simp [Deed.n]
    rw [e]; simp only [List.length_cons]; omega
theorem cntB_snoc2 {as : List Deed} {a : Deed} : cntB (as ++ [a]) = cntB as + a.n := by
  unfold cntB; simp
def Ad (m : Mem) (as : List Deed) : Mem := m ++ [.lst (as.map Deed.w)]
theorem Ad_ok {as : List Deed} (hm : OkM m) : OkM (Ad m as) := hm.app (by
  have e1 : okC (m.length + 1) (.lst (as.map Deed.w)) = true := okC_lst (cl_deeds _)
  show (okC (m.length + 1) (.lst (as.map Deed.w)) && true) = true
  rw [e1]; rfl)
def ED (sp : W) (q : Nat) (n : Int) (e3 e4 : Option W) : Lw.Env := [some sp, some (.ptr q), some (.int n), e3, e4]
theorem good_nice {as : List Deed} (hb : b.ok) (ha : niceAll 0 as) (hl : as.length ≤ 200) : Good b as := ⟨hb, ok_nice as 0 (Int.le_refl _) (by omega) ha, brOk_nice as 0 ha, by omega⟩
theorem rows_of {rs : List (List Act)} (h : rs.length = 8) (h6 : ∀ l ∈ rs, l.length ≤ 6) (lim : Int) : ∃ b : Bk, b.lim = lim ∧ b.ok ∧ rs.map rW = b.rows ∧ rs = [b.r .given, b.r .laid, b.r .left, b.r .opened, b.r .taken, b.r .gone, b.r .late, b.r .power] := by
  match rs, h with
  | [l0, l1, l2, l3, l4, l5, l6, l7], _ =>
    refine ⟨bkOf lim l0 l1 l2 l3 l4 l5 l6 l7, rfl, fun j => ?_, rows_bk.symm, rfl⟩
    have h0 := h6 l0 (by simp)
    have h1 := h6 l1 (by simp)
    have h2 := h6 l2 (by simp)
    have h3 := h6 l3 (by simp)
    have h4 := h6 l4 (by simp)
    have h5 := h6 l5 (by simp)
    have h66 := h6 l6 (by simp)
    have h7 := h6 l7 (by simp)
    cases j <;> assumption
end
end K10


set_option maxHeartbeats 4000000
namespace K10
open PySem Lw
section
variable {ω : Nat → Nat} {b : Bk} {d : Dg} {c k p : Nat} {m : Mem}
/-! parts of lists, as expressions -/
theorem slc_take {cl : Call} {a i : E} {ρ : Lw.Env} {x : W} {xs : List W} {n : Nat} (h1 : evE cfg cl a ρ m c = .ok x m c) (hx : vw m x = .lst xs) (h2 : evE cfg cl i ρ m c = .ok (.int (n : Int)) m c) (hl : xs.length ≤ 1000000) : evE cfg cl (.slc false a .none (.some i)) ρ m c = .ok (.lst (xs.take n)) m c := by
  have o1 : evO cfg cl .none ρ m c = .ok none m c := by rw [evO]
  have o2 : evO cfg cl (.some i) ρ m c = .ok (some (n : Int)) m c := by rw [evO, bnd h2]
  rw [evE, bnd h1, bnd o1, bnd o2]
  unfold slcW
  simp only [hx]
  rw [take_cut]
  exact mkL_ok (le_sl (by rw [List.length_take]; omega))
theorem slc_drop {cl : Call} {a i : E} {ρ : Lw.Env} {x : W} {xs : List W} {n : Nat} (h1 : evE cfg cl a ρ m c = .ok x m c) (hx : vw m x = .lst xs) (h2 : evE cfg cl i ρ m c = .ok (.int (n : Int)) m c) (hn : n ≤ xs.length) (hl : xs.length ≤ 1000000) : evE cfg cl (.slc false a (.some i) .none) ρ m c = .ok (.lst (xs.drop n)) m c := by
  have o1 : evO cfg cl .none ρ m c = .ok none m c := by rw [evO]
  have o2 : evO cfg cl (.some i) ρ m c = .ok (some (n : Int)) m c := by rw [evO, bnd h2]
  rw [evE, bnd h1, bnd o2, bnd o1]
  unfold slcW
  simp only [hx]
  rw [cut_from hn]
  exact mkL_ok (le_sl (by rw [List.length_drop]; omega))
theorem add_l {cl : Call} {a1 a2 : E} {ρ : Lw.Env} {xs ys : List W} (h1 : evE cfg cl a1 ρ m c = .ok (.lst xs) m c) (h2 : evE cfg cl a2 ρ m c = .ok (.lst ys) m c) (hl : xs.length + ys.length ≤ 1000000) : evE cfg cl (.bin false .add a1 a2) ρ m c = .ok (.lst (xs ++ ys)) m c := by
  rw [evE, bnd h1, bnd h2]
  simp only [binW, vw_lst]
  exact mkL_ok (le_sl (by rw [List.length_append]; omega))
theorem rep_mulN {x : W} {j : Nat} (h : j ≤ 1000000) : ∀ m c, binW false .mul (.lst [x]) (.int (j : Int)) m c = .ok (.lst (List.replicate j x)) m c := fun m c => by
  have hr : ∀ n : Nat, (List.replicate n [x]).flatten = List.replicate n x := by
    intro n
    induction n with
    | zero => rfl
    | succ n ih => rw [List.replicate_succ, List.flatten_cons, ih, List.replicate_succ]; rfl
  obtain ⟨z, hz⟩ : ∃ z : Int, z = (j : Int) := ⟨_, rfl⟩
  rw [← hz]
  simp only [binW, vw_lst, vw_int]
  have hj : z.toNat = j := by omega
  rw [if_pos ⟨by omega, by omega, by rw [sizeLine_eq, hj]; simp; omega⟩, hr, hj]
  exact mkL_ok (by rw [List.length_replicate, sizeLine_eq]; omega)
theorem mul_l {cl : Call} {a1 a2 : E} {ρ : Lw.Env} {x : W} {j : Nat} (h1 : evE cfg cl a1 ρ m c = .ok (.lst [x]) m c) (h2 : evE cfg cl a2 ρ m c = .ok (.int (j : Int)) m c) (hl : j ≤ 1000000) : evE cfg cl (.bin false .mul a1 a2) ρ m c = .ok (.lst (List.replicate j x)) m c := by
  rw [evE, bnd h1, bnd h2]
  exact rep_mulN hl m c
theorem it_rng2 {cl : Call} {e1 e2 : E} {ρ : Lw.Env} {i n : Nat} (h1 : evE cfg cl e1 ρ m c = .ok (.int (i : Int)) m c) (h2 : evE cfg cl e2 ρ m c = .ok (.int (n : Int)) m c) (hi : i ≤ 1000000) (hn : n ≤ 1000000) : evIt cfg cl (.rng2 e1 e2) ρ m c = .ok ⟨rngW (i : Int) (n - i), fun _ => true⟩ m c := by
  obtain ⟨Z, hZ⟩ : ∃ Z : Int, Z = (i : Nat) := ⟨_, rfl⟩
  obtain ⟨Y, hY⟩ : ∃ Y : Int, Y = (n : Nat) := ⟨_, rfl⟩
  rw [← hZ] at h1
  rw [← hY] at h2
  rw [evIt, bnd h1, bnd h2]
  have l1 : lim62 Z = true := by unfold lim62; simp only [Bool.and_eq_true, decide_eq_true_eq]; omega
  have l2 : lim62 Y = true := by unfold lim62; simp only [Bool.and_eq_true, decide_eq_true_eq]; omega
  have hN : (Y - Z).toNat = n - i := by omega
  rw [← hZ]
  simp only [l1, l2, Bool.and_self, if_true, hN]
theorem idxN {cl : Call} {a i : E} {ρ : Lw.Env} {x w : W} {xs : List W} {n : Nat} (h1 : evE cfg cl a ρ m c = .ok x m c) (hx : vw m x = .lst xs) (h2 : evE cfg cl i ρ m c = .ok (.int (n : Int)) m c) (hw : xs[n]? = some w) : evE cfg cl (.idx a i) ρ m c = .ok w m c := by
  rw [evE, bnd h1, bnd h2]
  have h : idxW m x (.int (n : Int)) = some w := by
    unfold idxW
    simp only [hx, place_nat (lt_get hw), Option.bind_some, hw]
  rw [h]
theorem cmp_e {cl : Call} {op : COp} {a1 a2 : E} {ρ : Lw.Env} {x y : W} {r : Bool} {m' : Mem} {c' : Nat} (h1 : evE cfg cl a1 ρ m c = .ok x m c) (h2 : evE cfg cl a2 ρ m c = .ok y m' c') (h : cmpW op x y m' = some r) : evE cfg cl (.cmp op a1 a2) ρ m c = .ok (.bl r) m' c' := by
  rw [evE, bnd h1, bnd h2, h]; rfl
theorem t_e {cl : Call} {e : E} {ρ : Lw.Env} {r : Bool} {m' : Mem} {c' : Nat} (h : evE cfg cl e ρ m c = .ok (.bl r) m' c') : evT cfg cl (.e e) ρ m c = .ok r m' c' := by
  rw [evT, bnd h]; rfl
theorem mul_bl {j : Nat} (h : j ≤ 100000) {x : Bool} : binW false .mul (.int (j : Int)) (.int (if x then 1 else 0)) m c = .ok (.int ((if x then j else 0 : Nat) : Int)) m c := by
  obtain ⟨z, hz⟩ : ∃ z : Int, z = (j : Int) := ⟨_, rfl⟩
  have hs : sizeI z < 100 := sizeI_bits 100 (bits_of (by omega) (by omega)) (by decide)
  rw [← hz]
  cases x
  · rw [if_neg (by decide), if_neg (by decide), ev_mul (by have : sizeI 0 = 0 := by decide
                                                           omega), Int.mul_zero]; rfl
  · rw [if_pos rfl, if_pos rfl, ev_mul (by have : sizeI 1 = 0 := by decide
                                           omega), Int.mul_one, hz]
theorem ev_callV {cl : Call} {f : Nat} {a1 a2 a3 a4 a5 : E} {ρ : Lw.Env} {x1 x2 x3 x4 x5 w : W} {m m' : Mem} {c c' : Nat} (h1 : evE cfg cl a1 ρ m c = .ok x1 m c) (h2 : evE cfg cl a2 ρ m c = .ok x2 m c) (h3 : evE cfg cl a3 ρ m c = .ok x3 m c) (h4 : evE cfg cl a4 ρ m c = .ok x4 m c) (h5 : evE cfg cl a5 ρ m c = .ok x5 m c) (hr : cl f [x1, x2, x3, x4, x5] m c = .ok w m' c') :
    evE cfg cl (.call f (.cons a1 (.cons a2 (.cons a3 (.cons a4 (.cons a5 .nil)))))) ρ m c = .ok w m' c' := by
  rw [evE, evEs, bnd h1, evEs, bnd h2, evEs, bnd h3, evEs, bnd h4, evEs, bnd h5, evEs]
  simp only [R.bind_ok, hr, reOk]
theorem ev_bin {cl : Call} {op : BOp} {a1 a2 : E} {ρ : Lw.Env} {x y w : W} {m m1 m2 m' : Mem} {c c1 c2 c' : Nat} (h1 : evE cfg cl a1 ρ m c = .ok x m1 c1) (h2 : evE cfg cl a2 ρ m1 c1 = .ok y m2 c2) (h3 : binW false op x y m2 c2 = .ok w m' c') : evE cfg cl (.bin false op a1 a2) ρ m c = .ok w m' c' := by
  rw [evE, bnd h1, bnd h2]; exact h3
theorem rep_len {as : List Deed} : (reports b as).length = as.length := by unfold reports; rw [List.length_map, dgs_len]
theorem ev_callV4 {cl : Call} {f : Nat} {a1 a2 a3 a4 : E} {ρ : Lw.Env} {x1 x2 x3 x4 w : W} {m m' : Mem} {c c' : Nat} (h1 : evE cfg cl a1 ρ m c = .ok x1 m c) (h2 : evE cfg cl a2 ρ m c = .ok x2 m c) (h3 : evE cfg cl a3 ρ m c = .ok x3 m c) (h4 : evE cfg cl a4 ρ m c = .ok x4 m c) (hr : cl f [x1, x2, x3, x4] m c = .ok w m' c') :
    evE cfg cl (.call f (.cons a1 (.cons a2 (.cons a3 (.cons a4 .nil))))) ρ m c = .ok w m' c' := by
  rw [evE, evEs, bnd h1, evEs, bnd h2, evEs, bnd h3, evEs, bnd h4, evEs]
  simp only [R.bind_ok, hr, reOk]
/-- an element, as an expression -/
theorem idx_e {cl : Call} {a i : E} {ρ : Lw.Env} {x y w : W} (h1 : evE cfg cl a ρ m c = .ok x m c) (h2 : evE cfg cl i ρ m c = .ok y m c) (h : idxW m x y = some w) : evE cfg cl (.idx a i) ρ m c = .ok w m c := by
  rw [evE, bnd h1, bnd h2, h]
theorem lst0_e {cl : Call} {ρ : Lw.Env} : evE cfg cl (.lst false .nil) ρ m c = .ok (.lst []) m c := by rw [evE, evEs]; exact mkL0
theorem t_or_t {cl : Call} {a e : T} {ρ : Lw.Env} {m' : Mem} {c' : Nat} (h : evT cfg cl a ρ m c = .ok true m' c') : evT cfg cl (.or a e) ρ m c = .ok true m' c' := by
  rw [evT, bnd h]; rfl
theorem t_or_f {cl : Call} {a e : T} {ρ : Lw.Env} {x : Bool} {m' : Mem} {c' : Nat} (h : evT cfg cl a ρ m c = .ok false m c) (h' : evT cfg cl e ρ m c = .ok x m' c') : evT cfg cl (.or a e) ρ m c = .ok x m' c' := by
  rw [evT, bnd h]
  simp only [Bool.false_eq_true, if_false, h']
theorem t_and_f {cl : Call} {a e : T} {ρ : Lw.Env} {m' : Mem} {c' : Nat} (h : evT cfg cl a ρ m c = .ok false m' c') : evT cfg cl (.and a e) ρ m c = .ok false m' c' := by
  rw [evT, bnd h]; rfl
theorem t_not {cl : Call} {a : T} {ρ : Lw.Env} {x : Bool} {m' : Mem} {c' : Nat} (h : evT cfg cl a ρ m c = .ok x m' c') : evT cfg cl (.not a) ρ m c = .ok (!x) m' c' := by
  rw [evT, bnd h]
theorem bw_4 {s : St} : idxW m s.bw (.int 4) = some (oW s.wt) := by unfold St.bw; exact idx4
end
end K10


set_option maxHeartbeats 4000000
namespace K10
open PySem Lw
section
variable {ω : Nat → Nat} {b g : Bk} {d : Dg} {c k : Nat} {m : Mem}
/-! books made of others -/
def mosW (js : List Mo) : W := .tup (js.map Mo.w)
theorem bl_allM : ∀ l : List Mo, blsOf (l.map fun _ => W.bl true) = some (l.map fun _ => true)
  | [] => rfl
  | a :: l => by rw [List.map_cons, blsOf, bl_allM l]; rfl
theorem strs_mo : ∀ l : List Mo, strsOf (l.map Mo.w) = some (l.map fun j => Str.ofString j.s)
  | [] => rfl
  | a :: l => by
    rw [List.map_cons]
    show (strsOf (l.map Mo.w)).map (Str.ofString a.s :: ·) = _
    rw [strs_mo l]; rfl
theorem mo_inj {i j : Mo} (h : Str.ofString i.s = Str.ofString j.s) : i = j := by
  rw [ofS_inj] at h
  cases i <;> cases j <;> first | rfl | (simp [Mo.s] at h)
theorem nodup_mo {l : List Mo} (h : l.Nodup) : (l.map fun j => Str.ofString j.s).Nodup := by
  induction l with
  | nil => exact List.nodup_nil
  | cons a l ih =>
    rw [List.nodup_cons] at h
    rw [List.map_cons, List.nodup_cons]
    refine ⟨fun hm => ?_, ih h.2⟩
    obtain ⟨x, hx, hxe⟩ := List.mem_map.mp hm
    exact h.1 (mo_inj hxe ▸ hx)
theorem are_moments_run {js : List Mo} (hm : OkM m) (hn : js.Nodup) (hl : js.length ≤ 100) : run cfg prim ω (k + 2) 22 [mosW js] m c = .ok (.bl true) m c := by
  rw [r_are_moments rfl]
  let ρ : Lw.Env := [some (mosW js), none]
  have e : exSs cfg (run cfg prim ω (k + 1)) b_are_moments (startE 2 [mosW js]) m c = .ok (.rt (.bl true)) m c := by
    unfold b_are_moments
    have v0 : evE cfg (run cfg prim ω (k + 1)) (.var 0) ρ m c = .ok (mosW js) m c := rfl
    have h1 := lc_pure (gd := fun _ => true) (bt := fun w => bindTg [1] false w (wipeE ρ [1])) (cond := fun ρ m c => .ok true m c) (elt := fun ρ m c => evE cfg (run cfg prim ω (k + 1)) b_are_moments_E1 ρ m c) (m := m) (c := c) Mo.w (fun _ => true) (fun _ => .bl true) js rfl
      (fun a _ => ⟨[some (mosW js), some a.w], rfl, rfl, fun _ => by
        unfold b_are_moments_E1
        exact ev_call1 (x1 := a.w) rfl (is_moment_run hm)⟩) [] (by rw [sizeLine_eq]; simp; omega)
    have hf : js.filter (fun _ => true) = js := by simp
    rw [hf, List.nil_append] at h1
    have hy : (fun ρ m c => evT cfg (run cfg prim ω (k + 1)) .yes ρ m c) = fun (ρ : Lw.Env) (m : Mem) (c : Nat) => R.ok true m c := by funext ρ m c; rw [evT]
    have hit : evIt cfg (run cfg prim ω (k + 1)) (.tup (.var 0)) ρ m c = .ok ⟨js.map Mo.w, fun _ => true⟩ m c := rfl
    have hlc : evE cfg (run cfg prim ω (k + 1)) (.lc false [1] false (.tup (.var 0)) .yes b_are_moments_E1) ρ m c = .ok (.lst (js.map fun _ => W.bl true)) m c := by
      rw [evE, bnd hit, hy]
      refine (bnd (lcn h1) _).trans ?_
      exact mkL_ok (le_sl (by rw [List.length_map]; omega))
    have hall : evE cfg (run cfg prim ω (k + 1)) (.blt false .all (.cons (.lc false [1] false (.tup (.var 0)) .yes b_are_moments_E1) .nil)) ρ m c = .ok (.bl true) m c := by
      rw [evE, evEs, bnd hlc, evEs]
      show (match blsOf (js.map fun _ => W.bl true) with | some bs => R.ok (W.bl (bs.all id)) m c | none => .no) = _
      rw [bl_allM]
      simp
    have hisi : evE cfg (run cfg prim ω (k + 1)) (.isi (.var 0) .tuple) ρ m c = .ok (.bl true) m c := by
      rw [evE, bnd v0]; rfl
    refine ss_cons (ρ' := ρ) (m' := m) (c' := c) ?_ ?_
    · show exS cfg (run cfg prim ω (k + 1)) _ ρ m c = _
      exact if_nots hisi hall
    refine ret_e ?_
    have ls : evE cfg (run cfg prim ω (k + 1)) (.lset (.var 0)) ρ m c = .ok (.int (js.length : Nat)) m c := by
      rw [evE, bnd v0]
      simp only [mosW, vwTup, strs_mo]
      rw [if_pos ⟨nodup_mo hn, by rw [List.length_map]; omega⟩, List.length_map]
    have ln : evE cfg (run cfg prim ω (k + 1)) (.blt false .len (.cons (.var 0) .nil)) ρ m c = .ok (.int (js.length : Nat)) m c := by
      rw [evE, evEs, bnd v0, evEs]
      show bltW false .len [.tup (js.map Mo.w)] m c = _
      rw [ev_lenT, List.length_map]
    exact cmp_e ls ln (by rw [ev_eqI, decide_eq_true rfl])
  rw [e]; exact exit_rt hm rfl
theorem inW_mos {j : Mo} : ∀ l : List Mo, inW j.w (l.map Mo.w) = decide (j ∈ l)
  | [] => by simp [inW]
  | x :: l => by
    have ih := inW_mos (j := j) l
    unfold inW at ih ⊢
    rw [List.map_cons, List.any_cons, ih]
    have h : flatEq x.w j.w = decide (x = j) := by
      show decide (Str.ofString x.s = Str.ofString j.s) = _
      rw [decide_eq_decide]
      exact ⟨mo_inj, fun h => by rw [h]⟩
    rw [h]
    by_cases e : j = x
    · subst e; simp
    · have e' : ¬ x = j := fun h => e h.symm
      simp [e, e']
theorem flat_mos (l : List Mo) : (l.map Mo.w).all flatW = true := by
  simp only [List.all_eq_true, List.mem_map]
  rintro w ⟨i, _, rfl⟩
  rfl
theorem isIn_mo {j : Mo} {js : List Mo} : cmpW .isIn j.w (mosW js) m = some (decide (j ∈ js)) := by
  show (if flatW j.w && (js.map Mo.w).all flatW then some (inW j.w (js.map Mo.w)) else none) = _
  rw [flat_mos, inW_mos]; rfl
def Bk.mix (b g : Bk) (js : List Mo) : Bk := ⟨b.lim, fun i => if i ∈ js then g.r i else b.r i⟩
def Bk.withL (b : Bk) (n : Int) : Bk := ⟨n, b.r⟩
theorem mix_ok {js : List Mo} (hb : b.ok) (hg : g.ok) : (b.mix g js).ok := fun i => by
  show (if i ∈ js then g.r i else b.r i).length ≤ 6
  split
  · exact hg i
  · exact hb i
theorem evS2 (x : Int) (r : List W) {cl : Call} {e1 e2 : E} {ρ : Lw.Env} (h1 : evE cfg cl e1 ρ m c = .ok (.int x) m c) (h2 : evE cfg cl e2 ρ m c = .ok (.tup r) m c) : evEs cfg cl (.cons e1 (.star e2 .nil)) ρ m c = .ok (.int x :: r) m c := by
  rw [evEs, bnd h1, evEs, bnd h2]
  simp only [vwTup, evEs, R.bind_ok, List.append_nil]
theorem make_book {cl : Call} {es : Es} {ρ : Lw.Env} (hcl : cl = run cfg prim ω (k + 2)) (he : evEs cfg cl es ρ m c = .ok (.int b.lim :: b.rows) m c) (hm : OkM m) (hb : b.ok) (h1 : 1 ≤ b.lim) (h2 : b.lim ≤ 30) : evE cfg cl (.make 0 true es) ρ m c = .ok b.w (m ++ [.dead]) c := by
  subst hcl
  rw [evE]
  simp only [cls_Book]
  rw [bnd he]
  have hi := book_init (ω := ω) (k := k) (pre := m) (c := c) (b := b) hm hb h1 h2
  have hi' : run cfg prim ω (k + 2) 12 (.ptr m.length :: .int b.lim :: b.rows) (m ++ [.ins 0 [] []]) c = _ := hi
  rw [hi']
  simp only [reOk, R.bind_ok, if_true, frzR_book]
theorem taking_run {js : List Mo} (hm : OkM m) (hb : b.ok) (hg : g.ok) (hn : js.Nodup) (hl : js.length ≤ 100) (h1 : 1 ≤ b.lim) (h2 : b.lim ≤ 30) : run cfg prim ω (k + 3) 16 [b.w, g.w, mosW js] m c = .ok (b.mix g js).w m c := by
  rw [r_Book_taking rfl]
  let ρ (e3 e4 : Option W) : Lw.Env := [some b.w, some g.w, some (mosW js), e3, e4]
  have q1 : run cfg prim ω (k + 2) 22 [mosW js] m c = .ok (.bl true) m c := are_moments_run hm hn hl
  have e : exSs cfg (run cfg prim ω (k + 2)) b_Book_taking (startE 5 [b.w, g.w, mosW js]) m c = .ok (.rt (b.mix g js).w) (m ++ [.dead]) c := by
    unfold b_Book_taking
    refine ss_cons (ρ' := ρ none none) (m' := m) (c' := c) (if_not (ev_call1 (x1 := mosW js) (ρ := ρ none none) rfl q1)) ?_
    refine ss_cons (ρ' := ρ (some (.lst (b.mix g js).rows)) none) (m' := m) (c' := c) (asg_e (i := 3) (ρ := ρ none none) ?_) ?_
    · have h := lc_pure (gd := fun _ => true) (bt := fun w => bindTg [4] false w (wipeE (ρ none none) [4])) (cond := fun ρ m c => .ok true m c) (elt := fun ρ m c => evE cfg (run cfg prim ω (k + 2)) b_Book_taking_E1 ρ m c) (m := m) (c := c) Mo.w (fun _ => true) (fun i => rW ((b.mix g js).r i)) allMo rfl
        (fun i _ => ⟨ρ none (some i.w), rfl, rfl, fun _ => by
          unfold b_Book_taking_E1
          have ht : evT cfg (run cfg prim ω (k + 2)) (.e (.cmp .isIn (.var 4) (.var 2))) (ρ none (some i.w)) m c = .ok (decide (i ∈ js)) m c := t_e (cmp_e (x := i.w) (y := mosW js) rfl rfl isIn_mo)
          have hmth : ∀ (x : Bk) (e : E), evE cfg (run cfg prim ω (k + 2)) e (ρ none (some i.w)) m c = .ok x.w m c → evE cfg (run cfg prim ω (k + 2)) (.meth 11 e (.cons (.var 4) .nil)) (ρ none (some i.w)) m c = .ok (rW (x.r i)) m c := fun x e he => by
            have v4 : evE cfg (run cfg prim ω (k + 2)) (.var 4) (ρ none (some i.w)) m c = .ok i.w m c := rfl
            rw [evE, bnd he]
            simp only [fn_Book_rule, vw_bk, if_true]
            rw [evEs, bnd v4, evEs]
            simp only [R.bind_ok, rule_run hm, reOk]
          rw [evE, bnd ht]
          show _ = R.ok (rW (if i ∈ js then g.r i else b.r i)) m c
          by_cases hij : i ∈ js
          · rw [decide_eq_true hij, if_pos hij]
            exact hmth g _ rfl
          · rw [decide_eq_false hij, if_neg hij]
            exact hmth b _ rfl⟩) [] (by rw [sizeLine_eq]; decide)
      have hf : allMo.filter (fun _ => true) = allMo := rfl
      rw [hf, List.nil_append] at h
      have hit : evIt cfg (run cfg prim ω (k + 2)) (.tup (.glob 1)) (ρ none none) m c = .ok ⟨allMo.map Mo.w, fun _ => true⟩ m c := rfl
      have hy : (fun ρ m c => evT cfg (run cfg prim ω (k + 2)) .yes ρ m c) = fun (ρ : Lw.Env) (m : Mem) (c : Nat) => R.ok true m c := by funext ρ m c; rw [evT]
      rw [evE, bnd hit, hy]
      refine (bnd (lcn h) _).trans ?_
      exact mkL_ok (by rw [List.length_map, sizeLine_eq]; decide)
    refine ret_e ?_
    exact make_book (k := k) (b := b.mix g js) rfl (evS b.lim (b.mix g js).rows (by simp only [ρ, exSs, exS, evE, evEs, evT, evTg, evTgs, evIt, evO, R.bind_ok, Lit.w, startE, List.map_cons, List.map_nil, List.length_cons, List.length_nil, List.replicate, List.cons_append, List.nil_append, List.append_nil, List.getElem?_cons_succ, List.getElem?_cons_zero, List.set_cons_succ, List.set_cons_zero, reOk, ↓reduceIte, Nat.reduceAdd, Nat.reduceSub, ev_tru, blR_some, vw_int, vw_bl, vw_str, vwTup, vw_lst, vw_obj, vw_non, isLstW_lst, Bool.false_eq_true, Bool.not_true, Bool.not_false, decide_true, decide_false, decide_eq_true_eq, ev_int, ev_intb, ev_add, ev_gt, ev_lt, ev_ge, ev_le, ev_eqI, ev_neI, ev_eqS, ev_neS, String.reduceEq, mkT0, mkT1, mkT2, mkT3, mkT4, mkT5, mkT6, ev_notN_int, ev_notN_non, Nat.add_zero, idx0, idx1, idx2, idx3, idx4, isLst_lst, isTup_tup, isStr_str, isBl_bl, isInt_int, isBl_int, isBl_non, ev_lenT, ev_lenL, gdL_lst, exit_k, cst0, cst1, cst2, cst3, cst4, cst5, cst6, cst7, cst8, Int.reduceEq, vw_bk, fo_lim]) rfl) hm (mix_ok hb hg) h1 h2
  rw [e]
  exact exit_rt_app hm (cl_mono 5 12 _ (by decide) cl_b)
theorem with_days_run {n : Int} (hm : OkM m) (hb : b.ok) (h1 : 1 ≤ n) (h2 : n ≤ 30) : run cfg prim ω (k + 3) 15 [b.w, .int n] m c = .ok (b.withL n).w m c := by
  rw [r_Book_with_days rfl]
  have e : exSs cfg (run cfg prim ω (k + 2)) b_Book_with_days (startE 2 [b.w, .int n]) m c = .ok (.rt (b.withL n).w) (m ++ [.dead]) c := by
    unfold b_Book_with_days
    refine ret_e ?_
    exact make_book (k := k) (b := b.withL n) rfl (evS2 n (b.withL n).rows rfl (by simp only [exSs, exS, evE, evEs, evT, evTg, evTgs, evIt, evO, R.bind_ok, Lit.w, startE, List.map_cons, List.map_nil, List.length_cons, List.length_nil, List.replicate, List.cons_append, List.nil_append, List.append_nil, List.getElem?_cons_succ, List.getElem?_cons_zero, List.set_cons_succ, List.set_cons_zero, reOk, ↓reduceIte, Nat.reduceAdd, Nat.reduceSub, ev_tru, blR_some, vw_int, vw_bl, vw_str, vwTup, vw_lst, vw_obj, vw_non, isLstW_lst, Bool.false_eq_true, Bool.not_true, Bool.not_false, decide_true, decide_false, decide_eq_true_eq, ev_int, ev_intb, ev_add, ev_gt, ev_lt, ev_ge, ev_le, ev_eqI, ev_neI, ev_eqS, ev_neS, String.reduceEq, mkT0, mkT1, mkT2, mkT3, mkT4, mkT5, mkT6, ev_notN_int, ev_notN_non, Nat.add_zero, idx0, idx1, idx2, idx3, idx4, isLst_lst, isTup_tup, isStr_str, isBl_bl, isInt_int, isBl_int, isBl_non, ev_lenT, ev_lenL, gdL_lst, exit_k, cst0, cst1, cst2, cst3, cst4, cst5, cst6, cst7, cst8, Int.reduceEq, vw_bk, fo_row]; rfl)) hm hb h1 h2
  rw [e]
  exact exit_rt_app hm (cl_mono 5 12 _ (by decide) cl_b)
end
end K10


set_option maxHeartbeats 4000000
namespace K10
open PySem Lw
section
variable {ω : Nat → Nat} {b g x : Bk} {c k p : Nat} {m m0 : Mem}
theorem row_at (i : Mo) : idxW m (.lst b.rows) (.int (i.i : Int)) = some (rW (b.r i)) := by
  cases i
  · exact i8_0
  · exact i8_1
  · exact i8_2
  · exact i8_3
  · exact i8_4
  · exact i8_5
  · exact i8_6
  · exact i8_7
/-! books made in five ways -/
theorem makeK_book {cl : Call} {es kes : Es} {ks : List Str} {ord : List Nat} {ws zs : List W} {ρ : Lw.Env} (hcl : cl = run cfg prim ω (k + 2)) (he : evEs cfg cl es ρ m c = .ok ws m c) (hk : evEs cfg cl kes ρ m c = .ok zs m c)
    (hs : selL ((W.ptr m.length :: ws) ++ zs ++ List.replicate 8 (.tup [])) ord = some (.ptr m.length :: .int x.lim :: x.rows)) (hm : OkM m) (hb : x.ok) (h1 : 1 ≤ x.lim) (h2 : x.lim ≤ 30) : evE cfg cl (.makeK 0 true 8 ks ord es kes) ρ m c = .ok x.w (m ++ [.dead]) c := by
  subst hcl
  rw [evE]
  simp only [cls_Book]
  rw [bnd he, bnd hk, hs]
  have hi := book_init (ω := ω) (k := k) (pre := m) (c := c) (b := x) hm hb h1 h2
  have hi' : run cfg prim ω (k + 2) 12 (.ptr m.length :: .int x.lim :: x.rows) (m ++ [.ins 0 [] []]) c = _ := hi
  simp only []
  rw [hi']
  simp only [reOk, R.bind_ok, if_true, frzR_book]
theorem slcT {cl : Call} {e : E} {lo hi : O} {ρ : Lw.Env} {l : List Mo} {a z : Option Int} {js : List Mo} (h1 : evE cfg cl e ρ m c = .ok (mosW l) m c) (h2 : evO cfg cl lo ρ m c = .ok a m c) (h3 : evO cfg cl hi ρ m c = .ok z m c) (h : cutW (l.map Mo.w) a z = js.map Mo.w) (hl : js.length ≤ 1000) : evE cfg cl (.slc false e lo hi) ρ m c = .ok (mosW js) m c := by
  rw [evE, bnd h1, bnd h2, bnd h3]
  show mkT (cutW (l.map Mo.w) a z) m c = _
  rw [h]
  exact mkT_ok (le_sl (by rw [List.length_map]; omega))
theorem oN {cl : Call} {ρ : Lw.Env} : evO cfg cl .none ρ m c = .ok none m c := by rw [evO]
theorem oS {cl : Call} {e : E} {z : Int} {ρ : Lw.Env} (h : evE cfg cl e ρ m c = .ok (.int z) m c) : evO cfg cl (.some e) ρ m c = .ok (some z) m c := by rw [evO, bnd h]
theorem idx_mo {i : Mo} : idxW m (mosW allMo) (.int (i.i : Int)) = some i.w := by cases i <;> kernel_rfl
theorem mo_of {n : Nat} (h : n < 8) : ∃ i : Mo, i.i = n := by
  match n, h with
  | 0, _ => exact ⟨.given, rfl⟩
  | 1, _ => exact ⟨.laid, rfl⟩
  | 2, _ => exact ⟨.left, rfl⟩
  | 3, _ => exact ⟨.opened, rfl⟩
  | 4, _ => exact ⟨.taken, rfl⟩
  | 5, _ => exact ⟨.gone, rfl⟩
  | 6, _ => exact ⟨.late, rfl⟩
  | 7, _ => exact ⟨.power, rfl⟩
theorem nd_all : allMo.Nodup := by decide
def bk0 (lim : Int) : Bk := ⟨lim, fun _ => []⟩
theorem bk0_ok {lim : Int} : (bk0 lim).ok := fun _ => Nat.zero_le _
section
variable {cl : Call} {m' : Mem} {c' : Nat} {ρ : Lw.Env}
theorem es_nil : evEs cfg cl .nil ρ m c = .ok [] m c := by rw [evEs]
theorem es_cons {e : E} {es : Es} {x : W} {xs : List W} {m1 : Mem} {c1 : Nat} (h1 : evE cfg cl e ρ m c = .ok x m1 c1) (h2 : evEs cfg cl es ρ m1 c1 = .ok xs m' c') : evEs cfg cl (.cons e es) ρ m c = .ok (x :: xs) m' c' := by
  rw [evEs, bnd h1, bnd h2]
theorem ev_tupE {es : Es} {xs : List W} (h : evEs cfg cl es ρ m c = .ok xs m' c') (hl : xs.length ≤ 100) : evE cfg cl (.tup es) ρ m c = .ok (.tup xs) m' c' := by
  rw [evE, bnd h]
  exact mkT_ok (le_sl (by omega))
theorem ev_lstE {es : Es} {xs : List W} (h : evEs cfg cl es ρ m c = .ok xs m' c') (hl : xs.length ≤ 100) : evE cfg cl (.lst false es) ρ m c = .ok (.lst xs) m' c' := by
  rw [evE, bnd h]
  exact mkL_ok (le_sl (by omega))
theorem cn_i {z : Int} : evE cfg cl (.con (.int z)) ρ m c = .ok (.int z) m c := by rw [evE]; rfl
theorem cn_s {z : String} : evE cfg cl (.con (.str (Str.ofString z))) ρ m c = .ok (.str (Str.ofString z)) m c := by rw [evE]; rfl
theorem cn_b {z : Bool} : evE cfg cl (.con (.bl z)) ρ m c = .ok (.bl z) m c := by rw [evE]; rfl
theorem unp2 {e : E} {ρ : Lw.Env} {x1 x2 : W} {m m' : Mem} {c c' i j : Nat} (h : evE cfg cl e ρ m c = .ok (.tup [x1, x2]) m' c') :
    exS cfg cl (.unp [.name i, .name j] e) ρ m c = .ok (.nx ((ρ.set i (some x1)).set j (some x2))) m' c' := by
  rw [exS, bnd h]; rfl
theorem if_ret {t : T} {x y r : Ss} {w : W} {m1 : Mem} {c1 : Nat} (ht : evT cfg cl t ρ m c = .ok true m1 c1) (h : exSs cfg cl x ρ m1 c1 = .ok (.rt w) m' c') : exSs cfg cl (.cons (.ife t x y) r) ρ m c = .ok (.rt w) m' c' := by
  rw [exSs, bnd (show exS cfg cl (.ife t x y) ρ m c = .ok (.rt w) m' c' by rw [exS, bnd ht]; exact h)]
theorem if_skip {t : T} {x r : Ss} {res : R Fl} {m1 : Mem} {c1 : Nat} (ht : evT cfg cl t ρ m c = .ok false m1 c1) (h : exSs cfg cl r ρ m1 c1 = res) : exSs cfg cl (.cons (.ife t x .nil) r) ρ m c = res := by
  rw [exSs, bnd (show exS cfg cl (.ife t x .nil) ρ m c = .ok (.nx ρ) m1 c1 by rw [exS, bnd ht]; show exSs cfg cl .nil ρ m1 c1 = _; rw [exSs])]
  exact h
theorem lc_draws {α : Type} {f : α → W} {bt : W → Option Lw.Env} {elt : Lw.Env → Mem → Nat → R W} (hb : ∀ w, ∃ ρ, bt w = some ρ) (he : ∀ ρ' w c, bt w = some ρ' → c + 100 ≤ 1000000 → ∃ a, elt ρ' m c = .ok (f a) m (c + 1)) :
    ∀ (xs acc : List W) (c : Nat), c + xs.length + 100 ≤ 1000000 → acc.length + xs.length ≤ 1000 → ∃ l : List α, l.length = xs.length ∧ lcGo (fun _ => true) bt (fun ρ m c => .ok true m c) elt xs acc m c = .ok (acc ++ l.map f) m (c + xs.length)
  | [], acc, c, _, _ => ⟨[], rfl, by rw [lcGo, if_pos rfl, List.map_nil, List.append_nil]; rfl⟩
  | x :: xs, acc, c, hc, ha => by
    simp only [List.length_cons] at hc ha
    obtain ⟨ρ, hρ⟩ := hb x
    obtain ⟨a, h1⟩ := he ρ x c hρ (by omega)
    obtain ⟨l, i1, i2⟩ := lc_draws hb he xs (acc ++ [f a]) (c + 1) (by omega) (by simp; omega)
    refine ⟨a :: l, by simp [i1], ?_⟩
    rw [lcGo, if_pos rfl, hρ]
    simp only [R.bind_ok, if_true]
    rw [bnd h1, if_pos (by rw [sizeLine_eq]; omega), i2]
    simp only [List.map_cons, List.append_assoc, List.cons_append, List.nil_append, List.length_cons]
    rw [show c + 1 + xs.length = c + (xs.length + 1) by omega]
end
section
variable {y : Bk} {cl : Call} {e1 e2 e3 : E} {ρ : Lw.Env} {m1 : Mem} {js : List Mo}
theorem mt_take (hcl : cl = run cfg prim ω (k + 3)) (q1 : evE cfg cl e1 ρ m c = .ok y.w m1 c) (q2 : evE cfg cl e2 ρ m1 c = .ok b.w m1 c) (q3 : evE cfg cl e3 ρ m1 c = .ok (mosW js) m1 c) (hm1 : OkM m1) (hy : y.ok) (hb : b.ok) (hn : js.Nodup) (hl : js.length ≤ 100) (y1 : 1 ≤ y.lim) (y2 : y.lim ≤ 30) :
    evE cfg cl (.meth 16 e1 (.cons e2 (.cons e3 .nil))) ρ m c = .ok (y.mix b js).w m1 c := by
  have hr := taking_run (ω := ω) (k := k) (c := c) (b := y) (g := b) (js := js) hm1 hy hb hn hl y1 y2
  rw [← hcl] at hr
  rw [evE, bnd q1]
  simp only [fn_Book_taking, vw_bk, if_true]
  rw [evEs, bnd q2, evEs, bnd q3, evEs]
  simp only [R.bind_ok, hr]
  rfl
theorem mt_takeK {ks : List Str} (hcl : cl = run cfg prim ω (k + 3)) (q1 : evE cfg cl e1 ρ m c = .ok y.w m1 c) (q2 : evE cfg cl e2 ρ m1 c = .ok b.w m1 c) (q3 : evE cfg cl e3 ρ m1 c = .ok (mosW js) m1 c) (hm1 : OkM m1) (hy : y.ok) (hb : b.ok) (hn : js.Nodup) (hl : js.length ≤ 100) (y1 : 1 ≤ y.lim) (y2 : y.lim ≤ 30) :
    evE cfg cl (.methK 16 ks [0, 1] e1 (.cons e2 (.cons e3 .nil))) ρ m c = .ok (y.mix b js).w m1 c := by
  have hr := taking_run (ω := ω) (k := k) (c := c) (b := y) (g := b) (js := js) hm1 hy hb hn hl y1 y2
  rw [← hcl] at hr
  rw [evE, bnd q1]
  simp only [fn_Book_taking, vw_bk, if_true]
  rw [evEs, bnd q2, evEs, bnd q3, evEs]
  have hs : selL [b.w, mosW js] [0, 1] = some [b.w, mosW js] := rfl
  simp only [R.bind_ok, hs, hr]
  rfl
theorem mt_days {n : Int} (hcl : cl = run cfg prim ω (k + 3)) (q1 : evE cfg cl e1 ρ m c = .ok y.w m1 c) (q2 : evE cfg cl e2 ρ m1 c = .ok (.int n) m1 c) (hm1 : OkM m1) (hy : y.ok) (y1 : 1 ≤ n) (y2 : n ≤ 30) :
    evE cfg cl (.meth 15 e1 (.cons e2 .nil)) ρ m c = .ok (y.withL n).w m1 c := by
  have hr := with_days_run (ω := ω) (k := k) (c := c) (b := y) (n := n) hm1 hy y1 y2
  rw [← hcl] at hr
  rw [evE, bnd q1]
  simp only [fn_Book_with_days, vw_bk, if_true]
  rw [evEs, bnd q2, evEs]
  simp only [R.bind_ok, hr]
  rfl
theorem mt_rule {j : Mo} {l : List Act} (hcl : cl = run cfg prim ω (k + 3)) (q1 : evE cfg cl e1 ρ m c = .ok y.w m1 c) (q2 : evE cfg cl e2 ρ m1 c = .ok j.w m1 c) (q3 : evE cfg cl e3 ρ m1 c = .ok (rW l) m1 c) (hm1 : OkM m1) (hy : y.ok) (hl : l.length ≤ 6) (y1 : 1 ≤ y.lim) (y2 : y.lim ≤ 30) :
    evE cfg cl (.meth 17 e1 (.cons e2 (.cons e3 .nil))) ρ m c = .ok (y.withR j l).w m1 c := by
  have hr := with_run (ω := ω) (k := k) (c := c) (m := m1) (b := y) (j := j) (l := l) hm1 hy hl y1 y2
  rw [← hcl] at hr
  rw [evE, bnd q1]
  simp only [fn_Book_with_rule, vw_bk, if_true]
  rw [evEs, bnd q2, evEs, bnd q3, evEs]
  simp only [R.bind_ok, hr]
  rfl
end
end
end K10


set_option maxHeartbeats 4000000
namespace K10
open PySem Lw
open PySem.PyData (strOk)
section
variable {ω : Nat → Nat} {b g x : Bk} {c k p : Nat} {m m' : Mem} {c' : Nat} {cl : Call} {ρ : Lw.Env}
/-! texts -/
theorem sOk_app {a b : Str} (ha : strOk a = true) (hb : strOk b = true) : strOk (a ++ b) = true := by
  unfold strOk at *
  rw [Str.cps_append]
  rw [Array.all_append, ha, hb]; rfl
theorem sOk_join {a : Str} (ha : strOk a = true) : ∀ ys : List Str, (∀ y ∈ ys, strOk y = true) → strOk (Str.join a ys) = true
  | [], _ => by
    show strOk Str.empty = true
    simp [strOk, Str.empty]
  | [x], h => h x (by simp)
  | x :: y :: r, h => by
    show strOk (x ++ a ++ Str.join a (y :: r)) = true
    exact sOk_app (sOk_app (h x (by simp)) ha) (sOk_join ha (y :: r) fun z hz => h z (List.mem_cons_of_mem _ hz))
theorem len_join {a : Str} : ∀ ys : List Str, (Str.join a ys).length ≤ (ys.map (·.length)).sum + ys.length * a.length
  | [] => by
    show Str.empty.length ≤ _
    exact Nat.zero_le _
  | [x] => by
    show x.length ≤ x.length + 0 + 1 * a.length
    omega
  | x :: y :: r => by
    show (x ++ a ++ Str.join a (y :: r)).length ≤ _
    have h := len_join (a := a) (y :: r)
    rw [Str.length_append, Str.length_append]
    simp only [List.map_cons, List.sum_cons, List.length_cons, Nat.succ_mul] at h ⊢
    omega
def lnS (i : Mo) (l : List Act) : List Str := (Str.ofString i.s ++ Str.ofString ":") :: l.map fun a => Str.ofString a.s
def lineS (i : Mo) (l : List Act) : Str := Txt.join (Str.ofString " ") (lnS i l)
def headS (z : Int) : Str := Str.ofString "days " ++ Str.ofString (toString z)
def txL (b : Bk) : List Str := headS b.lim :: allMo.map fun i => lineS i (b.r i)
def TX (b : Bk) : Str := Txt.join (Str.ofString "\n") (txL b)
theorem len_mo {i : Mo} : (Str.ofString i.s).length ≤ 6 := by cases i <;> decide
theorem len_act {a : Act} : (Str.ofString a.s).length ≤ 4 := by cases a <;> decide
theorem len_1 : (Str.ofString ":").length = 1 ∧ (Str.ofString " ").length = 1 ∧ (Str.ofString "\n").length = 1 ∧ (Str.ofString "days ").length = 5 := by decide
theorem len_num {z : Int} (h0 : 0 ≤ z) (h1 : z ≤ 30) : (Str.ofString (toString z)).length ≤ 10 := by
  have h : ∀ n : Fin 31, (Str.ofString (toString ((n.val : Nat) : Int))).length ≤ 10 := by decide +kernel
  have := h ⟨z.toNat, by omega⟩
  have e : ((z.toNat : Nat) : Int) = z := by omega
  rw [← e]
  exact this
theorem lnS_le {i : Mo} {l : List Act} : ∀ y ∈ lnS i l, y.length ≤ 7 := by
  intro y hy
  rcases List.mem_cons.mp hy with rfl | hy
  · rw [Str.length_append, len_1.1]
    have := len_mo (i := i)
    omega
  · obtain ⟨a, _, rfl⟩ := List.mem_map.mp hy
    exact Nat.le_trans len_act (by decide)
theorem lnS_len {i : Mo} {l : List Act} : (lnS i l).length = l.length + 1 := by unfold lnS; rw [List.length_cons, List.length_map]
theorem lnS_fit {i : Mo} {l : List Act} (h : l.length ≤ 6) : ((lnS i l).map (·.length)).sum + (lnS i l).length * (Str.ofString " ").length ≤ 56 := by
  have h1 := StrLaws.sumLen_le (B := 7) (lnS i l) lnS_le
  have h2 := lnS_len (i := i) (l := l)
  rw [h2] at h1
  rw [len_1.2.1, h2]
  omega
theorem lineS_len {i : Mo} {l : List Act} (h : l.length ≤ 6) : (lineS i l).length ≤ 56 := by
  unfold lineS
  rw [show Txt.join (Str.ofString " ") (lnS i l) = Str.join (Str.ofString " ") (lnS i l) from StrLaws.glued_eq_join _ _]
  exact Nat.le_trans (len_join _) (lnS_fit h)
theorem headS_len {z : Int} (h0 : 0 ≤ z) (h1 : z ≤ 30) : (headS z).length ≤ 15 := by
  unfold headS
  rw [Str.length_append, len_1.2.2.2]
  have := len_num h0 h1
  omega
theorem txL_fit (hb : b.ok) (h0 : 1 ≤ b.lim) (h1 : b.lim ≤ 30) : ((txL b).map (·.length)).sum + (txL b).length * (Str.ofString "\n").length ≤ 1000 := by
  have h := StrLaws.sumLen_le (B := 60) (txL b) (fun y hy => by
    rcases List.mem_cons.mp hy with rfl | hy
    · exact Nat.le_trans (headS_len (by omega) h1) (by decide)
    · obtain ⟨i, _, rfl⟩ := List.mem_map.mp hy
      exact Nat.le_trans (lineS_len (hb i)) (by decide))
  have hl : (txL b).length = 9 := rfl
  rw [hl] at h
  rw [len_1.2.2.1, hl]
  omega
theorem ok_line {i : Mo} {l : List Act} : strOk (lineS i l) = true := by
  unfold lineS
  rw [show Txt.join (Str.ofString " ") (lnS i l) = Str.join (Str.ofString " ") (lnS i l) from StrLaws.glued_eq_join _ _]
  refine sOk_join strOk_ofS _ fun y hy => ?_
  rcases List.mem_cons.mp hy with rfl | hy
  · exact sOk_app strOk_ofS strOk_ofS
  · obtain ⟨a, _, rfl⟩ := List.mem_map.mp hy
    exact strOk_ofS
theorem ok_TX : strOk (TX b) = true := by
  unfold TX
  rw [show Txt.join (Str.ofString "\n") (txL b) = Str.join (Str.ofString "\n") (txL b) from StrLaws.glued_eq_join _ _]
  refine sOk_join strOk_ofS _ fun y hy => ?_
  rcases List.mem_cons.mp hy with rfl | hy
  · exact sOk_app strOk_ofS strOk_ofS
  · obtain ⟨a, _, rfl⟩ := List.mem_map.mp hy
    exact ok_line
theorem eq_text {s : Str} (h : strOk s = true) : eqW m (.str s) (.str s) = some true := eq_refl (d := .str s) rfl rfl (by unfold SeqAt.shaped; simp [PyData.canLay0, h, PyData.depth])
theorem strsOf_map : ∀ ys : List Str, strsOf (ys.map W.str) = some ys
  | [] => rfl
  | y :: ys => by rw [List.map_cons, strsOf, strsOf_map ys]; rfl
theorem e_join {z : String} {e : E} {ys : List Str} (h : evE cfg cl e ρ m c = .ok (.lst (ys.map W.str)) m' c') (hf : (ys.map (·.length)).sum + ys.length * (Str.ofString z).length ≤ 10000) : evE cfg cl (.sjoin (.con (.str (Str.ofString z))) e) ρ m c = .ok (.str (Txt.join (Str.ofString z) ys)) m' c' := by
  rw [evE, bnd (cn_s (z := z))]
  simp only []
  rw [bnd h]
  unfold sjoinW joinS
  simp only [vw, strsOf_map]
  rw [if_pos (by omega)]
theorem add_s {a e : E} {x y : Str} (h1 : evE cfg cl a ρ m c = .ok (.str x) m c) (h2 : evE cfg cl e ρ m c = .ok (.str y) m' c') (hl : x.length + y.length ≤ 1000) : evE cfg cl (.bin false .add a e) ρ m c = .ok (.str (x ++ y)) m' c' := by
  rw [evE, bnd h1, bnd h2]
  have h : binW false .add (.str x) (.str y) m' c' = if x.length + y.length ≤ sizeLine then .ok (.str (x ++ y)) m' c' else .no := rfl
  rw [h, if_pos (by rw [sizeLine_eq]; omega)]
/-- f'..' of two parts -/
theorem e_f2 {e1 e2 : E} {w1 w2 : W} {x y : Str} (h1 : evE cfg cl e1 ρ m c = .ok w1 m c) (h2 : evE cfg cl e2 ρ m c = .ok w2 m' c') (f1 : fmtW w1 = some x) (f2 : fmtW w2 = some y) (hl : x.length + y.length ≤ 1000) : evE cfg cl (.fstr (.cons e1 (.cons e2 .nil))) ρ m c = .ok (.str (x ++ y)) m' c' := by
  rw [evE, evFs, bnd h1]
  simp only [f1]
  rw [Str.empty_append, if_pos (by rw [sizeLine_eq]; omega), evFs, bnd h2]
  simp only [f2]
  rw [if_pos (by rw [Str.length_append, sizeLine_eq]; omega), evFs]
theorem fmt_s {s : Str} (h : s.length ≤ 1000) : fmtW (.str s) = some s := by
  show (if s.length ≤ sizeLine then some s else none) = _
  rw [if_pos (by rw [sizeLine_eq]; omega)]
theorem fmt_i {z : Int} (h0 : 0 ≤ z) (h1 : z ≤ 30) : fmtW (.int z) = some (Str.ofString (toString z)) := by
  show (if sizeI z < 1920 then some (Str.ofString (toString z)) else none) = _
  rw [if_pos (Nat.lt_of_lt_of_le (sizeI_bits 100 (bits_of h0 (by omega)) (by decide)) (by decide))]
theorem str_i {z : Int} (h0 : 0 ≤ z) (h1 : z ≤ 30) : bltW false .str [.int z] m c = .ok (.str (Str.ofString (toString z))) m c := by
  have h : bltW false .str [.int z] m c = if sizeI z < 1920 then .ok (.str (Str.ofString (toString z))) m c else .no := rfl
  rw [h, if_pos (Nat.lt_of_lt_of_le (sizeI_bits 100 (bits_of h0 (by omega)) (by decide)) (by decide))]
theorem mo_lst {i : Mo} : idxW m (.lst (allMo.map Mo.w)) (.int (i.i : Int)) = some i.w := by cases i <;> kernel_rfl
theorem row_t (i : Mo) : idxW m (.tup b.rows) (.int (i.i : Int)) = some (rW (b.r i)) := by cases i <;> kernel_rfl
theorem rng8 : rngW 0 8 = allMo.map (fun i : Mo => W.int (i.i : Int)) := rfl
theorem strs_act {l : List Act} : l.map Act.w = (l.map fun a => Str.ofString a.s).map W.str := by rw [List.map_map]; rfl
def Act.pd (a : Act) : PyData := .str (Str.ofString a.s)
def rowPd (l : List Act) : PyData := .tuple (l.map Act.pd)
theorem eq_row : eqW m b.row b.row = some true := by
  have h1 : ∀ l : List Act, ∀ j, dat m (j + 2) (rW l) = some (rowPd l) := fun l j => dat_tup (datL_map l fun _ _ => rfl)
  have c1 : ∀ l : List Act, (rowPd l).canLay0 = true := fun l => by
    show PyData.canLayAll0 (l.map Act.pd) = true
    exact canLay_all (fun a => by show strOk (Str.ofString a.s) = true; exact strOk_ofS) l
  have d1 : ∀ l : List Act, (rowPd l).depth ≤ 1 := fun l => by
    show PyData.depthAll (l.map Act.pd) + 1 ≤ 1
    have := depth_all (n := 0) (g := Act.pd) (fun a => Nat.le_refl _) l
    omega
  have hd : dat m 30 b.row = some (.tuple ([b.r .given, b.r .laid, b.r .left, b.r .opened, b.r .taken, b.r .gone, b.r .late, b.r .power].map rowPd)) :=
    dat_tup (datL_map (f := rW) [b.r .given, b.r .laid, b.r .left, b.r .opened, b.r .taken, b.r .gone, b.r .late, b.r .power] fun l _ => h1 l _)
  refine eq_refl hd hd ?_
  unfold SeqAt.shaped
  rw [Bool.and_eq_true]
  refine ⟨canLay_all c1 _, ?_⟩
  have := depth_all (n := 1) (g := rowPd) d1 [b.r .given, b.r .laid, b.r .left, b.r .opened, b.r .taken, b.r .gone, b.r .late, b.r .power]
  refine decide_eq_true ?_
  show PyData.depthAll _ + 1 ≤ _
  omega
end
end K10


set_option maxHeartbeats 4000000
namespace K10
open PySem Lw
section
variable {ω : Nat → Nat} {b g x : Bk} {c k p : Nat} {m m' : Mem} {c' : Nat} {cl : Call} {ρ : Lw.Env}
def PW (b : Bk) : W := .tup [.int b.lim, .tup b.rows]
theorem tupL {e : E} {ws : List W} (h : evE cfg cl e ρ m c = .ok (.lst ws) m' c') (hl : ws.length ≤ 1000) : evE cfg cl (.blt false .tuple (.cons e .nil)) ρ m c = .ok (.tup ws) m' c' := by
  rw [evE, bnd (es_cons h es_nil)]
  show mkT ws m' c' = _
  exact mkT_ok (le_sl (by omega))
theorem rule10 (hm : OkM m) (hc : c + 150 ≤ 1000000) : ∃ (l : List Act) (c' : Nat), l.length ≤ 6 ∧ c' ≤ c + 10 ∧ run cfg prim ω (k + 2) 18 [.tok] m c = .ok (rW l) m c' := by
  obtain ⟨v, v0, v1, hv⟩ := drop_run (ω := ω) (k := k) (m := m) (c := c) (i := 7) (by decide) (by decide) (by omega)
  obtain ⟨n, rfl⟩ : ∃ n : Nat, v = (n : Int) := ⟨v.toNat, by omega⟩
  rw [r_law_rule rfl]
  obtain ⟨cl, hcl⟩ : ∃ cl, cl = run cfg prim ω (k + 1) := ⟨_, rfl⟩
  rw [← hcl] at hv ⊢
  let X (e2 : Option W) : Lw.Env := [some .tok, some (.lst (allActs.map Act.w)), e2]
  obtain ⟨l, hl, hlc⟩ := lc_draws (m := m) (f := Act.w) (bt := fun w => bindTg [2] false w (wipeE (X none) [2])) (elt := fun ρ m c => evE cfg cl b_law_rule_E1 ρ m c) (fun w => ⟨_, rfl⟩) (fun ρ' w c hρ hc => by
    have e : ρ' = X (some w) := by cases hρ; rfl
    subst e
    obtain ⟨t, t0, t1, ht⟩ := drop_run (ω := ω) (k := k) (m := m) (c := c) (i := 7) (by decide) (by decide) (by omega)
    rw [← hcl] at ht
    obtain ⟨j, rfl⟩ : ∃ j : Nat, t = (j : Int) := ⟨t.toNat, by omega⟩
    have hj : j < allActs.length := by show j < 7; omega
    refine ⟨allActs[j], ?_⟩
    unfold b_law_rule_E1
    have q := ev_call2 (cl := cl) (f := 9) (a1 := .var 0) (a2 := .con (.int 7)) (ρ := X (some w)) (x1 := .tok) (x2 := .int 7) rfl rfl ht
    rw [evE, bnd (show evE cfg cl (.var 1) (X (some w)) m c = .ok (.lst (allActs.map Act.w)) m c from rfl), bnd q]
    have hix : idxW m (.lst (allActs.map Act.w)) (.int (j : Int)) = some allActs[j].w := by
      unfold idxW place
      simp only [vw]
      rw [if_pos (by omega), if_pos (by rw [List.length_map]; omega)]
      simp [List.getElem?_eq_getElem hj]
    rw [hix]) (rngW 0 n) [] (c + 1) (by rw [rngW_len]; omega) (by rw [rngW_len]; simp; omega)
  rw [rngW_len] at hl hlc
  rw [List.nil_append] at hlc
  refine ⟨l, c + 1 + n, by omega, by omega, ?_⟩
  have e : exSs cfg cl b_law_rule (startE 3 [.tok]) m c = .ok (.rt (rW l)) m (c + 1 + n) := by
    unfold b_law_rule
    refine ss_cons (ρ' := X none) (m' := m) (c' := c) (asg_e (i := 1) (ρ := startE 3 [.tok]) (w := .lst (allActs.map Act.w)) (ev_lstE (es_cons cn_s (es_cons cn_s (es_cons cn_s (es_cons cn_s (es_cons cn_s (es_cons cn_s (es_cons cn_s es_nil))))))) (show 7 ≤ 100 by decide))) ?_
    refine ret_e (tupL ?_ (by rw [List.length_map]; omega))
    have q := ev_call2 (cl := cl) (f := 9) (a1 := .var 0) (a2 := .con (.int 7)) (ρ := X none) (x1 := .tok) (x2 := .int 7) rfl rfl hv
    rw [evE, bnd (it_rng q (by omega))]
    refine (bnd (lcn hlc) _).trans ?_
    exact mkL_ok (le_sl (by rw [List.length_map]; omega))
  rw [e]
  exact exit_rt hm (cl_mono 3 12 _ (by decide) (cl_acts _))
theorem cl_PW : Lw.cl 12 (PW b) = true := by
  show (true && ((b.rows).all (Lw.cl 10) && true)) = true
  have h : (b.rows).all (Lw.cl 10) = true := by
    have := rows_cl (rs := [b.r .given, b.r .laid, b.r .left, b.r .opened, b.r .taken, b.r .gone, b.r .late, b.r .power])
    simp only [List.all_eq_true] at this ⊢
    intro w hw
    obtain ⟨i, _, rfl⟩ := List.mem_map.mp (show w ∈ [b.r .given, b.r .laid, b.r .left, b.r .opened, b.r .taken, b.r .gone, b.r .late, b.r .power].map rW from hw)
    exact cl_mono 3 10 _ (by decide) (cl_acts _)
  rw [h]; rfl
theorem plan_run (hm : OkM m) (hc : c + 3000 ≤ 800000) : ∃ (b : Bk) (c' : Nat), 1 ≤ b.lim ∧ b.lim ≤ 30 ∧ b.ok ∧ c' ≤ c + 1000 ∧ run cfg prim ω (k + 3) 10 [.tok] m c = .ok (PW b) m c' := by
  obtain ⟨v, v0, v1, hv⟩ := drop_run (ω := ω) (k := k + 1) (m := m) (c := c) (i := 30) (by decide) (by decide) (by omega)
  rw [r_law_plan rfl]
  let X (e1 : Option W) : Lw.Env := [some .tok, e1]
  obtain ⟨ls, c', h1, h2, h3, h4⟩ := lc_rules (m := m) (ws := allActs) (bt := fun w => bindTg [1] false w (wipeE (X none) [1])) (elt := fun ρ m c => evE cfg (run cfg prim ω (k + 2)) b_law_plan_E1 ρ m c) (fun w => ⟨_, rfl⟩) (fun ρ' w c hρ hc => by
    have e : ρ' = X (some w) := by cases hρ; rfl
    subst e
    obtain ⟨l, c1, q1, q2, q3⟩ := rule10 (ω := ω) (k := k) (m := m) (c := c) hm (by omega)
    exact ⟨l, c1, by unfold b_law_plan_E1; exact ev_call1 (x1 := .tok) rfl q3, q1, fun a _ => by cases a <;> simp [allActs], by omega⟩) (rngW 0 8) [] (c + 1) (by rw [rngW_len]; omega) (by rw [rngW_len]; simp)
  rw [rngW_len] at h2 h4
  rw [List.nil_append] at h1
  obtain ⟨b, hbl, hb, hrows, _⟩ := rows_of h2 (fun l hl => (h3 l hl).1) (1 + v)
  rw [hrows] at h1
  refine ⟨b, c', by omega, by omega, hb, by omega, ?_⟩
  have e : exSs cfg (run cfg prim ω (k + 2)) b_law_plan (startE 2 [.tok]) m c = .ok (.rt (PW b)) m c' := by
    unfold b_law_plan
    have q1 := ev_bin (cl := run cfg prim ω (k + 2)) (op := .add) (a1 := .con (.int 1)) (x := .int 1) (m := m) (c := c) rfl (ev_call2 (cl := run cfg prim ω (k + 2)) (f := 9) (a1 := .var 0) (a2 := .con (.int 30)) (ρ := X none) (x1 := .tok) (x2 := .int 30) rfl rfl hv) ev_add
    rw [← hbl] at q1
    have q2 : evE cfg (run cfg prim ω (k + 2)) (.lc false [1] false (.rng (.con (.int 8))) .yes b_law_plan_E1) (X none) m (c + 1) = .ok (.lst b.rows) m c' := by
      rw [evE, bnd (it_rng (n := 8) (m' := m) (c' := c + 1) rfl (by decide))]
      refine (bnd (lcn h1) _).trans ?_
      exact mkL_ok (le_sl (by show 8 ≤ _; decide))
    exact ret_e (ev_tupE (es_cons q1 (es_cons (tupL q2 (by show 8 ≤ _; decide)) es_nil)) (by simp))
  rw [e]
  exact exit_rt hm cl_PW
theorem pw_0 : idxW m (PW b) (.int 0) = some (.int b.lim) := by kernel_rfl
theorem pw_1 : idxW m (PW b) (.int 1) = some (.tup b.rows) := by kernel_rfl
theorem lawbook_run (hm : OkM m) (hb : b.ok) (h1 : 1 ≤ b.lim) (h2 : b.lim ≤ 30) : run cfg prim ω (k + 3) 6 [PW b] m c = .ok b.w m c := by
  rw [r_law_book rfl]
  let X : Lw.Env := [some (PW b), some (.tup b.rows)]
  have iv : ∀ (i : Mo) {z : Int}, z = (i.i : Int) → evE cfg (run cfg prim ω (k + 2)) (.idx (.var 1) (.con (.int z))) X m c = .ok (rW (b.r i)) m c := fun i z hz => by
    rw [hz]
    exact idx_e (x := .tup b.rows) (y := .int (i.i : Int)) rfl rfl (row_t i)
  have e : exSs cfg (run cfg prim ω (k + 2)) b_law_book (startE 2 [PW b]) m c = .ok (.rt b.w) (m ++ [.dead]) c := by
    unfold b_law_book
    refine ss_cons (ρ' := X) (m' := m) (c' := c) (asg_e (i := 1) (ρ := startE 2 [PW b]) (idx_e (x := PW b) (y := .int 1) rfl rfl pw_1)) ?_
    refine ret_e (make_book (k := k) (b := b) rfl ?_ hm hb h1 h2)
    exact es_cons (idx_e (x := PW b) (y := .int 0) rfl rfl pw_0) (es_cons (iv .given (z := 0) rfl) (es_cons (iv .laid (z := 1) rfl) (es_cons (iv .left (z := 2) rfl) (es_cons (iv .opened (z := 3) rfl) (es_cons (iv .taken (z := 4) rfl) (es_cons (iv .gone (z := 5) rfl) (es_cons (iv .late (z := 6) rfl) (es_cons (iv .power (z := 7) rfl) es_nil))))))))
  rw [e]
  exact exit_rt_app hm (cl_mono 5 12 _ (by decide) cl_b)
theorem words_run (hm : OkM m) : run cfg prim ω (k + 1) 14 [] m c = .ok (.lst (allMo.map Mo.w)) m c := by
  rw [r_law_moments rfl]
  have e : exSs cfg (run cfg prim ω k) b_law_moments (startE 0 []) m c = .ok (.rt (.lst (allMo.map Mo.w))) m c := by
    unfold b_law_moments
    exact ret_e (ev_lstE (es_cons cn_s (es_cons cn_s (es_cons cn_s (es_cons cn_s (es_cons cn_s (es_cons cn_s (es_cons cn_s (es_cons cn_s es_nil)))))))) (show 8 ≤ 100 by decide))
  rw [e]; exact exit_rt hm rfl
/-- the first rules alone -/
def bkJ (b : Bk) (j : Nat) : Bk := ⟨b.lim, fun i => if i.i < j then b.r i else []⟩
def bkO (b : Bk) (z : Int) (j : Nat) : Bk := ⟨z, fun i => if i.i < j then [.off] else b.r i⟩
theorem bkJ_ok (hb : b.ok) {j : Nat} : (bkJ b j).ok := fun i => by
  show (if i.i < j then b.r i else []).length ≤ 6
  split
  · exact hb i
  · exact Nat.zero_le _
theorem bkO_ok (hb : b.ok) {z : Int} {j : Nat} : (bkO b z j).ok := fun i => by
  show (if i.i < j then [Act.off] else b.r i).length ≤ 6
  split
  · show 1 ≤ 6; decide
  · exact hb i
theorem bkJ_8 : bkJ b 8 = b := book_eta rfl fun i => by cases i <;> rfl
theorem bkJ_0 : bkJ b 0 = bk0 b.lim := book_eta rfl fun i => by cases i <;> rfl
theorem bkJ_step {i : Mo} : (bkJ b i.i).withR i (b.r i) = bkJ b (i.i + 1) := book_eta rfl fun j => by cases i <;> cases j <;> rfl
theorem bkJ_mix {z : Int} {j : Nat} (h : j ≤ 8) : (bkJ b j).mix (bkO b z j) (allMo.drop j).reverse = b := by
  have : j = 0 ∨ j = 1 ∨ j = 2 ∨ j = 3 ∨ j = 4 ∨ j = 5 ∨ j = 6 ∨ j = 7 ∨ j = 8 := by omega
  rcases this with rfl | rfl | rfl | rfl | rfl | rfl | rfl | rfl | rfl <;> exact book_eta rfl fun i => by cases i <;> rfl
theorem rows_J {j : Nat} (h : j ≤ 8) : b.rows.take j ++ (List.replicate (8 - j) [W.tup []]).flatten = (bkJ b j).rows := by
  have : j = 0 ∨ j = 1 ∨ j = 2 ∨ j = 3 ∨ j = 4 ∨ j = 5 ∨ j = 6 ∨ j = 7 ∨ j = 8 := by omega
  rcases this with rfl | rfl | rfl | rfl | rfl | rfl | rfl | rfl | rfl <;> rfl
theorem rows_O {z : Int} {j : Nat} (h : j ≤ 8) : (List.replicate j [rW [.off]]).flatten ++ b.rows.drop j = (bkO b z j).rows := by
  have : j = 0 ∨ j = 1 ∨ j = 2 ∨ j = 3 ∨ j = 4 ∨ j = 5 ∨ j = 6 ∨ j = 7 ∨ j = 8 := by omega
  rcases this with rfl | rfl | rfl | rfl | rfl | rfl | rfl | rfl | rfl <;> rfl
theorem nd_rev {j : Nat} (h : j ≤ 8) : (allMo.drop j).reverse.Nodup := by
  have : j = 0 ∨ j = 1 ∨ j = 2 ∨ j = 3 ∨ j = 4 ∨ j = 5 ∨ j = 6 ∨ j = 7 ∨ j = 8 := by omega
  rcases this with rfl | rfl | rfl | rfl | rfl | rfl | rfl | rfl | rfl <;> decide
def XM (b : Bk) (u : Int) (e5 e6 e7 e8 e9 : Option W) : Lw.Env := [some .tok, some (PW b), some (.int u), some (.tup b.rows), some (.lst (allMo.map Mo.w)), e5, e6, e7, e8, e9]
section
variable {u z : Int} {e5 e6 e7 e8 e9 : Option W}
theorem xm_t : evT cfg cl (.e (.cmp .eq (.var 2) (.con (.int z)))) (XM b u e5 e6 e7 e8 e9) m c = .ok (decide (u = z)) m c := t_e (cmp_e (x := .int u) (y := .int z) rfl rfl ev_eqI)
theorem xm_p0 : evE cfg cl (.idx (.var 1) (.con (.int 0))) (XM b u e5 e6 e7 e8 e9) m c = .ok (.int b.lim) m c := idx_e (x := PW b) (y := .int 0) rfl rfl pw_0
theorem xm_3 : evE cfg cl (.var 3) (XM b u e5 e6 e7 e8 e9) m c = .ok (.tup b.rows) m c := rfl
end
theorem loop10 {u : Int} (hcl : cl = run cfg prim ω (k + 3)) (hm : OkM m) (hb : b.ok) (h1 : 1 ≤ b.lim) (h2 : b.lim ≤ 30) : ∀ (r j : Nat) (e6 : Option W), j + r = 8 → ∃ e6', forGo (fun _ => true) (fun w ρ => bindTg [6] false w ρ) (fun ρ m c => exSs cfg cl b_law_made_S1 ρ m c) (rngW (j : Int) r) (XM b u (some (bkJ b j).w) e6 none none none) m c = .ok (.nx (XM b u (some b.w) e6' none none none)) m c
  | 0, j, e6, h => ⟨e6, by
    obtain rfl : j = 8 := by omega
    rw [rngW, forGo, if_pos rfl, bkJ_8]⟩
  | r + 1, j, e6, h => by
    obtain ⟨i, hi⟩ := mo_of (show j < 8 by omega)
    subst hi
    obtain ⟨e6', ih⟩ := loop10 hcl hm hb h1 h2 r (i.i + 1) (some (.int (i.i : Int))) (by omega)
    refine ⟨e6', ?_⟩
    rw [rngW, forGo, if_pos rfl, bind_one]
    simp only []
    have st : exSs cfg cl b_law_made_S1 ((XM b u (some (bkJ b i.i).w) e6 none none none).set 6 (some (.int (i.i : Int)))) m c = .ok (.nx (XM b u (some (bkJ b (i.i + 1)).w) (some (.int (i.i : Int))) none none none)) m c := by
      unfold b_law_made_S1
      rw [ss_one]
      have q := mt_rule (ω := ω) (k := k) (y := bkJ b i.i) (j := i) (l := b.r i) (e1 := .var 5) (ρ := XM b u (some (bkJ b i.i).w) (some (.int (i.i : Int))) none none none) (m := m) (m1 := m) (c := c) hcl rfl (idx_e (a := .var 4) (i := .var 6) (x := .lst (allMo.map Mo.w)) (y := .int (i.i : Int)) rfl rfl mo_lst) (idx_e (a := .var 3) (i := .var 6) (x := .tup b.rows) (y := .int (i.i : Int)) rfl rfl (row_t i)) hm (bkJ_ok hb) (hb i) h1 h2
      rw [bkJ_step] at q
      exact asg_e (i := 5) (ρ := XM b u (some (bkJ b i.i).w) (some (.int (i.i : Int))) none none none) q
    rw [bnd st]
    have e : ((i.i : Nat) : Int) + 1 = ((i.i + 1 : Nat) : Int) := by omega
    rw [e]
    exact ih
theorem slcTu {a hi : E} {xs : List W} {n : Nat} (h1 : evE cfg cl a ρ m c = .ok (.tup xs) m c) (h2 : evE cfg cl hi ρ m c = .ok (.int (n : Int)) m c) (hl : xs.length ≤ 1000) : evE cfg cl (.slc false a .none (.some hi)) ρ m c = .ok (.tup (xs.take n)) m c := by
  rw [evE, bnd h1, bnd oN, bnd (oS h2)]
  show mkT (cutW xs none (some (n : Int))) m c = _
  rw [take_cut]
  exact mkT_ok (le_sl (by rw [List.length_take]; omega))
theorem slcTd {a lo : E} {xs : List W} {n : Nat} (h1 : evE cfg cl a ρ m c = .ok (.tup xs) m c) (h2 : evE cfg cl lo ρ m c = .ok (.int (n : Int)) m c) (hn : n ≤ xs.length) (hl : xs.length ≤ 1000) : evE cfg cl (.slc false a (.some lo) .none) ρ m c = .ok (.tup (xs.drop n)) m c := by
  rw [evE, bnd h1, bnd (oS h2), bnd oN]
  show mkT (cutW xs (some (n : Int)) none) m c = _
  rw [cut_from hn]
  exact mkT_ok (le_sl (by rw [List.length_drop]; omega))
theorem mulT {a i : E} {w : W} {j : Nat} (h1 : evE cfg cl a ρ m c = .ok (.tup [w]) m c) (h2 : evE cfg cl i ρ m c = .ok (.int (j : Int)) m c) (hj : j ≤ 8) : evE cfg cl (.bin false .mul a i) ρ m c = .ok (.tup (List.replicate j [w]).flatten) m c := by
  rw [evE, bnd h1, bnd h2]
  obtain ⟨z, hz⟩ : ∃ z : Int, z = (j : Int) := ⟨_, rfl⟩
  rw [← hz]
  have h : binW false .mul (.tup [w]) (.int z) m c = if [w].length ≠ 0 ∧ 0 ≤ z ∧ z ≤ 1000 ∧ [w].length ≤ 1000 then mkT (List.replicate z.toNat [w]).flatten m c else .no := rfl
  have hz2 : z.toNat = j := by omega
  rw [h, if_pos ⟨by simp, by omega, by omega, by simp⟩, hz2]
  refine mkT_ok (le_sl ?_)
  rw [List.length_flatten, List.map_replicate, List.sum_replicate_nat]
  simp; omega
theorem addT {a i : E} {xs ys : List W} (h1 : evE cfg cl a ρ m c = .ok (.tup xs) m c) (h2 : evE cfg cl i ρ m c = .ok (.tup ys) m c) (hl : (xs ++ ys).length ≤ 1000) : evE cfg cl (.bin false .add a i) ρ m c = .ok (.tup (xs ++ ys)) m c := by
  rw [evE, bnd h1, bnd h2]
  show mkT (xs ++ ys) m c = _
  exact mkT_ok (le_sl (by omega))
theorem mt_daysC {e1 e2 : E} {y : Bk} {m1 : Mem} {c1 : Nat} {n : Int} (hcl : cl = run cfg prim ω (k + 3)) (q1 : evE cfg cl e1 ρ m c = .ok y.w m1 c1) (q2 : evE cfg cl e2 ρ m1 c1 = .ok (.int n) m1 c1) (hm1 : OkM m1) (hy : y.ok) (y1 : 1 ≤ n) (y2 : n ≤ 30) :
    evE cfg cl (.meth 15 e1 (.cons e2 .nil)) ρ m c = .ok (y.withL n).w m1 c1 := by
  have hr := with_days_run (ω := ω) (k := k) (c := c1) (b := y) (n := n) hm1 hy y1 y2
  rw [← hcl] at hr
  rw [evE, bnd q1]
  simp only [fn_Book_with_days, vw_bk, if_true]
  rw [evEs, bnd q2, evEs]
  simp only [R.bind_ok, hr]
  rfl
theorem made10 (hm : OkM m) (hb : b.ok) (h1 : 1 ≤ b.lim) (h2 : b.lim ≤ 30) (hc : c + 1000 ≤ 900000) : ∃ c', c' ≤ c + 10 ∧ run cfg prim ω (k + 4) 8 [.tok, PW b] m c = .ok b.w m c' := by
  obtain ⟨u, u0, u1, hu⟩ := drop_run (ω := ω) (k := k + 2) (m := m) (c := c) (i := 4) (by decide) (by decide) (by omega)
  have hw := words_run (ω := ω) (k := k + 2) (c := c + 1) (m := m) hm
  rw [r_law_made rfl]
  obtain ⟨cl, hcl⟩ : ∃ cl, cl = run cfg prim ω (k + 3) := ⟨_, rfl⟩
  rw [show run cfg prim ω (k + 2 + 1) = cl from hcl.symm] at hu hw
  rw [← hcl]
  have cllim : Lw.cl 12 b.w = true := cl_mono 5 12 _ (by decide) cl_b
  have d1 := ev_call2 (cl := cl) (f := 9) (a1 := .var 0) (a2 := .con (.int 4)) (ρ := startE 10 [.tok, PW b]) (x1 := .tok) (x2 := .int 4) rfl rfl hu
  have d3 : evE cfg cl (.call 14 .nil) (startE 10 [.tok, PW b]) m (c + 1) = .ok (.lst (allMo.map Mo.w)) m (c + 1) := by
    rw [evE, evEs]
    simp only [R.bind_ok, hw]
    rfl
  have p1 : ∀ {r : Ss} {res : R Fl}, exSs cfg cl r (XM b u none none none none none) m (c + 1) = res → exSs cfg cl (.cons (.par [(.name 2), (.name 3), (.name 4)] (.cons (.call 9 (.cons (.var 0) (.cons (.con (.int 4)) .nil))) (.cons (.idx (.var 1) (.con (.int 1))) (.cons (.call 14 .nil) .nil)))) r) (startE 10 [.tok, PW b]) m c = res := fun {r res} h => by
    have e : exS cfg cl (.par [(.name 2), (.name 3), (.name 4)] (.cons (.call 9 (.cons (.var 0) (.cons (.con (.int 4)) .nil))) (.cons (.idx (.var 1) (.con (.int 1))) (.cons (.call 14 .nil) .nil)))) (startE 10 [.tok, PW b]) m c = .ok (.nx (XM b u none none none none none)) m (c + 1) := by
      rw [exS, bnd (es_cons d1 (es_cons (idx_e (x := PW b) (y := .int 1) rfl rfl pw_1) (es_cons d3 es_nil)))]
      rfl
    rw [exSs, bnd e]
    exact h
  have lb : ∀ (g : Bk) (m : Mem) (c : Nat), OkM m → g.ok → 1 ≤ g.lim → g.lim ≤ 30 → cl 6 [PW g] m c = .ok g.w m c := fun g m c a1 a2 a3 a4 => by rw [hcl]; exact lawbook_run a1 a2 a3 a4
  by_cases w1 : u = 1
  · refine ⟨c + 1, by omega, ?_⟩
    have hmd : OkM (m ++ [.dead]) := hm.app rfl
    obtain ⟨e6', hl⟩ := loop10 (u := u) (c := c + 1) hcl hmd hb h1 h2 8 0 none rfl
    rw [bkJ_0] at hl
    have e : exSs cfg cl b_law_made (startE 10 [.tok, PW b]) m c = .ok (.rt b.w) (m ++ [.dead]) (c + 1) := by
      unfold b_law_made
      refine p1 ?_
      refine if_ret (by rw [xm_t, decide_eq_true w1]) ?_
      refine ss_cons (ρ' := XM b u (some (bk0 b.lim).w) none none none none) (m' := m ++ [.dead]) (c' := c + 1) (asg_e (i := 5) (ρ := XM b u none none none none none) ?_) ?_
      · exact makeK_book (k := k + 1) (x := bk0 b.lim) (ws := [.int b.lim]) (zs := []) hcl (es_cons xm_p0 es_nil) es_nil rfl hm bk0_ok h1 h2
      refine ss_cons (ρ' := XM b u (some b.w) e6' none none none) (m' := m ++ [.dead]) (c' := c + 1) (by rw [exS, bnd (it_rng (n := 8) (m' := m ++ [.dead]) (c' := c + 1) rfl (by decide))]; exact hl) ?_
      exact ret_e rfl
    rw [e]
    exact exit_rt_app hm cllim
  by_cases w2 : u = 2
  · obtain ⟨v, v0, v1, hv⟩ := drop_run (ω := ω) (k := k + 2) (m := m) (c := c + 1) (i := 9) (by decide) (by decide) (by omega)
    obtain ⟨w, x0, x1, hw30⟩ := drop_run (ω := ω) (k := k + 2) (m := m) (c := c + 2) (i := 30) (by decide) (by decide) (by omega)
    rw [show run cfg prim ω (k + 2 + 1) = cl from hcl.symm] at hv hw30
    obtain ⟨j, rfl⟩ : ∃ j : Nat, v = (j : Int) := ⟨v.toNat, by omega⟩
    have hj : j ≤ 8 := by omega
    obtain ⟨z, hz⟩ : ∃ z : Int, z = 1 + w := ⟨_, rfl⟩
    refine ⟨c + 3, by omega, ?_⟩
    have e : exSs cfg cl b_law_made (startE 10 [.tok, PW b]) m c = .ok (.rt b.w) m (c + 3) := by
      unfold b_law_made
      refine p1 ?_
      refine if_skip (by rw [xm_t, decide_eq_false w1]) ?_
      refine if_ret (by rw [xm_t, decide_eq_true w2]) ?_
      refine ss_cons (ρ' := XM b u none none (some (.int (j : Int))) none none) (m' := m) (c' := c + 2) (asg_e (i := 7) (ρ := XM b u none none none none none) (ev_call2 (x1 := .tok) (x2 := .int 9) rfl rfl hv)) ?_
      refine ss_cons (ρ' := XM b u none none (some (.int (j : Int))) (some (bkJ b j).w) none) (m' := m) (c' := c + 2) (asg_e (i := 8) (ρ := XM b u none none (some (.int (j : Int))) none none) (ev_call1 (x1 := PW (bkJ b j)) ?_ (lb _ _ _ hm (bkJ_ok hb) h1 h2))) ?_
      · refine ev_tupE (es_cons xm_p0 (es_cons ?_ es_nil)) (by simp)
        rw [← rows_J hj]
        refine addT (slcTu xm_3 rfl (by show 8 ≤ _; decide)) (mulT (ev_tupE (es_cons (ev_tupE es_nil (by simp)) es_nil) (by simp)) ?_ (by omega)) (by rw [rows_J hj]; show 8 ≤ _; decide)
        have q := ev_bin (cl := cl) (op := .sub) (a1 := .con (.int 8)) (a2 := .var 7) (x := .int 8) (y := .int (j : Int)) (ρ := XM b u none none (some (.int (j : Int))) none none) (m := m) (c := c + 2) rfl rfl ev_sub
        rw [q]
        congr 2
        omega
      refine ss_cons (ρ' := XM b u none none (some (.int (j : Int))) (some (bkJ b j).w) (some (bkO b z j).w)) (m' := m) (c' := c + 3) (asg_e (i := 9) (ρ := XM b u none none (some (.int (j : Int))) (some (bkJ b j).w) none) ?_) ?_
      · have q30 := ev_bin (cl := cl) (op := .add) (a1 := .con (.int 1)) (x := .int 1) (m := m) (c := c + 2) rfl (ev_call2 (cl := cl) (f := 9) (a1 := .var 0) (a2 := .con (.int 30)) (ρ := XM b u none none (some (.int (j : Int))) (some (bkJ b j).w) none) (x1 := .tok) (x2 := .int 30) rfl rfl hw30) ev_add
        rw [← hz] at q30
        have qt : evE cfg cl (.tup (.cons (.bin false .add (.con (.int 1)) (.call 9 (.cons (.var 0) (.cons (.con (.int 30)) .nil)))) (.cons (.bin false .add (.bin false .mul (.tup (.cons (.tup (.cons (.con (.str (Str.ofString "off"))) .nil)) .nil)) (.var 7)) (.slc false (.var 3) (.some (.var 7)) .none)) .nil))) (XM b u none none (some (.int (j : Int))) (some (bkJ b j).w) none) m (c + 2) = .ok (PW (bkO b z j)) m (c + 3) := by
          refine ev_tupE (es_cons q30 (es_cons ?_ es_nil)) (by simp)
          rw [← rows_O hj]
          exact addT (mulT (ev_tupE (es_cons (ev_tupE (es_cons cn_s es_nil) (by simp)) es_nil) (by simp)) rfl hj) (slcTd xm_3 rfl (by show j ≤ 8; omega) (by show 8 ≤ _; decide)) (by rw [rows_O (z := z) hj]; show 8 ≤ _; decide)
        rw [evE, bnd (es_cons qt es_nil), lb (bkO b z j) m (c + 3) hm (bkO_ok hb) (by show 1 ≤ z; omega) (by show z ≤ 30; omega)]
        rfl
      refine ret_e ?_
      have q3 : evE cfg cl (.blt false .tuple (.cons (.rev false (.slc false (.var 4) (.some (.var 7)) .none)) .nil)) (XM b u none none (some (.int (j : Int))) (some (bkJ b j).w) (some (bkO b z j).w)) m (c + 3) = .ok (mosW (allMo.drop j).reverse) m (c + 3) := by
        have s1 := slc_drop (cl := cl) (a := .var 4) (i := .var 7) (ρ := XM b u none none (some (.int (j : Int))) (some (bkJ b j).w) (some (bkO b z j).w)) (m := m) (c := c + 3) (x := .lst (allMo.map Mo.w)) (xs := allMo.map Mo.w) (n := j) rfl rfl rfl (by show j ≤ 8; omega) (by show 8 ≤ _; decide)
        have s2 : evE cfg cl (.rev false (.slc false (.var 4) (.some (.var 7)) .none)) (XM b u none none (some (.int (j : Int))) (some (bkJ b j).w) (some (bkO b z j).w)) m (c + 3) = .ok (.lst ((allMo.drop j).reverse.map Mo.w)) m (c + 3) := by
          rw [evE, bnd s1]
          show mkL false ((allMo.map Mo.w).drop j).reverse m (c + 3) = _
          rw [← List.map_drop, ← List.map_reverse]
          exact mkL_ok (le_sl (by rw [List.length_map, List.length_reverse, List.length_drop]; show 8 - j ≤ _; omega))
        exact tupL s2 (by rw [List.length_map, List.length_reverse, List.length_drop]; show 8 - j ≤ _; omega)
      have hr := mt_take (ω := ω) (k := k) (m := m) (m1 := m) (c := c + 3) (b := bkO b z j) (y := bkJ b j) (js := (allMo.drop j).reverse) (ρ := XM b u none none (some (.int (j : Int))) (some (bkJ b j).w) (some (bkO b z j).w)) (e1 := .var 8) (e2 := .var 9) hcl rfl rfl q3 hm (bkJ_ok hb) (bkO_ok hb) (nd_rev hj) (by rw [List.length_reverse, List.length_drop]; show 8 - j ≤ _; omega) h1 h2
      rw [bkJ_mix hj] at hr
      exact hr
    rw [e]
    exact exit_rt hm cllim
  by_cases w3 : u = 3
  · obtain ⟨w, x0, x1, hw30⟩ := drop_run (ω := ω) (k := k + 2) (m := m) (c := c + 1) (i := 30) (by decide) (by decide) (by omega)
    rw [show run cfg prim ω (k + 2 + 1) = cl from hcl.symm] at hw30
    obtain ⟨z, hz⟩ : ∃ z : Int, z = 1 + w := ⟨_, rfl⟩
    refine ⟨c + 2, by omega, ?_⟩
    have e : exSs cfg cl b_law_made (startE 10 [.tok, PW b]) m c = .ok (.rt b.w) m (c + 2) := by
      unfold b_law_made
      refine p1 ?_
      refine if_skip (by rw [xm_t, decide_eq_false w1]) ?_
      refine if_skip (by rw [xm_t, decide_eq_false w2]) ?_
      refine if_ret (by rw [xm_t, decide_eq_true w3]) ?_
      refine ret_e ?_
      have q30 := ev_bin (cl := cl) (op := .add) (a1 := .con (.int 1)) (x := .int 1) (m := m) (c := c + 1) rfl (ev_call2 (cl := cl) (f := 9) (a1 := .var 0) (a2 := .con (.int 30)) (ρ := XM b u none none none none none) (x1 := .tok) (x2 := .int 30) rfl rfl hw30) ev_add
      rw [← hz] at q30
      have qt : evE cfg cl (.tup (.cons (.bin false .add (.con (.int 1)) (.call 9 (.cons (.var 0) (.cons (.con (.int 30)) .nil)))) (.cons (.var 3) .nil))) (XM b u none none none none none) m (c + 1) = .ok (PW (b.withL z)) m (c + 2) := ev_tupE (es_cons q30 (es_cons rfl es_nil)) (by simp)
      have qb : evE cfg cl (.call 6 (.cons (.tup (.cons (.bin false .add (.con (.int 1)) (.call 9 (.cons (.var 0) (.cons (.con (.int 30)) .nil)))) (.cons (.var 3) .nil))) .nil)) (XM b u none none none none none) m (c + 1) = .ok (b.withL z).w m (c + 2) := by
        rw [evE, bnd (es_cons qt es_nil), lb (b.withL z) m (c + 2) hm hb (by show 1 ≤ z; omega) (by show z ≤ 30; omega)]
        rfl
      have hr := mt_daysC (ω := ω) (k := k) (n := b.lim) (y := b.withL z) (e2 := .idx (.var 1) (.con (.int 0))) hcl qb xm_p0 hm hb h1 h2
      have he : (b.withL z).withL b.lim = b := rfl
      rw [he] at hr
      exact hr
    rw [e]
    exact exit_rt hm cllim
  refine ⟨c + 1, by omega, ?_⟩
  have e : exSs cfg cl b_law_made (startE 10 [.tok, PW b]) m c = .ok (.rt b.w) m (c + 1) := by
    unfold b_law_made
    refine p1 ?_
    refine if_skip (by rw [xm_t, decide_eq_false w1]) ?_
    refine if_skip (by rw [xm_t, decide_eq_false w2]) ?_
    refine if_skip (by rw [xm_t, decide_eq_false w3]) ?_
    exact ret_e (ev_call1 (x1 := PW b) rfl (lb b m (c + 1) hm hb h1 h2))
  rw [e]
  exact exit_rt hm cllim
end
end K10


set_option maxHeartbeats 4000000
namespace K10
open PySem Lw
open PySem.PyData (strOk)
section
variable {ω : Nat → Nat} {b g x : Bk} {c k p : Nat} {m m' : Mem} {c' : Nat} {cl : Call} {ρ : Lw.Env}
theorem mapS {i : Mo} {l : List Act} : (lnS i l).map W.str = [.str (Str.ofString i.s ++ Str.ofString ":")] ++ l.map Act.w := by
  unfold lnS
  rw [List.map_cons, List.map_map]
  rfl
theorem head_len {i : Mo} : (Str.ofString i.s).length + (Str.ofString ":").length ≤ 1000 := by
  have := len_mo (i := i)
  rw [len_1.1]; omega
theorem line_run {i : Mo} {l : List Act} (hm : OkM m) (h : l.length ≤ 6) : run cfg prim ω (k + 1) 13 [i.w, rW l] m c = .ok (.str (lineS i l)) m c := by
  rw [r_law_line rfl]
  have e : exSs cfg (run cfg prim ω k) b_law_line (startE 2 [i.w, rW l]) m c = .ok (.rt (.str (lineS i l))) m c := by
    unfold b_law_line
    refine ret_e (e_join (ys := lnS i l) ?_ (Nat.le_trans (lnS_fit h) (by decide)))
    have v1 : evE cfg (run cfg prim ω k) (.var 1) (startE 2 [i.w, rW l]) m c = .ok (rW l) m c := rfl
    have q1 := add_s (cl := run cfg prim ω k) (a := .var 0) (e := .con (.str (Str.ofString ":"))) (ρ := startE 2 [i.w, rW l]) (m := m) (c := c) (x := Str.ofString i.s) (y := Str.ofString ":") rfl rfl head_len
    have q2 : evE cfg (run cfg prim ω k) (.blt false .list (.cons (.var 1) .nil)) (startE 2 [i.w, rW l]) m c = .ok (.lst (l.map Act.w)) m c := by
      rw [evE, bnd (es_cons v1 es_nil)]
      show mkL false (l.map Act.w) m c = _
      exact mkL_ok (le_sl (by rw [List.length_map]; omega))
    have q3 := add_l (ev_lstE (es_cons q1 es_nil) (show 1 ≤ 100 by decide)) q2 (by rw [List.length_map]; show 1 + l.length ≤ _; omega)
    rw [← mapS] at q3
    exact q3
  rw [e]; exact exit_rt hm rfl
theorem txL_map : (txL b).map W.str = [.str (headS b.lim)] ++ allMo.map fun i => W.str (lineS i (b.r i)) := by
  unfold txL
  rw [List.map_cons, List.map_map]
  rfl
theorem lines_run (hm : OkM m) (hb : b.ok) (h1 : 1 ≤ b.lim) (h2 : b.lim ≤ 30) : run cfg prim ω (k + 2) 7 [PW b] m c = .ok (.lst ((txL b).map W.str)) m c := by
  rw [r_law_lines rfl]
  have hw := words_run (ω := ω) (k := k) (c := c) (m := m) hm
  let X (e2 : Option W) : Lw.Env := [some (PW b), some (.lst (allMo.map Mo.w)), e2]
  have e : exSs cfg (run cfg prim ω (k + 1)) b_law_lines (startE 3 [PW b]) m c = .ok (.rt (.lst ((txL b).map W.str))) m c := by
    unfold b_law_lines
    have qm : evE cfg (run cfg prim ω (k + 1)) (.call 14 .nil) (startE 3 [PW b]) m c = .ok (.lst (allMo.map Mo.w)) m c := by
      rw [evE, evEs]
      simp only [R.bind_ok, hw]
      rfl
    refine ss_cons (ρ' := X none) (m' := m) (c' := c) (asg_e (i := 1) (ρ := startE 3 [PW b]) qm) ?_
    refine ret_e ?_
    have p0 : evE cfg (run cfg prim ω (k + 1)) (.idx (.var 0) (.con (.int 0))) (X none) m c = .ok (.int b.lim) m c := idx_e (x := PW b) (y := .int 0) rfl rfl pw_0
    have ps : evE cfg (run cfg prim ω (k + 1)) (.blt false .str (.cons (.idx (.var 0) (.con (.int 0))) .nil)) (X none) m c = .ok (.str (Str.ofString (toString b.lim))) m c := by
      rw [evE, bnd (es_cons p0 es_nil)]
      exact str_i (by omega) h2
    have ph : evE cfg (run cfg prim ω (k + 1)) (.lst false (.cons (.bin false .add (.con (.str (Str.ofString "days "))) (.blt false .str (.cons (.idx (.var 0) (.con (.int 0))) .nil))) .nil)) (X none) m c = .ok (.lst [.str (headS b.lim)]) m c :=
      ev_lstE (es_cons (add_s (x := Str.ofString "days ") (y := Str.ofString (toString b.lim)) rfl ps (by have := len_num (z := b.lim) (by omega) h2; rw [len_1.2.2.2]; omega)) es_nil) (show 1 ≤ 100 by decide)
    have h := lc_pure (gd := fun _ => true) (bt := fun w => bindTg [2] false w (wipeE (X none) [2])) (cond := fun ρ m c => .ok true m c) (elt := fun ρ m c => evE cfg (run cfg prim ω (k + 1)) b_law_lines_E1 ρ m c) (m := m) (c := c) (fun i : Mo => W.int (i.i : Int)) (fun _ => true) (fun i => W.str (lineS i (b.r i))) allMo rfl
      (fun i _ => ⟨X (some (.int (i.i : Int))), rfl, rfl, fun _ => by
        unfold b_law_lines_E1
        have a1 : evE cfg (run cfg prim ω (k + 1)) (.idx (.var 1) (.var 2)) (X (some (.int (i.i : Int)))) m c = .ok i.w m c := idx_e (x := .lst (allMo.map Mo.w)) (y := .int (i.i : Int)) rfl rfl mo_lst
        have a2 : evE cfg (run cfg prim ω (k + 1)) (.idx (.idx (.var 0) (.con (.int 1))) (.var 2)) (X (some (.int (i.i : Int)))) m c = .ok (rW (b.r i)) m c := idx_e (x := .tup b.rows) (y := .int (i.i : Int)) (idx_e (x := PW b) (y := .int 1) rfl rfl pw_1) rfl (row_t i)
        exact ev_call2 a1 a2 (line_run hm (hb i))⟩) [] (by rw [sizeLine_eq]; decide)
    have hf : allMo.filter (fun _ => true) = allMo := rfl
    rw [hf, List.nil_append] at h
    have pl : evE cfg (run cfg prim ω (k + 1)) (.lc false [2] false (.rng (.con (.int 8))) .yes b_law_lines_E1) (X none) m c = .ok (.lst (allMo.map fun i => W.str (lineS i (b.r i)))) m c := by
      rw [evE, bnd (it_rng (n := 8) (m' := m) (c' := c) rfl (by decide)), rng8]
      refine (bnd (lcn h) _).trans ?_
      exact mkL_ok (le_sl (by show 8 ≤ _; decide))
    have q := add_l ph pl (by show 9 ≤ _; decide)
    rw [← txL_map] at q
    exact q
  rw [e]
  refine exit_rt hm ?_
  show ((txL b).map W.str).all (Lw.cl 11) = true
  simp only [List.all_eq_true, List.mem_map]
  rintro w ⟨s, _, rfl⟩
  rfl
theorem es_star {e : E} {ws : List W} (h : evE cfg cl e ρ m c = .ok (.tup ws) m' c') : evEs cfg cl (.star e .nil) ρ m c = .ok ws m' c' := by
  rw [evEs, bnd h]
  show (evEs cfg cl .nil ρ m' c').bind _ = _
  rw [evEs, R.bind_ok, List.append_nil]
theorem text_run (hm : OkM m) (hb : b.ok) (h1 : 1 ≤ b.lim) (h2 : b.lim ≤ 30) : run cfg prim ω (k + 3) 5 [b.w] m c = .ok (.str (TX b)) m c := by
  rw [r_book_text rfl]
  obtain ⟨m1, hm1⟩ : ∃ m1, m1 = m ++ [Cell.lst [.str (headS b.lim)]] := ⟨_, rfl⟩
  have ok1 : OkM m1 := by
    rw [hm1]
    exact hm.app rfl
  have g1 : m1[m.length]? = some (.lst [.str (headS b.lim)]) := by rw [hm1]; simp
  let X (e1 e2 : Option W) : Lw.Env := [some b.w, e1, e2]
  have hdays := days_run (ω := ω) (k := k + 1) (c := c) (b := b) hm
  have e : exSs cfg (run cfg prim ω (k + 2)) b_book_text (startE 3 [b.w]) m c = .ok (.rt (.str (TX b))) (m ++ [.dead]) c := by
    unfold b_book_text
    have v0 : ∀ e1 e2 m, evE cfg (run cfg prim ω (k + 2)) (.var 0) (X e1 e2) m c = .ok b.w m c := fun _ _ _ => rfl
    have qd : evE cfg (run cfg prim ω (k + 2)) (.meth 4 (.var 0) .nil) (X none none) m c = .ok (.int b.lim) m c := by
      rw [evE, bnd (v0 _ _ _)]
      simp only [fn_Book_days, vw_bk, if_true]
      rw [evEs]
      simp only [R.bind_ok, hdays, reOk]
    have qf : evE cfg (run cfg prim ω (k + 2)) (.fstr (.cons (.con (.str (Str.ofString "days "))) (.cons (.meth 4 (.var 0) .nil) .nil))) (X none none) m c = .ok (.str (headS b.lim)) m c :=
      e_f2 (x := Str.ofString "days ") (y := Str.ofString (toString b.lim)) cn_s qd (fmt_s (by decide)) (fmt_i (by omega) h2) (by have := len_num (z := b.lim) (by omega) h2; rw [len_1.2.2.2]; omega)
    refine ss_cons (ρ' := X (some (.ptr m.length)) none) (m' := m1) (c' := c) (asg_e (i := 1) (ρ := X none none) ?_) ?_
    · rw [evE, bnd (es_cons qf es_nil), hm1]
      exact mkC_ok (le_sl (show 1 ≤ _ by decide))
    have h := lc_pure (gd := fun _ => true) (bt := fun w => bindTg [2] false w (wipeE (X (some (.ptr m.length)) none) [2])) (cond := fun ρ m c => .ok true m c) (elt := fun ρ m c => evE cfg (run cfg prim ω (k + 2)) b_book_text_E1 ρ m c) (m := m1) (c := c) Mo.w (fun _ => true) (fun i => W.str (lineS i (b.r i))) allMo rfl
      (fun i _ => ⟨X (some (.ptr m.length)) (some i.w), rfl, rfl, fun _ => by
        unfold b_book_text_E1
        have v2 : evE cfg (run cfg prim ω (k + 2)) (.var 2) (X (some (.ptr m.length)) (some i.w)) m1 c = .ok i.w m1 c := rfl
        have qr : evE cfg (run cfg prim ω (k + 2)) (.meth 11 (.var 0) (.cons (.var 2) .nil)) (X (some (.ptr m.length)) (some i.w)) m1 c = .ok (rW (b.r i)) m1 c := by
          rw [evE, bnd (v0 _ _ _)]
          simp only [fn_Book_rule, vw_bk, if_true]
          rw [evEs, bnd v2, evEs]
          simp only [R.bind_ok, rule_run ok1, reOk]
        have qs : evE cfg (run cfg prim ω (k + 2)) (.fstr (.cons (.var 2) (.cons (.con (.str (Str.ofString ":"))) .nil))) (X (some (.ptr m.length)) (some i.w)) m1 c = .ok (.str (Str.ofString i.s ++ Str.ofString ":")) m1 c :=
          e_f2 (w1 := i.w) (x := Str.ofString i.s) (y := Str.ofString ":") v2 cn_s (fmt_s (Nat.le_trans len_mo (by decide))) (fmt_s (by decide)) head_len
        refine e_join (ys := lnS i (b.r i)) ?_ (Nat.le_trans (lnS_fit (hb i)) (by decide))
        rw [mapS]
        exact ev_lstE (es_cons qs (es_star qr)) (by rw [List.length_append, List.length_map]; have := hb i; show 1 + (b.r i).length ≤ 100; omega)⟩) [] (by rw [sizeLine_eq]; decide)
    have hf : allMo.filter (fun _ => true) = allMo := rfl
    rw [hf, List.nil_append] at h
    have hit : evIt cfg (run cfg prim ω (k + 2)) (.tup (.glob 1)) (X (some (.ptr m.length)) none) m1 c = .ok ⟨allMo.map Mo.w, fun _ => true⟩ m1 c := rfl
    have hy : (fun ρ m c => evT cfg (run cfg prim ω (k + 2)) .yes ρ m c) = fun (ρ : Lw.Env) (m : Mem) (c : Nat) => R.ok true m c := by funext ρ m c; rw [evT]
    have pl : evE cfg (run cfg prim ω (k + 2)) (.lc false [2] false (.tup (.glob 1)) .yes b_book_text_E1) (X (some (.ptr m.length)) none) m1 c = .ok (.lst (allMo.map fun i => W.str (lineS i (b.r i)))) m1 c := by
      rw [evE, bnd hit, hy]
      refine (bnd (lcn h) _).trans ?_
      exact mkL_ok (le_sl (by show 8 ≤ _; decide))
    have hset : m1.set m.length (.lst ((txL b).map W.str)) = m ++ [.lst ((txL b).map W.str)] := by rw [hm1]; simp
    have hset' : m1.set m.length (.lst ([.str (headS b.lim)] ++ allMo.map fun i => W.str (lineS i (b.r i)))) = m ++ [.lst ((txL b).map W.str)] := by rw [← txL_map, hset]
    refine ss_cons (ρ' := X (some (.ptr m.length)) none) (m' := m ++ [.lst ((txL b).map W.str)]) (c' := c) ?_ ?_
    · have v1 : evE cfg (run cfg prim ω (k + 2)) (.var 1) (X (some (.ptr m.length)) none) m1 c = .ok (.ptr m.length) m1 c := rfl
      have hvl : isLstW (vw m1 (.ptr m.length)) = true := by rw [vw_ptr g1]; rfl
      have hbm : bmW .extend (.ptr m.length) [.lst (allMo.map fun i => W.str (lineS i (b.r i)))] m1 c = .ok .non (m ++ [.lst ((txL b).map W.str)]) c := by
        unfold bmW
        rw [if_neg (by simp [isIdx])]
        simp only [g1]
        show (if [W.str (headS b.lim)].length + (allMo.map fun i => W.str (lineS i (b.r i))).length ≤ sizeLine then R.ok W.non (m1.set m.length (.lst ([.str (headS b.lim)] ++ allMo.map fun i => W.str (lineS i (b.r i))))) c else .no) = _
        rw [if_pos (by rw [sizeLine_eq]; show 1 + 8 ≤ _; decide), hset']
      rw [exS, evE, bnd v1, if_pos hvl, bnd (es_cons pl es_nil), hbm]
      rfl
    rw [exSs]
    have gv : (X (some (.ptr m.length)) none)[1]? = some (some (.ptr m.length)) := rfl
    rw [gv]
    have hgb : (m ++ [Cell.lst ((txL b).map W.str)])[m.length]? = some (.lst ((txL b).map W.str)) := by simp
    have fz := frz_cell hgb (by
      simp only [List.all_eq_true, List.mem_map]
      rintro w ⟨s, _, rfl⟩
      rfl)
    have sd : (m ++ [Cell.lst ((txL b).map W.str)]).set m.length .dead = m ++ [.dead] := by simp
    rw [sd] at fz
    simp only [fz]
    refine ret_e (ρ := [some b.w, some (.lst ((txL b).map W.str)), none]) (e_join (ys := txL b) rfl (Nat.le_trans (txL_fit hb h1 h2) (by decide)))
  rw [e]
  exact exit_rt_app hm rfl
end
end K10


set_option maxHeartbeats 4000000
namespace K10
open PySem Lw
open PySem.PyData (strOk)
section
variable {ω : Nat → Nat} {b g x : Bk} {c k p : Nat} {m m' : Mem} {c' : Nat} {cl : Call} {ρ : Lw.Env}
theorem rulesB_run (hm : OkM m) : run cfg prim ω (k + 1) 3 [b.w] m c = .ok b.row m c := by
  rw [r_Book_rules rfl]
  have e : exSs cfg (run cfg prim ω k) b_Book_rules (startE 1 [b.w]) m c = .ok (.rt b.row) m c := by
    unfold b_Book_rules
    refine ret_e ?_
    simp only [exSs, exS, evE, evEs, evT, evTg, evTgs, evIt, evO, R.bind_ok, Lit.w, startE, List.map_cons, List.map_nil, List.length_cons, List.length_nil, List.replicate, List.cons_append, List.nil_append, List.append_nil, List.getElem?_cons_succ, List.getElem?_cons_zero, List.set_cons_succ, List.set_cons_zero, reOk, ↓reduceIte, Nat.reduceAdd, Nat.reduceSub, ev_tru, blR_some, vw_int, vw_bl, vw_str, vwTup, vw_lst, vw_obj, vw_non, isLstW_lst, Bool.false_eq_true, Bool.not_true, Bool.not_false, decide_true, decide_false, decide_eq_true_eq, ev_int, ev_intb, ev_add, ev_gt, ev_lt, ev_ge, ev_le, ev_eqI, ev_neI, ev_eqS, ev_neS, String.reduceEq, mkT0, mkT1, mkT2, mkT3, mkT4, mkT5, mkT6, ev_notN_int, ev_notN_non, Nat.add_zero, idx0, idx1, idx2, idx3, idx4, isLst_lst, isTup_tup, isStr_str, isBl_bl, isInt_int, isBl_int, isBl_non, ev_lenT, ev_lenL, gdL_lst, exit_k, cst0, cst1, cst2, cst3, cst4, cst5, cst6, cst7, cst8, Int.reduceEq, vw_bk, fo_row]
  rw [e]
  refine exit_rt hm ?_
  show (b.rows).all (Lw.cl 11) = true
  exact rows_cl (rs := [b.r .given, b.r .laid, b.r .left, b.r .opened, b.r .taken, b.r .gone, b.r .late, b.r .power])
theorem lc_two {bt : W → Option Lw.Env} {elt : Lw.Env → Mem → Nat → R W} {gd : Mem → Bool} {x1 x2 y1 y2 : W} {ρ1 ρ2 : Lw.Env} {c1 c2 : Nat} (hg : gd m = true) (b1 : bt x1 = some ρ1) (b2 : bt x2 = some ρ2) (h1 : elt ρ1 m c = .ok y1 m c1) (h2 : elt ρ2 m c1 = .ok y2 m c2) : lcGo gd bt (fun ρ m c => .ok true m c) elt [x1, x2] [] m c = .ok [y1, y2] m c2 := by
  rw [lcGo, if_pos hg, b1]
  simp only [R.bind_ok, if_true]
  rw [bnd h1, if_pos (by rw [sizeLine_eq]; decide), lcGo, if_pos hg, b2]
  simp only [R.bind_ok, if_true]
  rw [bnd h2, if_pos (by rw [sizeLine_eq]; simp), lcGo, if_pos hg]
  rfl
def XR (b1 b2 : Bk) (e4 e5 : Option W) : Lw.Env := [some .tok, some (.lst [PW b1, PW b2]), some (.lst [b1.w, b2.w]), none, e4, e5]
theorem step10 {b1 b2 : Bk} {j : Nat} {e5 : Option W} (hcl : cl = run cfg prim ω (k + 4)) (hm : OkM m) (hb : b.ok) (h1 : 1 ≤ b.lim) (h2 : b.lim ≤ 30) (hj : [PW b1, PW b2][j]? = some (PW b)) (hk : [b1.w, b2.w][j]? = some b.w) :
    exSs cfg cl b_law_right_S1 (XR b1 b2 (some (.int (j : Int))) e5) m c = .ok (.nx (XR b1 b2 (some (.int (j : Int))) (some (.str (TX b))))) m c := by
  have ht := text_run (ω := ω) (k := k + 1) (c := c) (b := b) hm hb h1 h2
  have hln := lines_run (ω := ω) (k := k + 2) (c := c) (b := b) hm hb h1 h2
  rw [show run cfg prim ω (k + 1 + 3) = cl from hcl.symm] at ht
  rw [show run cfg prim ω (k + 2 + 2) = cl from hcl.symm] at hln
  unfold b_law_right_S1
  refine ss_cons (ρ' := XR b1 b2 (some (.int (j : Int))) (some (.str (TX b)))) (m' := m) (c' := c) (asg_e (i := 5) (ρ := XR b1 b2 (some (.int (j : Int))) e5) (ev_call1 (x1 := b.w) (idxN (x := .lst [b1.w, b2.w]) (xs := [b1.w, b2.w]) (n := j) rfl rfl rfl hk) ht)) ?_
  rw [ss_one]
  have hi : evE cfg cl (.isi (.var 5) .str) (XR b1 b2 (some (.int (j : Int))) (some (.str (TX b)))) m c = .ok (.bl true) m c := by
    have v5 : evE cfg cl (.var 5) (XR b1 b2 (some (.int (j : Int))) (some (.str (TX b)))) m c = .ok (.str (TX b)) m c := rfl
    rw [evE, bnd v5]
    rfl
  have hj2 : evE cfg cl (.sjoin (.con (.str (Str.ofString "\n"))) (.call 7 (.cons (.idx (.var 1) (.var 4)) .nil))) (XR b1 b2 (some (.int (j : Int))) (some (.str (TX b)))) m c = .ok (.str (TX b)) m c :=
    e_join (ys := txL b) (ev_call1 (x1 := PW b) (idxN (x := .lst [PW b1, PW b2]) (xs := [PW b1, PW b2]) (n := j) rfl rfl rfl hj) hln) (Nat.le_trans (txL_fit hb h1 h2) (by decide))
  rw [ife_f (t_or_f (t_not (x := true) (t_e hi)) (t_e (r := false) (cmp_e (x := .str (TX b)) (y := .str (TX b)) rfl hj2 (ne_of_eqT (eq_text ok_TX))))), exSs]
theorem right10 (hm : OkM m) (hc : c + 5000 ≤ 800000) : ∃ c', c' ≤ c + 1100 ∧ run cfg prim ω (k + 5) 1 [.tok] m c = .ok (.bl true) m c' := by
  obtain ⟨b1, c1, h1, h2, hb1, hc1, hp⟩ := plan_run (ω := ω) (k := k + 1) (m := m) (c := c) hm (by omega)
  obtain ⟨v, v0, v1, hv⟩ := drop_run (ω := ω) (k := k + 3) (m := m) (c := c1) (i := 30) (by decide) (by decide) (by omega)
  obtain ⟨z, hz⟩ : ∃ z : Int, z = 1 + v := ⟨_, rfl⟩
  have z1 : 1 ≤ (bk0 z).lim := by show 1 ≤ z; omega
  have z2 : (bk0 z).lim ≤ 30 := by show z ≤ 30; omega
  obtain ⟨c2, hc2, hm1⟩ := made10 (ω := ω) (k := k) (m := m) (c := c1 + 1) hm hb1 h1 h2 (by omega)
  obtain ⟨c3, hc3, hm2⟩ := made10 (ω := ω) (k := k) (m := m) (c := c2) (b := bk0 z) hm bk0_ok z1 z2 (by omega)
  have hlb := lawbook_run (ω := ω) (k := k + 1) (c := c3) (b := b1) hm hb1 h1 h2
  have htx := text_run (ω := ω) (k := k + 1) (c := c3) (b := b1) hm hb1 h1 h2
  have hln := lines_run (ω := ω) (k := k + 2) (c := c3) (b := b1) hm hb1 h1 h2
  have hru := rulesB_run (ω := ω) (k := k + 3) (c := c3) (b := b1) hm
  have hda := days_run (ω := ω) (k := k + 3) (c := c3) (b := bk0 z) hm
  obtain ⟨cl, hcl⟩ : ∃ cl, cl = run cfg prim ω (k + 4) := ⟨_, rfl⟩
  rw [show run cfg prim ω (k + 1 + 3) = cl from hcl.symm] at hp hlb htx
  rw [show run cfg prim ω (k + 3 + 1) = cl from hcl.symm] at hv hru hda
  rw [show run cfg prim ω (k + 2 + 2) = cl from hcl.symm] at hln
  rw [← hcl] at hm1 hm2
  refine ⟨c3, by omega, ?_⟩
  rw [r_law_right rfl]
  rw [← hcl]
  have st : ∀ (j : Nat) (b : Bk) (e5 : Option W), b.ok → 1 ≤ b.lim → b.lim ≤ 30 → [PW b1, PW (bk0 z)][j]? = some (PW b) → [b1.w, (bk0 z).w][j]? = some b.w → exSs cfg cl b_law_right_S1 (XR b1 (bk0 z) (some (.int (j : Int))) e5) m c3 = .ok (.nx (XR b1 (bk0 z) (some (.int (j : Int))) (some (.str (TX b))))) m c3 := fun j b e5 a1 a2 a3 a4 a5 => step10 (k := k) hcl hm a1 a2 a3 a4 a5
  have e : exSs cfg cl b_law_right (startE 6 [.tok]) m c = .ok (.rt (.bl true)) m c3 := by
    unfold b_law_right
    refine ss_cons (ρ' := [some .tok, some (.lst [PW b1, PW (bk0 z)]), none, none, none, none]) (m' := m) (c' := c1 + 1) (asg_e (i := 1) (ρ := startE 6 [.tok]) ?_) ?_
    · have q1 := ev_call1 (cl := cl) (f := 10) (a1 := .var 0) (ρ := startE 6 [.tok]) (x1 := .tok) rfl hp
      have q30 := ev_bin (cl := cl) (op := .add) (a1 := .con (.int 1)) (x := .int 1) (m := m) (c := c1) rfl (ev_call2 (cl := cl) (f := 9) (a1 := .var 0) (a2 := .con (.int 30)) (ρ := startE 6 [.tok]) (x1 := .tok) (x2 := .int 30) rfl rfl hv) ev_add
      rw [← hz] at q30
      have q2 := ev_tupE (es_cons q30 (es_cons (mulT (j := 8) (ev_tupE (es_cons (ev_tupE es_nil (by simp)) es_nil) (show 1 ≤ 100 by decide)) (cn_i (z := 8)) (by decide)) es_nil)) (show 2 ≤ 100 by decide)
      exact ev_lstE (es_cons q1 (es_cons q2 es_nil)) (show 2 ≤ 100 by decide)
    refine ss_cons (ρ' := XR b1 (bk0 z) none none) (m' := m) (c' := c3) (asg_e (i := 2) (ρ := [some .tok, some (.lst [PW b1, PW (bk0 z)]), none, none, none, none]) ?_) ?_
    · have h := lc_two (m := m) (c := c1 + 1) (gd := gdL (.lst [PW b1, PW (bk0 z)]) [PW b1, PW (bk0 z)]) (bt := fun w => bindTg [3] false w (wipeE [some .tok, some (.lst [PW b1, PW (bk0 z)]), none, none, none, none] [3])) (elt := fun ρ m c => evE cfg cl b_law_right_E2 ρ m c) (x1 := PW b1) (x2 := PW (bk0 z)) (y1 := b1.w) (y2 := (bk0 z).w) (ρ1 := [some .tok, some (.lst [PW b1, PW (bk0 z)]), none, some (PW b1), none, none]) (ρ2 := [some .tok, some (.lst [PW b1, PW (bk0 z)]), none, some (PW (bk0 z)), none, none]) rfl rfl rfl
        (by unfold b_law_right_E2; exact ev_call2 (x1 := .tok) (x2 := PW b1) rfl rfl hm1) (by unfold b_law_right_E2; exact ev_call2 (x1 := .tok) (x2 := PW (bk0 z)) rfl rfl hm2)
      have hit : evIt cfg cl (.lst (.var 1)) [some .tok, some (.lst [PW b1, PW (bk0 z)]), none, none, none, none] m (c1 + 1) = .ok ⟨[PW b1, PW (bk0 z)], gdL (.lst [PW b1, PW (bk0 z)]) [PW b1, PW (bk0 z)]⟩ m (c1 + 1) := rfl
      have hy : (fun ρ m c => evT cfg cl .yes ρ m c) = fun (ρ : Lw.Env) (m : Mem) (c : Nat) => R.ok true m c := by funext ρ m c; rw [evT]
      rw [evE, bnd hit, hy]
      refine (bnd (lcn h) _).trans ?_
      exact mkL_ok (le_sl (by show 2 ≤ _; decide))
    have hfor : exS cfg cl (.for [4] false (.tup (.tup (.cons (.con (.int 0)) (.cons (.con (.int 1)) (.cons (.con (.int 0)) (.cons (.con (.int 1)) .nil)))))) b_law_right_S1) (XR b1 (bk0 z) none none) m c3 = .ok (.nx (XR b1 (bk0 z) (some (.int ((1 : Nat) : Int))) (some (.str (TX (bk0 z)))))) m c3 := by
      have hit : evIt cfg cl (.tup (.tup (.cons (.con (.int 0)) (.cons (.con (.int 1)) (.cons (.con (.int 0)) (.cons (.con (.int 1)) .nil)))))) (XR b1 (bk0 z) none none) m c3 = .ok ⟨[.int ((0 : Nat) : Int), .int ((1 : Nat) : Int), .int ((0 : Nat) : Int), .int ((1 : Nat) : Int)], fun _ => true⟩ m c3 := by
        have q := ev_tupE (cl := cl) (ρ := XR b1 (bk0 z) none none) (m := m) (c := c3) (es_cons (cn_i (z := 0)) (es_cons (cn_i (z := 1)) (es_cons (cn_i (z := 0)) (es_cons (cn_i (z := 1)) es_nil)))) (show 4 ≤ 100 by decide)
        rw [evIt, bnd q]
        rfl
      rw [exS, bnd hit]
      rw [forGo, if_pos rfl, bind_one]
      simp only []
      have s1 : exSs cfg cl b_law_right_S1 ((XR b1 (bk0 z) none none).set 4 (some (.int ((0 : Nat) : Int)))) m c3 = _ := st 0 b1 none hb1 h1 h2 rfl rfl
      rw [bnd s1]
      simp only []
      rw [forGo, if_pos rfl, bind_one]
      simp only []
      have s2 : exSs cfg cl b_law_right_S1 ((XR b1 (bk0 z) (some (.int ((0 : Nat) : Int))) (some (.str (TX b1)))).set 4 (some (.int ((1 : Nat) : Int)))) m c3 = _ := st 1 (bk0 z) (some (.str (TX b1))) bk0_ok z1 z2 rfl rfl
      rw [bnd s2]
      simp only []
      rw [forGo, if_pos rfl, bind_one]
      simp only []
      have s3 : exSs cfg cl b_law_right_S1 ((XR b1 (bk0 z) (some (.int ((1 : Nat) : Int))) (some (.str (TX (bk0 z))))).set 4 (some (.int ((0 : Nat) : Int)))) m c3 = _ := st 0 b1 (some (.str (TX (bk0 z)))) hb1 h1 h2 rfl rfl
      rw [bnd s3]
      simp only []
      rw [forGo, if_pos rfl, bind_one]
      simp only []
      have s4 : exSs cfg cl b_law_right_S1 ((XR b1 (bk0 z) (some (.int ((0 : Nat) : Int))) (some (.str (TX b1)))).set 4 (some (.int ((1 : Nat) : Int)))) m c3 = _ := st 1 (bk0 z) (some (.str (TX b1))) bk0_ok z1 z2 rfl rfl
      rw [bnd s4]
      simp only []
      rw [forGo, if_pos rfl]
    refine ss_cons hfor ?_
    have p0 : evE cfg cl (.idx (.var 1) (.con (.int 0))) (XR b1 (bk0 z) (some (.int ((1 : Nat) : Int))) (some (.str (TX (bk0 z))))) m c3 = .ok (PW b1) m c3 := idx_e (x := .lst [PW b1, PW (bk0 z)]) (y := .int 0) rfl rfl rfl
    have p1 : evE cfg cl (.idx (.var 1) (.con (.int 1))) (XR b1 (bk0 z) (some (.int ((1 : Nat) : Int))) (some (.str (TX (bk0 z))))) m c3 = .ok (PW (bk0 z)) m c3 := idx_e (x := .lst [PW b1, PW (bk0 z)]) (y := .int 1) rfl rfl rfl
    refine ss_cons (ρ' := XR b1 (bk0 z) (some (.int ((1 : Nat) : Int))) (some (.str (TX (bk0 z))))) (m' := m) (c' := c3) ?_ ?_
    · have q1 : evE cfg cl (.callK 5 [(Str.ofString "book")] [0] (.cons (.call 6 (.cons (.idx (.var 1) (.con (.int 0))) .nil)) .nil)) (XR b1 (bk0 z) (some (.int ((1 : Nat) : Int))) (some (.str (TX (bk0 z))))) m c3 = .ok (.str (TX b1)) m c3 := by
        rw [evE, bnd (es_cons (ev_call1 (x1 := PW b1) p0 hlb) es_nil)]
        show reEnv _ (cl 5 [b1.w] m c3) = _
        rw [htx]; rfl
      have q2 : evE cfg cl (.sjoin (.con (.str (Str.ofString "\n"))) (.call 7 (.cons (.idx (.var 1) (.con (.int 0))) .nil))) (XR b1 (bk0 z) (some (.int ((1 : Nat) : Int))) (some (.str (TX (bk0 z))))) m c3 = .ok (.str (TX b1)) m c3 := e_join (ys := txL b1) (ev_call1 (x1 := PW b1) p0 hln) (Nat.le_trans (txL_fit hb1 h1 h2) (by decide))
      rw [ife_f (t_e (r := false) (cmp_e q1 q2 (ne_of_eqT (eq_text ok_TX)))), exSs]
    refine ret_e ?_
    have m0 : evE cfg cl (.meth 3 (.idx (.var 2) (.con (.int 0))) .nil) (XR b1 (bk0 z) (some (.int ((1 : Nat) : Int))) (some (.str (TX (bk0 z))))) m c3 = .ok b1.row m c3 := by
      have v : evE cfg cl (.idx (.var 2) (.con (.int 0))) (XR b1 (bk0 z) (some (.int ((1 : Nat) : Int))) (some (.str (TX (bk0 z))))) m c3 = .ok b1.w m c3 := idx_e (x := .lst [b1.w, (bk0 z).w]) (y := .int 0) rfl rfl rfl
      rw [evE, bnd v]
      simp only [fn_Book_rules, vw_bk, if_true]
      rw [evEs]
      simp only [R.bind_ok, hru, reOk]
    have m1 : evE cfg cl (.meth 4 (.idx (.var 2) (.con (.int 1))) .nil) (XR b1 (bk0 z) (some (.int ((1 : Nat) : Int))) (some (.str (TX (bk0 z))))) m c3 = .ok (.int (bk0 z).lim) m c3 := by
      have v : evE cfg cl (.idx (.var 2) (.con (.int 1))) (XR b1 (bk0 z) (some (.int ((1 : Nat) : Int))) (some (.str (TX (bk0 z))))) m c3 = .ok (bk0 z).w m c3 := idx_e (x := .lst [b1.w, (bk0 z).w]) (y := .int 1) rfl rfl rfl
      rw [evE, bnd v]
      simp only [fn_Book_days, vw_bk, if_true]
      rw [evEs]
      simp only [R.bind_ok, hda, reOk]
    have r0 : evE cfg cl (.idx (.idx (.var 1) (.con (.int 0))) (.con (.int 1))) (XR b1 (bk0 z) (some (.int ((1 : Nat) : Int))) (some (.str (TX (bk0 z))))) m c3 = .ok b1.row m c3 := idx_e (x := PW b1) (y := .int 1) p0 rfl pw_1
    have r1 : evE cfg cl (.idx (.idx (.var 1) (.con (.int 1))) (.con (.int 0))) (XR b1 (bk0 z) (some (.int ((1 : Nat) : Int))) (some (.str (TX (bk0 z))))) m c3 = .ok (.int (bk0 z).lim) m c3 := idx_e (x := PW (bk0 z)) (y := .int 0) p1 rfl pw_0
    exact e_and (x := true) (y := true) (cmp_e m0 r0 (eq_of_eqT eq_row)) (cmp_e m1 r1 (by rw [ev_eqI, decide_eq_true rfl]))
  rw [e]
  exact exit_rt hm rfl
theorem law_runs : LawRuns := by
  intro ω ns hlen _
  obtain ⟨N, hN⟩ : ∃ N : Nat, N = max 1 (min 6 ns.length) := ⟨_, rfl⟩
  obtain ⟨Z, hZ⟩ : ∃ Z : Int, Z = (N : Nat) := ⟨_, rfl⟩
  have hmin : bltW false .min2 [.int 6, .int (ns.length : Nat)] [] 0 = .ok (.int ((min 6 ns.length : Nat) : Int)) [] 0 := by
    rw [ev_min]
    split <;> (congr 2; omega)
  have hmax : bltW false .max2 [.int 1, .int ((min 6 ns.length : Nat) : Int)] [] 0 = .ok (.int Z) [] 0 := by
    rw [ev_max]
    split <;> (congr 2; omega)
  have loop : ∀ (n : Nat) (lo : Int) (c : Nat) (e1 : Option W), 0 ≤ lo → lo + n ≤ 100 → c + 1200 * n + 6000 ≤ 800000 → ∃ (c' : Nat) (e1' : Option W), forGo (fun _ => true) (fun w ρ => bindTg [1] false w ρ) (fun ρ m c => exSs cfg (run cfg prim ω 11) b_law_S1 ρ m c) (rngW lo n) [some (.scr ns), e1] [] c = .ok (.nx [some (.scr ns), e1']) [] c' := by
    intro n
    induction n with
    | zero => intro lo c e1 _ _ _; exact ⟨c, e1, by rw [rngW, forGo, if_pos rfl]⟩
    | succ n ih =>
      intro lo c e1 h0 h1 h2
      obtain ⟨c1, hc1, hr⟩ := right10 (ω := ω) (k := 6) (m := []) (c := c) okM_nil (by omega)
      obtain ⟨c2, e2, h⟩ := ih (lo + 1) c1 (some (.int lo)) (by omega) (by omega) (by omega)
      refine ⟨c2, e2, ?_⟩
      rw [rngW, forGo, if_pos rfl, bind_one]
      simp only []
      have hs : run cfg prim ω 11 2 [.scr ns, .int lo] [] c = .ok .tok [] c := by
        rw [r_law_pot rfl]
        exact ev_spring h0 (by omega)
      have st : exSs cfg (run cfg prim ω 11) b_law_S1 ([some (.scr ns), e1].set 1 (some (.int lo))) [] c = .ok (.nx [some (.scr ns), some (.int lo)]) [] c1 := by
        unfold b_law_S1
        rw [ss_one]
        have q1 := ev_call2 (cl := run cfg prim ω 11) (f := 2) (a1 := .var 0) (a2 := .var 1) (ρ := [some (.scr ns), some (.int lo)]) (x1 := .scr ns) (x2 := .int lo) rfl rfl hs
        exact if_not (ev_call1 (x1 := .tok) q1 hr)
      rw [bnd st]
      exact h
  obtain ⟨c', e1', hl⟩ := loop N 0 0 none (by omega) (by omega) (by omega)
  refine ⟨[], c', ?_⟩
  rw [r_law rfl]
  have e : exSs cfg (run cfg prim ω 11) b_law (startE 2 [.scr ns]) [] 0 = .ok (.rt (.bl true)) [] c' := by
    unfold b_law
    have hb : evE cfg (run cfg prim ω 11) (.blt false .max2 (.cons (.con (.int 1)) (.cons (.blt false .min2 (.cons (.con (.int 6)) (.cons (.blt false .len (.cons (.var 0) .nil)) .nil))) .nil))) [some (.scr ns), none] [] 0 = .ok (.int Z) [] 0 := by
      simp only [exSs, exS, evE, evEs, evT, evTg, evTgs, evIt, evO, R.bind_ok, Lit.w, startE, List.map_cons, List.map_nil, List.length_cons, List.length_nil, List.replicate, List.cons_append, List.nil_append, List.append_nil, List.getElem?_cons_succ, List.getElem?_cons_zero, List.set_cons_succ, List.set_cons_zero, reOk, ↓reduceIte, Nat.reduceAdd, Nat.reduceSub, ev_tru, blR_some, vw_int, vw_bl, vw_str, vwTup, vw_lst, vw_obj, vw_non, isLstW_lst, Bool.false_eq_true, Bool.not_true, Bool.not_false, decide_true, decide_false, decide_eq_true_eq, ev_int, ev_intb, ev_add, ev_gt, ev_lt, ev_ge, ev_le, ev_eqI, ev_neI, ev_eqS, ev_neS, String.reduceEq, mkT0, mkT1, mkT2, mkT3, mkT4, mkT5, mkT6, ev_notN_int, ev_notN_non, Nat.add_zero, idx0, idx1, idx2, idx3, idx4, isLst_lst, isTup_tup, isStr_str, isBl_bl, isInt_int, isBl_int, isBl_non, ev_lenT, ev_lenL, gdL_lst, exit_k, cst0, cst1, cst2, cst3, cst4, cst5, cst6, cst7, cst8, Int.reduceEq, ev_lenS, hmin, hmax]
    have hit := it_rng (n := N) (by rw [hb, hZ]) (by omega)
    refine ss_cons (ρ' := [some (.scr ns), e1']) (m' := []) (c' := c') ?_ (ret_e rfl)
    show exS cfg (run cfg prim ω 11) _ [some (.scr ns), none] [] 0 = _
    rw [exS, bnd hit]
    exact hl
  rw [e]
  exact exit_rt (m := []) okM_nil rfl
end
end K10


open PySem PySem.W PyProof.Rows
set_option maxRecDepth 100000 in
set_option maxHeartbeats 0 in
theorem PySem.Challenge.cw_lockerwall_k10_book_texts_holds : PySem.Challenge.rw_lockerwall_k10_book_texts.Holds := by
  w_on; o_law; k_head; (case hw => w_witness2)
  k_fill
  refine L2.walk_ofB (l := PySem.Challenge.rw_lockerwall_k10_book_texts) (n := 63) (k := Lw.lev 12) (x := "script") (CX := fun w => L2.CX PySem.Challenge.rw_lockerwall_k10_book_texts.prog w) (sp := fun w => K10.spLaw _) rfl (by decide) rfl ⟨rfl, by decide, by decide⟩ (fun w h Y => PySem.W.kIn_of Y) ?F (fun _ _ a ns hl hb _ hS => ⟨a, ns, rfl, hS, hl, hb, fun _ => rfl⟩) (fun _ _ _ _ _ h => by obtain ⟨_, _, _, _, _, _, _, _, _, _, _, _, z⟩ := h; exact z.elim)
  case F =>
    intro w mg fa h KX G hmg
    refine' K10.all_mk KX G hmg ?q_aC0 ?q_pg0 ?q_hd0 ?q_po0 ?q_sa0 ?q_mk0 ?q_kc0 ?q_n0_0 ?q_n0_1 ?q_n0_2 ?q_a0 ?q_l0 ?q_c0 ?q_k0 ?q_a1 ?q_l1 ?q_c1 ?q_k1 ?q_a2 ?q_l2 ?q_c2 ?q_k2 ?q_a3 ?q_i3 ?q_l3 ?q_c3 ?q_k3 ?q_a4 ?q_i4 ?q_l4 ?q_c4 ?q_k4 ?q_a5 ?q_l5 ?q_c5 ?q_k5 ?q_a6 ?q_l6 ?q_c6 ?q_k6 ?q_a7 ?q_l7 ?q_c7 ?q_k7 ?q_a8 ?q_l8 ?q_c8 ?q_k8 ?q_a9 ?q_l9 ?q_c9 ?q_k9 ?q_a10 ?q_l10 ?q_c10 ?q_k10 ?q_a11 ?q_i11 ?q_l11 ?q_c11 ?q_k11 ?q_a12 ?q_i12 ?q_l12 ?q_c12 ?q_k12 ?q_d12 ?q_dl12_0 ?q_dl12_1 ?q_dl12_2 ?q_dl12_3 ?q_dl12_4 ?q_dl12_5 ?q_dl12_6 ?q_dl12_7 ?q_a13 ?q_l13 ?q_c13 ?q_k13 ?q_a14 ?q_l14 ?q_c14 ?q_k14 ?q_a15 ?q_i15 ?q_l15 ?q_c15 ?q_k15 ?q_a16 ?q_i16 ?q_l16 ?q_c16 ?q_k16 ?q_a17 ?q_i17 ?q_l17 ?q_c17 ?q_k17 ?q_a18 ?q_l18 ?q_c18 ?q_k18 ?q_a19 ?q_l19 ?q_c19 ?q_k19 ?q_a20 ?q_l20 ?q_c20 ?q_k20 ?q_a21 ?q_l21 ?q_c21 ?q_k21 ?q_a22 ?q_l22 ?q_c22 ?q_k22 ?q_z_len ?q_z_int ?q_z_abs ?q_z_max ?q_z_min ?q_z_sorted ?q_z_list ?q_z_tuple ?q_z_str ?q_z_all ?q_z_any ?q_z_sum ?q_z_isinstance ?q_z_range ?q_z_enumerate ?q_z_zip ?q_z_bool ?q_z_set ?q_gl_0 ?q_g0 ?q_gl_1 ?q_g1 ?q_g2 ?q_g3 K10.law_runs
    (case q_aC0 => k_is); (case q_pg0 => k_is); (case q_hd0 => k_is); (case q_po0 => k_is); (case q_sa0 => k_is); (case q_mk0 => k_is)
    (case q_kc0 => k_is); (case q_n0_0 => k_is); (case q_n0_1 => k_is); (case q_n0_2 => k_is); (case q_a0 => k_is); (case q_l0 => k_is)
    (case q_c0 => k_is); (case q_k0 => k_is); (case q_a1 => k_is); (case q_l1 => k_is); (case q_c1 => k_is); (case q_k1 => k_is)
    (case q_a2 => k_is); (case q_l2 => k_is); (case q_c2 => k_is); (case q_k2 => k_is); (case q_a3 => k_is); (case q_i3 => k_is)
    (case q_l3 => k_is); (case q_c3 => k_is); (case q_k3 => k_is); (case q_a4 => k_is); (case q_i4 => k_is); (case q_l4 => k_is)
    (case q_c4 => k_is); (case q_k4 => k_is); (case q_a5 => k_is); (case q_l5 => k_is); (case q_c5 => k_is); (case q_k5 => k_is)
    (case q_a6 => k_is); (case q_l6 => k_is); (case q_c6 => k_is); (case q_k6 => k_is); (case q_a7 => k_is); (case q_l7 => k_is)
    (case q_c7 => k_is); (case q_k7 => k_is); (case q_a8 => k_is); (case q_l8 => k_is); (case q_c8 => k_is); (case q_k8 => k_is)
    (case q_a9 => k_is); (case q_l9 => k_is); (case q_c9 => k_is); (case q_k9 => k_is); (case q_a10 => k_is); (case q_l10 => k_is)
    (case q_c10 => k_is); (case q_k10 => k_is); (case q_a11 => k_is); (case q_i11 => k_is); (case q_l11 => k_is); (case q_c11 => k_is)
    (case q_k11 => k_is); (case q_a12 => k_is); (case q_i12 => k_is); (case q_l12 => k_is); (case q_c12 => k_is); (case q_k12 => k_is)
    (case q_d12 => k_is); (case q_dl12_0 => k_is); (case q_dl12_1 => k_is); (case q_dl12_2 => k_is); (case q_dl12_3 => k_is); (case q_dl12_4 => k_is)
    (case q_dl12_5 => k_is); (case q_dl12_6 => k_is); (case q_dl12_7 => k_is); (case q_a13 => k_is); (case q_l13 => k_is); (case q_c13 => k_is)
    (case q_k13 => k_is); (case q_a14 => k_is); (case q_l14 => k_is); (case q_c14 => k_is); (case q_k14 => k_is); (case q_a15 => k_is)
    (case q_i15 => k_is); (case q_l15 => k_is); (case q_c15 => k_is); (case q_k15 => k_is); (case q_a16 => k_is); (case q_i16 => k_is)
    (case q_l16 => k_is); (case q_c16 => k_is); (case q_k16 => k_is); (case q_a17 => k_is); (case q_i17 => k_is); (case q_l17 => k_is)
    (case q_c17 => k_is); (case q_k17 => k_is); (case q_a18 => k_is); (case q_l18 => k_is); (case q_c18 => k_is); (case q_k18 => k_is)
    (case q_a19 => k_is); (case q_l19 => k_is); (case q_c19 => k_is); (case q_k19 => k_is); (case q_a20 => k_is); (case q_l20 => k_is)
    (case q_c20 => k_is); (case q_k20 => k_is); (case q_a21 => k_is); (case q_l21 => k_is); (case q_c21 => k_is); (case q_k21 => k_is)
    (case q_a22 => k_is); (case q_l22 => k_is); (case q_c22 => k_is); (case q_k22 => k_is); (case q_z_len => k_is); (case q_z_int => k_is)
    (case q_z_abs => k_is); (case q_z_max => k_is); (case q_z_min => k_is); (case q_z_sorted => k_is); (case q_z_list => k_is); (case q_z_tuple => k_is)
    (case q_z_str => k_is); (case q_z_all => k_is); (case q_z_any => k_is); (case q_z_sum => k_is); (case q_z_isinstance => k_is); (case q_z_range => k_is)
    (case q_z_enumerate => k_is); (case q_z_zip => k_is); (case q_z_bool => k_is); (case q_z_set => k_is); (case q_g0 => k_is); (case q_g1 => k_is)
    (case q_g2 => k_is); (case q_g3 => k_is); (case q_gl_0 => k_is); (case q_gl_1 => k_is)
    all_goals first | exact (0 : Nat) | exact (#[] : Array (Option Value)) | exact (none : Option Addr) | exact (Value.none)

