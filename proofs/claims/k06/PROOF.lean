import PyProof.Rows.All
import Wide.All
import OpenK.AllK
import Wide.FinOn
import HandS.ForMost
import HandS.Wide
import HandS.IsInst
import HandS.ForExc
import HandS.CallSlots
import HandS.Deep
import HandS.TupAny
import HandS.TupMul
import HandS.Flow
import HandS.Style
import HandS.Zip
import HandS.TryOnly
import HandS.TryMany
import HandS.SortInts
import HandS.ExcOwn
import HandS.GenList
import HandS.Defaults
import HandS.EndTab
import HandS.ExcInit
import HandS.ExcSuper
import KE.KExcSuper
import HandS.More
import PySem.Challenge.RW_hushedwires_k06_whole_words_numbered_asc
set_option Elab.async false
set_option linter.all false
set_option maxRecDepth 100000
section
/-! The ghost machine: plain values, a small language, its evaluator. -/
namespace Gm
open PySem L2

inductive GV where
  | non | bl (b : Bool) | int (i : Int) | str (x : Str)
  | tup (xs : List GV) | lst (xs : List GV)
  | scr (ns : List Int)
  | ins (C : Str) (xs : List GV)
  | cel (n : Nat)
  | ty (n : String)
  | glo (x : Str)
  deriving Inhabited

mutual
def GV.toD : GV → Option PyData
  | .non => some .none
  | .bl b => some (.bool b)
  | .int i => some (.int i)
  | .str x => some (.str x)
  | .tup xs => match GV.toDs xs with | some ds => some (.tuple ds) | none => none
  | .lst xs => match GV.toDs xs with | some ds => some (.list ds) | none => none
  | _ => none
def GV.toDs : List GV → Option (List PyData)
  | [] => some []
  | x :: xs => match GV.toD x with
    | none => none
    | some d => match GV.toDs xs with
      | none => none
      | some ds => some (d :: ds)
end

abbrev Cells := List (List GV)
inductive Sl where
  | no | val (v : GV) | own (xs : List GV) | exc
  deriving Inhabited
inductive Res (α : Type) where
  | ok (a : α) (G : Cells) | ex (C : Str) (fs : List GV) (G : Cells) | no
def Res.bind {α β : Type} (r : Res α) (f : α → Cells → Res β) : Res β := match r with
  | .ok a G => f a G
  | .ex C fs G => .ex C fs G
  | .no => .no
def Res.of {α : Type} (o : Option α) (G : Cells) : Res α := match o with
  | some a => .ok a G
  | none => .no

inductive Bop where | add | sub | mul | fdiv | mod | pow | shl | shr | band | bor | bxor
  deriving DecidableEq
inductive Cop where | lt | le | gt | ge | eq | ne | isI | isN | inn | nin
  deriving DecidableEq
inductive Blt where | len | tupl | listt | intt | abs | isi | str | sum | maxx | minn | sorted | boolt | max2 | min2 | rev
  deriving DecidableEq
inductive Tg where | name (i : Nat) | tup (is : List Nat)

mutual
inductive E where
  | var (i : Nat)
  | con (v : GV)
  | glb (x : Str)
  | bty (n : String)
  | bin (op : Bop) (a b : E)
  | neg (a : E)
  | cmp (op : Cop) (a b : E)
  | chn (op op' : Cop) (a b c : E)
  | and (a b : E)
  | or (a b : E)
  | not (a : E)
  | ite (c a b : E)
  | tup (es : List E)
  | lst (es : List E)
  | cel (es : List E)
  | idx (a b : E)
  | slc (a : E) (lo hi : List E)
  | call (f : Str) (es : List E) (dv : List GV)
  | blt (f : Blt) (es : List E)
  | cmpr (elt : E) (tg : Tg) (own : List Nat) (it : It) (cnd : E)
  | xfl (i : Nat) (f : Str)
inductive It where
  | seq (e : E)
  | seqs (e : E)
  | rng (es : List E)
end

inductive S where
  | set (i : Nat) (e : E)
  | seto (i : Nat) (e : E)
  | sett (ts : List Nat) (e : E)
  | par (is : List Nat) (es : List E)
  | sub (i : Nat) (ix e : E)
  | app (i : Nat) (e : E)
  | exp (e : E)
  | ret (e : E)
  | ite (c : E) (a b : List S)
  | whl (c : E) (b : List S)
  | forr (tg : Tg) (it : It) (b : List S)
  | rse (C : Str) (es : List E)
  | tryy (b : List S) (hs : List (Str × Option Nat × List S))
  | brk | cnt | pas
  | frz (ts : List Nat) (s : S)
  | aug (i : Nat) (op : Bop) (e : E)

/-! ### values' operations -/
def mulOk (i j : Int) : Bool := decide (i.natAbs.log2 + j.natAbs.log2 < 1000000)
def divOk (j : Int) : Bool := decide (j ≠ 0) && decide (j.natAbs.log2 < 9000)
def powOk (i j : Int) : Bool := decide (0 ≤ j) && decide (j ≤ 1000000) && decide (i.natAbs < 2 ^ 64)
def szOk (n : Nat) : Bool := decide (n ≤ sizeLine)

def binV (op : Bop) (x y : GV) : Option GV := match x, y with
  | .int i, .int j => match op with
    | .add => some (.int (i + j))
    | .sub => some (.int (i - j))
    | .mul => if mulOk i j then some (.int (i * j)) else none
    | .fdiv => if divOk j then some (.int (i.fdiv j)) else none
    | .mod => if decide (j ≠ 0) then some (.int (i.fmod j)) else none
    | .pow => if powOk i j then some (.int (i ^ j.toNat)) else none
    | .shl => if powOk i j then some (.int (i * 2 ^ j.toNat)) else none
    | .shr => if decide (0 ≤ j) then some (.int (i / 2 ^ j.toNat)) else none
    | .band => some (.int (Builtin.bitAnd i j))
    | .bor => some (.int (Builtin.bitOr i j))
    | .bxor => some (.int (Builtin.bitXor i j))
  | .str a, .str b => match op with
    | .add => if szOk (a.length + b.length) then some (.str (a ++ b)) else none
    | _ => none
  | .tup xs, .tup ys => match op with
    | .add => if szOk (xs.length + ys.length) then some (.tup (xs ++ ys)) else none
    | _ => none
  | .lst xs, .lst ys => match op with
    | .add => if szOk (xs.length + ys.length) then some (.lst (xs ++ ys)) else none
    | _ => none
  | .tup xs, .int k => match op with
    | .mul => if decide (1 ≤ k) && decide (k ≤ 1000) && decide (xs.length ≤ 1000) && !xs.isEmpty then some (.tup (List.replicate k.toNat xs).flatten) else if decide (-1000 ≤ k) && decide (k ≤ 0) && !xs.isEmpty then some (.tup []) else none
    | _ => none
  | .lst xs, .int k => match op with
    | .mul => if decide (-(2 ^ 63) ≤ k) && decide (k < 2 ^ 63) && szOk (xs.length * k.toNat) then some (.lst (List.replicate k.toNat xs).flatten) else none
    | _ => none
  | _, _ => none

/-- data of which == is known -/
def GV.shp (v : GV) : Option PyData := match v.toD with
  | some d => if SeqAt.shaped d then some d else none
  | none => none
def eqG (x y : GV) : Option Bool := match x.shp, y.shp with
  | some d, some e => some (PyData.eqv d e)
  | _, _ => none
def inD (x : GV) (ys : List GV) : Option Bool := match x.shp, (GV.lst ys).shp with
  | some d, some (.list ds) => some (ds.any fun z => PyData.eqv z d)
  | _, _ => none
def flatG : GV → Bool
  | .non => true
  | .bl _ => true
  | .int _ => true
  | .str _ => true
  | _ => false
def fEq : GV → GV → Bool
  | .non, .non => true
  | .bl a, .bl b => a == b
  | .bl a, .int b => (if a then 1 else 0) == b
  | .int a, .bl b => a == (if b then 1 else 0)
  | .int a, .int b => a == b
  | .str a, .str b => a == b
  | _, _ => false
def inT (x : GV) (ys : List GV) : Option Bool := if flatG x && ys.all flatG then some (ys.any fun y => fEq y x) else none
def isNonG : GV → Bool
  | .non => true
  | _ => false
def isV (x y : GV) : Option Bool := match y with
  | .non => some (isNonG x)
  | .bl b => (match x with
    | .bl c => some (decide (c = b))
    | _ => none)
  | _ => none
def cmpV (op : Cop) (x y : GV) : Option Bool := match op with
  | .eq => eqG x y
  | .ne => (eqG x y).map (!·)
  | .isI => isV x y
  | .isN => (isV x y).map (!·)
  | .inn => match x, y with
    | .str a, .str b => some (!(Builtin.Str.occurrences b a 0 b.length 1).isEmpty)
    | x, .lst ys => inD x ys
    | x, .tup ys => inT x ys
    | _, _ => none
  | .nin => match x, y with
    | .str a, .str b => some (!(!(Builtin.Str.occurrences b a 0 b.length 1).isEmpty))
    | x, .lst ys => (inD x ys).map (!·)
    | x, .tup ys => (inT x ys).map (!·)
    | _, _ => none
  | op => match x, y with
    | .int i, .int j => match op with
      | .lt => some (decide (i < j))
      | .le => some (decide (i ≤ j))
      | .gt => some (decide (j < i))
      | .ge => some (decide (j ≤ i))
      | _ => none
    | _, _ => none
def truV : GV → Option Bool
  | .non => some false
  | .bl b => some b
  | .int i => some (i != 0)
  | .str x => if szOk x.length then some ((x.length : Int) != 0) else none
  | .tup xs => some (!xs.isEmpty)
  | .lst xs => some (!xs.isEmpty)
  | _ => none
def lenV : GV → Option Nat
  | .str x => if szOk x.length then some x.length else none
  | .tup xs => some xs.length
  | .lst xs => some xs.length
  | .scr ns => some ns.length
  | _ => none
def idxV (x y : GV) (G : Cells) : Option GV := match x, y with
  | .tup xs, .int i => atI xs i
  | .lst xs, .int i => atI xs i
  | .cel n, .int i => match G[n]? with
    | some xs => atI xs i
    | none => none
  | .str z, .int i => if szOk z.length then (atI z.cps.toList i).map fun c => .str ⟨#[c]⟩ else none
  | _, _ => none
def prtL : List GV → Option (Option Int)
  | [] => some none
  | [.int i] => some (some i)
  | _ => none
def cutG {α : Type} (xs : List α) (lo hi : Option Int) : List α := (xs.drop (HT.sIx xs.length 0 lo)).take (HT.sIx xs.length xs.length hi - HT.sIx xs.length 0 lo)
def slcV (x : GV) (lo hi : Option Int) : Option GV := match x with
  | .tup xs => some (.tup (cutG xs lo hi))
  | .lst xs => some (.lst (cutG xs lo hi))
  | _ => none
/-- the built-in type of a value -/
def tyG : GV → Option String
  | .non => some "NoneType"
  | .bl _ => some "bool"
  | .int _ => some "int"
  | .str _ => some "str"
  | .tup _ => some "tuple"
  | .lst _ => some "list"
  | .scr _ => some "list"
  | .cel _ => some "list"
  | _ => none
def kitA (t : String) : List GV → Option Bool
  | [] => some false
  | .ty c :: cs => match kitB t c with
    | some true => (match kitA t cs with | some _ => some true | none => none)
    | some false => kitA t cs
    | none => none
  | _ => none
def isiV (x c : GV) : Option Bool := match tyG x with
  | none => none
  | some t => match c with
    | .ty c => kitB t c
    | .tup cs => kitA t cs
    | _ => none
def intsG : List GV → Option (List Int)
  | [] => some []
  | .int i :: r => (intsG r).map (i :: ·)
  | _ => none
def insI (x : Int) : List Int → List Int
  | [] => [x]
  | y :: ys => if x ≤ y then x :: y :: ys else y :: insI x ys
def srtI : List Int → List Int
  | [] => []
  | x :: xs => insI x (srtI xs)
def bltV (f : Blt) (xs : List GV) : Option GV := match f, xs with
  | .len, [x] => (lenV x).map fun n => .int n
  | .tupl, [.lst xs] => some (.tup xs)
  | .tupl, [.tup xs] => some (.tup xs)
  | .listt, [.lst xs] => some (.lst xs)
  | .listt, [.tup xs] => some (.lst xs)
  | .intt, [.int i] => some (.int i)
  | .intt, [.bl b] => some (.int (if b then 1 else 0))
  | .abs, [.int i] => some (.int (if i < 0 then -i else i))
  | .isi, [x, c] => (isiV x c).map .bl
  | .str, [.int i] => if decide (i.natAbs.log2 < 1920) then some (.str (toString i)) else none
  | .sum, [.lst xs] => (intsG xs).map fun ns => .int ns.sum
  | .max2, [.int i, .int j] => some (.int (if j > i then j else i))
  | .min2, [.int i, .int j] => some (.int (if j < i then j else i))
  | .boolt, [.int i] => some (.bl (i != 0))
  | .boolt, [.bl b] => some (.bl b)
  | .sorted, [.lst xs] => (intsG xs).map fun ns => .lst ((srtI ns).map .int)
  | .rev, [.tup xs] => if xs.isEmpty then none else some (.tup xs.reverse)
  | _, _ => none

def rd (σ : List Sl) (i : Nat) : Option GV := match σ[i]? with
  | some (.val v) => some v
  | _ => none
def rdB (σ : List Sl) (i : Nat) : Option GV := match σ[i]? with
  | some (.val v) => some v
  | some (.own xs) => some (.lst xs)
  | _ => none
def wipeG (σ : List Sl) : List Nat → List Sl
  | [] => σ
  | v :: vs => (wipeG σ vs).set v .no
def setAll : List Nat → List GV → List Sl → List Sl
  | i :: is, x :: xs, σ => setAll is xs (σ.set i (.val x))
  | _, _, σ => σ
def setTg (tg : Tg) (v : GV) (σ : List Sl) : Option (List Sl) := match tg with
  | .name i => some (σ.set i (.val v))
  | .tup is => match v with
    | .tup xs => if xs.length = is.length then some (setAll is xs σ) else none
    | _ => none
/-- no bound's size: told by log2, so that no kernel counts it down -/
def rngOk (j : Int) : Bool := decide (j.natAbs.log2 < 61)
def rngV : List GV → Option (List GV)
  | [.int j] => if rngOk j then some ((List.range j.toNat).map fun (k : Nat) => .int (k : Int)) else none
  | [.int i, .int j] => if rngOk i && rngOk j then some ((List.range (j - i).toNat).map fun (k : Nat) => .int (i + (k : Int))) else none
  | _ => none
def itmV : GV → Option (List GV)
  | .lst xs => some xs
  | .tup xs => some xs
  | .scr ns => some (ns.map .int)
  | _ => none

/-- one def of the program: parameters, slots, defaults of the last parameters, body -/
structure Fn where
  np : Nat
  ns : Nat
  dfl : List GV
  ms : List Nat
  body : List S
/-- what the evaluator knows of the program -/
structure Tb where
  fn : Str → Option Fn
  gv : Str → Option GV
  /-- an own exception class: its fields' names -/
  xc : Str → Option (List Str)
  /-- is the one an instance of the other (own exception classes) -/
  xsub : Str → Str → Bool
structure Ctx where
  T : Tb
  cf : Str → List GV → Cells → Res GV
  wf : Nat
  cur : Option (Str × List GV)

def bor (a : E) (σ : List Sl) (G : Cells) (r : Res GV) : Res GV := match a with
  | .var i => Res.of (rdB σ i) G
  | _ => r
def xfld (c : Ctx) (i : Nat) (f : Str) (σ : List Sl) : Option GV := match c.cur with
  | some (C, fs) => match c.T.xc C with
    | some ns => match σ[i]? with
      | some .exc => (ns.zip fs).lookup f
      | _ => none
    | none => none
  | none => none

/-- the turns of a comprehension -/
def loopC (f : GV → List GV → Cells → Res (List GV)) : List GV → List GV → Cells → Res (List GV)
  | [], acc, G => .ok acc G
  | x :: xs, acc, G => (f x acc G).bind fun acc' G' => loopC f xs acc' G'

/-- nothing leaves a comprehension's block -/
def noX {α : Type} : Res α → Res α
  | .ex _ _ _ => .no
  | r => r
/-- a turn of a comprehension -/
def turnC (tg : Tg) (own : List Nat) (cnd elt : List Sl → Cells → Res GV) (σ : List Sl) (x : GV) (acc : List GV) (G : Cells) : Res (List GV) := match setTg tg x (wipeG σ own) with
  | none => .no
  | some σ2 => (noX ((cnd σ2 G).bind fun t G => Res.of (truV t) G)).bind fun k G =>
    if k = true then (noX (elt σ2 G)).bind fun y G => .ok (acc ++ [y]) G else .ok acc G

mutual
def evalE (c : Ctx) : E → List Sl → Cells → Res GV
  | .var i, σ, G => Res.of (rd σ i) G
  | .con v, _, G => .ok v G
  | .glb x, _, G => Res.of (c.T.gv x) G
  | .bty n, _, G => .ok (.ty n) G
  | .bin op a b, σ, G => (bor a σ G (evalE c a σ G)).bind fun x G => (bor b σ G (evalE c b σ G)).bind fun y G => Res.of (binV op x y) G
  | .neg a, σ, G => (evalE c a σ G).bind fun x G => match x with
    | .int i => .ok (.int (-i)) G
    | _ => .no
  | .cmp op a b, σ, G => (bor a σ G (evalE c a σ G)).bind fun x G => (bor b σ G (evalE c b σ G)).bind fun y G => Res.of ((cmpV op x y).map .bl) G
  | .chn op op' a b d, σ, G => (evalE c a σ G).bind fun x G => (evalE c b σ G).bind fun y G => (Res.of (cmpV op x y) G).bind fun k G =>
    if k = true then (evalE c d σ G).bind fun z G => Res.of ((cmpV op' y z).map .bl) G else .ok (.bl false) G
  | .and a b, σ, G => (evalE c a σ G).bind fun x G => (Res.of (truV x) G).bind fun k G => if k = true then evalE c b σ G else .ok x G
  | .or a b, σ, G => (evalE c a σ G).bind fun x G => (Res.of (truV x) G).bind fun k G => if k = true then .ok x G else evalE c b σ G
  | .not a, σ, G => (bor a σ G (evalE c a σ G)).bind fun x G => (Res.of (truV x) G).bind fun k G => .ok (.bl (!k)) G
  | .ite t a b, σ, G => (bor t σ G (evalE c t σ G)).bind fun x G => (Res.of (truV x) G).bind fun k G => if k = true then evalE c a σ G else evalE c b σ G
  | .tup es, σ, G => (evalL c es σ G).bind fun xs G => if szOk xs.length then .ok (.tup xs) G else .no
  | .lst es, σ, G => (evalL c es σ G).bind fun xs G => if szOk xs.length then .ok (.lst xs) G else .no
  | .cel es, σ, G => (evalL c es σ G).bind fun xs G => if szOk xs.length then .ok (.cel G.length) (G ++ [xs]) else .no
  | .idx a b, σ, G => (bor a σ G (evalE c a σ G)).bind fun x G => (evalE c b σ G).bind fun y G => Res.of (idxV x y G) G
  | .slc a lo hi, σ, G => (bor a σ G (evalE c a σ G)).bind fun x G => ((evalL c lo σ G).bind fun l G => Res.of (prtL l) G).bind fun l G => ((evalL c hi σ G).bind fun h G => Res.of (prtL h) G).bind fun h G =>
    Res.of (slcV x l h) G
  | .call f es dv, σ, G => (evalL c es σ G).bind fun xs G => c.cf f (xs ++ dv) G
  | .blt f es, σ, G => (evalLB c es σ G).bind fun xs G => Res.of (bltV f xs) G
  | .cmpr elt tg own it cnd, σ, G => (iterE c it σ G).bind fun xs G =>
    if szOk xs.length then (loopC (turnC tg own (evalE c cnd) (evalE c elt) σ) xs [] G).bind fun ys G => .ok (.lst ys) G else .no
  | .xfl i f, σ, G => Res.of (xfld c i f σ) G
def evalL (c : Ctx) : List E → List Sl → Cells → Res (List GV)
  | [], _, G => .ok [] G
  | e :: es, σ, G => (evalE c e σ G).bind fun x G => (evalL c es σ G).bind fun xs G => .ok (x :: xs) G
def evalLB (c : Ctx) : List E → List Sl → Cells → Res (List GV)
  | [], _, G => .ok [] G
  | e :: es, σ, G => (bor e σ G (evalE c e σ G)).bind fun x G => (evalLB c es σ G).bind fun xs G => .ok (x :: xs) G
def iterE (c : Ctx) : It → List Sl → Cells → Res (List GV)
  | .seq e, σ, G => (bor e σ G (evalE c e σ G)).bind fun x G => Res.of (itmV x) G
  | .seqs e, σ, G => (evalE c e σ G).bind fun x G => Res.of (itmV x) G
  | .rng es, σ, G => (evalL c es σ G).bind fun xs G => Res.of (rngV xs) G
end

inductive Rs where
  | nx (σ : List Sl) (G : Cells) | rt (v : GV) (G : Cells) | bk (σ : List Sl) (G : Cells) | ct (σ : List Sl) (G : Cells)
  | ex (C : Str) (fs : List GV) (σ : List Sl) (G : Cells) | no
/-- an expression ahead of the rest of a statement -/
def Res.thn {α : Type} (r : Res α) (σ : List Sl) (f : α → Cells → Rs) : Rs := match r with
  | .ok a G => f a G
  | .ex C fs G => .ex C fs σ G
  | .no => .no
def frzG (σ : List Sl) : List Nat → List Sl
  | [] => σ
  | i :: is => match (frzG σ is)[i]? with
    | some (.own xs) => (frzG σ is).set i (.val (.lst xs))
    | _ => frzG σ is
def Rs.seq (r : Rs) (f : List Sl → Cells → Rs) : Rs := match r with
  | .nx σ G => f σ G
  | r => r
def loopF (tg : Tg) (f : List Sl → Cells → Rs) : List GV → List Sl → Cells → Rs
  | [], σ, G => .nx σ G
  | x :: xs, σ, G => match setTg tg x σ with
    | none => .no
    | some σ2 => match f σ2 G with
      | .nx σ G => loopF tg f xs σ G
      | .ct σ G => loopF tg f xs σ G
      | .bk σ G => .nx σ G
      | r => r
def loopW (t : List Sl → Cells → Res Bool) (f : List Sl → Cells → Rs) : Nat → List Sl → Cells → Rs
  | 0, _, _ => .no
  | n + 1, σ, G => match t σ G with
    | .ok true G => (match f σ G with
      | .nx σ G => loopW t f n σ G
      | .ct σ G => loopW t f n σ G
      | .bk σ G => .nx σ G
      | r => r)
    | .ok false G => .nx σ G
    | .ex C fs G => .ex C fs σ G
    | .no => .no
def tstE (c : Ctx) (e : E) (σ : List Sl) (G : Cells) : Res Bool := (bor e σ G (evalE c e σ G)).bind fun x G => Res.of (truV x) G
def noExc : List Sl → Bool
  | [] => true
  | .exc :: _ => false
  | _ :: σ => noExc σ
def putX (i : Option Nat) (σ : List Sl) : List Sl := match i with
  | some i => σ.set i .exc
  | none => σ
def clrX (i : Option Nat) (σ : List Sl) : List Sl := match i with
  | some i => σ.set i .no
  | none => σ
/-- behind a clause's suite -/
def outX (i : Option Nat) (r : Rs) : Rs := match r with
  | .nx σ G => if noExc (clrX i σ) = true then .nx (clrX i σ) G else .no
  | .bk σ G => if noExc (clrX i σ) = true then .bk (clrX i σ) G else .no
  | .ct σ G => if noExc (clrX i σ) = true then .ct (clrX i σ) G else .no
  | .rt v G => .rt v G
  | .ex _ _ _ _ => .no
  | .no => .no
def lstAt (σ : List Sl) (i : Nat) : Bool := match σ[i]? with
  | some (.own _) => true
  | some (.val (.cel _)) => true
  | _ => false
def ownAt (σ : List Sl) (i : Nat) : Bool := match σ[i]? with
  | some (.own _) => true
  | _ => false
def subS (o : Option Sl) (k : Int) (v : GV) (i : Nat) (σ : List Sl) (G : Cells) : Rs := match o with
  | some (.own xs) => (match ixN xs.length k with
    | some j => .nx (σ.set i (.own (xs.set j v))) G
    | none => .no)
  | some (.val (.cel n)) => (match G[n]? with
    | some xs => (match ixN xs.length k with
      | some j => .nx σ (G.set n (xs.set j v))
      | none => .no)
    | none => .no)
  | _ => .no
def gSubS (i : Nat) (v : GV) (g : List Sl) (k : GV) (G : Cells) : Rs := match k with
  | .int k => subS g[i]? k v i g G
  | _ => .no
def gApp (i : Nat) (g : List Sl) (v : GV) (G : Cells) : Rs := match g[i]? with
  | some (.own xs) => if xs.length < sizeLine then .nx (g.set i (.own (xs ++ [v]))) G else .no
  | _ => .no
def gOwn (i : Nat) (g : List Sl) (v : GV) (G : Cells) : Rs := match v with
  | .lst xs => .nx (g.set i (.own xs)) G
  | _ => .no
def gSett (is : List Nat) (g : List Sl) (v : GV) (G : Cells) : Rs := match v with
  | .tup xs => if xs.length = is.length then .nx (setAll is xs g) G else .no
  | _ => .no
def gPar (is : List Nat) (g : List Sl) (xs : List GV) (G : Cells) : Rs := if xs.length = is.length then .nx (setAll is xs g) G else .no
def gAug (op : Bop) (i : Nat) (x : GV) (g : List Sl) (y : GV) (G : Cells) : Rs := match x, y with
  | .int _, .int _ => (match binV op x y with
    | some z => .nx (g.set i (.val z)) G
    | none => .no)
  | _, _ => .no

mutual
def execS (c : Ctx) : S → List Sl → Cells → Rs
  | .set i e, σ, G => (evalE c e σ G).thn σ fun v G => .nx (σ.set i (.val v)) G
  | .seto i e, σ, G => (evalE c e σ G).thn σ (gOwn i σ)
  | .sett ts e, σ, G => (evalE c e σ G).thn σ (gSett ts σ)
  | .par is es, σ, G => (evalL c es σ G).thn σ (gPar is σ)
  | .sub i ix e, σ, G => (evalE c e σ G).thn σ fun v G => if lstAt σ i = true then (evalE c ix σ G).thn σ (gSubS i v σ) else .no
  | .app i e, σ, G => if ownAt σ i = true then (evalE c e σ G).thn σ (gApp i σ) else .no
  | .exp e, σ, G => (evalE c e σ G).thn σ fun _ G => .nx σ G
  | .ret e, σ, G => (evalE c e σ G).thn σ fun v G => .rt v G
  | .ite t a b, σ, G => (tstE c t σ G).thn σ fun k G => if k = true then execL c a σ G else execL c b σ G
  | .whl t b, σ, G => loopW (tstE c t) (execL c b) c.wf σ G
  | .forr tg it b, σ, G => (iterE c it σ G).thn σ fun xs G => loopF tg (execL c b) xs σ G
  | .rse C es, σ, G => (evalL c es σ G).thn σ fun xs G => match c.T.xc C with
    | some ns => if ns.length = xs.length then .ex C xs σ G else .no
    | none => .no
  | .tryy b hs, σ, G => match execL c b σ G with
    | .ex C fs σ' G' => execH c C fs hs σ' G'
    | r => r
  | .brk, σ, G => .bk σ G
  | .cnt, σ, G => .ct σ G
  | .pas, σ, G => .nx σ G
  | .frz ts s, σ, G => execS c s (frzG σ ts) G
  | .aug i op e, σ, G => match rd σ i with
    | some x => (evalE c e σ G).thn σ (gAug op i x σ)
    | none => .no
def execL (c : Ctx) : List S → List Sl → Cells → Rs
  | [], σ, G => .nx σ G
  | s :: ss, σ, G => (execS c s σ G).seq fun σ G => execL c ss σ G
/-- the first clause that takes an exception: its suite runs with the exception at hand -/
def execH (c : Ctx) (C : Str) (fs : List GV) : List (Str × Option Nat × List S) → List Sl → Cells → Rs
  | [], σ, G => .ex C fs σ G
  | h :: hs, σ, G => if c.T.xsub C h.1 = true then outX h.2.1 (execL { c with cur := some (C, fs) } h.2.2 (putX h.2.1 σ) G) else execH c C fs hs σ G
end

def start (n : Nat) (xs : List GV) : List Sl := xs.map .val ++ List.replicate (n - xs.length) .no
def finR : Rs → Res GV
  | .nx _ G => .ok .non G
  | .rt v G => .ok v G
  | .ex C fs _ G => .ex C fs G
  | _ => .no
/-- the call of a def by its name, k calls deep at most -/
def callK (T : Tb) (wf : Nat) : Nat → Str → List GV → Cells → Res GV
  | 0, _, _, _ => .no
  | k + 1, f, xs, G => match T.fn f with
    | none => .no
    | some d => if xs.length = d.np then finR (execL ⟨T, callK T wf k, wf, none⟩ d.body (start d.ns xs) G) else .no
end Gm
end

section
/-! The ghost machine and the heap: what a plain value stands for; the judgements. -/
namespace Gm
open PySem PySem.Spec PyProof.Rows L2

structure W0 where
  K : PySem.W.Frag
  mg : Str → Option Value
  fl : Str → List Str
  /-- the exception that a suite holds: its object, its dict, its fields -/
  xa : Option Addr
  xd : Option (Addr × List (Str × V))
  xf : List (Str × GV)

/-- a tuple that stands: tracked, or of the written part -/
def TupS (K : PySem.W.Frag) (S : Hp) (a : Addr) (xs : List V) : Prop :=
  S a = some (.tup xs) ∨ ∃ (o : Obj) (its : Array Value) (n : Nat), K.lookup a = some o ∧ o.cls = .type "tuple" ∧ o.data = .seq its n ∧ its.size ≤ sizeLine ∧ Vals xs its.toList
theorem TupS.sq {K : PySem.W.Frag} {S : Hp} {a : Addr} {xs : List V} (h : TupS K S a xs) : SqT K S a xs := by
  rcases h with h | h
  · exact .inl (.inl h)
  · exact .inr h
mutual
inductive PR (W : W0) (S : Hp) (ρ : List Addr) : GV → V → Prop
  | non : PR W S ρ .non .non
  | bl (b : Bool) : PR W S ρ (.bl b) (.bl b)
  | int (i : Int) : PR W S ρ (.int i) (.int i)
  | str (x : Str) : PR W S ρ (.str x) (.str x)
  | tup {a : Addr} {us : List V} {xs : List GV} : TupS W.K S a us → PRs W S ρ xs us → PR W S ρ (.tup xs) (.ref a)
  | lst {a : Addr} {us : List V} {xs : List GV} : S a = some (.lst us) → PRs W S ρ xs us → PR W S ρ (.lst xs) (.ref a)
  | scr {a : Addr} {ns : List Int} : SqL W.K S a (ns.map V.int) → TyX W.K S (.ref a) (.type "list") → PR W S ρ (.scr ns) (.ref a)
  | ins {a C dx : Addr} {c : Str} {fs : List (Str × V)} {xs : List GV} : S a = some (.ins C dx fs) → W.mg c = some (.ref C) → fs.map (·.1) = W.fl c → PRs W S ρ xs (fs.map (·.2)) → PR W S ρ (.ins c xs) (.ref a)
  | cel {n : Nat} {a : Addr} : ρ[n]? = some a → PR W S ρ (.cel n) (.ref a)
  | ty (n : String) : PR W S ρ (.ty n) (.ty n)
  | glo {x : Str} {a : Addr} : W.mg x = some (.ref a) → PR W S ρ (.glo x) (.ref a)
inductive PRs (W : W0) (S : Hp) (ρ : List Addr) : List GV → List V → Prop
  | nil : PRs W S ρ [] []
  | cons {x : GV} {u : V} {xs : List GV} {us : List V} : PR W S ρ x u → PRs W S ρ xs us → PRs W S ρ (x :: xs) (u :: us)
end

def HLe (S H : Hp) : Prop := ∀ a o, S a = some o → H a = some o
theorem HLe.refl (S : Hp) : HLe S S := fun _ _ h => h
theorem HLe.trans {A B C : Hp} (h : HLe A B) (k : HLe B C) : HLe A C := fun a o e => k a o (h a o e)
theorem HLe.tupS {K : PySem.W.Frag} {S H : Hp} {a : Addr} {us : List V} (l : HLe S H) (h : TupS K S a us) : TupS K H a us := by
  rcases h with h | h
  · exact .inl (l _ _ h)
  · exact .inr h
theorem HLe.sqT {K : PySem.W.Frag} {S H : Hp} {a : Addr} {us : List V} (l : HLe S H) (h : SqT K S a us) : SqT K H a us := by
  rcases h with (h | ⟨o, h⟩) | h
  · exact .inl (.inl (l _ _ h))
  · exact .inl (.inr ⟨o, l _ _ h⟩)
  · exact .inr h
theorem HLe.sqL {K : PySem.W.Frag} {S H : Hp} {a : Addr} {us : List V} (l : HLe S H) (h : SqL K S a us) : SqL K H a us := by
  rcases h with (h | ⟨o, h⟩) | h
  · exact .inl (.inl (l _ _ h))
  · exact .inl (.inr ⟨o, l _ _ h⟩)
  · exact .inr h
theorem HLe.tyOf {K : PySem.W.Frag} {S H : Hp} {x : V} {t : Value} (l : HLe S H) (h : TyOf K S x t) : TyOf K H x t := by
  cases h with
  | non => exact .non
  | bl b => exact .bl b
  | int i => exact .int i
  | str x => exact .str x
  | flt x => exact .flt x
  | lst e => exact .lst (l _ _ e)
  | frz e => exact .frz (l _ _ e)
  | tup e => exact .tup (l _ _ e)
  | dK e => exact .dK (l _ _ e)
  | dT e => exact .dT (l _ _ e)
  | ins e a b c d f => exact .ins (l _ _ e) a b c d f
theorem HLe.tyX {K : PySem.W.Frag} {S H : Hp} {x : V} {t : Value} (l : HLe S H) (h : TyX K S x t) : TyX K H x t := by
  cases h with
  | base h => exact .base (l.tyOf h)
  | byt b => exact .byt b
  | set e => exact .set (l _ _ e)
  | kList e c => exact .kList e c
  | kTuple e c => exact .kTuple e c
  | kDict e c => exact .kDict e c
  | fTuple e => exact .fTuple (l _ _ e)
  | fDict e => exact .fDict (l _ _ e)

section
variable {W : W0} {S S' : Hp} {ρ ρ' : List Addr}
theorem pre_get {ρ ρ' : List Addr} (h : ρ <+: ρ') {n : Nat} {a : Addr} (e : ρ[n]? = some a) : ρ'[n]? = some a := by
  obtain ⟨t, rfl⟩ := h
  have hn : n < ρ.length := (List.getElem?_eq_some_iff.mp e).1
  rw [List.getElem?_append_left hn]; exact e
mutual
theorem PR.mono (l : HLe S S') (p : ρ <+: ρ') : ∀ {v : GV} {u : V}, PR W S ρ v u → PR W S' ρ' v u
  | _, _, .non => .non
  | _, _, .bl b => .bl b
  | _, _, .int i => .int i
  | _, _, .str x => .str x
  | _, _, .tup h r => .tup (l.tupS h) (PRs.mono l p r)
  | _, _, .lst h r => .lst (l _ _ h) (PRs.mono l p r)
  | _, _, .scr h t => .scr (l.sqL h) (l.tyX t)
  | _, _, .ins h m f r => .ins (l _ _ h) m f (PRs.mono l p r)
  | _, _, .cel h => .cel (pre_get p h)
  | _, _, .ty n => .ty n
  | _, _, .glo h => .glo h
theorem PRs.mono (l : HLe S S') (p : ρ <+: ρ') : ∀ {vs : List GV} {us : List V}, PRs W S ρ vs us → PRs W S' ρ' vs us
  | _, _, .nil => .nil
  | _, _, .cons r rs => .cons (PR.mono l p r) (PRs.mono l p rs)
end
theorem PRs.length : ∀ {vs : List GV} {us : List V}, PRs W S ρ vs us → us.length = vs.length
  | _, _, .nil => rfl
  | _, _, .cons _ rs => by rw [List.length_cons, List.length_cons, PRs.length rs]
theorem PRs.get : ∀ {vs : List GV} {us : List V} {i : Nat} {v : GV}, PRs W S ρ vs us → vs[i]? = some v → ∃ u, us[i]? = some u ∧ PR W S ρ v u
  | _, _, _, _, .nil, e => by simp at e
  | _, _, 0, _, .cons r _, e => by simp at e; subst e; exact ⟨_, rfl, r⟩
  | _, _, i + 1, v, .cons _ rs, e => by
    obtain ⟨u, h1, h2⟩ := PRs.get (i := i) (v := v) rs (by simpa using e)
    exact ⟨u, by simpa using h1, h2⟩
theorem PRs.getV : ∀ {vs : List GV} {us : List V} {i : Nat} {u : V}, PRs W S ρ vs us → us[i]? = some u → ∃ v, vs[i]? = some v ∧ PR W S ρ v u
  | _, _, _, _, .nil, e => by simp at e
  | _, _, 0, _, .cons r _, e => by simp at e; subst e; exact ⟨_, rfl, r⟩
  | _, _, i + 1, v, .cons _ rs, e => by
    obtain ⟨u, h1, h2⟩ := PRs.getV (i := i) (u := v) rs (by simpa using e)
    exact ⟨u, by simpa using h1, h2⟩
theorem PRs.append : ∀ {vs ws : List GV} {us xs : List V}, PRs W S ρ vs us → PRs W S ρ ws xs → PRs W S ρ (vs ++ ws) (us ++ xs)
  | _, _, _, _, .nil, s => s
  | _, _, _, _, .cons r rs, s => .cons r (PRs.append rs s)
theorem PRs.set : ∀ {vs : List GV} {us : List V} {v : GV} {u : V} (i : Nat), PRs W S ρ vs us → PR W S ρ v u → PRs W S ρ (vs.set i v) (us.set i u)
  | _, _, _, _, _, .nil, _ => .nil
  | _, _, _, _, 0, .cons _ rs, r => .cons r rs
  | _, _, _, _, i + 1, .cons q rs, r => .cons q (PRs.set i rs r)
theorem PRs.take : ∀ {vs : List GV} {us : List V} (n : Nat), PRs W S ρ vs us → PRs W S ρ (vs.take n) (us.take n)
  | _, _, 0, _ => .nil
  | _, _, _ + 1, .nil => .nil
  | _, _, n + 1, .cons r rs => .cons r (PRs.take n rs)
theorem PRs.drop : ∀ {vs : List GV} {us : List V} (n : Nat), PRs W S ρ vs us → PRs W S ρ (vs.drop n) (us.drop n)
  | _, _, 0, r => r
  | _, _, _ + 1, .nil => .nil
  | _, _, n + 1, .cons _ rs => PRs.drop n rs
theorem PRs.cut {vs : List GV} {us : List V} (lo hi : Option Int) (r : PRs W S ρ vs us) : PRs W S ρ (cutG vs lo hi) (cutV us lo hi) := by
  unfold cutG cutV
  rw [r.length]
  exact PRs.take _ (PRs.drop _ r)
theorem PRs.rep {vs : List GV} {us : List V} (r : PRs W S ρ vs us) : ∀ k : Nat, PRs W S ρ (List.replicate k vs).flatten (List.replicate k us).flatten
  | 0 => .nil
  | k + 1 => by
    rw [List.replicate_succ, List.replicate_succ, List.flatten_cons, List.flatten_cons]
    exact r.append (PRs.rep r k)
theorem PRs.isEmpty {vs : List GV} {us : List V} (r : PRs W S ρ vs us) : us.isEmpty = vs.isEmpty := by
  cases r <;> rfl
theorem PRs.ints : ∀ (ns : List Int), PRs W S ρ (ns.map GV.int) (ns.map V.int)
  | [] => .nil
  | n :: ns => .cons (.int n) (PRs.ints ns)
theorem PRs.ints_inv : ∀ {xs : List GV} {ns : List Int} {us : List V}, intsG xs = some ns → PRs W S ρ xs us → us = ns.map V.int
  | [], ns, us, h, r => by
    cases r
    have e : some ([] : List Int) = some ns := h
    cases e; rfl
  | x :: xs, ns, us, h, r => by
    cases r with
    | cons r rs =>
      cases x with
      | int i =>
        cases r
        have h' : (intsG xs).map (i :: ·) = some ns := h
        cases e : intsG xs with
        | none => rw [e] at h'; cases h'
        | some ms =>
          rw [e] at h'
          have e2 : some (i :: ms) = some ns := h'
          cases e2
          rw [List.map_cons, PRs.ints_inv e rs]
      | _ => exact absurd (show (none : Option (List Int)) = some ns from h) (by simp)
end

/-- what one step of an expression may do to the heap -/
structure Ext (S : Hp) (ρ : List Addr) (H S' : Hp) (ρ' : List Addr) (H' : Hp) : Prop where
  sle : HLe S S'
  snew : ∀ a o, S' a = some o → S a = some o ∨ H a = none
  pre : ρ <+: ρ'
  rnew : ∀ a ∈ ρ', a ∈ ρ ∨ H a = none
  keep : ∀ a o, H a = some o → a ∉ ρ → H' a = some o
  dom : ∀ a, H a ≠ none → H' a ≠ none
theorem Ext.refl (S : Hp) (ρ : List Addr) (H : Hp) : Ext S ρ H S ρ H := ⟨fun _ _ h => h, fun _ _ h => .inl h, List.prefix_refl _, fun _ h => .inl h, fun _ _ h _ => h, fun _ h => h⟩
theorem Ext.trans {S1 S2 S3 H1 H2 H3 : Hp} {r1 r2 r3 : List Addr} (a : Ext S1 r1 H1 S2 r2 H2) (b : Ext S2 r2 H2 S3 r3 H3) : Ext S1 r1 H1 S3 r3 H3 where
  sle := a.sle.trans b.sle
  snew := fun x o h => by
    rcases b.snew x o h with h | h
    · exact a.snew x o h
    · refine .inr ?_
      cases e : H1 x with
      | none => rfl
      | some z => exact absurd h (a.dom x (by rw [e]; simp))
  pre := a.pre.trans b.pre
  rnew := fun x h => by
    rcases b.rnew x h with h | h
    · exact a.rnew x h
    · refine .inr ?_
      cases e : H1 x with
      | none => rfl
      | some z => exact absurd h (a.dom x (by rw [e]; simp))
  keep := fun x o h hn => by
    refine b.keep x o (a.keep x o h hn) fun hm => ?_
    rcases a.rnew x hm with q | q
    · exact hn q
    · rw [h] at q; cases q
  dom := fun x h => b.dom x (a.dom x h)

/-- the heap bears the stable part and the cells -/
structure Hs (W : W0) (S : Hp) (ρ : List Addr) (G : Cells) (H : Hp) : Prop where
  le : HLe S H
  len : ρ.length = G.length
  cel : ∀ (n : Nat) (a : Addr) (xs : List GV), ρ[n]? = some a → G[n]? = some xs → ∃ us, H a = some (.lst us) ∧ PRs W S ρ xs us
  cS : ∀ a ∈ ρ, S a = none
  nod : ρ.Nodup
  cur : ∀ dd prs, W.xd = some (dd, prs) → S dd = some (.xd prs) ∧ ∀ f v, W.xf.lookup f = some v → ∃ u, prs.lookup f = some u ∧ PR W S ρ v u
structure Bs where
  E : Hp
  S0 : Hp
  r0 : List Addr
structure Rel (W : W0) (B : Bs) (S : Hp) (ρ : List Addr) (g : List Sl) (G : Cells) (σ : L2.St) (H : Hp) : Prop where
  hs : Hs W S ρ G H
  ext : Ext B.S0 B.r0 B.E S ρ H
  len : g.length = σ.length
  val : ∀ (i : Nat) (v : GV), g[i]? = some (.val v) → ∃ u, σ[i]? = some (some u) ∧ PR W S ρ v u
  own : ∀ (i : Nat) (xs : List GV), g[i]? = some (.own xs) → ∃ a us, σ[i]? = some (some (.ref a)) ∧ H a = some (.lst us) ∧ PRs W S ρ xs us ∧ S a = none ∧ a ∉ ρ ∧ B.E a = none
  dst : ∀ (i j : Nat) (xs ys : List GV) (a : Addr), g[i]? = some (.own xs) → g[j]? = some (.own ys) → σ[i]? = some (some (.ref a)) → σ[j]? = some (some (.ref a)) → i = j
  exc : ∀ (i : Nat), g[i]? = some Sl.exc → ∃ a : Addr, W.xa = some a ∧ σ[i]? = some (some (V.ref a))
section
variable {W : W0} {B : Bs} {S S' H H' : Hp} {ρ ρ' : List Addr} {g : List Sl} {G G' : Cells} {σ : L2.St}
theorem Rel.step (R : Rel W B S ρ g G σ H) (e : Ext S ρ H S' ρ' H') (h : Hs W S' ρ' G' H') : Rel W B S' ρ' g G' σ H' where
  hs := h
  ext := R.ext.trans e
  len := R.len
  val := fun i v q => by
    obtain ⟨u, h1, h2⟩ := R.val i v q
    exact ⟨u, h1, h2.mono e.sle e.pre⟩
  own := fun i xs q => by
    obtain ⟨a, us, h1, h2, h3, h4, h5, h6⟩ := R.own i xs q
    refine ⟨a, us, h1, e.keep a _ h2 h5, h3.mono e.sle e.pre, ?_, fun hm => ?_, h6⟩
    · cases z : S' a with
      | none => rfl
      | some o =>
        rcases e.snew a o z with y | y
        · rw [h4] at y; cases y
        · rw [h2] at y; cases y
    · rcases e.rnew a hm with y | y
      · exact h5 y
      · rw [h2] at y; cases y
  dst := R.dst
  exc := R.exc
end
/-- a value that is only looked at: or a list that a slot owns -/
def PRB (W : W0) (S : Hp) (ρ : List Addr) (H : Hp) (v : GV) (u : V) : Prop := PR W S ρ v u ∨ ∃ xs a us, v = .lst xs ∧ u = .ref a ∧ H a = some (.lst us) ∧ PRs W S ρ xs us ∧ a ∉ ρ
theorem PRB.step {W : W0} {S S' H H' : Hp} {ρ ρ' : List Addr} {v : GV} {u : V} (p : PRB W S ρ H v u) (e : Ext S ρ H S' ρ' H') : PRB W S' ρ' H' v u := by
  rcases p with p | ⟨xs, a, us, rfl, rfl, h1, h2, h3⟩
  · exact .inl (p.mono e.sle e.pre)
  · refine .inr ⟨xs, a, us, rfl, rfl, e.keep a _ h1 h3, h2.mono e.sle e.pre, fun hm => ?_⟩
    rcases e.rnew a hm with y | y
    · exact h3 y
    · rw [h1] at y; cases y
theorem PRB.lst_inv {W : W0} {S H : Hp} {ρ : List Addr} {xs : List GV} {u : V} (p : PRB W S ρ H (.lst xs) u) (l : HLe S H) : ∃ a us, u = .ref a ∧ H a = some (.lst us) ∧ PRs W S ρ xs us := by
  rcases p with p | ⟨ys, a, us, e, rfl, h1, h2, h3⟩
  · cases p with
    | lst h r => exact ⟨_, _, rfl, l _ _ h, r⟩
  · cases e
    exact ⟨a, us, rfl, h1, h2⟩
theorem PRB.pr {W : W0} {S H : Hp} {ρ : List Addr} {v : GV} {u : V} (p : PRB W S ρ H v u) (h : ∀ xs, v ≠ .lst xs) : PR W S ρ v u := by
  rcases p with p | ⟨ys, a, us, e, rfl, h1, h2, h3⟩
  · exact p
  · exact absurd e (h ys)
/-- an exception: its class, its fields -/
def XR (W : W0) (xc : Str → Option (List Str)) (S : Hp) (ρ : List Addr) (H : Hp) (C : Str) (fs : List GV) (cls : Value) (d : Option Addr) : Prop :=
  W.mg C = some cls ∧ ∃ ns, xc C = some ns ∧ ns.length = fs.length ∧ (ns ≠ [] → ∃ dd prs, d = some dd ∧ S dd = some (.xd prs) ∧ ∀ (f : Str) (v : GV), (ns.zip fs).lookup f = some v → ∃ u, prs.lookup f = some u ∧ PR W S ρ v u)

/-- what is wanted behind an expression -/
def Post (W : W0) (xc : Str → Option (List Str)) (Wx : WX) (σ : L2.St) (S : Hp) (ρ : List Addr) (H : Hp) {α β : Type} (P : Hp → List Addr → Hp → α → β → Prop) (r : Res α) (Q : β → Hp → Prop) : Prop := match r with
  | .ok v G' => ∀ S' ρ' u H', Ext S ρ H S' ρ' H' → Hs W S' ρ' G' H' → P S' ρ' H' v u → Q u H'
  | .ex C fs G' => ∀ S' ρ' cls d H', Ext S ρ H S' ρ' H' → Hs W S' ρ' G' H' → XR W xc S' ρ' H' C fs cls d → Wx cls d σ H'
  | .no => False
abbrev PpV (W : W0) : Hp → List Addr → Hp → GV → V → Prop := fun S ρ _ v u => PR W S ρ v u
abbrev PpB (W : W0) : Hp → List Addr → Hp → GV → V → Prop := fun S ρ H v u => PRB W S ρ H v u
abbrev PpL (W : W0) : Hp → List Addr → Hp → List GV → List V → Prop := fun S ρ _ v u => PRs W S ρ v u
inductive PRBs (W : W0) (S : Hp) (ρ : List Addr) (H : Hp) : List GV → List V → Prop
  | nil : PRBs W S ρ H [] []
  | cons {x : GV} {u : V} {xs : List GV} {us : List V} : PRB W S ρ H x u → PRBs W S ρ H xs us → PRBs W S ρ H (x :: xs) (u :: us)
abbrev PpLB (W : W0) : Hp → List Addr → Hp → List GV → List V → Prop := fun S ρ H v u => PRBs W S ρ H v u
abbrev PpK : Hp → List Addr → Hp → Bool → Bool → Prop := fun _ _ _ k b => b = k
section
variable {W : W0} {xc : Str → Option (List Str)} {Wx : WX} {σ : L2.St} {S S1 H H1 : Hp} {ρ ρ1 : List Addr} {α β γ δ : Type} {P : Hp → List Addr → Hp → α → β → Prop} {P' : Hp → List Addr → Hp → γ → δ → Prop}
theorem Post.step {r : Res α} {Q : β → Hp → Prop} (p : Post W xc Wx σ S ρ H P r Q) (e : Ext S ρ H S1 ρ1 H1) : Post W xc Wx σ S1 ρ1 H1 P r Q := by
  cases r with
  | ok v G' => exact fun S' ρ' u H' e' h q => p S' ρ' u H' (e.trans e') h q
  | ex C fs G' => exact fun S' ρ' u d H' e' h q => p S' ρ' u d H' (e.trans e') h q
  | no => exact p
/-- the first part of a sequence -/
theorem Post.bind {r : Res α} {f : α → Cells → Res γ} {Q : δ → Hp → Prop} {Q1 : β → Hp → Prop} (p : Post W xc Wx σ S ρ H P' (r.bind f) Q)
    (h : ∀ v G' S1 ρ1 u H1, r = .ok v G' → Ext S ρ H S1 ρ1 H1 → Hs W S1 ρ1 G' H1 → P S1 ρ1 H1 v u → Post W xc Wx σ S1 ρ1 H1 P' (f v G') Q → Q1 u H1) : Post W xc Wx σ S ρ H P r Q1 := by
  cases r with
  | ok v G' => exact fun S1 ρ1 u H1 e hs q => h v G' S1 ρ1 u H1 rfl e hs q (Post.step (show Post W xc Wx σ S ρ H P' (f v G') Q from p) e)
  | ex C fs G' => exact p
  | no => exact p
theorem Post.of {o : Option α} {G : Cells} {Q : β → Hp → Prop} {u : β} (p : Post W xc Wx σ S ρ H P (Res.of o G) Q) (hs : Hs W S ρ G H) (h : ∀ v, o = some v → P S ρ H v u) : Q u H := by
  cases o with
  | some v => exact p S ρ u H (Ext.refl _ _ _) hs (h v rfl)
  | none => exact p.elim
theorem Post.ok {v : α} {G : Cells} {Q : β → Hp → Prop} {u : β} (p : Post W xc Wx σ S ρ H P (Res.ok v G) Q) (hs : Hs W S ρ G H) (h : P S ρ H v u) : Q u H := p S ρ u H (Ext.refl _ _ _) hs h
end

/-- the reading of an expression -/
def RD (W : W0) (xc : Str → Option (List Str)) (Wx : WX) {α β : Type} (P : Hp → List Addr → Hp → α → β → Prop) (ev : List Sl → Cells → Res α) : L2.St → Hp → (β → Hp → Prop) → Prop := fun σ H Q =>
  ∃ B S ρ g G, Rel W B S ρ g G σ H ∧ Post W xc Wx σ S ρ H P (ev g G) Q

theorem _root_.L2.PE.imp {X : Cx} {e : Expr} {t t' : TE} (h : PE X e t) (i : ∀ σ H Q, t' σ H Q → t σ H Q) : PE X e t' := ⟨fun pins s σ H Q I q => h.run pins s σ H Q I (i σ H Q q)⟩
theorem _root_.L2.PT.imp {X : Cx} {e : Expr} {t t' : TT} (h : PT X e t) (i : ∀ σ H Q, t' σ H Q → t σ H Q) : PT X e t' := ⟨fun pins s σ H Q I q => h.run pins s σ H Q I (i σ H Q q)⟩
theorem _root_.L2.PA.imp {X : Cx} {e : List Expr} {t t' : TA} (h : PA X e t) (i : ∀ σ H Q, t' σ H Q → t σ H Q) : PA X e t' := ⟨fun pos pins s σ H Q I q => h.run pos pins s σ H Q I (i σ H Q q)⟩

/-- the standing of a context -/
structure Cn where
  W : W0
  xc : Str → Option (List Str)
  Wx : WX
abbrev Cn.rd (n : Cn) {α β : Type} (P : Hp → List Addr → Hp → α → β → Prop) (ev : List Sl → Cells → Res α) := RD n.W n.xc n.Wx P ev
abbrev SE (X : Cx) (n : Cn) (e : Expr) (ev : List Sl → Cells → Res GV) : Prop := PE X e (n.rd (PpV n.W) ev)
abbrev SB (X : Cx) (n : Cn) (e : Expr) (ev : List Sl → Cells → Res GV) : Prop := PE X e (n.rd (PpB n.W) ev)
abbrev SA (X : Cx) (n : Cn) (e : List Expr) (ev : List Sl → Cells → Res (List GV)) : Prop := PA X e (n.rd (PpL n.W) ev)
abbrev SAB (X : Cx) (n : Cn) (e : List Expr) (ev : List Sl → Cells → Res (List GV)) : Prop := PA X e (n.rd (PpLB n.W) ev)
abbrev ST (X : Cx) (n : Cn) (e : Expr) (ev : List Sl → Cells → Res Bool) : Prop := PT X e (n.rd PpK ev)

section
variable {X : Cx} {n : Cn} {α β γ δ : Type} {P : Hp → List Addr → Hp → α → β → Prop} {P' : Hp → List Addr → Hp → γ → δ → Prop}
/-- one part, then the rest -/
theorem RD.bind {W : W0} {xc : Str → Option (List Str)} {Wx : WX} {ev : List Sl → Cells → Res α} {f : List Sl → α → Cells → Res γ} {σ : L2.St} {H : Hp} {Q : δ → Hp → Prop} {Q1 : β → Hp → Prop} (h : RD W xc Wx P' (fun g G => (ev g G).bind (f g)) σ H Q)
    (k : ∀ B S ρ g G v u H1, Rel W B S ρ g G σ H1 → P S ρ H1 v u → Post W xc Wx σ S ρ H1 P' (f g v G) Q → Q1 u H1) : RD W xc Wx P ev σ H Q1 := by
  obtain ⟨B, S, ρ, g, G, R, p⟩ := h
  exact ⟨B, S, ρ, g, G, R, Post.bind p fun v G' S1 ρ1 u H1 er e hs q p' => k B S1 ρ1 g G' v u H1 (R.step e hs) q p'⟩
theorem RD.wk {W : W0} {xc : Str → Option (List Str)} {Wx : WX} {P2 : Hp → List Addr → Hp → α → β → Prop} {ev : List Sl → Cells → Res α} {σ : L2.St} {H : Hp} {Q : β → Hp → Prop} (h : RD W xc Wx P2 ev σ H Q) (i : ∀ S ρ H v u, P S ρ H v u → P2 S ρ H v u) : RD W xc Wx P ev σ H Q := by
  obtain ⟨B, S, ρ, g, G, R, p⟩ := h
  refine ⟨B, S, ρ, g, G, R, ?_⟩
  cases e : ev g G with
  | ok v G' => rw [e] at p; exact fun S' ρ' u H' e h q => p S' ρ' u H' e h (i _ _ _ _ _ q)
  | ex C fs G' => rw [e] at p; exact p
  | no => rw [e] at p; exact p
theorem SE.b {e : Expr} {ev : List Sl → Cells → Res GV} (h : SE X n e ev) : SB X n e ev := h.imp fun σ H Q q => q.wk fun _ _ _ _ _ r => Or.inl r
end
end Gm
end

section
namespace Gm
open PySem PySem.Spec PyProof.Rows L2

/-! ### the syntax's side conditions -/
def noStar : Expr → Bool
  | .Starred _ _ => false
  | _ => true
def noSlice : Expr → Bool
  | .Slice _ _ _ _ => false
  | _ => true
/-- truth by the value -/
def plainT : Expr → Bool
  | .UnaryOp .Not _ _ => false
  | .BoolOp _ _ _ => false
  | .IfExp _ _ _ _ => false
  | .Compare _ _ _ _ => false
  | _ => true
def noComp : Expr → Bool
  | .ListComp _ _ _ _ => false
  | .SetComp _ _ _ _ => false
  | .DictComp _ _ _ _ _ => false
  | _ => true
def noSuper : Expr → Bool
  | .Call (.Name id _) [] [] _ => !(id == ("super" : Str))
  | _ => true
theorem star_cons {e : Expr} {es : List Expr} {env : Env} (h : noStar e = true) : starEach (e :: es) env = (false, eval e env) :: starEach es env := by
  cases e <;> first | rfl | (cases h)
theorem star_plain : ∀ {es : List Expr} {env : Env} {pos : Pos}, es.all noStar = true → (backTo pos (starEach es env)).any (·.1) = false
  | [], _, _, _ => rfl
  | e :: es, env, pos, h => by
    rw [List.all_cons, Bool.and_eq_true] at h
    rw [star_cons h.1]
    show (false || (backTo pos (starEach es env)).any (·.1)) = false
    rw [star_plain h.2]; rfl
theorem plain_ix {b : Expr} (h : noSlice b = true) : L2.PlainIx b := fun o i => by
  cases b <;> first | rfl | (cases h)
theorem plain_tru {e : Expr} {env : Env} (h : plainT e = true) : ∀ whole, isTrue e env whole = (do let v ← whole; standAt e.pos; holding [v] (truthy v)) := fun whole => by
  cases e <;> first | rfl | (cases h) | (rename_i op _ _; cases op <;> first | rfl | (cases h))
theorem swaps_none {e : Expr} {t : Option Expr} {l : Nat} {env : Env} (h : noComp e = true) : swapsWith e t l env = pure false := by
  cases e <;> first | rfl | (cases h)
theorem folded_id {e : Expr} {env : Env} (h : (match e with | .Set _ _ _ => false | _ => true) = true) : ∀ x, foldedSetIterable e env x = pure x := fun x => by
  cases e <;> first | rfl | (cases h)

theorem rd_some {g : List Sl} {i : Nat} {v : GV} (h : rd g i = some v) : g[i]? = some (.val v) := by
  unfold rd at h
  split at h
  · rename_i w e; cases h; exact e
  · cases h
theorem rdB_some {g : List Sl} {i : Nat} {v : GV} (h : rdB g i = some v) : g[i]? = some (.val v) ∨ ∃ xs, v = .lst xs ∧ g[i]? = some (.own xs) := by
  unfold rdB at h
  split at h
  · rename_i w e; cases h; exact .inl e
  · rename_i w e; cases h; exact .inr ⟨_, rfl, e⟩
  · cases h
section
variable {X : Cx} {n : Cn}
/-! ### names, constants -/
theorem se_var {i : Nat} {x : Str} {pos : Pos} (hN : X.N[i]? = some x) (hv : Vis X.env.scope x) (hd : (x == ("__debug__" : Str)) = false) (hc : (x == ("__classdict__" : Str)) = false) : SE X n (.Name x pos) fun g G => Res.of (rd g i) G := by
  refine (pe_var hN hv hd hc).imp ?_
  rintro σ H Q ⟨B, S, ρ, g, G, R, p⟩
  replace p : Post n.W n.xc n.Wx σ S ρ H (PpV n.W) (Res.of (rd g i) G) Q := p
  cases e : rd g i with
  | none => rw [e] at p; exact p.elim
  | some v =>
    rw [e] at p
    obtain ⟨u, h1, h2⟩ := R.val i v (rd_some e)
    exact ⟨u, h1, Post.ok p R.hs h2⟩
theorem sb_var {i : Nat} {x : Str} {pos : Pos} (hN : X.N[i]? = some x) (hv : Vis X.env.scope x) (hd : (x == ("__debug__" : Str)) = false) (hc : (x == ("__classdict__" : Str)) = false) : SB X n (.Name x pos) fun g G => Res.of (rdB g i) G := by
  refine (pe_var hN hv hd hc).imp ?_
  rintro σ H Q ⟨B, S, ρ, g, G, R, p⟩
  replace p : Post n.W n.xc n.Wx σ S ρ H (PpB n.W) (Res.of (rdB g i) G) Q := p
  cases e : rdB g i with
  | none => rw [e] at p; exact p.elim
  | some v =>
    rw [e] at p
    rcases rdB_some e with e1 | ⟨xs, rfl, e1⟩
    · obtain ⟨u, h1, h2⟩ := R.val i v e1
      exact ⟨u, h1, Post.ok p R.hs (.inl h2)⟩
    · obtain ⟨a, us, h1, h2, h3, h4, h5, h6⟩ := R.own i xs e1
      exact ⟨.ref a, h1, Post.ok p R.hs (.inr ⟨xs, a, us, rfl, rfl, h2, h3, h5⟩)⟩
theorem se_con {e : Expr} {v : GV} {u : V} (h : PE X e (tC u)) (r : ∀ S ρ, PR n.W S ρ v u) : SE X n e fun _ G => .ok v G :=
  h.imp fun σ H Q ⟨B, S, ρ, g, G, R, p⟩ => Post.ok p R.hs (r S ρ)
theorem se_int {i : Int} {j pos} : SE X n (.Constant (.int i) j pos) fun _ G => .ok (.int i) G := se_con pe_int fun _ _ => .int i
theorem se_str {i : Str} {j pos} : SE X n (.Constant (.str i) j pos) fun _ G => .ok (.str i) G := se_con pe_str fun _ _ => .str i
theorem se_bl {i : Bool} {j pos} : SE X n (.Constant (.bool i) j pos) fun _ G => .ok (.bl i) G := se_con pe_bl fun _ _ => .bl i
theorem se_non {j pos} : SE X n (.Constant .none j pos) fun _ G => .ok .non G := se_con pe_non fun _ _ => .non
theorem se_glb {x : Str} {pos : Pos} {T : Tb} (hg : Gl X x) (ok : ∀ v, T.gv x = some v → ∃ u w, X.mg x = some u ∧ RelV w u ∧ ∀ S ρ, PR n.W S ρ v w) (hv : (T.gv x).isSome = true) (hd : (x == ("__debug__" : Str)) = false) : SE X n (.Name x pos) fun _ G => Res.of (T.gv x) G := by
  obtain ⟨v, e⟩ := Option.isSome_iff_exists.mp hv
  obtain ⟨u, w, h1, h2, h3⟩ := ok v e
  rw [e]
  exact se_con (pe_glob hg h1 h2 hd) h3
theorem se_bty {x : Str} {pos : Pos} {t : String} (hg : Gl X x) (hm : X.mg x = none) (hv : bootBuiltins x = some (.type t)) (hn : x ≠ "__name__") (hd : (x == ("__debug__" : Str)) = false) : SE X n (.Name x pos) fun _ G => .ok (.ty t) G :=
  se_con (pe_bltn (v := .ty t) hg hm hv rfl hn hd) fun _ _ => .ty t

/-! ### results laid anew -/
theorem ne_none_upd {H : Hp} {p : Addr} {o : HO} {a : Addr} (h : H a ≠ none) : upd H p o a ≠ none := by
  by_cases q : a = p
  · rw [q, upd_same]; simp
  · rw [upd_ne q]; exact h
theorem ext_new {S H : Hp} {ρ : List Addr} {p : Addr} {o : HO} (hp : H p = none) (hS : S p = none) : Ext S ρ H (upd S p o) ρ (upd H p o) where
  sle := fun a x h => by rw [upd_ne (ne_of_none h hS)]; exact h
  snew := fun a x h => by
    by_cases e : a = p
    · exact .inr (by rw [e]; exact hp)
    · rw [upd_ne e] at h; exact .inl h
  pre := List.prefix_refl _
  rnew := fun a h => .inl h
  keep := fun a x h _ => by rw [upd_ne (ne_of_none h hp)]; exact h
  dom := fun a h => ne_none_upd h
/-- laid, not known as fixed -/
theorem ext_laid {S H : Hp} {ρ : List Addr} {p : Addr} {o : HO} (hp : H p = none) : Ext S ρ H S ρ (upd H p o) where
  sle := fun a x h => h
  snew := fun a x h => .inl h
  pre := List.prefix_refl _
  rnew := fun a h => .inl h
  keep := fun a x h _ => by rw [upd_ne (ne_of_none h hp)]; exact h
  dom := fun a h => ne_none_upd h
section
variable {W : W0} {S H : Hp} {ρ : List Addr} {G : Cells} {p : Addr} {o : HO}
theorem Hs.sfree (h : Hs W S ρ G H) (hp : H p = none) : S p = none := by
  cases e : S p with
  | none => rfl
  | some z => rw [h.le p z e] at hp; cases hp
theorem Hs.rfree (h : Hs W S ρ G H) (hp : H p = none) : p ∉ ρ := fun hm => by
  obtain ⟨k, hk⟩ := List.getElem?_of_mem hm
  have hl : k < G.length := by rw [← h.len]; exact (List.getElem?_eq_some_iff.mp hk).1
  obtain ⟨us, e, _⟩ := h.cel k p _ hk (List.getElem?_eq_getElem hl)
  rw [hp] at e; cases e
theorem Hs.new (h : Hs W S ρ G H) (hp : H p = none) : Hs W (upd S p o) ρ G (upd H p o) where
  le := fun a x q => by
    by_cases e : a = p
    · rw [e, upd_same] at q ⊢; exact q
    · rw [upd_ne e] at q ⊢; exact h.le a x q
  len := h.len
  cel := fun k a xs h1 h2 => by
    obtain ⟨us, e, r⟩ := h.cel k a xs h1 h2
    exact ⟨us, by rw [upd_ne (ne_of_none e hp)]; exact e, r.mono (ext_new (ρ := ρ) hp (h.sfree hp)).sle (List.prefix_refl _)⟩
  cS := fun a hm => by
    have q : a ≠ p := fun z => h.rfree hp (by rw [← z]; exact hm)
    rw [upd_ne q]
    exact h.cS a hm
  nod := h.nod
  cur := fun dd prs e => by
    obtain ⟨h1, h2⟩ := h.cur dd prs e
    refine ⟨(ext_new (ρ := ρ) hp (h.sfree hp)).sle _ _ h1, fun f v q => ?_⟩
    obtain ⟨u, h3, h4⟩ := h2 f v q
    exact ⟨u, h3, h4.mono (ext_new (ρ := ρ) hp (h.sfree hp)).sle (List.prefix_refl _)⟩
theorem Hs.laid (h : Hs W S ρ G H) (hp : H p = none) : Hs W S ρ G (upd H p o) where
  le := fun a x q => by
    have := h.le a x q
    rw [upd_ne (ne_of_none this hp)]; exact this
  len := h.len
  cel := fun k a xs h1 h2 => by
    obtain ⟨us, e, r⟩ := h.cel k a xs h1 h2
    exact ⟨us, by rw [upd_ne (ne_of_none e hp)]; exact e, r⟩
  cS := h.cS
  nod := h.nod
  cur := h.cur
variable {xc : Str → Option (List Str)} {Wx : WX} {σ : L2.St} {Q : VK} {xs : List GV} {us : List V}
theorem Post.tup (q : Post W xc Wx σ S ρ H (PpV W) (Res.ok (.tup xs) G) Q) (h : Hs W S ρ G H) (r : PRs W S ρ xs us) (hp : H p = none) : Q (.ref p) (upd H p (.tup us)) :=
  q _ _ _ _ (ext_new hp (h.sfree hp)) (h.new hp) (.tup (.inl upd_same) (r.mono (ext_new (ρ := ρ) hp (h.sfree hp)).sle (List.prefix_refl _)))
theorem Post.lst (q : Post W xc Wx σ S ρ H (PpV W) (Res.ok (.lst xs) G) Q) (h : Hs W S ρ G H) (r : PRs W S ρ xs us) (hp : H p = none) : Q (.ref p) (upd H p (.lst us)) :=
  q _ _ _ _ (ext_new hp (h.sfree hp)) (h.new hp) (.lst upd_same (r.mono (ext_new (ρ := ρ) hp (h.sfree hp)).sle (List.prefix_refl _)))
end

/-! ### a two-place operation on looked-at values -/
/-- what an operation f of values asks, by its plain meaning o -/
def rG (n : Cn) (o : GV → GV → Option GV) (Pr : Hp → List Addr → Hp → GV → V → Prop := PpV n.W) : R2 := fun x y H Q => ∃ (S : Hp) (ρ : List Addr) (G : Cells) (σ : L2.St) (a b : GV) (v : GV), Hs n.W S ρ G H ∧ PRB n.W S ρ H a x ∧ PRB n.W S ρ H b y ∧ o a b = some v ∧
  Post n.W n.xc n.Wx σ S ρ H Pr (Res.ok v G) Q
/-- the reading of both operands leads to it -/
theorem rd_two {β : Type} {P' : Hp → List Addr → Hp → GV → β → Prop} {eva evb : List Sl → Cells → Res GV} {o : GV → GV → Option GV} {σ : L2.St} {H : Hp} {Q : β → Hp → Prop} {r : V → V → Hp → (β → Hp → Prop) → Prop}
    (h : RD n.W n.xc n.Wx P' (fun g G => (eva g G).bind fun x G => (evb g G).bind fun y G => Res.of (o x y) G) σ H Q)
    (k : ∀ S ρ G a b v x y H, Hs n.W S ρ G H → PRB n.W S ρ H a x → PRB n.W S ρ H b y → o a b = some v → Post n.W n.xc n.Wx σ S ρ H P' (Res.ok v G) Q → r x y H Q) :
    n.rd (PpB n.W) eva σ H fun x H1 => n.rd (PpB n.W) evb σ H1 fun y H2 => r x y H2 Q := by
  refine RD.bind h fun B S ρ g G a x H1 R pa p => ?_
  refine ⟨B, S, ρ, g, G, R, Post.bind p fun b G' S1 ρ1 y H2 _ e hs pb p' => ?_⟩
  cases eo : o a b with
  | none => rw [eo] at p'; exact p'.elim
  | some v =>
    rw [eo] at p'
    exact k S1 ρ1 G' a b v x y H2 hs (pa.step e) pb eo p'
theorem se_bin {a b : Expr} {op : Operator} {pos : Pos} {eva evb : List Sl → Cells → Res GV} {o : GV → GV → Option GV} (ho : OpR X (binaryOp op) (rG n o)) (ha : SB X n a eva) (hb : SB X n b evb) :
    SE X n (.BinOp a op b pos) fun g G => (eva g G).bind fun x G => (evb g G).bind fun y G => Res.of (o x y) G :=
  (pe_op ho ha hb).imp fun σ H Q h => rd_two (r := rG n o) h fun S ρ G a b v x y H hs pa pb e p => ⟨S, ρ, G, σ, a, b, v, hs, pa, pb, e, p⟩
end
end Gm
end

section
namespace Gm
open PySem PySem.Spec PyProof.Rows L2

structure Okc (X : Cx) (n : Cn) : Prop where
  K : n.W.K = X.K
  mg : n.W.mg = X.mg

section
variable {W : W0} {S H : Hp} {ρ : List Addr} {x : V}
theorem PRB.int_inv {i : Int} (p : PRB W S ρ H (.int i) x) : x = .int i := by
  have q := p.pr fun xs e => nomatch e
  cases q; rfl
theorem PRB.bl_inv {i : Bool} (p : PRB W S ρ H (.bl i) x) : x = .bl i := by
  have q := p.pr fun xs e => nomatch e
  cases q; rfl
theorem PRB.non_inv (p : PRB W S ρ H .non x) : x = .non := by
  have q := p.pr fun xs e => nomatch e
  cases q; rfl
theorem PRB.str_inv {i : Str} (p : PRB W S ρ H (.str i) x) : x = .str i := by
  have q := p.pr fun xs e => nomatch e
  cases q; rfl
theorem PRB.ty_inv {i : String} (p : PRB W S ρ H (.ty i) x) : x = .ty i := by
  have q := p.pr fun xs e => nomatch e
  cases q; rfl
theorem PRB.tup_inv {xs : List GV} (p : PRB W S ρ H (.tup xs) x) (l : HLe S H) : ∃ a us, x = .ref a ∧ TupS W.K S a us ∧ SqT W.K H a us ∧ PRs W S ρ xs us := by
  have q := p.pr fun xs e => nomatch e
  cases q with
  | tup h r => exact ⟨_, _, rfl, h, l.sqT h.sq, r⟩
theorem PRB.scr_inv {ns : List Int} (p : PRB W S ρ H (.scr ns) x) (l : HLe S H) : ∃ a, x = .ref a ∧ SqL W.K H a (ns.map V.int) ∧ TyX W.K H (.ref a) (.type "list") := by
  have q := p.pr fun xs e => nomatch e
  cases q with
  | scr h t => exact ⟨_, rfl, l.sqL h, l.tyX t⟩
theorem PRB.cel_inv {k : Nat} (p : PRB W S ρ H (.cel k) x) : ∃ a, x = .ref a ∧ ρ[k]? = some a := by
  have q := p.pr fun xs e => nomatch e
  cases q with
  | cel h => exact ⟨_, rfl, h⟩
end
theorem divOk_iff {j : Int} (h : divOk j = true) : j ≠ 0 ∧ j.natAbs.log2 < 9000 := by
  unfold divOk at h
  rw [Bool.and_eq_true] at h
  exact ⟨of_decide_eq_true h.1, of_decide_eq_true h.2⟩
theorem mulOk_iff {i j : Int} (h : mulOk i j = true) : CMulW i j := by
  unfold mulOk at h
  have h' : i.natAbs.log2 + j.natAbs.log2 < 1000000 := of_decide_eq_true h
  exact h'
theorem powOk_iff {i j : Int} (h : powOk i j = true) : CPow i j := by
  unfold powOk at h
  rw [Bool.and_eq_true, Bool.and_eq_true] at h
  exact ⟨of_decide_eq_true h.1.1, of_decide_eq_true h.1.2, of_decide_eq_true h.2⟩
theorem szOk_iff {k : Nat} (h : szOk k = true) : k ≤ sizeLine := of_decide_eq_true h
def CDivG (_ j : Int) : Prop := j ≠ 0 ∧ j.natAbs.log2 < 9000
section
variable {X : Cx} {n : Cn}
theorem op_fdivG : OpR X (binaryOp .FloorDiv) (rI CDivG fun i j => .int (i.fdiv j)) := opI fun _ _ _ _ _ _ _ hc q => floordiv_int hc.1 q (.inl (PyProof.noPylong_of_log2 hc.2))
/-- ints alone -/
theorem opg_I {f : Value → Value → Sem Value} {C : Int → Int → Prop} {g : Int → Int → Int} {o : GV → GV → Option GV} (ho : OpR X f (rI C fun i j => .int (g i j))) (hb : ∀ a b v, o a b = some v → ∃ i j, a = .int i ∧ b = .int j ∧ C i j ∧ v = .int (g i j)) : OpR X f (rG n o) := by
  rintro pins s σ0 H x y v u Q I rx ry ⟨S, ρ, G, σ, a, b, w, hs, pa, pb, e, q⟩
  obtain ⟨i, j, rfl, rfl, hc, rfl⟩ := hb a b w e
  have e1 := pa.int_inv
  have e2 := pb.int_inv
  subst e1 e2
  exact ho pins s σ0 H _ _ v u Q I rx ry ⟨i, j, rfl, rfl, hc, Post.ok q hs (.int _)⟩
theorem opI_of {f : Value → Value → Sem Value} {g : Int → Int → Int} (h : OpR X f (rI0 fun i j => .int (g i j))) : OpR X f (rI (fun _ _ => True) fun i j => .int (g i j)) := by
  rintro pins s σ0 H x y v u Q I rx ry ⟨i, j, e1, e2, _, q⟩
  exact h pins s σ0 H x y v u Q I rx ry ⟨i, j, e1, e2, q⟩
/-- the only values on which such an operation is told -/
theorem bin_ints {op : Bop} {a b v : GV} (h : binV op a b = some v) (h1 : op ≠ .add) (h2 : op ≠ .mul) : ∃ i j, a = .int i ∧ b = .int j := by
  cases a <;> cases b <;> cases op <;> first | exact absurd rfl h1 | exact absurd rfl h2 | exact ⟨_, _, rfl, rfl⟩ | cases h
theorem opg_sub : OpR X (binaryOp .Sub) (rG n (binV .sub)) := opg_I (opI_of op_sub) fun a b v h => by
  obtain ⟨i, j, rfl, rfl⟩ := bin_ints h (by decide) (by decide)
  cases h; exact ⟨i, j, rfl, rfl, trivial, rfl⟩
theorem opg_band : OpR X (binaryOp .BitAnd) (rG n (binV .band)) := opg_I (opI_of op_and) fun a b v h => by
  obtain ⟨i, j, rfl, rfl⟩ := bin_ints h (by decide) (by decide)
  cases h; exact ⟨i, j, rfl, rfl, trivial, rfl⟩
theorem opg_bor : OpR X (binaryOp .BitOr) (rG n (binV .bor)) := opg_I (opI_of op_or) fun a b v h => by
  obtain ⟨i, j, rfl, rfl⟩ := bin_ints h (by decide) (by decide)
  cases h; exact ⟨i, j, rfl, rfl, trivial, rfl⟩
theorem opg_bxor : OpR X (binaryOp .BitXor) (rG n (binV .bxor)) := opg_I (opI_of op_xor) fun a b v h => by
  obtain ⟨i, j, rfl, rfl⟩ := bin_ints h (by decide) (by decide)
  cases h; exact ⟨i, j, rfl, rfl, trivial, rfl⟩
theorem opg_fdiv : OpR X (binaryOp .FloorDiv) (rG n (binV .fdiv)) := opg_I op_fdivG fun a b v h => by
  obtain ⟨i, j, rfl, rfl⟩ := bin_ints h (by decide) (by decide)
  have h' : (if divOk j then some (GV.int (i.fdiv j)) else none) = some v := h
  split at h'
  · rename_i c; cases h'; exact ⟨i, j, rfl, rfl, divOk_iff c, rfl⟩
  · cases h'
theorem opg_mod : OpR X (binaryOp .Mod) (rG n (binV .mod)) := opg_I op_modN fun a b v h => by
  obtain ⟨i, j, rfl, rfl⟩ := bin_ints h (by decide) (by decide)
  have h' : (if decide (j ≠ 0) then some (GV.int (i.fmod j)) else none) = some v := h
  split at h'
  · rename_i c; cases h'; exact ⟨i, j, rfl, rfl, of_decide_eq_true c, rfl⟩
  · cases h'
theorem opg_pow : OpR X (binaryOp .Pow) (rG n (binV .pow)) := opg_I op_pow fun a b v h => by
  obtain ⟨i, j, rfl, rfl⟩ := bin_ints h (by decide) (by decide)
  have h' : (if powOk i j then some (GV.int (i ^ j.toNat)) else none) = some v := h
  split at h'
  · rename_i c; cases h'; exact ⟨i, j, rfl, rfl, powOk_iff c, rfl⟩
  · cases h'
theorem opg_shl : OpR X (binaryOp .LShift) (rG n (binV .shl)) := opg_I op_shl fun a b v h => by
  obtain ⟨i, j, rfl, rfl⟩ := bin_ints h (by decide) (by decide)
  have h' : (if powOk i j then some (GV.int (i * 2 ^ j.toNat)) else none) = some v := h
  split at h'
  · rename_i c; cases h'; exact ⟨i, j, rfl, rfl, powOk_iff c, rfl⟩
  · cases h'
theorem opg_shr : OpR X (binaryOp .RShift) (rG n (binV .shr)) := opg_I op_shr fun a b v h => by
  obtain ⟨i, j, rfl, rfl⟩ := bin_ints h (by decide) (by decide)
  have h' : (if decide (0 ≤ j) then some (GV.int (i / 2 ^ j.toNat)) else none) = some v := h
  split at h'
  · rename_i c; cases h'; exact ⟨i, j, rfl, rfl, of_decide_eq_true c, rfl⟩
  · cases h'
theorem opg_add (k : Okc X n) : OpR X (binaryOp .Add) (rG n (binV .add)) := by
  rintro pins s σ0 H x y v u Q I rx ry ⟨S, ρ, G, σ, a, b, w, hs, pa, pb, e, q⟩
  cases a with
  | int i =>
    cases b with
    | int j =>
      cases e
      have e1 := pa.int_inv
      have e2 := pb.int_inv
      subst e1 e2
      exact op_add pins s σ0 H _ _ v u Q I rx ry ⟨i, j, rfl, rfl, Post.ok q hs (.int _)⟩
    | _ => cases e
  | str i =>
    cases b with
    | str j =>
      have e' : (if szOk (i.length + j.length) then some (GV.str (i ++ j)) else none) = some w := e
      split at e'
      · rename_i c
        cases e'
        have e1 := pa.str_inv
        have e2 := pb.str_inv
        subst e1 e2
        exact op_add_str pins s σ0 H _ _ v u Q I rx ry ⟨i, j, rfl, rfl, szOk_iff c, Post.ok q hs (.str _)⟩
      · cases e'
    | _ => cases e
  | tup xs =>
    cases b with
    | tup ys =>
      have e' : (if szOk (xs.length + ys.length) then some (GV.tup (xs ++ ys)) else none) = some w := e
      split at e'
      · rename_i c
        cases e'
        obtain ⟨a1, us, rfl, s1, t1, r1⟩ := pa.tup_inv hs.le
        obtain ⟨a2, ws, rfl, s2, t2, r2⟩ := pb.tup_inv hs.le
        rw [k.K] at t1 t2
        refine op_catA pins s σ0 H _ _ v u Q I rx ry ⟨a1, a2, us, ws, rfl, rfl, t1, t2, by rw [r1.length, r2.length]; exact szOk_iff c, fun h => ?_, fun h h' => ?_, fun h h' p hp => ?_⟩
        · subst h
          cases r1
          exact Post.ok q hs (.tup s2 r2)
        · subst h'
          cases r2
          rw [List.append_nil] at q
          exact Post.ok q hs (.tup s1 r1)
        · exact Post.tup q hs (r1.append r2) hp
      · cases e'
    | _ => cases e
  | lst xs =>
    cases b with
    | lst ys =>
      have e' : (if szOk (xs.length + ys.length) then some (GV.lst (xs ++ ys)) else none) = some w := e
      split at e'
      · rename_i c
        cases e'
        obtain ⟨a1, us, rfl, t1, r1⟩ := pa.lst_inv hs.le
        obtain ⟨a2, ws, rfl, t2, r2⟩ := pb.lst_inv hs.le
        exact op_cat pins s σ0 H _ _ v u Q I rx ry ⟨a1, a2, us, ws, rfl, rfl, t1, t2, by rw [r1.length, r2.length]; exact szOk_iff c, fun p hp => Post.lst q hs (r1.append r2) hp⟩
      · cases e'
    | _ => cases e
  | _ => cases b <;> cases e

theorem tuple_mul1 (l : Addr) (items : Array Value) (n : Nat) (dd : Option Addr) (sl : Array (Option Value)) (u : Tok) :
    Meets (Builtin.«tuple.__mul__» ⟨[.ref l, .int 1 u], []⟩) (fun _ R s => s.heap.get? l = some { cls := .type "tuple", dict := dd, data := .seq items n, slots := sl } ∧ R (.ok (.ret (Value.ref l))) s) :=
  .of_wp fun prog w A R s h => by
    obtain ⟨hp, g, d, tk, os⟩ := s
    obtain ⟨hl, h⟩ := h
    have f1 := AutoSeq1.idx_int
    wp_walk using wpAny_loadPart' hl
    exact ⟨_, rfl, h⟩
theorem op_rep1 : OpR X (binaryOp .Mult) (fun x y H Q => ∃ l xs, x = .ref l ∧ y = .int 1 ∧ SqT X.K H l xs ∧ Q (.ref l) H) := by
  rintro pins s σ H x y v u Q I rx ry ⟨l, xs, rfl, rfl, hT, q⟩
  cases rx
  obtain ⟨t, rfl⟩ := ry
  obtain ⟨its, r, ⟨⟨cls, dd, data, sl⟩, ho, hc, n, hd⟩, hs⟩ := I.tuple hT
  simp only at hc hd
  subst hc hd
  refine wpAny_binaryOp_repeat_ref (T := "tuple") (U := "int") (by decide) ⟨_, ho, rfl⟩ (fun s' => typeIs_int s' 1 t) noFill_tuple_mul F.fills_int_mul F.slot_int_rmul repeat_tuple F.slot_int_index.lookup
    (call_meets F.slot_int_rmul (typeIs_int s 1 t) F.entry_int_rmul (F.args_int_rmul_2 _ _) (int_rmul_tuple 1 t l its.toArray n dd sl)
      ⟨ho, rfl, ⟨_, ho, rfl⟩, call_meets F.slot_tuple_mul ⟨_, ho, rfl⟩ F.entry_tuple_mul (F.args_tuple_mul_2 _ _) (tuple_mul1 l its.toArray n dd sl t) ⟨ho, ?_⟩⟩)
  exact ⟨.ref l, H, I, rfl, q⟩
theorem tuple_mul0 (l : Addr) (items : Array Value) (n : Nat) (dd : Option Addr) (sl : Array (Option Value)) (x : Int) (u : Tok) (c0 : (decide (x < -(2 ^ 63)) || decide (x ≥ 2 ^ 63)) = false) (c1 : (items.isEmpty || x == 1) = false) (c2 : (decide (x ≤ 0) || items.isEmpty) = true) :
    Meets (Builtin.«tuple.__mul__» ⟨[.ref l, .int x u], []⟩) (fun _ R s => s.heap.get? l = some { cls := .type "tuple", dict := dd, data := .seq items n, slots := sl } ∧ R (.ok (.ret (Value.ref s.heap.objs.size))) { s with heap := s.heap.push { cls := Value.type "tuple", data := Data.seq #[] }, toks := s.toks }) :=
  .of_wp fun prog w A R s h => by
    obtain ⟨hp, g, d, tk, os⟩ := s
    obtain ⟨hl, h⟩ := h
    have f1 := AutoSeq1.idx_int
    wp_walk using wpAny_loadPart' hl
    repeat (first
      | (refine wpAny_ite_false (decide_eq_false (by rw [c0]; exact Bool.false_ne_true)) ?_; wp_walk using wpAny_loadPart' hl)
      | (refine wpAny_ite_false (decide_eq_false (by rw [c1]; exact Bool.false_ne_true)) ?_; wp_walk using wpAny_loadPart' hl)
      | (refine wpAny_ite_true (decide_eq_true c2) ?_; wp_walk using wpAny_loadPart' hl))
    exact ⟨_, rfl, h⟩
theorem op_rep0 : OpR X (binaryOp .Mult) (fun x y H Q => ∃ l k xs, x = .ref l ∧ y = .int k ∧ SqT X.K H l xs ∧ xs ≠ [] ∧ -1000 ≤ k ∧ k ≤ 0 ∧ ∀ p, H p = none → Q (.ref p) (upd H p (.tup []))) := by
  rintro pins s σ H x y v u Q I rx ry ⟨l, k, xs, rfl, rfl, hT, hne, h1, h2, q⟩
  cases rx
  obtain ⟨t, rfl⟩ := ry
  obtain ⟨its, r, ⟨⟨cls, dd, data, sl⟩, ho, hc, n, hd⟩, hs⟩ := I.tuple hT
  simp only at hc hd
  subst hc hd
  have hi : its.toArray.isEmpty = false := by
    cases its with
    | nil => cases r; exact absurd rfl hne
    | cons a b => rfl
  have c0 : (decide (k < -(2 ^ 63)) || decide (k ≥ 2 ^ 63)) = false := by
    rw [decide_eq_false (by omega), decide_eq_false (by omega)] <;> rfl
  have c1 : (its.toArray.isEmpty || k == 1) = false := by
    rw [hi, Bool.false_or]
    exact beq_eq_false_iff_ne.mpr (by omega)
  have c2 : (decide (k ≤ 0) || its.toArray.isEmpty) = true := by rw [decide_eq_true h2]; rfl
  refine wpAny_binaryOp_repeat_ref (T := "tuple") (U := "int") (by decide) ⟨_, ho, rfl⟩ (fun s' => typeIs_int s' k t) noFill_tuple_mul F.fills_int_mul F.slot_int_rmul repeat_tuple F.slot_int_index.lookup
    (call_meets F.slot_int_rmul (typeIs_int s k t) F.entry_int_rmul (F.args_int_rmul_2 _ _) (int_rmul_tuple k t l its.toArray n dd sl)
      ⟨ho, rfl, ⟨_, ho, rfl⟩, call_meets F.slot_tuple_mul ⟨_, ho, rfl⟩ F.entry_tuple_mul (F.args_tuple_mul_2 _ _) (tuple_mul0 l its.toArray n dd sl k t c0 c1 c2) ⟨ho, ?_⟩⟩)
  refine ⟨.ref s.heap.objs.size, _, I.laid (t' := s.toks) (o := .tup []) (fun b ob q => Heap.get?_push_of_some _ q) (Nat.le_refl _) ?_, rfl, q _ (I.hok.fresh (Nat.le_refl _))⟩
  exact ⟨Nat.zero_le _, [], .nil, IsTup.new _ _⟩
theorem opg_mul (k : Okc X n) : OpR X (binaryOp .Mult) (rG n (binV .mul)) := by
  rintro pins s σ0 H x y v u Q I rx ry ⟨S, ρ, G, σ, a, b, w, hs, pa, pb, e, q⟩
  cases a with
  | int i =>
    cases b with
    | int j =>
      have e' : (if mulOk i j then some (GV.int (i * j)) else none) = some w := e
      split at e'
      · rename_i c
        cases e'
        have e1 := pa.int_inv
        have e2 := pb.int_inv
        subst e1 e2
        exact op_mulW pins s σ0 H _ _ v u Q I rx ry ⟨i, j, rfl, rfl, mulOk_iff c, Post.ok q hs (.int _)⟩
      · cases e'
    | _ => cases e
  | tup xs =>
    cases b with
    | int j =>
      have e' : (if decide (1 ≤ j) && decide (j ≤ 1000) && decide (xs.length ≤ 1000) && !xs.isEmpty then some (GV.tup (List.replicate j.toNat xs).flatten) else if decide (-1000 ≤ j) && decide (j ≤ 0) && !xs.isEmpty then some (GV.tup []) else none) = some w := e
      split at e'
      · rename_i c
        cases e'
        simp only [Bool.and_eq_true, decide_eq_true_eq, Bool.not_eq_true'] at c
        obtain ⟨⟨⟨c1, c2⟩, c3⟩, c4⟩ := c
        obtain ⟨a1, us, rfl, s1, t1, r1⟩ := pa.tup_inv hs.le
        have e2 := pb.int_inv
        subst e2
        rw [k.K] at t1
        by_cases h1 : j = 1
        · subst h1
          refine op_rep1 pins s σ0 H _ _ v u Q I rx ry ⟨a1, us, rfl, rfl, t1, ?_⟩
          have ez : (List.replicate (1 : Int).toNat xs).flatten = xs := by show (List.replicate 1 xs).flatten = xs; simp
          rw [ez] at q
          exact Post.ok q hs (.tup s1 r1)
        · refine op_repT pins s σ0 H _ _ v u Q I rx ry ⟨a1, j, us, rfl, rfl, t1, fun z => ?_, by omega, c2, by rw [r1.length]; exact c3, fun p hp => Post.tup q hs (r1.rep _) hp⟩
          have hz := r1.isEmpty
          rw [z, c4] at hz
          exact Bool.noConfusion hz
      · split at e'
        · rename_i c
          cases e'
          simp only [Bool.and_eq_true, decide_eq_true_eq, Bool.not_eq_true'] at c
          obtain ⟨⟨c1, c2⟩, c4⟩ := c
          obtain ⟨a1, us, rfl, s1, t1, r1⟩ := pa.tup_inv hs.le
          have e2 := pb.int_inv
          subst e2
          rw [k.K] at t1
          refine op_rep0 pins s σ0 H _ _ v u Q I rx ry ⟨a1, j, us, rfl, rfl, t1, fun z => ?_, c1, c2, fun p hp => Post.tup q hs .nil hp⟩
          have hz := r1.isEmpty
          rw [z, c4] at hz
          exact Bool.noConfusion hz
        · cases e'
    | _ => cases e
  | lst xs =>
    cases b with
    | int j =>
      have e' : (if decide (-(2 ^ 63) ≤ j) && decide (j < 2 ^ 63) && szOk (xs.length * j.toNat) then some (GV.lst (List.replicate j.toNat xs).flatten) else none) = some w := e
      split at e'
      · rename_i c
        cases e'
        simp only [Bool.and_eq_true, decide_eq_true_eq] at c
        obtain ⟨⟨c1, c2⟩, c3⟩ := c
        obtain ⟨a1, us, rfl, t1, r1⟩ := pa.lst_inv hs.le
        have e2 := pb.int_inv
        subst e2
        exact op_rep pins s σ0 H _ _ v u Q I rx ry ⟨a1, j, us, rfl, rfl, t1, c1, c2, by rw [r1.length]; exact szOk_iff c3, fun p hp => Post.lst q hs (r1.rep _) hp⟩
      · cases e'
    | _ => cases e
  | _ => cases b <;> cases e

/-! ### equality of data -/
section
variable {W : W0} {S H : Hp} {ρ : List Addr}
mutual
theorem PR.dp (l : HLe S H) : ∀ {v : GV} {u : V} {d : PyData}, PR W S ρ v u → v.toD = some d → Dp W.K H u d
  | _, _, _, .non, e => by cases e; exact .non
  | _, _, _, .bl b, e => by cases e; exact .bl b
  | _, _, _, .int b, e => by cases e; exact .int b
  | _, _, _, .str b, e => by cases e; exact .str b
  | .tup xs, _, d, .tup h r, e => by
    have e' : (match GV.toDs xs with | some ds => some (PyData.tuple ds) | none => none) = some d := by rw [GV.toD] at e; exact e
    cases q : GV.toDs xs with
    | none => rw [q] at e'; cases e'
    | some ds => rw [q] at e'; cases e'; exact .tup (l.sqT h.sq) (PRs.dp l r q)
  | .lst xs, _, d, .lst h r, e => by
    have e' : (match GV.toDs xs with | some ds => some (PyData.list ds) | none => none) = some d := by rw [GV.toD] at e; exact e
    cases q : GV.toDs xs with
    | none => rw [q] at e'; cases e'
    | some ds => rw [q] at e'; cases e'; exact .lst (.inl (.inl (l _ _ h))) (PRs.dp l r q)
  | _, _, _, .scr _ _, e => by simp [GV.toD] at e
  | _, _, _, .ins _ _ _ _, e => by simp [GV.toD] at e
  | _, _, _, .cel _, e => by simp [GV.toD] at e
  | _, _, _, .ty _, e => by simp [GV.toD] at e
  | _, _, _, .glo _, e => by simp [GV.toD] at e
theorem PRs.dp (l : HLe S H) : ∀ {vs : List GV} {us : List V} {ds : List PyData}, PRs W S ρ vs us → GV.toDs vs = some ds → DpAll W.K H us ds
  | _, _, _, .nil, e => by simp [GV.toDs] at e; subst e; exact .nil
  | x :: xs, _, ds, .cons r rs, e => by
    rw [GV.toDs] at e
    cases q : GV.toD x with
    | none => rw [q] at e; cases e
    | some d =>
      rw [q] at e
      cases q2 : GV.toDs xs with
      | none => rw [q2] at e; cases e
      | some ds' => rw [q2] at e; cases e; exact .cons (PR.dp l r q) (PRs.dp l rs q2)
end
theorem PRB.dp (l : HLe S H) {v : GV} {u : V} {d : PyData} (p : PRB W S ρ H v u) (e : v.toD = some d) : Dp W.K H u d := by
  rcases p with p | ⟨xs, a, us, rfl, rfl, h1, h2, h3⟩
  · exact p.dp l e
  · have e' : (match GV.toDs xs with | some ds => some (PyData.list ds) | none => none) = some d := by rw [GV.toD] at e; exact e
    cases q : GV.toDs xs with
    | none => rw [q] at e'; cases e'
    | some ds => rw [q] at e'; cases e'; exact .lst (.inl (.inl h1)) (PRs.dp l h2 q)
theorem shp_some {v : GV} {d : PyData} (h : v.shp = some d) : v.toD = some d ∧ SeqAt.shaped d = true := by
  unfold GV.shp at h
  split at h
  · rename_i d' e
    split at h
    · rename_i c; cases h; exact ⟨e, c⟩
    · cases h
  · cases h
end
def bolV (o : GV → GV → Option Bool) : GV → GV → Option GV := fun x y => (o x y).map .bl
theorem bolV_some {o : GV → GV → Option Bool} {a b v : GV} (h : bolV o a b = some v) : ∃ k, o a b = some k ∧ v = .bl k := by
  unfold bolV at h
  cases e : o a b with
  | none => rw [e] at h; cases h
  | some k => rw [e] at h; cases h; exact ⟨k, rfl, rfl⟩
theorem map_not {o : Option Bool} {k : Bool} (h : o.map (!·) = some k) : ∃ j, o = some j ∧ k = !j := by
  cases o with
  | none => cases h
  | some j => cases h; exact ⟨j, rfl, rfl⟩
theorem eqG_some {a b : GV} {k : Bool} (h : eqG a b = some k) : ∃ d e, a.toD = some d ∧ b.toD = some e ∧ SeqAt.shaped d = true ∧ SeqAt.shaped e = true ∧ k = PyData.eqv d e := by
  unfold eqG at h
  split at h
  · rename_i d e h1 h2
    cases h
    exact ⟨d, e, (shp_some h1).1, (shp_some h2).1, (shp_some h1).2, (shp_some h2).2, rfl⟩
  · cases h
theorem cmg_eq (k : Okc X n) (hu : X.A.units + 64 < cLine) : OpR X (compareOp .Eq) (rG n (bolV (cmpV .eq))) := by
  rintro pins s σ0 H x y v u Q I rx ry ⟨S, ρ, G, σ, a, b, w, hs, pa, pb, e, q⟩
  obtain ⟨c, e1, rfl⟩ := bolV_some e
  obtain ⟨d1, d2, h1, h2, h3, h4, rfl⟩ := eqG_some e1
  exact op_eqD hu pins s σ0 H _ _ v u Q I rx ry ⟨d1, d2, k.K ▸ pa.dp hs.le h1, k.K ▸ pb.dp hs.le h2, h3, h4, Post.ok q hs (.bl _)⟩
theorem cmg_ne (k : Okc X n) (hu : X.A.units + 64 < cLine) : OpR X (compareOp .NotEq) (rG n (bolV (cmpV .ne))) := by
  rintro pins s σ0 H x y v u Q I rx ry ⟨S, ρ, G, σ, a, b, w, hs, pa, pb, e, q⟩
  obtain ⟨c, e1, rfl⟩ := bolV_some e
  obtain ⟨c, e2, rfl⟩ := map_not e1
  obtain ⟨d1, d2, h1, h2, h3, h4, rfl⟩ := eqG_some e2
  exact op_neD hu pins s σ0 H _ _ v u Q I rx ry ⟨d1, d2, k.K ▸ pa.dp hs.le h1, k.K ▸ pb.dp hs.le h2, h3, h4, Post.ok q hs (.bl _)⟩
theorem cmg_int {cop : CmpOp} {op : Cop} {g : Int → Int → Bool} (ho : OpR X (compareOp cop) (rI0 fun i j => .bl (g i j))) (hb : ∀ a b c, cmpV op a b = some c → ∃ i j, a = .int i ∧ b = .int j ∧ c = g i j) : OpR X (compareOp cop) (rG n (bolV (cmpV op))) := by
  rintro pins s σ0 H x y v u Q I rx ry ⟨S, ρ, G, σ, a, b, w, hs, pa, pb, e, q⟩
  obtain ⟨c, e0, rfl⟩ := bolV_some e
  obtain ⟨i, j, rfl, rfl, rfl⟩ := hb a b c e0
  have e1 := pa.int_inv
  have e2 := pb.int_inv
  subst e1 e2
  exact ho pins s σ0 H _ _ v u Q I rx ry ⟨i, j, rfl, rfl, Post.ok q hs (.bl _)⟩
theorem cmg_lt : OpR X (compareOp .Lt) (rG n (bolV (cmpV .lt))) := cmg_int op_lt fun a b c h => by
  cases a <;> cases b <;> cases h <;> exact ⟨_, _, rfl, rfl, rfl⟩
theorem cmg_le : OpR X (compareOp .LtE) (rG n (bolV (cmpV .le))) := cmg_int op_le fun a b c h => by
  cases a <;> cases b <;> cases h <;> exact ⟨_, _, rfl, rfl, rfl⟩
theorem cmg_gt : OpR X (compareOp .Gt) (rG n (bolV (cmpV .gt))) := cmg_int op_gt fun a b c h => by
  cases a <;> cases b <;> cases h <;> exact ⟨_, _, rfl, rfl, rfl⟩
theorem cmg_ge : OpR X (compareOp .GtE) (rG n (bolV (cmpV .ge))) := cmg_int op_ge fun a b c h => by
  cases a <;> cases b <;> cases h <;> exact ⟨_, _, rfl, rfl, rfl⟩
end
end Gm
end

section
namespace Gm
open PySem PySem.Spec PyProof.Rows L2

section
variable {X : Cx} {n : Cn}
theorem isNon_of {W : W0} {S H : Hp} {ρ : List Addr} {a : GV} {x : V} (p : PRB W S ρ H a x) : decide (x = V.non) = isNonG a := by
  rcases p with pa | ⟨xs, a', us, rfl, rfl, _⟩
  · cases pa <;> rfl
  · rfl
theorem opr_is {cop : CmpOp} {o : GV → GV → Option Bool} (f : Bool → Bool) (h1 : OpR X (compareOp cop) (fun x y H Q => y = .non ∧ Q (.bl (f (decide (x = .non)))) H))
    (h2 : OpR X (compareOp cop) (fun x y H Q => ∃ a b : Bool, x = .bl a ∧ y = .bl b ∧ Q (.bl (f (decide (a = b)))) H)) (ho : ∀ a b c, o a b = some c → ∃ k, isV a b = some k ∧ c = f k) :
    OpR X (compareOp cop) (rG n (bolV o)) := by
  rintro pins s σ0 H x y v u Q I rx ry ⟨S, ρ, G, σ, a, b, w, hs, pa, pb, e, q⟩
  obtain ⟨c, e1, rfl⟩ := bolV_some e
  obtain ⟨k, ek, rfl⟩ := ho a b c e1
  cases b with
  | non =>
    have ek' : some (isNonG a) = some k := ek
    cases ek'
    have e2 := pb.non_inv
    subst e2
    exact h1 pins s σ0 H _ _ v u Q I rx ry ⟨rfl, by rw [isNon_of pa]; exact Post.ok q hs (.bl _)⟩
  | bl j =>
    cases a with
    | bl i =>
      cases ek
      have e2 := pa.bl_inv
      have e3 := pb.bl_inv
      subst e2 e3
      exact h2 pins s σ0 H _ _ v u Q I rx ry ⟨i, j, rfl, rfl, Post.ok q hs (.bl _)⟩
    | _ => cases ek
  | _ => cases ek
theorem cmg_is : OpR X (compareOp .Is) (rG n (bolV (cmpV .isI))) := opr_is (fun k => k) op_isN op_isBl fun a b c h => ⟨c, h, rfl⟩
theorem cmg_isN : OpR X (compareOp .IsNot) (rG n (bolV (cmpV .isN))) := opr_is (fun k => !k) op_notN op_notBl fun a b c h => map_not h
/-! ### in, not in -/
theorem flat_of {W : W0} {S : Hp} {ρ : List Addr} {a : GV} {x : V} (h : flatG a = true) (p : PR W S ρ a x) : flatV x = true := by
  cases p <;> first | rfl | cases h
theorem flats_of {W : W0} {S : Hp} {ρ : List Addr} : ∀ {as : List GV} {xs : List V}, as.all flatG = true → PRs W S ρ as xs → xs.all flatV = true
  | _, _, _, .nil => rfl
  | a :: as, _, h, .cons r rs => by
    rw [List.all_cons, Bool.and_eq_true] at h
    rw [List.all_cons, flat_of h.1 r, flats_of h.2 rs]; rfl
theorem fEq_of {W : W0} {S : Hp} {ρ : List Addr} {a b : GV} {x y : V} (ha : flatG a = true) (hb : flatG b = true) (pa : PR W S ρ a x) (pb : PR W S ρ b y) : L2.eqV x y = fEq a b := by
  cases pa <;> cases pb <;> first | rfl | cases ha | cases hb
theorem inT_of {W : W0} {S : Hp} {ρ : List Addr} {a : GV} {x : V} (ha : flatG a = true) (pa : PR W S ρ a x) : ∀ {as : List GV} {xs : List V}, as.all flatG = true → PRs W S ρ as xs → (xs.any fun y => L2.eqV y x) = as.any fun y => fEq y a
  | _, _, _, .nil => rfl
  | b :: bs, _, h, .cons r rs => by
    rw [List.all_cons, Bool.and_eq_true] at h
    rw [List.any_cons, List.any_cons, fEq_of h.1 ha r pa, inT_of ha pa h.2 rs]
theorem inD_some {a : GV} {ys : List GV} {k : Bool} (h : inD a ys = some k) : ∃ d ds, a.toD = some d ∧ (GV.lst ys).toD = some (.list ds) ∧ SeqAt.shaped d = true ∧ SeqAt.shaped (.list ds) = true ∧ k = ds.any fun z => PyData.eqv z d := by
  unfold inD at h
  split at h
  · rename_i d ds h1 h2
    cases h
    exact ⟨d, ds, (shp_some h1).1, (shp_some h2).1, (shp_some h1).2, (shp_some h2).2, rfl⟩
  · cases h
theorem PRB.prd {W : W0} {S H : Hp} {ρ : List Addr} {a : GV} {x : V} (ha : flatG a = true) (p : PRB W S ρ H a x) : PR W S ρ a x := p.pr fun xs e => by subst e; cases ha
theorem inT_some {a : GV} {ys : List GV} {k : Bool} (h : inT a ys = some k) : flatG a = true ∧ ys.all flatG = true ∧ k = ys.any fun y => fEq y a := by
  unfold inT at h
  split at h
  · rename_i c
    rw [Bool.and_eq_true] at c
    cases h; exact ⟨c.1, c.2, rfl⟩
  · cases h
theorem cmg_in (k : Okc X n) (hu : X.A.units + 65 < cLine) : OpR X (compareOp .In) (rG n (bolV (cmpV .inn))) := by
  rintro pins s σ0 H x y v u Q I rx ry ⟨S, ρ, G, σ, a, b, w, hs, pa, pb, e, q⟩
  obtain ⟨c, e1, rfl⟩ := bolV_some e
  have fin : ∀ c, Post n.W n.xc n.Wx σ S ρ H (PpV n.W) (Res.ok (GV.bl c) G) Q → Q (.bl c) H := fun c q => Post.ok q hs (.bl _)
  cases b with
  | lst ys =>
    have e1' : inD a ys = some c := by cases a <;> exact e1
    obtain ⟨d, ds, h1, h2, h3, h4, rfl⟩ := inD_some e1'
    exact op_inD hu pins s σ0 H _ _ v u Q I rx ry ⟨d, ds, k.K ▸ pa.dp hs.le h1, k.K ▸ pb.dp hs.le h2, h3, h4, fin _ q⟩
  | tup ys =>
    have e1' : inT a ys = some c := by cases a <;> exact e1
    obtain ⟨h1, h2, rfl⟩ := inT_some e1'
    obtain ⟨p, us, rfl, s1, t1, r1⟩ := pb.tup_inv hs.le
    have pa' := pa.prd h1
    refine op_in_seq pins s σ0 H _ _ v u Q I rx ry ⟨p, us, rfl, .inr (k.K ▸ t1), flat_of h1 pa', flats_of h2 r1, ?_⟩
    rw [if_neg (by decide)]
    have := inT_of h1 pa' h2 r1
    show Q (.bl (us.any fun y => L2.eqV y x)) H
    rw [this]; exact fin _ q
  | str b =>
    cases a with
    | str a =>
      cases e1
      have e2 := pa.str_inv
      have e3 := pb.str_inv
      subst e2 e3
      exact op_in_str pins s σ0 H _ _ v u Q I rx ry ⟨a, b, rfl, rfl, fin _ q⟩
    | _ => cases e1
  | _ => cases a <;> cases e1
theorem cmg_nin (k : Okc X n) (hu : X.A.units + 65 < cLine) : OpR X (compareOp .NotIn) (rG n (bolV (cmpV .nin))) := by
  rintro pins s σ0 H x y v u Q I rx ry ⟨S, ρ, G, σ, a, b, w, hs, pa, pb, e, q⟩
  obtain ⟨c, e1, rfl⟩ := bolV_some e
  have fin : ∀ c, Post n.W n.xc n.Wx σ S ρ H (PpV n.W) (Res.ok (GV.bl c) G) Q → Q (.bl c) H := fun c q => Post.ok q hs (.bl _)
  cases b with
  | lst ys =>
    have e1' : (inD a ys).map (!·) = some c := by cases a <;> exact e1
    obtain ⟨c', e2, rfl⟩ := map_not e1'
    obtain ⟨d, ds, h1, h2, h3, h4, rfl⟩ := inD_some e2
    exact op_notInD hu pins s σ0 H _ _ v u Q I rx ry ⟨d, ds, k.K ▸ pa.dp hs.le h1, k.K ▸ pb.dp hs.le h2, h3, h4, fin _ q⟩
  | tup ys =>
    have e1' : (inT a ys).map (!·) = some c := by cases a <;> exact e1
    obtain ⟨c', e2, rfl⟩ := map_not e1'
    obtain ⟨h1, h2, rfl⟩ := inT_some e2
    obtain ⟨p, us, rfl, s1, t1, r1⟩ := pb.tup_inv hs.le
    have pa' := pa.prd h1
    refine op_notIn_seq pins s σ0 H _ _ v u Q I rx ry ⟨p, us, rfl, .inr (k.K ▸ t1), flat_of h1 pa', flats_of h2 r1, ?_⟩
    rw [if_pos rfl]
    have := inT_of h1 pa' h2 r1
    show Q (.bl (!(us.any fun y => L2.eqV y x))) H
    rw [this]; exact fin _ q
  | str b =>
    cases a with
    | str a =>
      cases e1
      have e2 := pa.str_inv
      have e3 := pb.str_inv
      subst e2 e3
      exact op_notin_str pins s σ0 H _ _ v u Q I rx ry ⟨a, b, rfl, rfl, fin _ q⟩
    | _ => cases e1
  | _ => cases a <;> cases e1

/-! ### comparisons as expressions -/
theorem map_bol (o : Option Bool) (G : Cells) : Res.of (o.map GV.bl) G = (Res.of o G).bind fun k G => .ok (.bl k) G := by cases o <;> rfl
theorem se_cmp {a b : Expr} {cop : CmpOp} {pos : Pos} {eva evb : List Sl → Cells → Res GV} {o : GV → GV → Option Bool} (ho : OpR X (compareOp cop) (rG n (bolV o))) (ha : SB X n a eva) (hb : SB X n b evb) (hm : behindInMarks cop b = false) :
    SE X n (.Compare a [cop] [b] pos) fun g G => (eva g G).bind fun x G => (evb g G).bind fun y G => Res.of ((o x y).map .bl) G :=
  (pe_cmpR ho ha hb hm).imp fun σ H Q h => rd_two (o := bolV o) (r := rG n (bolV o)) h fun S ρ G a b v x y H hs pa pb e p => ⟨S, ρ, G, σ, a, b, v, hs, pa, pb, e, p⟩
theorem _root_.Gm.Res.bind_bind {α β γ : Type} (r : Res α) (f : α → Cells → Res β) (h : β → Cells → Res γ) : (r.bind f).bind h = r.bind fun a G => (f a G).bind h := by cases r <;> rfl
theorem tru_map (o : Option Bool) (G : Cells) : ((Res.of (o.map GV.bl) G).bind fun x G => Res.of (truV x) G) = Res.of o G := by cases o <;> rfl
/-- the test of a value -/
def tst (ev : List Sl → Cells → Res GV) : List Sl → Cells → Res Bool := fun g G => (ev g G).bind fun x G => Res.of (truV x) G
theorem st_cmp {a b : Expr} {cop : CmpOp} {pos : Pos} {eva evb : List Sl → Cells → Res GV} {o : GV → GV → Option Bool} (ho : OpR X (compareOp cop) (rG n (bolV o))) (ha : SB X n a eva) (hb : SB X n b evb) (hm : behindInMarks cop b = false) :
    ST X n (.Compare a [cop] [b] pos) (tst fun g G => (eva g G).bind fun x G => (evb g G).bind fun y G => Res.of ((o x y).map .bl) G) := by
  refine (pt_cmpR ho ha hb hm).imp fun σ H Q h => ?_
  have h' : RD n.W n.xc n.Wx PpK (fun g G => (eva g G).bind fun x G => (evb g G).bind fun y G => Res.of (o x y) G) σ H Q := by
    obtain ⟨B, S, ρ, g, G, R, p⟩ := h
    refine ⟨B, S, ρ, g, G, R, ?_⟩
    have e : (tst (fun g G => (eva g G).bind fun x G => (evb g G).bind fun y G => Res.of ((o x y).map .bl) G) g G) = (eva g G).bind fun x G => (evb g G).bind fun y G => Res.of (o x y) G := by
      simp only [tst, Res.bind_bind, tru_map]
    rw [e] at p
    exact p
  refine RD.bind h' fun B S ρ g G a x H1 R pa p => ⟨B, S, ρ, g, G, R, Post.bind p fun b G' S1 ρ1 y H2 _ e hs pb p' => ?_⟩
  cases eo : o a b with
  | none => rw [eo] at p'; exact p'.elim
  | some k =>
    rw [eo] at p'
    refine ⟨S1, ρ1, G', σ, a, b, .bl k, hs, pa.step e, pb, by unfold bolV; rw [eo]; rfl, ?_⟩
    intro S' ρ' u H' e' hs' r
    cases r
    exact ⟨k, rfl, p' S' ρ' k H' e' hs' rfl⟩
end
end Gm
end

section
namespace Gm
open PySem PySem.Spec PyProof.Rows L2

section
variable {X : Cx} {n : Cn}
/-! ### tests from values -/
theorem rd_test {W : W0} {xc : Str → Option (List Str)} {Wx : WX} {ev : List Sl → Cells → Res GV} {σ : L2.St} {H : Hp} {Q : Bool → Hp → Prop} (hb : ∀ g G v G', ev g G = .ok v G' → ∃ k, v = .bl k) (h : RD W xc Wx PpK (tst ev) σ H Q) :
    RD W xc Wx (PpV W) ev σ H fun x H' => ∃ k, x = .bl k ∧ Q k H' := by
  obtain ⟨B, S, ρ, g, G, R, p⟩ := h
  refine ⟨B, S, ρ, g, G, R, Post.bind p fun v G' S1 ρ1 u H1 ev' e hs pu p' => ?_⟩
  obtain ⟨k, rfl⟩ := hb g G v G' ev'
  cases pu
  exact ⟨k, rfl, Post.ok (show Post W xc Wx σ S1 ρ1 H1 PpK (Res.ok k G') Q from p') hs rfl⟩
/-- the value's truth -/
theorem truV_of {W : W0} {S H : Hp} {ρ : List Addr} {v : GV} {u : V} {k : Bool} (p : PRB W S ρ H v u) (l : HLe S H) (h : truV v = some k) : TruV W.K u H k := by
  cases v with
  | non => cases p.non_inv; cases h; rfl
  | bl b => cases p.bl_inv; cases h; rfl
  | int b => cases p.int_inv; cases h; rfl
  | str b =>
    cases p.str_inv
    have h' : (if szOk b.length then some ((b.length : Int) != 0) else none) = some k := h
    split at h'
    · rename_i c; cases h'; exact ⟨szOk_iff c, rfl⟩
    · cases h'
  | tup xs =>
    obtain ⟨a, us, rfl, s1, t1, r1⟩ := p.tup_inv l
    cases h
    exact .inr (.inl ⟨us, t1, by rw [r1.isEmpty]⟩)
  | lst xs =>
    obtain ⟨a, us, rfl, t1, r1⟩ := p.lst_inv l
    cases h
    exact .inl ⟨us, .inl (.inl t1), by rw [r1.isEmpty]⟩
  | _ => cases h
theorem st_tru {e : Expr} {ev : List Sl → Cells → Res GV} (k : Okc X n) (h : SB X n e ev) (hp : plainT e = true) : ST X n e (tst ev) := by
  refine (pt_truth h (plain_tru hp)).imp fun σ H Q q => ?_
  refine RD.bind q fun B S ρ g G v u H1 R pu p => ?_
  cases ek : truV v with
  | none => rw [ek] at p; exact p.elim
  | some b =>
    rw [ek] at p
    exact ⟨b, k.K ▸ truV_of pu R.hs.le ek, Post.ok p R.hs rfl⟩

/-! ### and, or, not, if -/
def andE (ea eb : List Sl → Cells → Res GV) : List Sl → Cells → Res GV := fun g G => (ea g G).bind fun x G => (Res.of (truV x) G).bind fun k G => if k = true then eb g G else .ok x G
def orE (ea eb : List Sl → Cells → Res GV) : List Sl → Cells → Res GV := fun g G => (ea g G).bind fun x G => (Res.of (truV x) G).bind fun k G => if k = true then .ok x G else eb g G
theorem tst_and (ea eb : List Sl → Cells → Res GV) (g : List Sl) (G : Cells) : tst (andE ea eb) g G = (tst ea g G).bind fun k G => if k = true then tst eb g G else .ok false G := by
  simp only [tst, andE, Res.bind_bind]
  congr 1; funext x G1
  cases e : truV x with
  | none => rfl
  | some k =>
    cases k with
    | true => rfl
    | false => show (Res.of (truV x) G1) = _; rw [e]; rfl
theorem tst_or (ea eb : List Sl → Cells → Res GV) (g : List Sl) (G : Cells) : tst (orE ea eb) g G = (tst ea g G).bind fun k G => if k = true then .ok true G else tst eb g G := by
  simp only [tst, orE, Res.bind_bind]
  congr 1; funext x G1
  cases e : truV x with
  | none => rfl
  | some k =>
    cases k with
    | true => show (Res.of (truV x) G1) = _; rw [e]; rfl
    | false => rfl
theorem se_and {a b : Expr} {rest : List Expr} {pos : Pos} {ea eb : List Sl → Cells → Res GV} (k : Okc X n) (ha : SE X n a ea) (hb : SE X n (.BoolOp .And (b :: rest) pos) eb) : SE X n (.BoolOp .And (a :: b :: rest) pos) (andE ea eb) := by
  refine (pe_andT ha hb).imp fun σ H Q h => RD.bind h fun B S ρ g G v u H1 R pu p => ?_
  cases ek : truV v with
  | none => rw [ek] at p; exact p.elim
  | some b =>
    rw [ek] at p
    refine ⟨b, k.K ▸ truV_of (.inl pu) R.hs.le ek, ?_⟩
    cases b with
    | true => exact ⟨B, S, ρ, g, G, R, p⟩
    | false => exact Post.ok p R.hs pu
theorem se_or {a b : Expr} {rest : List Expr} {pos : Pos} {ea eb : List Sl → Cells → Res GV} (k : Okc X n) (ha : SE X n a ea) (hb : SE X n (.BoolOp .Or (b :: rest) pos) eb) : SE X n (.BoolOp .Or (a :: b :: rest) pos) (orE ea eb) := by
  refine (pe_orT ha hb).imp fun σ H Q h => RD.bind h fun B S ρ g G v u H1 R pu p => ?_
  cases ek : truV v with
  | none => rw [ek] at p; exact p.elim
  | some b =>
    rw [ek] at p
    refine ⟨b, k.K ▸ truV_of (.inl pu) R.hs.le ek, ?_⟩
    cases b with
    | true => exact Post.ok p R.hs pu
    | false => exact ⟨B, S, ρ, g, G, R, p⟩
abbrev SW (X : Cx) (n : Cn) (e : Expr) (ev : List Sl → Cells → Res Bool) : Prop := PW X e (n.rd PpK ev)
theorem _root_.L2.PW.imp {X : Cx} {e : Expr} {t t' : TT} (h : PW X e t) (i : ∀ σ H Q, t' σ H Q → t σ H Q) : PW X e t' := ⟨fun wh pins s σ H Q I q => h.run wh pins s σ H Q I (i σ H Q q)⟩
theorem sw_and {a b : Expr} {rest : List Expr} {pos : Pos} {ea eb : List Sl → Cells → Res GV} (ha : ST X n a (tst ea)) (hb : SW X n (.BoolOp .And (b :: rest) pos) (tst eb)) : SW X n (.BoolOp .And (a :: b :: rest) pos) (tst (andE ea eb)) := by
  refine (pw_and ha hb).imp fun σ H Q h => ?_
  have h' : RD n.W n.xc n.Wx PpK (fun g G => (tst ea g G).bind fun k G => if k = true then tst eb g G else .ok false G) σ H Q := by
    obtain ⟨B, S, ρ, g, G, R, p⟩ := h
    exact ⟨B, S, ρ, g, G, R, by rw [tst_and] at p; exact p⟩
  refine RD.bind h' fun B S ρ g G v u H1 R pu p => ?_
  cases pu
  cases v with
  | true => exact ⟨B, S, ρ, g, G, R, p⟩
  | false => exact Post.ok p R.hs rfl
theorem sw_or {a b : Expr} {rest : List Expr} {pos : Pos} {ea eb : List Sl → Cells → Res GV} (ha : ST X n a (tst ea)) (hb : SW X n (.BoolOp .Or (b :: rest) pos) (tst eb)) : SW X n (.BoolOp .Or (a :: b :: rest) pos) (tst (orE ea eb)) := by
  refine (pw_or ha hb).imp fun σ H Q h => ?_
  have h' : RD n.W n.xc n.Wx PpK (fun g G => (tst ea g G).bind fun k G => if k = true then .ok true G else tst eb g G) σ H Q := by
    obtain ⟨B, S, ρ, g, G, R, p⟩ := h
    exact ⟨B, S, ρ, g, G, R, by rw [tst_or] at p; exact p⟩
  refine RD.bind h' fun B S ρ g G v u H1 R pu p => ?_
  cases pu
  cases v with
  | true => exact Post.ok p R.hs rfl
  | false => exact ⟨B, S, ρ, g, G, R, p⟩
theorem sw_and1 {a : Expr} {pos : Pos} {ev : List Sl → Cells → Res Bool} (ha : ST X n a ev) : SW X n (.BoolOp .And [a] pos) ev := pw_and1 ha
theorem sw_or1 {a : Expr} {pos : Pos} {ev : List Sl → Cells → Res Bool} (ha : ST X n a ev) : SW X n (.BoolOp .Or [a] pos) ev := pw_or1 ha
def notE (ea : List Sl → Cells → Res GV) : List Sl → Cells → Res GV := fun g G => (ea g G).bind fun x G => (Res.of (truV x) G).bind fun k G => .ok (.bl (!k)) G
theorem se_not {a : Expr} {pos : Pos} {ea : List Sl → Cells → Res GV} (k : Okc X n) (ha : SB X n a ea) : SE X n (.UnaryOp .Not a pos) (notE ea) := by
  refine (pe_notT ha).imp fun σ H Q h => RD.bind h fun B S ρ g G v u H1 R pu p => ?_
  cases ek : truV v with
  | none => rw [ek] at p; exact p.elim
  | some b =>
    rw [ek] at p
    exact ⟨b, k.K ▸ truV_of pu R.hs.le ek, Post.ok p R.hs (.bl _)⟩
theorem st_not {a : Expr} {pos : Pos} {ea : List Sl → Cells → Res GV} (ha : ST X n a (tst ea)) : ST X n (.UnaryOp .Not a pos) (tst (notE ea)) := by
  refine (pt_not ha).imp fun σ H Q h => ?_
  have h' : RD n.W n.xc n.Wx PpK (fun g G => (tst ea g G).bind fun k G => .ok (!k) G) σ H Q := by
    obtain ⟨B, S, ρ, g, G, R, p⟩ := h
    refine ⟨B, S, ρ, g, G, R, ?_⟩
    have e : tst (notE ea) g G = (tst ea g G).bind fun k G => .ok (!k) G := by
      simp only [tst, notE, Res.bind_bind]
      congr 1
    rw [e] at p; exact p
  refine RD.bind h' fun B S ρ g G v u H1 R pu p => ?_
  cases pu
  exact Post.ok p R.hs rfl
theorem se_ite {c a b : Expr} {pos : Pos} {ec ea eb : List Sl → Cells → Res GV} (hc : ST X n c (tst ec)) (ha : SE X n a ea) (hb : SE X n b eb) :
    SE X n (.IfExp c a b pos) fun g G => (ec g G).bind fun x G => (Res.of (truV x) G).bind fun k G => if k = true then ea g G else eb g G := by
  refine (pe_ifExp hc ha hb).imp fun σ H Q h => ?_
  have h' : RD n.W n.xc n.Wx (PpV n.W) (fun g G => (tst ec g G).bind fun k G => if k = true then ea g G else eb g G) σ H Q := by
    obtain ⟨B, S, ρ, g, G, R, p⟩ := h
    exact ⟨B, S, ρ, g, G, R, by simp only [tst, Res.bind_bind]; exact p⟩
  refine RD.bind h' fun B S ρ g G v u H1 R pu p => ?_
  cases pu
  cases v with
  | true => exact ⟨B, S, ρ, g, G, R, p⟩
  | false => exact ⟨B, S, ρ, g, G, R, p⟩
/-- a op b op' c -/
def chnE (o o' : GV → GV → Option Bool) (ea eb ec : List Sl → Cells → Res GV) : List Sl → Cells → Res GV := fun g G => (ea g G).bind fun x G => (eb g G).bind fun y G => (Res.of (o x y) G).bind fun k G =>
    if k = true then (ec g G).bind fun z G => Res.of ((o' y z).map .bl) G else .ok (.bl false) G
theorem rd_chn {o o' : GV → GV → Option Bool} {ea eb ec : List Sl → Cells → Res GV} {σ : L2.St} {H : Hp} {Q : VK} (h : RD n.W n.xc n.Wx (PpV n.W) (chnE o o' ea eb ec) σ H Q) :
    tChain (rG n (bolV o)) (rG n (bolV o')) (n.rd (PpV n.W) ea) (n.rd (PpV n.W) eb) (n.rd (PpV n.W) ec) σ H Q := by
  refine RD.bind h fun B S ρ g G x ux H1 R px p => ?_
  refine ⟨B, S, ρ, g, G, R, Post.bind p fun y G1 S1 ρ1 uy H2 _ e1 hs1 py p1 => ?_⟩
  have R1 := R.step e1 hs1
  cases eo : o x y with
  | none => rw [eo] at p1; exact p1.elim
  | some k =>
    rw [eo] at p1
    refine ⟨S1, ρ1, G1, σ, x, y, .bl k, hs1, .inl (px.mono e1.sle e1.pre), .inl py, by unfold bolV; rw [eo]; rfl, ?_⟩
    intro S2 ρ2 u2 H3 e2 hs2 r2
    cases r2
    refine ⟨k, rfl, ?_⟩
    have p2 := Post.step (show Post n.W n.xc n.Wx σ S1 ρ1 H2 (PpV n.W) (if k = true then (ec g G1).bind fun z G => Res.of ((o' y z).map .bl) G else .ok (.bl false) G1) Q from p1) e2
    have R2 := R1.step e2 hs2
    cases k with
    | false => exact Post.ok p2 hs2 (.bl _)
    | true =>
      refine ⟨B, S2, ρ2, g, G1, R2, Post.bind p2 fun z G3 S3 ρ3 uz H4 _ e3 hs3 pz p3 => ?_⟩
      cases eo' : o' y z with
      | none => rw [eo'] at p3; exact p3.elim
      | some k' =>
        rw [eo'] at p3
        exact ⟨S3, ρ3, G3, σ, y, z, .bl k', hs3, .inl (py.mono (e2.sle.trans e3.sle) (e2.pre.trans e3.pre)), .inl pz, by unfold bolV; rw [eo']; rfl, p3⟩
theorem chn_bl {o o' : GV → GV → Option Bool} {ea eb ec : List Sl → Cells → Res GV} (g : List Sl) (G : Cells) (v : GV) (G' : Cells) (h : chnE o o' ea eb ec g G = .ok v G') : ∃ k, v = .bl k := by
  unfold chnE at h
  cases h1 : ea g G with
  | ok x G1 =>
    rw [h1] at h
    cases h2 : eb g G1 with
    | ok y G2 =>
      replace h : ((eb g G1).bind fun y G => (Res.of (o x y) G).bind fun k G => if k = true then (ec g G).bind fun z G => Res.of ((o' y z).map .bl) G else .ok (.bl false) G) = .ok v G' := h
      rw [h2] at h
      replace h : ((Res.of (o x y) G2).bind fun k G => if k = true then (ec g G).bind fun z G => Res.of ((o' y z).map .bl) G else .ok (.bl false) G) = .ok v G' := h
      cases h3 : o x y with
      | none => rw [h3] at h; cases h
      | some k =>
        rw [h3] at h
        replace h : (if k = true then (ec g G2).bind fun z G => Res.of ((o' y z).map .bl) G else Res.ok (.bl false) G2) = .ok v G' := h
        cases k with
        | false => cases h; exact ⟨_, rfl⟩
        | true =>
          rw [if_pos rfl] at h
          cases h4 : ec g G2 with
          | ok z G3 =>
            rw [h4] at h
            replace h : Res.of ((o' y z).map GV.bl) G3 = .ok v G' := h
            cases h5 : o' y z with
            | none => rw [h5] at h; cases h
            | some k' => rw [h5] at h; cases h; exact ⟨_, rfl⟩
          | ex C fs G4 => rw [h4] at h; cases h
          | no => rw [h4] at h; cases h
    | ex C fs G4 =>
      replace h : ((eb g G1).bind fun y G => (Res.of (o x y) G).bind fun k G => if k = true then (ec g G).bind fun z G => Res.of ((o' y z).map .bl) G else .ok (.bl false) G) = .ok v G' := h
      rw [h2] at h; cases h
    | no =>
      replace h : ((eb g G1).bind fun y G => (Res.of (o x y) G).bind fun k G => if k = true then (ec g G).bind fun z G => Res.of ((o' y z).map .bl) G else .ok (.bl false) G) = .ok v G' := h
      rw [h2] at h; cases h
  | ex C fs G4 => rw [h1] at h; cases h
  | no => rw [h1] at h; cases h
theorem se_chn {a b c : Expr} {op op' : CmpOp} {pos : Pos} {ea eb ec : List Sl → Cells → Res GV} {o o' : GV → GV → Option Bool} (ho : OpR X (compareOp op) (rG n (bolV o))) (ho' : OpR X (compareOp op') (rG n (bolV o'))) (ha : SE X n a ea) (hb : SE X n b eb) (hc : SE X n c ec)
    (hm : behindInMarks op' c = false) : SE X n (.Compare a [op, op'] [b, c] pos) (chnE o o' ea eb ec) := (pe_chain ho ho' ha hb hc hm).imp fun σ H Q h => rd_chn h
theorem st_chn {a b c : Expr} {op op' : CmpOp} {pos : Pos} {ea eb ec : List Sl → Cells → Res GV} {o o' : GV → GV → Option Bool} (ho : OpR X (compareOp op) (rG n (bolV o))) (ho' : OpR X (compareOp op') (rG n (bolV o'))) (ha : SE X n a ea) (hb : SE X n b eb) (hc : SE X n c ec)
    (hm : behindInMarks op' c = false) : ST X n (.Compare a [op, op'] [b, c] pos) (tst (chnE o o' ea eb ec)) := (pt_chain ho ho' ha hb hc hm).imp fun σ H Q h => rd_chn (rd_test chn_bl h)
theorem se_neg {a : Expr} {pos : Pos} {ea : List Sl → Cells → Res GV} (ha : SE X n a ea) : SE X n (.UnaryOp .USub a pos) fun g G => (ea g G).bind fun x G => match x with
    | .int i => .ok (.int (-i)) G
    | _ => .no := by
  refine (pe_un un_neg ha).imp fun σ H Q h => RD.bind h fun B S ρ g G v u H1 R pu p => ?_
  cases v with
  | int i => cases pu; exact ⟨i, rfl, Post.ok p R.hs (.int _)⟩
  | _ => exact p.elim

/-! ### lists of expressions -/
theorem sa_nil : SA X n [] fun _ G => .ok [] G := pa_nil.imp fun σ H Q ⟨B, S, ρ, g, G, R, p⟩ => Post.ok p R.hs .nil
theorem sa_cons {e : Expr} {es : List Expr} {ea : List Sl → Cells → Res GV} {eb : List Sl → Cells → Res (List GV)} (ha : SE X n e ea) (hb : SA X n es eb) (hn : noStar e = true) : SA X n (e :: es) fun g G => (ea g G).bind fun x G => (eb g G).bind fun xs G => .ok (x :: xs) G := by
  refine (pa_cons ha hb (star_cons hn)).imp fun σ H Q h => RD.bind h fun B S ρ g G v u H1 R pu p => ?_
  refine ⟨B, S, ρ, g, G, R, Post.bind p fun xs G1 S1 ρ1 us H2 _ e1 hs1 ps p1 => ?_⟩
  exact Post.ok p1 hs1 (.cons (pu.mono e1.sle e1.pre) ps)
theorem PRBs.step {W : W0} {S S' H H' : Hp} {ρ ρ' : List Addr} (e : Ext S ρ H S' ρ' H') : ∀ {v : List GV} {u : List V}, PRBs W S ρ H v u → PRBs W S' ρ' H' v u
  | _, _, .nil => .nil
  | _, _, .cons r rs => .cons (r.step e) (PRBs.step e rs)
theorem sab_nil : SAB X n [] fun _ G => .ok [] G := pa_nil.imp fun σ H Q ⟨B, S, ρ, g, G, R, p⟩ => Post.ok p R.hs .nil
theorem sab_cons {e : Expr} {es : List Expr} {ea : List Sl → Cells → Res GV} {eb : List Sl → Cells → Res (List GV)} (ha : SB X n e ea) (hb : SAB X n es eb) (hn : noStar e = true) : SAB X n (e :: es) fun g G => (ea g G).bind fun x G => (eb g G).bind fun xs G => .ok (x :: xs) G := by
  refine (pa_cons ha hb (star_cons hn)).imp fun σ H Q h => RD.bind h fun B S ρ g G v u H1 R pu p => ?_
  refine ⟨B, S, ρ, g, G, R, Post.bind p fun xs G1 S1 ρ1 us H2 _ e1 hs1 ps p1 => ?_⟩
  exact Post.ok p1 hs1 (.cons (pu.step e1) ps)
theorem se_tup {es : List Expr} {k1 : Nat} {pos : Pos} {ea : List Sl → Cells → Res (List GV)} (ha : SA X n es ea) : SE X n (.Tuple es k1 pos) fun g G => (ea g G).bind fun xs G => if szOk xs.length then .ok (.tup xs) G else .no := by
  refine (pe_tup ha).imp fun σ H Q h => RD.bind h fun B S ρ g G v u H1 R pu p => ?_
  by_cases c : szOk v.length = true
  · rw [if_pos c] at p
    exact ⟨by rw [pu.length]; exact szOk_iff c, fun q hq => Post.tup p R.hs pu hq⟩
  · rw [if_neg c] at p
    exact p.elim
theorem se_lst {es : List Expr} {pos : Pos} {ea : List Sl → Cells → Res (List GV)} (ha : SA X n es ea) : SE X n (.List es pos) fun g G => (ea g G).bind fun xs G => if szOk xs.length then .ok (.lst xs) G else .no := by
  refine (pe_lst ha).imp fun σ H Q h => RD.bind h fun B S ρ g G v u H1 R pu p => ?_
  by_cases c : szOk v.length = true
  · rw [if_pos c] at p
    exact ⟨by rw [pu.length]; exact szOk_iff c, fun q hq => Post.lst p R.hs pu hq⟩
  · rw [if_neg c] at p
    exact p.elim
/-- a list that is a cell from now on -/
theorem Hs.cell {W : W0} {S H : Hp} {ρ : List Addr} {G : Cells} {p : Addr} {xs : List GV} {us : List V} (h : Hs W S ρ G H) (hp : H p = none) (r : PRs W S ρ xs us) : Hs W S (ρ ++ [p]) (G ++ [xs]) (upd H p (.lst us)) where
  le := fun a x q => by
    have := h.le a x q
    rw [upd_ne (ne_of_none this hp)]; exact this
  len := by rw [List.length_append, List.length_append, h.len]; rfl
  cel := fun k a ys h1 h2 => by
    have mono : ∀ {zs : List GV} {ws : List V}, PRs W S ρ zs ws → PRs W S (ρ ++ [p]) zs ws := fun r => r.mono (HLe.refl _) (List.prefix_append _ _)
    by_cases hk : k < ρ.length
    · rw [List.getElem?_append_left hk] at h1
      rw [List.getElem?_append_left (by rw [← h.len]; exact hk)] at h2
      obtain ⟨ws, e, q⟩ := h.cel k a ys h1 h2
      exact ⟨ws, by rw [upd_ne (ne_of_none e hp)]; exact e, mono q⟩
    · rw [List.getElem?_append_right (by omega)] at h1
      rw [List.getElem?_append_right (by rw [← h.len]; omega), ← h.len] at h2
      cases hz : k - ρ.length with
      | zero =>
        rw [hz] at h1 h2
        cases h1; cases h2
        exact ⟨us, upd_same, mono r⟩
      | succ z => rw [hz] at h1; cases h1
  cS := fun a hm => by
    rcases List.mem_append.mp hm with q | q
    · exact h.cS a q
    · rw [List.mem_singleton] at q
      rw [q]; exact h.sfree hp
  nod := by
    rw [List.nodup_append]
    refine ⟨h.nod, by simp, fun a ha b hb => ?_⟩
    rw [List.mem_singleton] at hb
    intro e
    exact h.rfree hp (by rw [← hb, ← e]; exact ha)
  cur := fun dd prs e => by
    obtain ⟨h1, h2⟩ := h.cur dd prs e
    refine ⟨h1, fun f v q => ?_⟩
    obtain ⟨u, h3, h4⟩ := h2 f v q
    exact ⟨u, h3, h4.mono (HLe.refl _) (List.prefix_append _ _)⟩
theorem ext_cell {S H : Hp} {ρ : List Addr} {p : Addr} {o : HO} (hp : H p = none) : Ext S ρ H S (ρ ++ [p]) (upd H p o) where
  sle := fun a x h => h
  snew := fun a x h => .inl h
  pre := List.prefix_append _ _
  rnew := fun a h => by
    rcases List.mem_append.mp h with q | q
    · exact .inl q
    · rw [List.mem_singleton] at q
      exact .inr (by rw [q]; exact hp)
  keep := fun a x h _ => by rw [upd_ne (ne_of_none h hp)]; exact h
  dom := fun a h => ne_none_upd h
theorem se_cel {es : List Expr} {pos : Pos} {ea : List Sl → Cells → Res (List GV)} (ha : SA X n es ea) : SE X n (.List es pos) fun g G => (ea g G).bind fun xs G => if szOk xs.length then .ok (.cel G.length) (G ++ [xs]) else .no := by
  refine (pe_lst ha).imp fun σ H Q h => RD.bind h fun B S ρ g G v u H1 R pu p => ?_
  by_cases c : szOk v.length = true
  · rw [if_pos c] at p
    refine ⟨by rw [pu.length]; exact szOk_iff c, fun q hq => p _ _ _ _ (ext_cell hq) (R.hs.cell hq pu) (.cel ?_)⟩
    rw [← R.hs.len, List.getElem?_append_right (Nat.le_refl _), Nat.sub_self]; rfl
  · rw [if_neg c] at p
    exact p.elim
end
end Gm
end

section
namespace Gm
open PySem PySem.Spec PyProof.Rows L2

section
variable {X : Cx} {n : Cn}
/-! ### x[i] -/
theorem PRs.at_ {W : W0} {S : Hp} {ρ : List Addr} {xs : List GV} {us : List V} {i : Int} {v : GV} (r : PRs W S ρ xs us) (h : atI xs i = some v) : ∃ u, atI us i = some u ∧ PR W S ρ v u := by
  unfold atI at h ⊢
  rw [r.length]
  cases e : ixN xs.length i with
  | none => rw [e] at h; cases h
  | some j =>
    rw [e] at h
    exact r.get h
def rIxG (n : Cn) : R2 := fun x y H Q => ∃ (S : Hp) (ρ : List Addr) (G : Cells) (σ : L2.St) (a b : GV) (v : GV), Hs n.W S ρ G H ∧ PRB n.W S ρ H a x ∧ PR n.W S ρ b y ∧ idxV a b G = some v ∧ Post n.W n.xc n.Wx σ S ρ H (PpV n.W) (Res.ok v G) Q
theorem ixg (k : Okc X n) : IxR X (rIxG n) := by
  rintro vl sl pins s σ0 H x y v u Q I rx ry ⟨S, ρ, G, σ, a, b, w, hs, pa, pb, e, q⟩ hsub
  cases b with
  | int i =>
    have e2 : y = .int i := by cases pb with | int _ => rfl
    subst e2
    cases a with
    | tup xs =>
      obtain ⟨p, us, rfl, s1, t1, r1⟩ := pa.tup_inv hs.le
      obtain ⟨z, h1, h2⟩ := r1.at_ (show atI xs i = some w from e)
      exact ix_tup vl sl pins s σ0 H _ _ v u Q I rx ry ⟨p, us, i, z, rfl, rfl, k.K ▸ t1, h1, Post.ok q hs h2⟩ hsub
    | lst xs =>
      obtain ⟨p, us, rfl, t1, r1⟩ := pa.lst_inv hs.le
      obtain ⟨z, h1, h2⟩ := r1.at_ (show atI xs i = some w from e)
      exact ix_list vl sl pins s σ0 H _ _ v u Q I rx ry ⟨p, us, i, z, rfl, rfl, .inl (.inl t1), h1, Post.ok q hs h2⟩ hsub
    | cel m =>
      obtain ⟨p, rfl, hp⟩ := pa.cel_inv
      have e' : (match G[m]? with | some xs => atI xs i | none => none) = some w := e
      cases hg : G[m]? with
      | none => rw [hg] at e'; cases e'
      | some xs =>
        rw [hg] at e'
        obtain ⟨us, t1, r1⟩ := hs.cel m p xs hp hg
        obtain ⟨z, h1, h2⟩ := r1.at_ e'
        exact ix_list vl sl pins s σ0 H _ _ v u Q I rx ry ⟨p, us, i, z, rfl, rfl, .inl (.inl t1), h1, Post.ok q hs h2⟩ hsub
    | str z =>
      have e1 := pa.str_inv
      subst e1
      have e' : (if szOk z.length then (atI z.cps.toList i).map fun c => GV.str ⟨#[c]⟩ else none) = some w := e
      split at e'
      · rename_i c
        cases h : atI z.cps.toList i with
        | none => rw [h] at e'; cases e'
        | some d =>
          rw [h] at e'
          cases e'
          exact ix_str vl sl pins s σ0 H _ _ v u Q I rx ry ⟨z, i, d, rfl, rfl, szOk_iff c, h, Post.ok q hs (.str _)⟩ hsub
      · cases e'
    | _ => cases e
  | _ => cases a <;> cases e
theorem se_idx {a b : Expr} {pos : Pos} {eva evb : List Sl → Cells → Res GV} (k : Okc X n) (ha : SB X n a eva) (hb : SE X n b evb) (hs : noSlice b = true) :
    SE X n (.Subscript a b pos) fun g G => (eva g G).bind fun x G => (evb g G).bind fun y G => Res.of (idxV x y G) G := by
  refine (pe_ix (ixg k) ha hb (plain_ix hs)).imp fun σ H Q h => RD.bind h fun B S ρ g G x ux H1 R px p => ?_
  refine ⟨B, S, ρ, g, G, R, Post.bind p fun y G1 S1 ρ1 uy H2 _ e1 hs1 py p1 => ?_⟩
  cases eo : idxV x y G1 with
  | none => rw [eo] at p1; exact p1.elim
  | some v => rw [eo] at p1; exact ⟨S1, ρ1, G1, σ, x, y, v, hs1, px.step e1, py, eo, p1⟩

/-! ### slices -/
def rSlG (n : Cn) : V → Option Int → Option Int → Hp → VK → Prop := fun x lo hi H Q => ∃ (S : Hp) (ρ : List Addr) (G : Cells) (σ : L2.St) (a : GV) (v : GV), Hs n.W S ρ G H ∧ PRB n.W S ρ H a x ∧ slcV a lo hi = some v ∧ Post n.W n.xc n.Wx σ S ρ H (PpV n.W) (Res.ok v G) Q
theorem cut_whole {α : Type} {xs : List α} {lo hi : Option Int} (h : HT.sIx xs.length 0 lo = 0 ∧ HT.sIx xs.length xs.length hi = xs.length) : cutG xs lo hi = xs := by
  unfold cutG
  rw [h.1, h.2, List.drop_zero, Nat.sub_zero, List.take_length]
theorem slg (k : Okc X n) : SlR X (rSlG n) := by
  rintro pins s σ0 H x v vl vu lo hi sl Q I rx hsl pl pu ⟨S, ρ, G, σ, a, w, hs, pa, e, q⟩
  cases a with
  | tup xs =>
    obtain ⟨p, us, rfl, s1, t1, r1⟩ := pa.tup_inv hs.le
    cases e
    refine sl_tupA pins s σ0 H _ v vl vu lo hi sl Q I rx hsl pl pu ⟨p, us, rfl, k.K ▸ t1, fun hw => ?_, fun hw p2 hp2 => Post.tup q hs (r1.cut lo hi) hp2⟩
    rw [r1.length] at hw
    rw [cut_whole hw] at q
    exact Post.ok q hs (.tup s1 r1)
  | lst xs =>
    obtain ⟨p, us, rfl, t1, r1⟩ := pa.lst_inv hs.le
    cases e
    exact sl_list pins s σ0 H _ v vl vu lo hi sl Q I rx hsl pl pu ⟨p, us, rfl, .inl (.inl t1), fun p2 hp2 => Post.lst q hs (r1.cut lo hi) hp2⟩
  | _ => cases e
/-- a slice's part: left out, or an int -/
abbrev PpO : Hp → List Addr → Hp → Option Int → Option Int → Prop := fun _ _ _ o u => u = o
abbrev SPO (X : Cx) (n : Cn) (e : Option Expr) (ev : List Sl → Cells → Res (Option Int)) : Prop := PO X e (n.rd PpO ev)
theorem _root_.L2.PO.imp {X : Cx} {e : Option Expr} {t t' : TO} (h : PO X e t) (i : ∀ σ H Q, t' σ H Q → t σ H Q) : PO X e t' := ⟨fun pins s σ H Q I q => h.run pins s σ H Q I (i σ H Q q)⟩
theorem sp_none : SPO X n none fun _ G => (Res.ok [] G).bind fun l G => Res.of (prtL l) G := po_none.imp fun σ H Q ⟨B, S, ρ, g, G, R, p⟩ => Post.ok p R.hs rfl
theorem sp_some {e : Expr} {ev : List Sl → Cells → Res GV} (h : SE X n e ev) : SPO X n (some e) fun g G => ((ev g G).bind fun x G => (Res.ok [] G).bind fun xs G => .ok (x :: xs) G).bind fun l G => Res.of (prtL l) G := by
  refine (po_some h).imp fun σ H Q q => ?_
  simp only [Res.bind_bind] at q
  refine RD.bind q fun B S ρ g G v u H1 R pu p => ?_
  cases v with
  | int i => cases pu; exact ⟨i, rfl, Post.ok p R.hs rfl⟩
  | _ => exact p.elim
theorem se_slc {e : Expr} {lo hi : Option Expr} {p2 pos : Pos} {ev : List Sl → Cells → Res GV} {el eh : List Sl → Cells → Res (Option Int)} (k : Okc X n) (he : SB X n e ev) (hl : SPO X n lo el) (hh : SPO X n hi eh) :
    SE X n (.Subscript e (.Slice lo hi none p2) pos) fun g G => (ev g G).bind fun x G => (el g G).bind fun l G => (eh g G).bind fun h G => Res.of (slcV x l h) G := by
  refine (pe_slice (slg k) he hl hh).imp fun σ H Q h => RD.bind h fun B S ρ g G x ux H1 R px p => ?_
  refine ⟨B, S, ρ, g, G, R, Post.bind p fun l G1 S1 ρ1 ul H2 _ e1 hs1 pl p1 => ?_⟩
  cases pl
  refine ⟨B, S1, ρ1, g, G1, R.step e1 hs1, Post.bind p1 fun h G2 S2 ρ2 uh H3 _ e2 hs2 ph p2 => ?_⟩
  cases ph
  cases es : slcV x l h with
  | none => rw [es] at p2; exact p2.elim
  | some v => rw [es] at p2; exact ⟨S2, ρ2, G2, σ, x, v, hs2, (px.step e1).step e2, es, p2⟩

/-! ### calls of built-ins -/
def rCB (n : Cn) (f : List GV → Option GV) : List V → Hp → VK → Prop := fun us H Q => ∃ (S : Hp) (ρ : List Addr) (G : Cells) (σ : L2.St) (as : List GV) (v : GV), Hs n.W S ρ G H ∧ PRBs n.W S ρ H as us ∧ f as = some v ∧ Post n.W n.xc n.Wx σ S ρ H (PpV n.W) (Res.ok v G) Q
theorem PRBs.one {W : W0} {S H : Hp} {ρ : List Addr} {a : GV} {us : List V} (p : PRBs W S ρ H [a] us) : ∃ u, us = [u] ∧ PRB W S ρ H a u := by
  cases p with
  | cons h t => cases t; exact ⟨_, rfl, h⟩
theorem PRBs.two {W : W0} {S H : Hp} {ρ : List Addr} {a b : GV} {us : List V} (p : PRBs W S ρ H [a, b] us) : ∃ u w, us = [u, w] ∧ PRB W S ρ H a u ∧ PRB W S ρ H b w := by
  cases p with
  | cons h t =>
    obtain ⟨w, rfl, q⟩ := t.one
    exact ⟨_, _, rfl, h, q⟩
theorem cb_len (k : Okc X n) : CallR X (.builtin "len") (rCB n (bltV .len)) := by
  rintro pins s σ0 H xs us Q I r ⟨S, ρ, G, σ, as, v, hs, pa, e, q⟩
  match as, e with
  | [a], e =>
    obtain ⟨x, rfl, px⟩ := pa.one
    have e' : (lenV a).map (fun n => GV.int n) = some v := e
    cases el : lenV a with
    | none => rw [el] at e'; cases e'
    | some m =>
      rw [el] at e'; cases e'
      refine call_len pins s σ0 H _ us Q I r ⟨x, m, rfl, ?_, Post.ok q hs (.int _)⟩
      cases a with
      | str z =>
        cases px.str_inv
        have h' : (if szOk z.length then some z.length else none) = some m := el
        split at h'
        · rename_i c; cases h'; exact ⟨szOk_iff c, rfl⟩
        · cases h'
      | tup ys =>
        obtain ⟨p, us, rfl, s1, t1, r1⟩ := px.tup_inv hs.le
        cases el
        exact .inr ⟨us, k.K ▸ t1, by rw [r1.length]⟩
      | lst ys =>
        obtain ⟨p, us, rfl, t1, r1⟩ := px.lst_inv hs.le
        cases el
        exact .inl ⟨us, .inl (.inl t1), by rw [r1.length]⟩
      | scr ys =>
        obtain ⟨p, rfl, t1, _⟩ := px.scr_inv hs.le
        cases el
        exact .inl ⟨_, k.K ▸ t1, by rw [List.length_map]⟩
      | _ => cases el
theorem cb_tuple (k : Okc X n) : CallR X (.type "tuple") (rCB n (bltV .tupl)) := by
  rintro pins s σ0 H xs us Q I r ⟨S, ρ, G, σ, as, v, hs, pa, e, q⟩
  match as, e with
  | [.lst ys], e =>
    obtain ⟨x, rfl, px⟩ := pa.one
    obtain ⟨p, ws, rfl, t1, r1⟩ := px.lst_inv hs.le
    cases e
    exact call_tuple_of pins s σ0 H _ us Q I r ⟨p, ws, rfl, .inl ⟨.inl (.inl t1), fun l hl => Post.tup q hs r1 hl⟩⟩
  | [.tup ys], e =>
    obtain ⟨x, rfl, px⟩ := pa.one
    obtain ⟨p, ws, rfl, s1, t1, r1⟩ := px.tup_inv hs.le
    cases e
    exact call_tuple_of pins s σ0 H _ us Q I r ⟨p, ws, rfl, .inr ⟨k.K ▸ t1, Post.ok q hs (.tup s1 r1)⟩⟩
theorem cb_list (k : Okc X n) : CallR X (.type "list") (rCB n (bltV .listt)) := by
  rintro pins s σ0 H xs us Q I r ⟨S, ρ, G, σ, as, v, hs, pa, e, q⟩
  match as, e with
  | [.lst ys], e =>
    obtain ⟨x, rfl, px⟩ := pa.one
    obtain ⟨p, ws, rfl, t1, r1⟩ := px.lst_inv hs.le
    cases e
    exact call_list_of pins s σ0 H _ us Q I r ⟨p, ws, rfl, .inl (.inl (.inl t1)), fun l hl => Post.lst q hs r1 hl⟩
  | [.tup ys], e =>
    obtain ⟨x, rfl, px⟩ := pa.one
    obtain ⟨p, ws, rfl, s1, t1, r1⟩ := px.tup_inv hs.le
    cases e
    exact call_list_of pins s σ0 H _ us Q I r ⟨p, ws, rfl, .inr (k.K ▸ t1), fun l hl => Post.lst q hs r1 hl⟩
theorem cb_int : CallR X (.type "int") (rCB n (bltV .intt)) := by
  rintro pins s σ0 H xs us Q I r ⟨S, ρ, G, σ, as, v, hs, pa, e, q⟩
  match as, e with
  | [.int i], e =>
    obtain ⟨x, rfl, px⟩ := pa.one
    cases px.int_inv
    cases e
    exact call_int1 pins s σ0 H _ us Q I r (.inl ⟨i, rfl, Post.ok q hs (.int _)⟩)
  | [.bl i], e =>
    obtain ⟨x, rfl, px⟩ := pa.one
    cases px.bl_inv
    cases e
    exact call_int1 pins s σ0 H _ us Q I r (.inr ⟨i, rfl, Post.ok q hs (.int _)⟩)
theorem cb_bool : CallR X (.type "bool") (rCB n (bltV .boolt)) := by
  rintro pins s σ0 H xs us Q I r ⟨S, ρ, G, σ, as, v, hs, pa, e, q⟩
  match as, e with
  | [.int i], e =>
    obtain ⟨x, rfl, px⟩ := pa.one
    cases px.int_inv
    cases e
    exact call_bool1 pins s σ0 H _ us Q I r (.inl ⟨i, rfl, Post.ok q hs (.bl _)⟩)
  | [.bl i], e =>
    obtain ⟨x, rfl, px⟩ := pa.one
    cases px.bl_inv
    cases e
    exact call_bool1 pins s σ0 H _ us Q I r (.inr ⟨i, rfl, Post.ok q hs (.bl _)⟩)
theorem cb_abs : CallR X (.builtin "abs") (rCB n (bltV .abs)) := by
  rintro pins s σ0 H xs us Q I r ⟨S, ρ, G, σ, as, v, hs, pa, e, q⟩
  match as, e with
  | [.int i], e =>
    obtain ⟨x, rfl, px⟩ := pa.one
    cases px.int_inv
    cases e
    exact call_abs pins s σ0 H _ us Q I r ⟨i, rfl, Post.ok q hs (.int _)⟩
theorem cb_str : CallR X (.type "str") (rCB n (bltV .str)) := by
  rintro pins s σ0 H xs us Q I r ⟨S, ρ, G, σ, as, v, hs, pa, e, q⟩
  match as, e with
  | [.int i], e =>
    obtain ⟨x, rfl, px⟩ := pa.one
    cases px.int_inv
    have e' : (if decide (i.natAbs.log2 < 1920) then some (GV.str (toString i)) else none) = some v := e
    split at e'
    · rename_i c
      cases e'
      exact call_str_int pins s σ0 H _ us Q I r ⟨i, rfl, of_decide_eq_true c, Post.ok q hs (.str _)⟩
    · cases e'
theorem cb_max2 (hc : X.calm = true) : CallR X (.builtin "max") (rCB n (bltV .max2)) := by
  rintro pins s σ0 H xs us Q I r ⟨S, ρ, G, σ, as, v, hs, pa, e, q⟩
  match as, e with
  | [.int i, .int j], e =>
    obtain ⟨x, y, rfl, px, py⟩ := pa.two
    cases px.int_inv
    cases py.int_inv
    cases e
    exact call_max2 hc pins s σ0 H _ us Q I r ⟨i, j, rfl, Post.ok q hs (.int _)⟩
theorem cb_min2 (hc : X.calm = true) : CallR X (.builtin "min") (rCB n (bltV .min2)) := by
  rintro pins s σ0 H xs us Q I r ⟨S, ρ, G, σ, as, v, hs, pa, e, q⟩
  match as, e with
  | [.int i, .int j], e =>
    obtain ⟨x, y, rfl, px, py⟩ := pa.two
    cases px.int_inv
    cases py.int_inv
    cases e
    exact call_min2 hc pins s σ0 H _ us Q I r ⟨i, j, rfl, Post.ok q hs (.int _)⟩
theorem cb_sum (k : Okc X n) (hc : X.calm = true) : CallR X (.builtin "sum") (rCB n (bltV .sum)) := by
  rintro pins s σ0 H xs us Q I r ⟨S, ρ, G, σ, as, v, hs, pa, e, q⟩
  match as, e with
  | [.lst ys], e =>
    obtain ⟨x, rfl, px⟩ := pa.one
    obtain ⟨p, ws, rfl, t1, r1⟩ := px.lst_inv hs.le
    have e' : (intsG ys).map (fun ns => GV.int ns.sum) = some v := e
    cases ei : intsG ys with
    | none => rw [ei] at e'; cases e'
    | some ns =>
      rw [ei] at e'; cases e'
      have ew := PRs.ints_inv ei r1
      subst ew
      exact cr_sum hc pins s σ0 H _ us Q I r ⟨p, ns, rfl, .inl (.inl t1), Post.ok q hs (.int _)⟩
/-! isinstance -/
theorem tyX_of {W : W0} {S H : Hp} {ρ : List Addr} {G : Cells} {a : GV} {x : V} {t : String} (hs : Hs W S ρ G H) (p : PRB W S ρ H a x) (h : tyG a = some t) : TyX W.K H x (.type t) := by
  cases a with
  | non => cases p.non_inv; cases h; exact .base .non
  | bl b => cases p.bl_inv; cases h; exact .base (.bl _)
  | int b => cases p.int_inv; cases h; exact .base (.int _)
  | str b => cases p.str_inv; cases h; exact .base (.str _)
  | tup xs =>
    obtain ⟨p, us, rfl, s1, t1, r1⟩ := p.tup_inv hs.le
    cases h
    rcases s1 with s1 | ⟨o, its, n, h1, h2, _⟩
    · exact .base (.tup (hs.le _ _ s1))
    · exact .kTuple h1 h2
  | lst xs =>
    obtain ⟨p, us, rfl, t1, r1⟩ := p.lst_inv hs.le
    cases h
    exact .base (.lst t1)
  | scr ns =>
    obtain ⟨p, rfl, t1, t2⟩ := p.scr_inv hs.le
    cases h
    exact t2
  | cel m =>
    obtain ⟨a, rfl, hp⟩ := p.cel_inv
    cases h
    have hl : m < G.length := by rw [← hs.len]; exact (List.getElem?_eq_some_iff.mp hp).1
    obtain ⟨us, t1, r1⟩ := hs.cel m a _ hp (List.getElem?_eq_getElem hl)
    exact .base (.lst t1)
  | _ => cases h
theorem kitA_of {K : PySem.W.Frag} {W : W0} {S : Hp} {ρ : List Addr} {t : String} : ∀ {cs : List GV} {vs : List V} {b : Bool}, kitA t cs = some b → PRs W S ρ cs vs → ∃ us, Paired ClsV vs us ∧ PySem.W.kitAny K (.type t) us = some b
  | [], _, b, h, .nil => by cases h; exact ⟨[], .nil, rfl⟩
  | c :: cs, _, b, h, .cons r rs => by
    cases c with
    | ty s =>
      cases r
      have h' : (match kitB t s with | some true => (match kitA t cs with | some _ => some true | none => none) | some false => kitA t cs | none => none) = some b := h
      cases e : kitB t s with
      | none => rw [e] at h'; cases h'
      | some k =>
        rw [e] at h'
        cases k with
        | false =>
          obtain ⟨us, h1, h2⟩ := kitA_of (K := K) (show kitA t cs = some b from h') rs
          exact ⟨_, .cons (.ty s) h1, kitAny_cons (kit_ty e) (fun _ => h2) (fun z => nomatch z)⟩
        | true =>
          have h'' : (match kitA t cs with | some _ => some true | none => none) = some b := h'
          cases e2 : kitA t cs with
          | none => rw [e2] at h''; cases h''
          | some b2 =>
            rw [e2] at h''; cases h''
            obtain ⟨us, h1, h2⟩ := kitA_of (K := K) e2 rs
            exact ⟨_, .cons (.ty s) h1, kitAny_cons (kit_ty e) (fun z => nomatch z) (fun _ => rfl)⟩
    | _ => cases h
theorem cb_isi (k : Okc X n) : CallR X (.builtin "isinstance") (rCB n (bltV .isi)) := by
  rintro pins s σ0 H xs us Q I r ⟨S, ρ, G, σ, as, v, hs, pa, e, q⟩
  match as, e with
  | [a, c], e =>
    obtain ⟨x, y, rfl, px, py⟩ := pa.two
    have e' : (isiV a c).map GV.bl = some v := e
    cases ei : isiV a c with
    | none => rw [ei] at e'; cases e'
    | some b =>
      rw [ei] at e'; cases e'
      unfold isiV at ei
      split at ei
      · cases ei
      · rename_i t ht
        have ty := tyX_of hs px ht
        rw [k.K] at ty
        split at ei
        · rename_i cn
          cases py.ty_inv
          exact call_isi pins s σ0 H _ us Q I r ⟨x, _, _, _, b, rfl, .ty cn, ty, kit_ty ei, Post.ok q hs (.bl _)⟩
        · rename_i cs
          obtain ⟨p, ws, rfl, s1, t1, r1⟩ := py.tup_inv hs.le
          obtain ⟨zs, h1, h2⟩ := kitA_of (K := X.K) ei r1
          rcases s1 with s1 | ⟨o, its, m, g1, g2, g3, g4, g5⟩
          · exact call_isiT pins s σ0 H _ us Q I r ⟨x, p, ws, _, zs, b, rfl, hs.le _ _ s1, h1, ty, h2, Post.ok q hs (.bl _)⟩
          · have ez := ClsV.all h1 g5
            obtain ⟨oc, od, dt, sl⟩ := o
            simp only at g2 g3
            subst g2 g3
            refine call_isiK pins s σ0 H _ us Q I r ⟨x, p, od, its.toList, m, sl, _, b, rfl, ?_, ty, by rw [ez]; exact h2, Post.ok q hs (.bl _)⟩
            rw [← k.K, g1]
        · cases ei
/-- a built-in function, a built-in class, called by name -/
theorem se_blt {x : Str} {p pos : Pos} {e : Expr} {es : List Expr} {id : String} {f : List GV → Option GV} {ea : List Sl → Cells → Res (List GV)} (hc : CallR X (.builtin id) (rCB n f)) (hg : Gl X x) (hm : X.mg x = none) (hv : bootBuiltins x = some (.builtin id)) (ha : SAB X n (e :: es) ea)
    (hns : (e :: es).all noStar = true) (hn : x ≠ "__name__") (hdb : (x == ("__debug__" : Str)) = false) : SE X n (.Call (.Name x p) (e :: es) [] pos) fun g G => (ea g G).bind fun xs G => Res.of (f xs) G := by
  have h0 := hns
  rw [List.all_cons, Bool.and_eq_true] at h0
  refine (pe_callB hc hg hm hv ha hn hdb (star_cons h0.1) (star_plain h0.2)).imp fun σ H Q h => RD.bind h fun B S ρ g G as us H1 R pu p => ?_
  cases eo : f as with
  | none => rw [eo] at p; exact p.elim
  | some v => rw [eo] at p; exact ⟨S, ρ, G, σ, as, v, R.hs, pu, eo, p⟩
theorem se_bltT {x : Str} {p pos : Pos} {e : Expr} {es : List Expr} {id : String} {f : List GV → Option GV} {ea : List Sl → Cells → Res (List GV)} (hc : CallR X (.type id) (rCB n f)) (hg : Gl X x) (hm : X.mg x = none) (hv : bootBuiltins x = some (.type id)) (ha : SAB X n (e :: es) ea)
    (hns : (e :: es).all noStar = true) (hn : x ≠ "__name__") (hdb : (x == ("__debug__" : Str)) = false) : SE X n (.Call (.Name x p) (e :: es) [] pos) fun g G => (ea g G).bind fun xs G => Res.of (f xs) G := by
  have h0 := hns
  rw [List.all_cons, Bool.and_eq_true] at h0
  refine (pe_callTy hc hg hm hv ha hn hdb (star_cons h0.1) (star_plain h0.2)).imp fun σ H Q h => RD.bind h fun B S ρ g G as us H1 R pu p => ?_
  cases eo : f as with
  | none => rw [eo] at p; exact p.elim
  | some v => rw [eo] at p; exact ⟨S, ρ, G, σ, as, v, R.hs, pu, eo, p⟩
end
end Gm
end

section
namespace Gm
open PySem PySem.Spec PyProof.Rows L2

/-! ### slots -/
section
variable {W : W0} {B : Bs} {S H : Hp} {ρ : List Addr} {g : List Sl} {G : Cells} {σ : L2.St}
theorem Rel.setv {i : Nat} {v : GV} {u : V} (R : Rel W B S ρ g G σ H) (r : PR W S ρ v u) : Rel W B S ρ (g.set i (.val v)) G (σ.set i (some u)) H where
  hs := R.hs
  ext := R.ext
  len := by rw [List.length_set, List.length_set]; exact R.len
  val := fun j w h => by
    by_cases e : i = j
    · subst e
      by_cases hl : i < g.length
      · rw [List.getElem?_set_self hl] at h
        cases h
        exact ⟨u, by rw [List.getElem?_set_self (by rw [← R.len]; exact hl)], r⟩
      · rw [List.getElem?_eq_none (by simpa using hl)] at h; cases h
    · rw [List.getElem?_set_ne e] at h
      rw [List.getElem?_set_ne e]
      exact R.val j w h
  own := fun j xs h => by
    by_cases e : i = j
    · subst e
      by_cases hl : i < g.length
      · rw [List.getElem?_set_self hl] at h; cases h
      · rw [List.getElem?_eq_none (by simpa using hl)] at h; cases h
    · rw [List.getElem?_set_ne e] at h
      rw [List.getElem?_set_ne e]
      exact R.own j xs h
  dst := fun j k xs ys a h1 h2 h3 h4 => by
    have ne : ∀ {m : Nat} {zs : List GV}, (g.set i (.val v))[m]? = some (.own zs) → i ≠ m := fun {m zs} h e => by
      subst e
      by_cases hl : i < g.length
      · rw [List.getElem?_set_self hl] at h; cases h
      · rw [List.getElem?_eq_none (by simpa using hl)] at h; cases h
    have n1 := ne h1
    have n2 := ne h2
    rw [List.getElem?_set_ne n1] at h1 h3
    rw [List.getElem?_set_ne n2] at h2 h4
    exact R.dst j k xs ys a h1 h2 h3 h4
  exc := fun j h => by
    by_cases e : i = j
    · subst e
      by_cases hl : i < g.length
      · rw [List.getElem?_set_self hl] at h; cases h
      · rw [List.getElem?_eq_none (by simpa using hl)] at h; cases h
    · rw [List.getElem?_set_ne e] at h
      rw [List.getElem?_set_ne e]
      exact R.exc j h
theorem Rel.setn {i : Nat} (R : Rel W B S ρ g G σ H) : Rel W B S ρ (g.set i .no) G (σ.set i none) H where
  hs := R.hs
  ext := R.ext
  len := by rw [List.length_set, List.length_set]; exact R.len
  val := fun j w h => by
    by_cases e : i = j
    · subst e
      by_cases hl : i < g.length
      · rw [List.getElem?_set_self hl] at h; cases h
      · rw [List.getElem?_eq_none (by simpa using hl)] at h; cases h
    · rw [List.getElem?_set_ne e] at h
      rw [List.getElem?_set_ne e]
      exact R.val j w h
  own := fun j xs h => by
    by_cases e : i = j
    · subst e
      by_cases hl : i < g.length
      · rw [List.getElem?_set_self hl] at h; cases h
      · rw [List.getElem?_eq_none (by simpa using hl)] at h; cases h
    · rw [List.getElem?_set_ne e] at h
      rw [List.getElem?_set_ne e]
      exact R.own j xs h
  dst := fun j k xs ys a h1 h2 h3 h4 => by
    have ne : ∀ {m : Nat} {zs : List GV}, (g.set i .no)[m]? = some (.own zs) → i ≠ m := fun {m zs} h e => by
      subst e
      by_cases hl : i < g.length
      · rw [List.getElem?_set_self hl] at h; cases h
      · rw [List.getElem?_eq_none (by simpa using hl)] at h; cases h
    have n1 := ne h1
    have n2 := ne h2
    rw [List.getElem?_set_ne n1] at h1 h3
    rw [List.getElem?_set_ne n2] at h2 h4
    exact R.dst j k xs ys a h1 h2 h3 h4
  exc := fun j h => by
    by_cases e : i = j
    · subst e
      by_cases hl : i < g.length
      · rw [List.getElem?_set_self hl] at h; cases h
      · rw [List.getElem?_eq_none (by simpa using hl)] at h; cases h
    · rw [List.getElem?_set_ne e] at h
      rw [List.getElem?_set_ne e]
      exact R.exc j h
theorem Rel.wipe (R : Rel W B S ρ g G σ H) : ∀ vs : List Nat, Rel W B S ρ (wipeG g vs) G (wipe σ vs) H
  | [] => R
  | v :: vs => (Rel.wipe R vs).setn
end
/-- alike but at these slots -/
def EqOff (vs : List Nat) (σ σ' : L2.St) : Prop := σ'.length = σ.length ∧ ∀ j, j ∉ vs → σ'[j]? = σ[j]?
theorem EqOff.refl (vs : List Nat) (σ : L2.St) : EqOff vs σ σ := ⟨rfl, fun _ _ => rfl⟩
theorem EqOff.trans {vs : List Nat} {a b c : L2.St} (h : EqOff vs a b) (k : EqOff vs b c) : EqOff vs a c := ⟨k.1.trans h.1, fun j hj => (k.2 j hj).trans (h.2 j hj)⟩
theorem EqOff.set {vs : List Nat} {σ : L2.St} {i : Nat} {x : Option V} (h : i ∈ vs) : EqOff vs σ (σ.set i x) := ⟨by simp, fun j hj => by rw [List.getElem?_set_ne (fun e => hj (by rw [← e]; exact h))]⟩
theorem EqOff.mono {vs ws : List Nat} {a b : L2.St} (h : EqOff vs a b) (s : ∀ i ∈ vs, i ∈ ws) : EqOff ws a b := ⟨h.1, fun j hj => h.2 j fun m => hj (s j m)⟩
theorem wipe_get (σ : L2.St) (j : Nat) : ∀ vs : List Nat, (wipe σ vs)[j]? = if j ∈ vs then (if j < σ.length then some none else none) else σ[j]?
  | [] => by simp [wipe]
  | v :: vs => by
    unfold wipe
    by_cases e : v = j
    · subst e
      rw [if_pos List.mem_cons_self]
      by_cases hl : v < σ.length
      · rw [if_pos hl, List.getElem?_set_self (by rw [wipe_length]; exact hl)]
      · rw [if_neg hl, List.getElem?_eq_none (by rw [List.length_set, wipe_length]; omega)]
    · rw [List.getElem?_set_ne e, wipe_get σ j vs]
      by_cases h : j ∈ vs
      · rw [if_pos h, if_pos (List.mem_cons_of_mem _ h)]
      · rw [if_neg h, if_neg (by simp only [List.mem_cons, not_or]; exact ⟨fun z => e z.symm, h⟩)]
theorem wipe_eq {σ σ' : L2.St} {vs : List Nat} (h : EqOff vs (wipe σ vs) σ') : wipe σ' vs = wipe σ vs := by
  apply List.ext_getElem?
  intro j
  have hl : σ'.length = σ.length := by rw [h.1, wipe_length]
  rw [wipe_get, wipe_get]
  by_cases e : j ∈ vs
  · rw [if_pos e, if_pos e, hl]
  · rw [if_neg e, if_neg e, h.2 j e, wipe_get, if_neg e]

/-! ### targets -/
def Tg.slots : Tg → List Nat
  | .name i => [i]
  | .tup is => is
section
variable {X : Cx} {n : Cn}
def rTg (n : Cn) (T : Tg) : TG := fun u σ H Q => ∃ B S ρ g G v g2, Rel n.W B S ρ g G σ H ∧ PR n.W S ρ v u ∧ setTg T v g = some g2 ∧ ∀ σ2, Rel n.W B S ρ g2 G σ2 H → EqOff T.slots σ σ2 → Q σ2 H
abbrev SG (X : Cx) (n : Cn) (tg : Expr) (T : Tg) : Prop := PG X tg (rTg n T)
theorem _root_.L2.PG.imp {X : Cx} {e : Expr} {t t' : TG} (h : PG X e t) (i : ∀ v σ H Q, t' v σ H Q → t v σ H Q) : PG X e t' := ⟨fun pins s σ H v u Q I r q => h.run pins s σ H v u Q I r (i v σ H Q q)⟩
theorem _root_.L2.PGs.imp {X : Cx} {e : List Expr} {t t' : TGs} (h : PGs X e t) (i : ∀ v σ H Q, t' v σ H Q → t v σ H Q) : PGs X e t' := ⟨fun pins s σ H v u Q I r q => h.run pins s σ H v u Q I r (i v σ H Q q)⟩
theorem sg_name {i : Nat} {x : Str} {pos : Pos} (hN : X.N.Nodup) (hi : X.N[i]? = some x) (hx : Loc X.env.scope x) (hf : X.fn x = true ∨ X.env.scope.names.lookup x = some .local) : SG X n (.Name x pos) (.name i) := by
  refine (pg_name hN hi hx hf).imp fun u σ H Q ⟨B, S, ρ, g, G, v, g2, R, r, e, q⟩ => ?_
  cases e
  exact q _ (R.setv r) (EqOff.set (by simp [Tg.slots]))
def rTgs (n : Cn) (is : List Nat) : TGs := fun us σ H Q => ∃ B S ρ g G vs, Rel n.W B S ρ g G σ H ∧ PRs n.W S ρ vs us ∧ vs.length = is.length ∧ ∀ σ2, Rel n.W B S ρ (setAll is vs g) G σ2 H → EqOff is σ σ2 → Q σ2 H
abbrev SGs (X : Cx) (n : Cn) (ts : List Expr) (is : List Nat) : Prop := PGs X ts (rTgs n is)
theorem sgs_nil : SGs X n [] [] := pgs_nil.imp fun us σ H Q ⟨B, S, ρ, g, G, vs, R, r, e, q⟩ => by
  cases vs with
  | nil => cases r; exact ⟨rfl, q σ R (EqOff.refl _ _)⟩
  | cons v vs => cases e
theorem assign_cons {e : Expr} {es : List Expr} {env : Env} (h : noStar e = true) : assignEach (e :: es) env = (false, assign e env) :: assignEach es env := by
  cases e <;> first | rfl | cases h
theorem sgs_cons {i : Nat} {is : List Nat} {x : Str} {pos : Pos} {ts : List Expr} (hN : X.N.Nodup) (hi : X.N[i]? = some x) (hx : Loc X.env.scope x) (hf : X.fn x = true ∨ X.env.scope.names.lookup x = some .local) (h : SGs X n ts is) : SGs X n (.Name x pos :: ts) (i :: is) := by
  refine (pgs_cons (pg_name hN hi hx hf) h (by rw [assign_cons rfl]; rfl)).imp fun us σ H Q ⟨B, S, ρ, g, G, vs, R, r, e, q⟩ => ?_
  cases vs with
  | nil => cases e
  | cons v vs =>
    cases r with
    | cons r rs =>
      refine ⟨_, _, rfl, B, S, ρ, g.set i (.val v), G, vs, R.setv r, rs, by simpa using e, fun σ2 R2 e2 => q σ2 R2 ?_⟩
      exact (EqOff.set (vs := i :: is) List.mem_cons_self).trans (e2.mono fun j hj => List.mem_cons_of_mem _ hj)
theorem assign_len : ∀ {ts : List Expr} {env : Env}, ts.all noStar = true → (assignEach ts env).length = ts.length ∧ (assignEach ts env).findIdx? (·.1) = none
  | [], _, _ => ⟨rfl, rfl⟩
  | t :: ts, env, h => by
    rw [List.all_cons, Bool.and_eq_true] at h
    obtain ⟨h1, h2⟩ := assign_len (ts := ts) (env := env) h.2
    rw [assign_cons h.1]
    refine ⟨by rw [List.length_cons, List.length_cons, h1], ?_⟩
    rw [List.findIdx?_cons, h2]; rfl
theorem SGs.len {ts : List Expr} {is : List Nat} (h : ts.length = is.length) : ts.length = is.length := h
theorem sg_tup {ts : List Expr} {is : List Nat} {k1 : Nat} {pos : Pos} (k : Okc X n) (hc : X.calm = true) (h : SGs X n ts is) (hl : ts.length = is.length) (hns : ts.all noStar = true) : SG X n (.Tuple ts k1 pos) (.tup is) := by
  obtain ⟨l1, l2⟩ := assign_len (env := X.env) hns
  refine (pg_tup (n := ts.length) hc h l1 l2).imp fun u σ H Q ⟨B, S, ρ, g, G, v, g2, R, r, e, q⟩ => ?_
  cases v with
  | tup xs =>
    have e' : (if xs.length = is.length then some (setAll is xs g) else none) = some g2 := e
    split at e'
    · rename_i hl2
      cases e'
      cases r with
      | tup h r =>
        exact ⟨_, _, rfl, k.K ▸ R.hs.le.sqT h.sq, by rw [r.length, hl2, hl], B, S, ρ, g, G, xs, R, r, hl2, q⟩
    · cases e'
  | _ => cases e
end

/-! ### what is walked -/
structure Src (W : W0) (xs : List GV) (J : L2.It) (Gd : Hp → List Addr → Hp → Prop) : Prop where
  go : ∀ i S ρ H, Gd S ρ H → i < xs.length → J.go i H
  stop : ∀ i S ρ H, Gd S ρ H → xs.length ≤ i → J.stop i H
  yld : ∀ i S ρ G H x H', Hs W S ρ G H → Gd S ρ H → i < xs.length → J.yld i H x H' → ∃ S' v, Ext S ρ H S' ρ H' ∧ Hs W S' ρ G H' ∧ xs[i]? = some v ∧ PR W S' ρ v x
/-- good for a comprehension: nothing that an expression does hurts it -/
abbrev PpIB (W : W0) : Hp → List Addr → Hp → List GV → L2.It → Prop := fun S ρ H xs J => ∃ Gd, Src W xs J Gd ∧ Gd S ρ H ∧ ∀ S1 ρ1 H1, Ext S ρ H S1 ρ1 H1 → HLe S1 H1 → Gd S1 ρ1 H1
/-- good for a loop -/
abbrev PpIS (W : W0) : Hp → List Addr → Hp → List GV → L2.It → Prop := fun S ρ H xs J => ∃ Gd, Src W xs J Gd ∧ Gd S ρ H ∧ ∀ S1 ρ1 H1, HLe S S1 → ρ <+: ρ1 → HLe S1 H1 → Gd S1 ρ1 H1
theorem PpIS.b {W : W0} {S H : Hp} {ρ : List Addr} {xs : List GV} {J : L2.It} (h : PpIS W S ρ H xs J) : PpIB W S ρ H xs J := by
  obtain ⟨Gd, h1, h2, h3⟩ := h
  exact ⟨Gd, h1, h2, fun S1 ρ1 H1 e l => h3 S1 ρ1 H1 e.sle e.pre l⟩
abbrev SIB (X : Cx) (n : Cn) (tg it : Expr) (ev : List Sl → Cells → Res (List GV)) : Prop := PI X tg it (n.rd (PpIB n.W) ev)
abbrev SIS (X : Cx) (n : Cn) (tg it : Expr) (ev : List Sl → Cells → Res (List GV)) : Prop := PI X tg it (n.rd (PpIS n.W) ev)
theorem _root_.L2.PI.imp {X : Cx} {tg e : Expr} {t t' : TI} (h : PI X tg e t) (i : ∀ σ H Q, t' σ H Q → t σ H Q) : PI X tg e t' := ⟨fun pins s σ H Q I q => h.run pins s σ H Q I (i σ H Q q)⟩
section
variable {X : Cx} {n : Cn} {tg : Expr}
/-- a list or a tuple, as it comes -/
theorem pi_seq {l : Expr} {tl : TE} (hl : PE X l tl) : PI X tg l fun σ H R => tl σ H fun x H1 => ∃ a, x = .ref a ∧ (((∃ xs, SqL X.K H1 a xs) ∧ R (Itl X.K a) H1) ∨ ((∃ xs, SqT X.K H1 a xs) ∧ R (Itt X.K a) H1)) := by
  refine ⟨fun pins s σ H R I h => ?_⟩
  refine thn (hl.run pins s σ H _ I h) fun v s1 ⟨x, H1, I1, r1, q1⟩ => ?_
  obtain ⟨a, e, q⟩ := q1
  subst e
  cases r1
  have fp : ∀ b ∈ [s1.heap.objs.size], FpOk X pins H1 b := fun b hb => by
    have e : b = s1.heap.objs.size := by simpa using hb
    subst e
    exact I1.fpOk (Nat.le_refl _) (I1.hok.fresh (Nat.le_refl _))
  rcases q with ⟨⟨xs, hq⟩, q⟩ | ⟨⟨xs, hq⟩, q⟩
  · obtain ⟨its, rv, p, hz⟩ := I1.list hq
    refine wpAny_pyIter_list p.isList ?_
    exact ⟨s1.heap.objs.size, [s1.heap.objs.size], _, _, H1, rfl, I1.kept (t' := s1.toks) fun b o e => Heap.get?_push_of_some _ e, turn_list a _, ⟨_, Heap.get?_push_size _ rfl, rfl, rfl⟩, fp, q⟩
  · obtain ⟨its, rv, p, hz⟩ := I1.tuple hq
    refine wpAny_pyIter_tuple (show s1.heap.IsTuple a its.toArray from p) ?_
    exact ⟨s1.heap.objs.size, [s1.heap.objs.size], _, _, H1, rfl, I1.kept (t' := s1.toks) fun b o e => Heap.get?_push_of_some _ e, turn_tuple a _, ⟨_, Heap.get?_push_size _ rfl, rfl, rfl⟩, fp, q⟩
def GdL (W : W0) (a : Addr) (xs : List GV) : Hp → List Addr → Hp → Prop := fun S ρ H => ∃ us, SqL W.K H a us ∧ PRs W S ρ xs us
def GdT (W : W0) (a : Addr) (xs : List GV) : Hp → List Addr → Hp → Prop := fun S ρ H => ∃ us, SqT W.K H a us ∧ PRs W S ρ xs us
theorem src_list {W : W0} {a : Addr} {xs : List GV} : Src W xs (Itl W.K a) (GdL W a xs) where
  go := fun i S ρ H ⟨us, h1, h2⟩ hi => ⟨us, us[i]'(by rw [h2.length]; exact hi), h1, by simp⟩
  stop := fun i S ρ H ⟨us, h1, h2⟩ hi => ⟨us, h1, by rw [h2.length]; exact hi⟩
  yld := fun i S ρ G H x H' hs ⟨us, h1, h2⟩ hi ⟨e, y⟩ => by
    subst e
    obtain ⟨v, h3, h4⟩ := h2.getV (y us h1)
    exact ⟨S, v, Ext.refl _ _ _, hs, h3, h4⟩
theorem src_tup {W : W0} {a : Addr} {xs : List GV} : Src W xs (Itt W.K a) (GdT W a xs) where
  go := fun i S ρ H ⟨us, h1, h2⟩ hi => ⟨us, us[i]'(by rw [h2.length]; exact hi), h1, by simp⟩
  stop := fun i S ρ H ⟨us, h1, h2⟩ hi => ⟨us, h1, by rw [h2.length]; exact hi⟩
  yld := fun i S ρ G H x H' hs ⟨us, h1, h2⟩ hi ⟨e, y⟩ => by
    subst e
    obtain ⟨v, h3, h4⟩ := h2.getV (y us h1)
    exact ⟨S, v, Ext.refl _ _ _, hs, h3, h4⟩
def rngL (lo : Int) (k : Nat) : List GV := (List.range k).map fun (j : Nat) => .int (lo + (j : Int))
theorem src_rng {W : W0} {lo : Int} {k : Nat} : Src W (rngL lo k) (Itr lo k) (fun _ _ _ => True) where
  go := fun i S ρ H _ hi => show i < k by simpa [rngL] using hi
  stop := fun i S ρ H _ hi => show k ≤ i by simpa [rngL] using hi
  yld := fun i S ρ G H x H' hs _ hi ⟨e, y⟩ => by
    subst e y
    have hi' : i < k := by simpa [rngL] using hi
    exact ⟨S, .int (lo + i), Ext.refl _ _ _, hs, by simp [rngL, hi'], .int _⟩
theorem sib_seq {l : Expr} {ev : List Sl → Cells → Res GV} (k : Okc X n) (h : SB X n l ev) : SIB X n tg l fun g G => (ev g G).bind fun x G => Res.of (itmV x) G := by
  refine (pi_seq h).imp fun σ H Q q => RD.bind q fun B S ρ g G v u H1 R pu p => ?_
  cases v with
  | lst xs =>
    have hp := pu
    obtain ⟨a, us, rfl, t1, r1⟩ := pu.lst_inv R.hs.le
    refine ⟨a, rfl, .inl ⟨⟨us, .inl (.inl t1)⟩, ?_⟩⟩
    rw [← k.K]
    refine Post.ok p R.hs ⟨GdL n.W a xs, src_list, ⟨us, .inl (.inl t1), r1⟩, fun S1 ρ1 H2 e l => ?_⟩
    rcases hp.step e with hp | ⟨ys, a', us', e1, e2, h1, h2, h3⟩
    · cases hp with
      | lst h r => exact ⟨_, .inl (.inl (l _ _ h)), r⟩
    · cases e1; cases e2
      exact ⟨_, .inl (.inl h1), h2⟩
  | tup xs =>
    obtain ⟨a, us, rfl, s1, t1, r1⟩ := pu.tup_inv R.hs.le
    refine ⟨a, rfl, .inr ⟨⟨us, k.K ▸ t1⟩, ?_⟩⟩
    rw [← k.K]
    exact Post.ok p R.hs ⟨GdT n.W a xs, src_tup, ⟨us, t1, r1⟩, fun S1 ρ1 H2 e l => ⟨us, l.sqT (e.sle.tupS s1).sq, r1.mono e.sle e.pre⟩⟩
  | scr ns =>
    have q2 := pu.pr fun xs e => nomatch e
    cases q2 with
    | scr h t =>
      rename_i a
      refine ⟨a, rfl, .inl ⟨⟨_, k.K ▸ R.hs.le.sqL h⟩, ?_⟩⟩
      rw [← k.K]
      exact Post.ok p R.hs ⟨GdL n.W a (ns.map .int), src_list, ⟨_, R.hs.le.sqL h, PRs.ints ns⟩, fun S1 ρ1 H2 e l => ⟨_, l.sqL (e.sle.sqL h), PRs.ints ns⟩⟩
  | _ => exact p.elim
theorem sis_seq {l : Expr} {ev : List Sl → Cells → Res GV} (k : Okc X n) (h : SE X n l ev) : SIS X n tg l fun g G => (ev g G).bind fun x G => Res.of (itmV x) G := by
  refine (pi_seq h).imp fun σ H Q q => RD.bind q fun B S ρ g G v u H1 R pu p => ?_
  cases v with
  | lst xs =>
    cases pu with
    | lst h r1 =>
      rename_i a us
      refine ⟨a, rfl, .inl ⟨⟨us, .inl (.inl (R.hs.le _ _ h))⟩, ?_⟩⟩
      rw [← k.K]
      exact Post.ok p R.hs ⟨GdL n.W a xs, src_list, ⟨us, .inl (.inl (R.hs.le _ _ h)), r1⟩, fun S1 ρ1 H2 e e2 l => ⟨us, .inl (.inl (l _ _ (e _ _ h))), r1.mono e e2⟩⟩
  | tup xs =>
    cases pu with
    | tup s1 r1 =>
      rename_i a us
      refine ⟨a, rfl, .inr ⟨⟨us, k.K ▸ R.hs.le.sqT s1.sq⟩, ?_⟩⟩
      rw [← k.K]
      exact Post.ok p R.hs ⟨GdT n.W a xs, src_tup, ⟨us, R.hs.le.sqT s1.sq, r1⟩, fun S1 ρ1 H2 e e2 l => ⟨us, l.sqT (e.tupS s1).sq, r1.mono e e2⟩⟩
  | scr ns =>
    cases pu with
    | scr h t =>
      rename_i a
      refine ⟨a, rfl, .inl ⟨⟨_, k.K ▸ R.hs.le.sqL h⟩, ?_⟩⟩
      rw [← k.K]
      exact Post.ok p R.hs ⟨GdL n.W a (ns.map .int), src_list, ⟨_, R.hs.le.sqL h, PRs.ints ns⟩, fun S1 ρ1 H2 e e2 l => ⟨_, l.sqL (e.sqL h), PRs.ints ns⟩⟩
  | _ => exact p.elim
theorem rngOk_iff {j : Int} (h : rngOk j = true) : -(2 ^ 62) ≤ j ∧ j < 2 ^ 62 := by
  have h' : j.natAbs.log2 < 61 := of_decide_eq_true h
  have hb : j.natAbs < 2 ^ 61 := by
    by_cases h0 : j.natAbs = 0
    · rw [h0]; decide
    · exact (Nat.log2_lt h0).mp h'
  omega
theorem rng1_eq {v : List GV} {xs : List GV} (h : rngV v = some xs) (hl : v.length = 1) : ∃ j : Int, v = [.int j] ∧ -(2 ^ 62) ≤ j ∧ j < 2 ^ 62 ∧ xs = rngL 0 j.toNat := by
  match v, hl, h with
  | [.int j], _, h =>
    have h' : (if rngOk j then some ((List.range j.toNat).map fun (k : Nat) => GV.int (k : Int)) else none) = some xs := h
    split at h'
    · rename_i c
      cases h'
      exact ⟨j, rfl, (rngOk_iff c).1, (rngOk_iff c).2, by simp [rngL]⟩
    · cases h'
theorem rng2_eq {v : List GV} {xs : List GV} (h : rngV v = some xs) (hl : v.length = 2) : ∃ i j : Int, v = [.int i, .int j] ∧ (-(2 ^ 62) ≤ i ∧ i < 2 ^ 62 ∧ -(2 ^ 62) ≤ j ∧ j < 2 ^ 62) ∧ xs = rngL i (j - i).toNat := by
  match v, hl, h with
  | [.int i, .int j], _, h =>
    have h' : (if rngOk i && rngOk j then some ((List.range (j - i).toNat).map fun (k : Nat) => GV.int (i + (k : Int))) else none) = some xs := h
    split at h'
    · rename_i c
      rw [Bool.and_eq_true] at c
      cases h'
      exact ⟨i, j, rfl, ⟨(rngOk_iff c.1).1, (rngOk_iff c.1).2, (rngOk_iff c.2).1, (rngOk_iff c.2).2⟩, rfl⟩
    · cases h'
theorem sis_rng1 {a : Expr} {p pos : Pos} {ea : List Sl → Cells → Res (List GV)} (hg : Gl X "range") (hm : X.mg "range" = none) (ha : SA X n [a] ea) (hn : noStar a = true) (hl : ∀ g G v G', ea g G = .ok v G' → v.length = 1) : SIS X n tg (.Call (.Name "range" p) [a] [] pos) fun g G => (ea g G).bind fun xs G => Res.of (rngV xs) G := by
  refine (pi_range1 hg hm ha (star_cons hn)).imp fun σ H Q ⟨B, S, ρ, g, G, R, p⟩ => ?_
  refine ⟨B, S, ρ, g, G, R, Post.bind p fun v G1 S1 ρ1 us H1 ev e1 hs1 pv p1 => ?_⟩
  cases er : rngV v with
  | none => rw [er] at p1; exact p1.elim
  | some xs =>
    rw [er] at p1
    obtain ⟨j, rfl, h1, h2, rfl⟩ := rng1_eq er (hl _ _ _ _ ev)
    cases pv with
    | cons r rs =>
      cases r; cases rs
      exact ⟨j, rfl, h1, h2, Post.ok p1 hs1 ⟨_, src_rng, trivial, fun _ _ _ _ _ _ => trivial⟩⟩
theorem sis_rng2 {a b : Expr} {p pos : Pos} {ea : List Sl → Cells → Res (List GV)} (hg : Gl X "range") (hm : X.mg "range" = none) (ha : SA X n [a, b] ea) (hn : noStar a = true) (hn2 : noStar b = true) (hl : ∀ g G v G', ea g G = .ok v G' → v.length = 2) : SIS X n tg (.Call (.Name "range" p) [a, b] [] pos) fun g G => (ea g G).bind fun xs G => Res.of (rngV xs) G := by
  refine (pi_range2 hg hm ha (by rw [star_cons hn, star_cons hn2]; rfl) (by rw [star_cons hn2]; rfl)).imp fun σ H Q ⟨B, S, ρ, g, G, R, p⟩ => ?_
  refine ⟨B, S, ρ, g, G, R, Post.bind p fun v G1 S1 ρ1 us H1 ev e1 hs1 pv p1 => ?_⟩
  cases er : rngV v with
  | none => rw [er] at p1; exact p1.elim
  | some xs =>
    rw [er] at p1
    obtain ⟨i, j, rfl, h1, rfl⟩ := rng2_eq er (hl _ _ _ _ ev)
    cases pv with
    | cons r rs =>
      cases r
      cases rs with
      | cons r rs =>
        cases r; cases rs
        exact ⟨i, j, rfl, h1, Post.ok p1 hs1 ⟨_, src_rng, trivial, fun _ _ _ _ _ _ => trivial⟩⟩
theorem SIS.b {it : Expr} {ev : List Sl → Cells → Res (List GV)} (h : SIS X n tg it ev) : SIB X n tg it ev := PI.imp h fun σ H Q q => q.wk fun _ _ _ _ _ r => PpIS.b r
end
end Gm
end

section
namespace Gm
open PySem PySem.Spec PyProof.Rows L2

/-! ### a list that nobody else holds -/
theorem Ext.held {S S' H H' : Hp} {ρ ρ' : List Addr} {D : Addr} {o : HO} (e : Ext S ρ H S' ρ' H') (h : H D = some o) (hS : S D = none) (hr : D ∉ ρ) : H' D = some o ∧ S' D = none ∧ D ∉ ρ' := by
  refine ⟨e.keep D o h hr, ?_, fun hm => ?_⟩
  · cases z : S' D with
    | none => rfl
    | some q =>
      rcases e.snew D q z with y | y
      · rw [hS] at y; cases y
      · rw [h] at y; cases y
  · rcases e.rnew D hm with y | y
    · exact hr y
    · rw [h] at y; cases y
theorem Ext.fresh {S S' H H' : Hp} {ρ ρ' : List Addr} {D : Addr} (e : Ext S ρ H S' ρ' H') (h : H' D = none) : H D = none := by
  cases z : H D with
  | none => rfl
  | some o => exact absurd h (e.dom D (by rw [z]; simp))
theorem Ext.put {S S' H1 H : Hp} {ρ ρ' : List Addr} {D : Addr} {o : HO} (e : Ext S ρ H1 S' ρ' H) (h : H1 D = none) : Ext S ρ H1 S' ρ' (upd H D o) where
  sle := e.sle
  snew := e.snew
  pre := e.pre
  rnew := e.rnew
  keep := fun a x q hn => by rw [upd_ne (ne_of_none q h)]; exact e.keep a x q hn
  dom := fun a q => ne_none_upd (e.dom a q)
theorem Hs.put {W : W0} {S H : Hp} {ρ : List Addr} {G : Cells} {D : Addr} {o : HO} (h : Hs W S ρ G H) (hS : S D = none) (hr : D ∉ ρ) : Hs W S ρ G (upd H D o) where
  le := fun a x q => by
    rw [upd_ne (ne_of_none q hS)]; exact h.le a x q
  len := h.len
  cel := fun k a xs h1 h2 => by
    obtain ⟨us, e, r⟩ := h.cel k a xs h1 h2
    have q : a ≠ D := fun z => hr (by rw [← z]; exact List.mem_of_getElem? h1)
    exact ⟨us, by rw [upd_ne q]; exact e, r⟩
  cS := h.cS
  nod := h.nod
  cur := h.cur
/-- a free list becomes a value -/
theorem ext_prom {S S' H H' : Hp} {ρ ρ' : List Addr} {a : Addr} {o : HO} (e : Ext S ρ H S' ρ' H') (h : H a = none) (hS : S' a = none) : Ext S ρ H (upd S' a o) ρ' H' where
  sle := fun b x q => by
    have := e.sle b x q
    rw [upd_ne (ne_of_none this hS)]; exact this
  snew := fun b x q => by
    by_cases z : b = a
    · exact .inr (by rw [z]; exact h)
    · rw [upd_ne z] at q; exact e.snew b x q
  pre := e.pre
  rnew := e.rnew
  keep := e.keep
  dom := e.dom
theorem sle_upd {S : Hp} {a : Addr} {o : HO} (hS : S a = none) : HLe S (upd S a o) := fun b x q => by rw [upd_ne (ne_of_none q hS)]; exact q
theorem Hs.prom {W : W0} {S H : Hp} {ρ : List Addr} {G : Cells} {a : Addr} {o : HO} (h : Hs W S ρ G H) (hS : S a = none) (hr : a ∉ ρ) (hH : H a = some o) : Hs W (upd S a o) ρ G H where
  le := fun b x q => by
    by_cases z : b = a
    · rw [z, upd_same] at q; rw [z, hH]; exact q
    · rw [upd_ne z] at q; exact h.le b x q
  len := h.len
  cel := fun k b xs h1 h2 => by
    obtain ⟨us, e, r⟩ := h.cel k b xs h1 h2
    exact ⟨us, e, r.mono (sle_upd hS) (List.prefix_refl _)⟩
  cS := fun b hm => by
    have q : b ≠ a := fun z => hr (by rw [← z]; exact hm)
    rw [upd_ne q]; exact h.cS b hm
  nod := h.nod
  cur := fun dd prs e => by
    obtain ⟨h1, h2⟩ := h.cur dd prs e
    refine ⟨sle_upd hS _ _ h1, fun f v q => ?_⟩
    obtain ⟨u, h3, h4⟩ := h2 f v q
    exact ⟨u, h3, h4.mono (sle_upd hS) (List.prefix_refl _)⟩
/-- a new list, nobody's -/
def PpF (W : W0) (H0 : Hp) : Hp → List Addr → Hp → GV → V → Prop := fun S ρ H v u => ∃ xs a us, v = .lst xs ∧ u = .ref a ∧ H a = some (.lst us) ∧ PRs W S ρ xs us ∧ S a = none ∧ a ∉ ρ ∧ H0 a = none
def rF (n : Cn) (ev : List Sl → Cells → Res GV) : TE := fun σ H Q => n.rd (PpF n.W H) ev σ H Q
abbrev SF (X : Cx) (n : Cn) (e : Expr) (ev : List Sl → Cells → Res GV) : Prop := PE X e (rF n ev)
theorem rF_e {n : Cn} {ev : List Sl → Cells → Res GV} {σ : L2.St} {H : Hp} {Q : VK} (h : n.rd (PpV n.W) ev σ H Q) : rF n ev σ H Q := by
  obtain ⟨B, S, ρ, g, G, R, p⟩ := h
  refine ⟨B, S, ρ, g, G, R, ?_⟩
  cases e : ev g G with
  | ok v G' =>
    rw [e] at p
    rintro S' ρ' u H' e1 hs ⟨xs, a, us, rfl, rfl, h1, h2, h3, h4, h5⟩
    exact p _ _ _ _ (ext_prom e1 h5 h3) (hs.prom h3 h4 h1) (.lst upd_same (h2.mono (sle_upd h3) (List.prefix_refl _)))
  | ex C fs G' => rw [e] at p; exact p
  | no => rw [e] at p; exact p
theorem SF.e {X : Cx} {n : Cn} {e : Expr} {ev : List Sl → Cells → Res GV} (h : SF X n e ev) : SE X n e ev := PE.imp h fun σ H Q q => rF_e q
/-- one part, then the rest: with what was free -/
theorem RD.bindF {W : W0} {xc : Str → Option (List Str)} {Wx : WX} {α β γ δ : Type} {P : Hp → List Addr → Hp → α → β → Prop} {P' : Hp → List Addr → Hp → γ → δ → Prop} {ev : List Sl → Cells → Res α} {f : List Sl → α → Cells → Res γ} {σ : L2.St} {H : Hp} {Q : δ → Hp → Prop} {Q1 : β → Hp → Prop} (h : RD W xc Wx P' (fun g G => (ev g G).bind (f g)) σ H Q)
    (k : ∀ B S ρ g G v u H1, (∀ a, H1 a = none → H a = none) → Rel W B S ρ g G σ H1 → P S ρ H1 v u → Post W xc Wx σ S ρ H1 P' (f g v G) Q → Q1 u H1) : RD W xc Wx P ev σ H Q1 := by
  obtain ⟨B, S, ρ, g, G, R, p⟩ := h
  exact ⟨B, S, ρ, g, G, R, Post.bind p fun v G' S1 ρ1 u H1 er e hs q p' => k B S1 ρ1 g G' v u H1 (fun a h => e.fresh h) (R.step e hs) q p'⟩
theorem Post.lstF {W : W0} {xc : Str → Option (List Str)} {Wx : WX} {σ : L2.St} {S H H0 : Hp} {ρ : List Addr} {G : Cells} {Q : VK} {xs : List GV} {us : List V} {p : Addr} (q : Post W xc Wx σ S ρ H (PpF W H0) (Res.ok (.lst xs) G) Q) (h : Hs W S ρ G H) (r : PRs W S ρ xs us) (hp : H p = none) (h0 : H0 p = none) : Q (.ref p) (L2.upd H p (.lst us)) :=
  q _ _ _ _ (ext_laid hp) (h.laid hp) ⟨xs, p, us, rfl, rfl, upd_same, r, h.sfree hp, h.rfree hp, h0⟩

/-! ### comprehensions -/
def Cn.calm (n : Cn) : Cn := { n with Wx := fun _ _ _ _ => False }
abbrev STs (X : Cx) (n : Cn) (ifs : List Expr) (ev : List Sl → Cells → Res Bool) : Prop := PTs X ifs (n.rd PpK ev)
theorem _root_.L2.PTs.imp {X : Cx} {e : List Expr} {t t' : TT} (h : PTs X e t) (i : ∀ σ H Q, t' σ H Q → t σ H Q) : PTs X e t' := ⟨fun pins s σ H Q I q => h.run pins s σ H Q I (i σ H Q q)⟩
theorem sts_nil {X : Cx} {n : Cn} : STs X n [] fun _ G => .ok true G := pts_nil.imp fun σ H Q ⟨B, S, ρ, g, G, R, p⟩ => Post.ok p R.hs rfl
theorem sts_one {X : Cx} {n : Cn} {c : Expr} {ev : List Sl → Cells → Res Bool} (h : ST X n c ev) : STs X n [c] ev := pts_one h
def lcV (evi : List Sl → Cells → Res (List GV)) (T : Tg) (own : List Nat) (evc eve : List Sl → Cells → Res GV) : List Sl → Cells → Res GV := fun g G => (evi g G).bind fun xs G =>
  if szOk xs.length then (loopC (turnC T own evc eve g) xs [] G).bind fun ys G => .ok (.lst ys) G else .no
theorem lc_law {n : Cn} {evi : List Sl → Cells → Res (List GV)} {T : Tg} {own : List Nat} {evc eve : List Sl → Cells → Res GV} {σ : L2.St} {H : Hp} {Q : VK} (hsub : ∀ i ∈ T.slots, i ∈ own)
    (h : rF n (lcV evi T own evc eve) σ H Q) : tLc (n.rd (PpIB n.W) evi) (rTg n.calm T) (n.calm.rd PpK (tst evc)) (n.calm.rd (PpV n.W) eve) own σ H Q := by
  refine RD.bindF h fun B S ρ g G xs J H1 hd R pJ p => ?_
  intro D hD
  obtain ⟨Gd, src, gd, stab⟩ := pJ
  by_cases c : szOk xs.length = true
  · replace p : Post n.W n.xc n.Wx σ S ρ H1 (PpF n.W H) ((loopC (turnC T own evc eve g) xs [] G).bind fun ys G => .ok (.lst ys) G) Q := by
      rw [if_pos c] at p; exact p
    refine ⟨fun i m H' => m = xs.length - i ∧ i ≤ xs.length ∧ ∃ S' ρ' G' acc us, Ext S ρ H1 S' ρ' H' ∧ Hs n.W S' ρ' G' H' ∧ H' D = some (.lst us) ∧ PRs n.W S' ρ' acc us ∧ S' D = none ∧ D ∉ ρ' ∧ acc.length ≤ i ∧
      Post n.W n.xc n.Wx σ S ρ H1 (PpF n.W H) ((loopC (turnC T own evc eve g) (xs.drop i) acc G').bind fun ys G => .ok (.lst ys) G) Q, ⟨xs.length, by simp, Nat.zero_le _, S, ρ, G, [], [], ext_laid hD, R.hs.laid hD, upd_same, .nil, R.hs.sfree hD, R.hs.rfree hD, Nat.le_refl _, p⟩, ?_⟩
    rintro i m H' ⟨rfl, hi, S', ρ', G', acc, us, e1, hs1, hDl, ra, sD, rD, la, p⟩
    by_cases hlt : i < xs.length
    · refine .inr ⟨src.go i S' ρ' H' (stab _ _ _ e1 hs1.le) hlt, fun H'' => ∃ S' ρ' G' acc us, Ext S ρ H1 S' ρ' H'' ∧ Hs n.W S' ρ' G' H'' ∧ H'' D = some (.lst us) ∧ PRs n.W S' ρ' acc us ∧ S' D = none ∧ D ∉ ρ' ∧ acc.length ≤ i + 1 ∧
        Post n.W n.xc n.Wx σ S ρ H1 (PpF n.W H) ((loopC (turnC T own evc eve g) (xs.drop (i + 1)) acc G').bind fun ys G => .ok (.lst ys) G) Q, fun H'' q => ⟨xs.length - (i + 1), by omega, rfl, hlt, q⟩, fun x H2 y => ?_⟩
      obtain ⟨S2, v, e2, hs2, hv, r2⟩ := src.yld i S' ρ' G' H' x H2 hs1 (stab _ _ _ e1 hs1.le) hlt y
      have hdrop : xs.drop i = v :: xs.drop (i + 1) := by
        rw [List.drop_eq_getElem_cons hlt]
        rw [List.getElem?_eq_getElem hlt] at hv
        cases hv; rfl
      rw [hdrop] at p
      have p1 : Post n.W n.xc n.Wx σ S ρ H1 (PpF n.W H) (((turnC T own evc eve g v acc G').bind fun acc' G' => loopC (turnC T own evc eve g) (xs.drop (i + 1)) acc' G').bind fun ys G => .ok (.lst ys) G) Q := p
      unfold turnC at p1
      cases eg : setTg T v (wipeG g own) with
      | none => rw [eg] at p1; exact p1.elim
      | some g2 =>
        rw [eg] at p1
        replace p1 : Post n.W n.xc n.Wx σ S ρ H1 (PpF n.W H) ((((noX (tst evc g2 G')).bind fun k G => if k = true then (noX (eve g2 G)).bind fun y G => Res.ok (acc ++ [y]) G else Res.ok acc G).bind fun acc' G' => loopC (turnC T own evc eve g) (xs.drop (i + 1)) acc' G').bind fun ys G => .ok (.lst ys) G) Q := p1
        have R3 : Rel n.W B S2 ρ' g G' σ H2 := R.step (e1.trans e2) hs2
        refine ⟨B, S2, ρ', wipeG g own, G', v, g2, R3.wipe own, r2, eg, fun σ2 R4 eq => ⟨wipe_eq (eq.mono hsub), ?_⟩⟩
        refine ⟨B, S2, ρ', g2, G', R4, ?_⟩
        cases et : tst evc g2 G' with
        | no => rw [et] at p1; exact p1.elim
        | ex C fs G3 => rw [et] at p1; exact p1.elim
        | ok kk G3 =>
          rw [et] at p1
          intro S3 ρ3 b H3 e3 hs3 pk
          cases (show b = kk from pk)
          obtain ⟨t1, t2, t3⟩ := (e2.trans e3).held hDl sD rD
          cases kk with
          | false =>
            rw [if_neg (by simp)]
            exact ⟨S3, ρ3, G3, acc, us, (e1.trans e2).trans e3, hs3, t1, ra.mono (e2.trans e3).sle (e2.trans e3).pre, t2, t3, Nat.le_succ_of_le la, p1⟩
          | true =>
            rw [if_pos rfl]
            refine ⟨B, S3, ρ3, g2, G3, R4.step e3 hs3, ?_⟩
            replace p1 : Post n.W n.xc n.Wx σ S ρ H1 (PpF n.W H) ((((noX (eve g2 G3)).bind fun y G => Res.ok (acc ++ [y]) G).bind fun acc' G' => loopC (turnC T own evc eve g) (xs.drop (i + 1)) acc' G').bind fun ys G => .ok (.lst ys) G) Q := p1
            cases ee : eve g2 G3 with
            | no => rw [ee] at p1; exact p1.elim
            | ex C fs G3 => rw [ee] at p1; exact p1.elim
            | ok w G4 =>
              rw [ee] at p1
              intro S4 ρ4 u H4 e4 hs4 pu
              obtain ⟨t4, t5, t6⟩ := e4.held t1 t2 t3
              have eA := ((e1.trans e2).trans e3).trans e4
              have eB := (e2.trans e3).trans e4
              refine ⟨us, t4, ?_, S4, ρ4, G4, acc ++ [w], us ++ [u], eA.put hD, hs4.put t5 t6, upd_same, (ra.mono eB.sle eB.pre).append (.cons pu .nil), t5, t6, by simpa using la, p1⟩
              rw [ra.length]
              have := szOk_iff c
              omega
    · have e : i = xs.length := by omega
      subst e
      refine .inl ⟨src.stop _ S' ρ' H' (stab _ _ _ e1 hs1.le) (Nat.le_refl _), ?_⟩
      rw [List.drop_length] at p
      exact p S' ρ' _ H' e1 hs1 ⟨acc, D, us, rfl, rfl, hDl, ra, sD, rD, hd D hD⟩
  · replace p : Post n.W n.xc n.Wx σ S ρ H1 (PpF n.W H) Res.no Q := by
      rw [if_neg c] at p; exact p
    exact p.elim
section
variable {X : Cx} {n : Cn}
/-- the parts of a comprehension stand -/
structure LcOk (X : Cx) (n : Cn) (elt tg iter : Expr) (ifs : List Expr) (scope : Scope) (own : List (Str × Nat)) (evi : List Sl → Cells → Res (List GV)) (T : Tg) (evc eve : List Sl → Cells → Res GV) : Prop where
  hc : X.calm = true
  hN : X.N.Nodup
  hi : SIB X n tg iter evi
  ok : BlkOk X.N X.env.scope scope own
  hg : ∀ (s : Shared) (H : Hp) (C : Addr) (cl : List (Str × Addr)) (fp : List Addr), SG (X.blk s H scope (compEnvC scope cl C X.env) fp) n.calm tg T
  ht : ∀ (s : Shared) (H : Hp) (C : Addr) (cl : List (Str × Addr)) (fp : List Addr), STs (X.blk s H scope (compEnvC scope cl C X.env) fp) n.calm ifs (tst evc)
  he : ∀ (s : Shared) (H : Hp) (C : Addr) (cl : List (Str × Addr)) (fp : List Addr), SE (X.blk s H scope (compEnvC scope cl C X.env) fp) n.calm elt eve
  hs : ∀ x, foldedSetIterable iter X.env x = pure x
  sub : ∀ i ∈ T.slots, i ∈ own.map (·.2)
variable {elt tg iter : Expr} {ifs : List Expr} {scope : Scope} {own : List (Str × Nat)} {evi : List Sl → Cells → Res (List GV)} {T : Tg} {evc eve : List Sl → Cells → Res GV}
theorem LcOk.sf {pos : Pos} (k : LcOk X n elt tg iter ifs scope own evi T evc eve) : SF X n (.ListComp elt [⟨tg, iter, ifs, 0⟩] scope pos) (lcV evi T (own.map (·.2)) evc eve) :=
  (pe_lc k.hc k.hN k.hi k.ok k.hg k.ht k.he k.hs).imp fun σ H Q q => lc_law k.sub q

/-! ### other new lists -/
theorem sf_lst {es : List Expr} {pos : Pos} {ea : List Sl → Cells → Res (List GV)} (ha : SA X n es ea) : SF X n (.List es pos) fun g G => (ea g G).bind fun xs G => if szOk xs.length then .ok (.lst xs) G else .no := by
  refine (pe_lst ha).imp fun σ H Q h => RD.bindF h fun B S ρ g G v u H1 hd R pu p => ?_
  by_cases c : szOk v.length = true
  · replace p : Post n.W n.xc n.Wx σ S ρ H1 (PpF n.W H) (Res.ok (.lst v) G) Q := by rw [if_pos c] at p; exact p
    exact ⟨by rw [pu.length]; exact szOk_iff c, fun q hq => Post.lstF p R.hs pu hq (hd q hq)⟩
  · replace p : Post n.W n.xc n.Wx σ S ρ H1 (PpF n.W H) Res.no Q := by rw [if_neg c] at p; exact p
    exact p.elim
end
end Gm
end

section
namespace Gm
open PySem PySem.Spec PyProof.Rows L2

/-! ### statements: the judgement -/
def PoS (n : Cn) (B : Bs) (S : Hp) (ρ : List Addr) (r : Rs) (D : Ends) : Prop := match r with
  | .nx g G => ∀ S' ρ' σ' H', HLe S S' → ρ <+: ρ' → Rel n.W B S' ρ' g G σ' H' → D.nx σ' H'
  | .rt v G => ∀ S' ρ' u H', Ext B.S0 B.r0 B.E S' ρ' H' → Hs n.W S' ρ' G H' → PR n.W S' ρ' v u → D.rt u H'
  | .bk g G => ∀ S' ρ' σ' H', HLe S S' → ρ <+: ρ' → Rel n.W B S' ρ' g G σ' H' → D.bk σ' H'
  | .ct g G => ∀ S' ρ' σ' H', HLe S S' → ρ <+: ρ' → Rel n.W B S' ρ' g G σ' H' → D.ct σ' H'
  | .ex C fs g G => ∀ S' ρ' cls d σ' H', HLe S S' → ρ <+: ρ' → Rel n.W B S' ρ' g G σ' H' → XR n.W n.xc S' ρ' H' C fs cls d → n.Wx cls d σ' H'
  | .no => False
def rS (n : Cn) (ex : List Sl → Cells → Rs) : TS := fun D σ H => ∃ B S ρ g G, Rel n.W B S ρ g G σ H ∧ PoS n B S ρ (ex g G) D
abbrev SS (X : Cx) (n : Cn) (s : Stmt) (ex : List Sl → Cells → Rs) : Prop := PS X s (rS n ex)
abbrev SL (X : Cx) (n : Cn) (s : List Stmt) (ex : List Sl → Cells → Rs) : Prop := PSs X s (rS n ex)
theorem _root_.L2.PS.imp {X : Cx} {e : Stmt} {t t' : TS} (h : PS X e t) (i : ∀ D σ H, t' D σ H → t D σ H) : PS X e t' := ⟨fun pins s σ H D I q => h.run pins s σ H D I (i D σ H q)⟩
theorem _root_.L2.PSs.imp {X : Cx} {e : List Stmt} {t t' : TS} (h : PSs X e t) (i : ∀ D σ H, t' D σ H → t D σ H) : PSs X e t' := ⟨fun pins s σ H D I q => h.run pins s σ H D I (i D σ H q)⟩
theorem pre_trans {a b c : List Addr} (h : a <+: b) (k : b <+: c) : a <+: c := h.trans k
section
variable {n : Cn} {B : Bs} {S S1 H H1 : Hp} {ρ ρ1 : List Addr} {D : Ends} {g : List Sl} {G : Cells} {σ : L2.St}
theorem PoS.mono {r : Rs} (p : PoS n B S ρ r D) (l : HLe S S1) (q : ρ <+: ρ1) : PoS n B S1 ρ1 r D := by
  cases r with
  | nx g G => exact fun S' ρ' σ' H' l' q' => p S' ρ' σ' H' (l.trans l') (q.trans q')
  | rt v G => exact p
  | bk g G => exact fun S' ρ' σ' H' l' q' => p S' ρ' σ' H' (l.trans l') (q.trans q')
  | ct g G => exact fun S' ρ' σ' H' l' q' => p S' ρ' σ' H' (l.trans l') (q.trans q')
  | ex C fs g G => exact fun S' ρ' c d σ' H' l' q' => p S' ρ' c d σ' H' (l.trans l') (q.trans q')
  | no => exact p
theorem PoS.nx (p : PoS n B S ρ (.nx g G) D) (R : Rel n.W B S ρ g G σ H) : D.nx σ H := p S ρ σ H (HLe.refl _) (List.prefix_refl _) R
/-- an expression ahead of the rest -/
theorem rs_thn {α β : Type} {P : Hp → List Addr → Hp → α → β → Prop} {ev : List Sl → Cells → Res α} {f : List Sl → α → Cells → Rs} {Q1 : β → Hp → Prop} (h : rS n (fun g G => (ev g G).thn g (f g)) D σ H)
    (k : ∀ B S0 ρ0 g G0 S ρ G v u H1, Rel n.W B S0 ρ0 g G0 σ H → Ext S0 ρ0 H S ρ H1 → Rel n.W B S ρ g G σ H1 → P S ρ H1 v u → PoS n B S ρ (f g v G) D → Q1 u H1) : n.rd P ev σ H Q1 := by
  obtain ⟨B, S, ρ, g, G, R, p⟩ := h
  refine ⟨B, S, ρ, g, G, R, ?_⟩
  replace p : PoS n B S ρ ((ev g G).thn g (f g)) D := p
  cases e : ev g G with
  | ok v G' =>
    rw [e] at p
    exact fun S' ρ' u H' e1 hs pv => k B S ρ g G S' ρ' G' v u H' R e1 (R.step e1 hs) pv (PoS.mono (show PoS n B S ρ (f g v G') D from p) e1.sle e1.pre)
  | ex C fs G' =>
    rw [e] at p
    exact fun S' ρ' cls d H' e1 hs x => p S' ρ' cls d σ H' e1.sle e1.pre (R.step e1 hs) x
  | no => rw [e] at p; exact p
end

/-! ### blocks -/
section
variable {X : Cx} {n : Cn} {pos : Pos}
theorem sl_nil : SL X n [] fun g G => .nx g G := pss_nil.imp fun D σ H ⟨B, S, ρ, g, G, R, p⟩ => PoS.nx p R
theorem sl_cons {s : Stmt} {ss : List Stmt} {ea eb : List Sl → Cells → Rs} (h : SS X n s ea) (h2 : SL X n ss eb) : SL X n (s :: ss) fun g G => (ea g G).seq eb := by
  refine (pss_cons h h2).imp fun D σ H ⟨B, S, ρ, g, G, R, p⟩ => ⟨B, S, ρ, g, G, R, ?_⟩
  replace p : PoS n B S ρ ((ea g G).seq eb) D := p
  cases e : ea g G with
  | nx g' G' =>
    rw [e] at p
    exact fun S' ρ' σ' H' l q R' => ⟨B, S', ρ', g', G', R', PoS.mono (show PoS n B S ρ (eb g' G') D from p) l q⟩
  | rt v G => rw [e] at p; exact p
  | bk g G => rw [e] at p; exact p
  | ct g G => rw [e] at p; exact p
  | ex C fs g G => rw [e] at p; exact p
  | no => rw [e] at p; exact p
theorem ss_pass : SS X n (.Pass pos) fun g G => .nx g G := ps_pass.imp fun D σ H ⟨B, S, ρ, g, G, R, p⟩ => PoS.nx p R
theorem ss_doc {x j pos'} : SS X n (.Expr (.Constant (.str x) j pos) pos') fun g G => .nx g G := ps_doc.imp fun D σ H ⟨B, S, ρ, g, G, R, p⟩ => PoS.nx p R
theorem ss_brk : SS X n (.Break pos) fun g G => .bk g G := ps_break.imp fun D σ H ⟨B, S, ρ, g, G, R, p⟩ => p S ρ σ H (HLe.refl _) (List.prefix_refl _) R
theorem ss_cnt : SS X n (.Continue pos) fun g G => .ct g G := ps_continue.imp fun D σ H ⟨B, S, ρ, g, G, R, p⟩ => p S ρ σ H (HLe.refl _) (List.prefix_refl _) R
theorem ss_exp {e : Expr} {ev : List Sl → Cells → Res GV} (h : SE X n e ev) (hs : swapsWith e none pos.line X.env = pure false) : SS X n (.Expr e pos) fun g G => (ev g G).thn g fun _ G => .nx g G :=
  (ps_expr h hs).imp fun D σ H q => rs_thn (f := fun g _ G => .nx g G) q fun B S0 ρ0 g G0 S ρ G v u H1 R0 e1 R pv p => PoS.nx p R
theorem ss_ret {e : Expr} {ev : List Sl → Cells → Res GV} (h : SE X n e ev) : SS X n (.Return (some e) pos) fun g G => (ev g G).thn g fun v G => .rt v G :=
  (ps_ret h).imp fun D σ H q => rs_thn (f := fun _ v G => .rt v G) q fun B S0 ρ0 g G0 S ρ G v u H1 R0 e1 R pv p => p S ρ u H1 R.ext R.hs pv
theorem ss_retN : SS X n (.Return none pos) fun _ G => .rt .non G :=
  ps_retN.imp fun D σ H ⟨B, S, ρ, g, G, R, p⟩ => p S ρ _ H R.ext R.hs .non
theorem ss_ite {c : Expr} {a b : List Stmt} {ec : List Sl → Cells → Res Bool} {ea eb : List Sl → Cells → Rs} (hc : ST X n c ec) (ha : SL X n a ea) (hb : SL X n b eb) : SS X n (.If c a b pos) fun g G => (ec g G).thn g fun k G => if k = true then ea g G else eb g G := by
  refine (ps_if hc ha hb).imp fun D σ H q => rs_thn (f := fun g k G => if k = true then ea g G else eb g G) q fun B S0 ρ0 g G0 S ρ G v u H1 R0 e1 R pv p => ?_
  cases (show u = v from pv)
  cases v with
  | true => exact ⟨B, S, ρ, g, G, R, p⟩
  | false => exact ⟨B, S, ρ, g, G, R, p⟩

/-! ### stores -/
theorem tAsg_v {T : Tg} {te : TE} {ev : List Sl → Cells → Res GV} {D : Ends} {σ : L2.St} {H : Hp} (h : rS n (fun g G => (ev g G).thn g fun v G => match setTg T v g with | some g2 => .nx g2 G | none => .no) D σ H) : tAsg (n.rd (PpV n.W) ev) (rTg n T) D σ H := by
  refine rs_thn (f := fun g v G => match setTg T v g with | some g2 => .nx g2 G | none => .no) h fun B S0 ρ0 g G0 S ρ G v u H1 R0 e1 R pv p => ?_
  cases eg : setTg T v g with
  | none => simp only [eg] at p; exact p.elim
  | some g2 =>
    simp only [eg] at p
    exact ⟨B, S, ρ, g, G, v, g2, R, pv, eg, fun σ2 R2 _ => PoS.nx p R2⟩
theorem ss_set {i : Nat} {x : Str} {e : Expr} {ev : List Sl → Cells → Res GV} {pos' : Pos} (hN : X.N.Nodup) (hi : X.N[i]? = some x) (hx : Loc X.env.scope x) (hf : X.fn x = true ∨ X.env.scope.names.lookup x = some .local) (he : SE X n e ev) (hs : swapsWith e (some (.Name x pos')) pos.line X.env = pure false) :
    SS X n (.Assign [.Name x pos'] e pos) fun g G => (ev g G).thn g fun v G => .nx (g.set i (.val v)) G :=
  (ps_set hN hi hx he hs hf).imp fun D σ H q => rs_thn (f := fun g v G => .nx (g.set i (.val v)) G) q fun B S0 ρ0 g G0 S ρ G v u H1 R0 e1 R pv p => PoS.nx p (R.setv pv)
theorem Rel.seto {W : W0} {B : Bs} {S0 S H0 H : Hp} {ρ0 ρ : List Addr} {g : List Sl} {G0 G : Cells} {σ : L2.St} {i : Nat} {xs : List GV} {a : Addr} {us : List V} (R0 : Rel W B S0 ρ0 g G0 σ H0) (R : Rel W B S ρ g G σ H) (h1 : H a = some (.lst us)) (h2 : PRs W S ρ xs us) (h3 : S a = none) (h4 : a ∉ ρ) (h5 : H0 a = none) :
    Rel W B S ρ (g.set i (.own xs)) G (σ.set i (some (.ref a))) H where
  hs := R.hs
  ext := R.ext
  len := by rw [List.length_set, List.length_set]; exact R.len
  val := fun j w h => by
    by_cases e : i = j
    · subst e
      by_cases hl : i < g.length
      · rw [List.getElem?_set_self hl] at h; cases h
      · rw [List.getElem?_eq_none (by simpa using hl)] at h; cases h
    · rw [List.getElem?_set_ne e] at h
      rw [List.getElem?_set_ne e]
      exact R.val j w h
  own := fun j ys h => by
    by_cases e : i = j
    · subst e
      by_cases hl : i < g.length
      · rw [List.getElem?_set_self hl] at h
        cases h
        exact ⟨a, us, by rw [List.getElem?_set_self (by rw [← R.len]; exact hl)], h1, h2, h3, h4, R0.ext.fresh h5⟩
      · rw [List.getElem?_eq_none (by simpa using hl)] at h; cases h
    · rw [List.getElem?_set_ne e] at h
      rw [List.getElem?_set_ne e]
      exact R.own j ys h
  dst := fun j k xs' ys b q1 q2 q3 q4 => by
    have other : ∀ {m : Nat} {zs : List GV}, i ≠ m → (g.set i (.own xs))[m]? = some (.own zs) → (σ.set i (some (.ref a)))[m]? = some (some (.ref b)) → b ≠ a ∧ g[m]? = some (.own zs) ∧ σ[m]? = some (some (.ref b)) := fun {m zs} e h h' => by
      rw [List.getElem?_set_ne e] at h h'
      refine ⟨fun z => ?_, h, h'⟩
      obtain ⟨c, vs, e1, e2, _⟩ := R0.own m zs h
      rw [h'] at e1
      cases e1
      rw [z, h5] at e2; cases e2
    have self : ∀ {zs : List GV}, (g.set i (.own xs))[i]? = some (.own zs) → (σ.set i (some (.ref a)))[i]? = some (some (.ref b)) → b = a := fun {zs} h h' => by
      by_cases hl : i < σ.length
      · rw [List.getElem?_set_self hl] at h'; cases h'; rfl
      · rw [List.getElem?_eq_none (by simpa using hl)] at h'; cases h'
    by_cases e1 : i = j
    · by_cases e2 : i = k
      · rw [← e1, ← e2]
      · subst e1
        obtain ⟨z, _, _⟩ := other e2 q2 q4
        exact absurd (self q1 q3) z
    · by_cases e2 : i = k
      · subst e2
        obtain ⟨z, _, _⟩ := other e1 q1 q3
        exact absurd (self q2 q4) z
      · obtain ⟨_, q1', q3'⟩ := other e1 q1 q3
        obtain ⟨_, q2', q4'⟩ := other e2 q2 q4
        exact R.dst j k xs' _ b q1' q2' q3' q4'
  exc := fun j h => by
    by_cases e : i = j
    · subst e
      by_cases hl : i < g.length
      · rw [List.getElem?_set_self hl] at h; cases h
      · rw [List.getElem?_eq_none (by simpa using hl)] at h; cases h
    · rw [List.getElem?_set_ne e] at h
      rw [List.getElem?_set_ne e]
      exact R.exc j h
theorem own_law {n : Cn} {i : Nat} {ev : List Sl → Cells → Res GV} {D : Ends} {σ : L2.St} {H : Hp} (q : rS n (fun g G => (ev g G).thn g (gOwn i g)) D σ H) : tAsg (rF n ev) (gName i) D σ H := by
  refine rs_thn (f := gOwn i) q fun B S0 ρ0 g G0 S ρ G v u H1 R0 e1 R pv p => ?_
  obtain ⟨xs, a, us, rfl, rfl, h1, h2, h3, h4, h5⟩ := pv
  exact PoS.nx p (Rel.seto R0 R h1 h2 h3 h4 h5)
theorem ss_seto {i : Nat} {x : Str} {e : Expr} {ev : List Sl → Cells → Res GV} {pos' : Pos} (hN : X.N.Nodup) (hi : X.N[i]? = some x) (hx : Loc X.env.scope x) (hf : X.fn x = true ∨ X.env.scope.names.lookup x = some .local) (he : SF X n e ev) (hs : swapsWith e (some (.Name x pos')) pos.line X.env = pure false) :
    SS X n (.Assign [.Name x pos'] e pos) fun g G => (ev g G).thn g (gOwn i g) :=
  (ps_set hN hi hx he hs hf).imp fun D σ H q => own_law q
theorem set_law {n : Cn} {i : Nat} {ev : List Sl → Cells → Res GV} {D : Ends} {σ : L2.St} {H : Hp} (q : rS n (fun g G => (ev g G).thn g fun v G => .nx (g.set i (.val v)) G) D σ H) : tAsg (n.rd (PpV n.W) ev) (gName i) D σ H :=
  rs_thn (f := fun g v G => .nx (g.set i (.val v)) G) q fun B S0 ρ0 g G0 S ρ G v u H1 R0 e1 R pv p => PoS.nx p (R.setv pv)
section
variable {elt tg iter : Expr} {ifs : List Expr} {scope : Scope} {own : List (Str × Nat)} {evi : List Sl → Cells → Res (List GV)} {T : Tg} {evc eve : List Sl → Cells → Res GV}
/-- a comprehension on the statement's line to a local: the stores exchanged -/
theorem LcOk.seto {pos' posc : Pos} {i : Nat} {x : Str} (k : LcOk X n elt tg iter ifs scope own evi T evc eve) (hi : X.N[i]? = some x) (hx : X.env.scope.names.lookup x = some .local) (hs : swapsWith (.ListComp elt [⟨tg, iter, ifs, 0⟩] scope posc) (some (.Name x pos')) pos.line X.env = pure true) :
    SS X n (.Assign [.Name x pos'] (.ListComp elt [⟨tg, iter, ifs, 0⟩] scope posc) pos) fun g G => (lcV evi T (own.map (·.2)) evc eve g G).thn g (gOwn i g) :=
  (ps_setLc k.hc k.hN hi hx hs k.hi k.ok k.hg k.ht k.he k.hs).imp fun D σ H q => lc_law k.sub (own_law q)
theorem LcOk.set {pos' posc : Pos} {i : Nat} {x : Str} (k : LcOk X n elt tg iter ifs scope own evi T evc eve) (hi : X.N[i]? = some x) (hx : X.env.scope.names.lookup x = some .local) (hs : swapsWith (.ListComp elt [⟨tg, iter, ifs, 0⟩] scope posc) (some (.Name x pos')) pos.line X.env = pure true) :
    SS X n (.Assign [.Name x pos'] (.ListComp elt [⟨tg, iter, ifs, 0⟩] scope posc) pos) fun g G => (lcV evi T (own.map (·.2)) evc eve g G).thn g fun v G => .nx (g.set i (.val v)) G :=
  (ps_setLc k.hc k.hN hi hx hs k.hi k.ok k.hg k.ht k.he k.hs).imp fun D σ H q => lc_law k.sub (rF_e (set_law q))
end
/-! ### several names at once -/
theorem ss_sett {ts : List Expr} {is : List Nat} {k1 : Nat} {p2 : Pos} {e : Expr} {ev : List Sl → Cells → Res GV} (hg : SG X n (.Tuple ts k1 p2) (.tup is)) (he : SE X n e ev) (hs : swapsWithSole [.Tuple ts k1 p2] e pos.line X.env = pure false) (hw : swappedStores [.Tuple ts k1 p2] e X.env = pure none) :
    SS X n (.Assign [.Tuple ts k1 p2] e pos) fun g G => (ev g G).thn g (gSett is g) := by
  refine (ps_asg he hg hs hw rfl).imp fun D σ H q => rs_thn (f := gSett is) q fun B S0 ρ0 g G0 S ρ G v u H1 R0 e1 R pv p => ?_
  cases v with
  | tup xs =>
    by_cases c : xs.length = is.length
    · replace p : PoS n B S ρ (.nx (setAll is xs g) G) D := by
        have p' : PoS n B S ρ (if xs.length = is.length then .nx (setAll is xs g) G else .no) D := p
        rw [if_pos c] at p'; exact p'
      exact ⟨B, S, ρ, g, G, .tup xs, setAll is xs g, R, pv, by show (if xs.length = is.length then _ else _) = _; rw [if_pos c], fun σ2 R2 _ => PoS.nx p R2⟩
    · have p' : PoS n B S ρ (if xs.length = is.length then .nx (setAll is xs g) G else .no) D := p
      rw [if_neg c] at p'
      exact p'.elim
  | _ => exact p.elim
theorem Rel.setAll {W : W0} {B : Bs} {S H : Hp} {ρ : List Addr} {G : Cells} : ∀ (is : List Nat) (xs : List GV) (us : List V) (g : List Sl) (σ : L2.St), Rel W B S ρ g G σ H → PRs W S ρ xs us → xs.length = is.length → ∃ σ2, (∀ i j u v, is = [i, j] → us = [u, v] → σ2 = (σ.set i (some u)).set j (some v)) ∧ (∀ i j k u v w, is = [i, j, k] → us = [u, v, w] → σ2 = ((σ.set i (some u)).set j (some v)).set k (some w)) ∧ Rel W B S ρ (setAll is xs g) G σ2 H
  | is, xs, us, g, σ, R, r, hl => by
    have go : ∀ (is : List Nat) (xs : List GV) (us : List V) (g : List Sl) (σ : L2.St), Rel W B S ρ g G σ H → PRs W S ρ xs us → Rel W B S ρ (Gm.setAll is xs g) G ((is.zip us).foldl (fun s p => s.set p.1 (some p.2)) σ) H := by
      intro is
      induction is with
      | nil => intro xs us g σ R r; cases r <;> exact R
      | cons i is ih =>
        intro xs us g σ R r
        cases r with
        | nil => exact R
        | cons r rs => exact ih _ _ _ _ (R.setv r) rs
    exact ⟨_, fun i j u v e1 e2 => by subst e1 e2; rfl, fun i j k u v w e1 e2 => by subst e1 e2; rfl, go is xs us g σ R r⟩
theorem PRs.two {W : W0} {S : Hp} {ρ : List Addr} {xs : List GV} {us : List V} (r : PRs W S ρ xs us) (h : xs.length = 2) : ∃ u v, us = [u, v] := by
  have := r.length
  match us, this.trans h with
  | [u, v], _ => exact ⟨u, v, rfl⟩
theorem PRs.three {W : W0} {S : Hp} {ρ : List Addr} {xs : List GV} {us : List V} (r : PRs W S ρ xs us) (h : xs.length = 3) : ∃ u v w, us = [u, v, w] := by
  have := r.length
  match us, this.trans h with
  | [u, v, w], _ => exact ⟨u, v, w, rfl⟩
theorem ss_par2 {i j : Nat} {x y : Str} {a b : Expr} {ea : List Sl → Cells → Res (List GV)} {px py pt : Pos} {kt k2 pt2} (hc : X.calm = true) (hN : X.N.Nodup) (hi : X.N[i]? = some x) (hj : X.N[j]? = some y) (hij : i ≠ j)
    (hx : X.env.scope.names.lookup x = some .local) (hy : X.env.scope.names.lookup y = some .local) (ha : SA X n [a, b] ea)
    (hw : swappedStores [.Tuple [.Name x px, .Name y py] kt pt] (.Tuple [a, b] k2 pt2) X.env = pure (some [x, y])) :
    SS X n (.Assign [.Tuple [.Name x px, .Name y py] kt pt] (.Tuple [a, b] k2 pt2) pos) fun g G => (ea g G).thn g (gPar [i, j] g) := by
  refine (ps_par hc hN hi hj hij hx hy ha hw rfl).imp fun D σ H q => rs_thn (f := gPar [i, j]) q fun B S0 ρ0 g G0 S ρ G v u H1 R0 e1 R pv p => ?_
  unfold gPar at p
  by_cases c : v.length = 2
  · rw [if_pos (show v.length = [i, j].length from c)] at p
    obtain ⟨u1, u2, rfl⟩ := pv.two c
    obtain ⟨σ2, h2, _, R2⟩ := Rel.setAll [i, j] v _ g σ R pv c
    exact ⟨u1, u2, rfl, h2 i j u1 u2 rfl rfl ▸ PoS.nx p R2⟩
  · rw [if_neg (show ¬ v.length = [i, j].length from c)] at p
    exact p.elim
theorem ss_par3 {i j l : Nat} {x y z : Str} {a b c : Expr} {ea : List Sl → Cells → Res (List GV)} {px py pz pt : Pos} {kt k2 pt2} (hc : X.calm = true) (hN : X.N.Nodup) (hi : X.N[i]? = some x) (hj : X.N[j]? = some y) (hl : X.N[l]? = some z) (hij : i ≠ j) (hil : i ≠ l) (hjl : j ≠ l)
    (hx : X.env.scope.names.lookup x = some .local) (hy : X.env.scope.names.lookup y = some .local) (hz : X.env.scope.names.lookup z = some .local) (ha : SA X n [a, b, c] ea)
    (hw : swappedStores [.Tuple [.Name x px, .Name y py, .Name z pz] kt pt] (.Tuple [a, b, c] k2 pt2) X.env = pure (some [x, y, z])) :
    SS X n (.Assign [.Tuple [.Name x px, .Name y py, .Name z pz] kt pt] (.Tuple [a, b, c] k2 pt2) pos) fun g G => (ea g G).thn g (gPar [i, j, l] g) := by
  refine (ps_par3 hc hN hi hj hl hij hil hjl hx hy hz ha hw rfl).imp fun D σ H q => rs_thn (f := gPar [i, j, l]) q fun B S0 ρ0 g G0 S ρ G v u H1 R0 e1 R pv p => ?_
  unfold gPar at p
  by_cases c : v.length = 3
  · rw [if_pos (show v.length = [i, j, l].length from c)] at p
    obtain ⟨u1, u2, u3, rfl⟩ := pv.three c
    obtain ⟨σ2, _, h2, R2⟩ := Rel.setAll [i, j, l] v _ g σ R pv c
    exact ⟨u1, u2, u3, rfl, h2 i j l u1 u2 u3 rfl rfl ▸ PoS.nx p R2⟩
  · rw [if_neg (show ¬ v.length = [i, j, l].length from c)] at p
    exact p.elim
end
end Gm
end

section
namespace Gm
open PySem PySem.Spec PyProof.Rows L2

section
variable {n : Cn} {B : Bs} {S S1 H H1 : Hp} {ρ ρ1 : List Addr} {D : Ends} {g : List Sl} {G : Cells} {σ : L2.St}
theorem po_thn {α β : Type} {P : Hp → List Addr → Hp → α → β → Prop} {r : Res α} {f : α → Cells → Rs} {Q1 : β → Hp → Prop} (R : Rel n.W B S ρ g G σ H) (p : PoS n B S ρ (r.thn g f) D)
    (k : ∀ S' ρ' G' v u H1, Ext S ρ H S' ρ' H1 → Rel n.W B S' ρ' g G' σ H1 → P S' ρ' H1 v u → PoS n B S' ρ' (f v G') D → Q1 u H1) : Post n.W n.xc n.Wx σ S ρ H P r Q1 := by
  cases r with
  | ok v G' => exact fun S' ρ' u H' e1 hs pv => k S' ρ' G' v u H' e1 (R.step e1 hs) pv (PoS.mono (show PoS n B S ρ (f v G') D from p) e1.sle e1.pre)
  | ex C fs G' => exact fun S' ρ' cls d H' e1 hs x => p S' ρ' cls d σ H' e1.sle e1.pre (R.step e1 hs) x
  | no => exact p
theorem thn_bind {α β : Type} (r : Res α) (f : α → Cells → Res β) (g : List Sl) (k : β → Cells → Rs) : (r.bind f).thn g k = r.thn g fun x G => (f x G).thn g k := by cases r <;> rfl
/-! ### freezing -/
theorem Rel.frz1 {W : W0} {i : Nat} {xs : List GV} (R : Rel W B S ρ g G σ H) (h : g[i]? = some (.own xs)) : ∃ S', HLe S S' ∧ Rel W B S' ρ (g.set i (.val (.lst xs))) G σ H := by
  obtain ⟨a, us, h1, h2, h3, h4, h5, h6⟩ := R.own i xs h
  have hl : i < g.length := (List.getElem?_eq_some_iff.mp h).1
  have sl := sle_upd (o := HO.lst us) h4
  refine ⟨upd S a (.lst us), sl, R.hs.prom h4 h5 h2, ext_prom R.ext h6 h4, by rw [List.length_set]; exact R.len, fun j w hj => ?_, fun j ys hj => ?_, fun j k ys zs b q1 q2 q3 q4 => ?_, fun j hj => ?_⟩
  · by_cases e : i = j
    · subst e
      rw [List.getElem?_set_self hl] at hj
      cases hj
      exact ⟨.ref a, h1, .lst upd_same (h3.mono sl (List.prefix_refl _))⟩
    · rw [List.getElem?_set_ne e] at hj
      obtain ⟨u, t1, t2⟩ := R.val j w hj
      exact ⟨u, t1, t2.mono sl (List.prefix_refl _)⟩
  · by_cases e : i = j
    · subst e
      rw [List.getElem?_set_self hl] at hj; cases hj
    · rw [List.getElem?_set_ne e] at hj
      obtain ⟨b, vs, t1, t2, t3, t4, t5, t6⟩ := R.own j ys hj
      have ne : b ≠ a := fun z => e (R.dst i j xs ys a h hj h1 (by rw [← z]; exact t1))
      exact ⟨b, vs, t1, t2, t3.mono sl (List.prefix_refl _), by rw [upd_ne ne]; exact t4, t5, t6⟩
  · have nj : ∀ {m : Nat} {zs : List GV}, (g.set i (.val (.lst xs)))[m]? = some (.own zs) → i ≠ m := fun {m zs} hm e => by
      subst e
      rw [List.getElem?_set_self hl] at hm; cases hm
    have n1 := nj q1
    have n2 := nj q2
    rw [List.getElem?_set_ne n1] at q1
    rw [List.getElem?_set_ne n2] at q2
    exact R.dst j k ys zs b q1 q2 q3 q4
  · by_cases e : i = j
    · subst e
      rw [List.getElem?_set_self hl] at hj; cases hj
    · rw [List.getElem?_set_ne e] at hj
      exact R.exc j hj
theorem Rel.frz {W : W0} (R : Rel W B S ρ g G σ H) : ∀ ts : List Nat, ∃ S', HLe S S' ∧ Rel W B S' ρ (frzG g ts) G σ H
  | [] => ⟨S, HLe.refl _, R⟩
  | i :: is => by
    obtain ⟨S1, l1, R1⟩ := Rel.frz R is
    unfold frzG
    split
    · rename_i xs e
      obtain ⟨S2, l2, R2⟩ := R1.frz1 e
      exact ⟨S2, l1.trans l2, R2⟩
    · exact ⟨S1, l1, R1⟩
theorem rs_frz {ex : List Sl → Cells → Rs} {ts : List Nat} (h : rS n (fun g G => ex (frzG g ts) G) D σ H) : rS n ex D σ H := by
  obtain ⟨B, S, ρ, g, G, R, p⟩ := h
  obtain ⟨S', l, R'⟩ := R.frz ts
  exact ⟨B, S', ρ, frzG g ts, G, R', PoS.mono p l (List.prefix_refl _)⟩
/-! ### lists written -/
theorem Rel.put {W : W0} {i : Nat} {xs ys : List GV} {a : Addr} {us : List V} (R : Rel W B S ρ g G σ H) (h : g[i]? = some (.own xs)) (ha : σ[i]? = some (some (.ref a))) (r : PRs W S ρ ys us) : Rel W B S ρ (g.set i (.own ys)) G σ (upd H a (.lst us)) := by
  obtain ⟨a', vs, h1, h2, h3, h4, h5, h6⟩ := R.own i xs h
  rw [ha] at h1; cases h1
  have hl : i < g.length := (List.getElem?_eq_some_iff.mp h).1
  have old : ∀ {m : Nat} {zs : List GV}, (g.set i (.own ys))[m]? = some (.own zs) → ∃ zs', g[m]? = some (.own zs') := fun {m zs} hm => by
    by_cases e : i = m
    · subst e; exact ⟨xs, h⟩
    · rw [List.getElem?_set_ne e] at hm; exact ⟨zs, hm⟩
  refine ⟨R.hs.put h4 h5, R.ext.put h6, by rw [List.length_set]; exact R.len, fun j w hj => ?_, fun j zs hj => ?_, fun j k zs ws b q1 q2 q3 q4 => ?_, fun j hj => ?_⟩
  · by_cases e : i = j
    · subst e
      rw [List.getElem?_set_self hl] at hj; cases hj
    · rw [List.getElem?_set_ne e] at hj
      exact R.val j w hj
  · by_cases e : i = j
    · subst e
      rw [List.getElem?_set_self hl] at hj
      cases hj
      exact ⟨a, us, ha, upd_same, r, h4, h5, h6⟩
    · rw [List.getElem?_set_ne e] at hj
      obtain ⟨b, vs, t1, t2, t3, t4, t5, t6⟩ := R.own j zs hj
      have ne : b ≠ a := fun z => e (R.dst i j xs zs a h hj ha (by rw [← z]; exact t1))
      exact ⟨b, vs, t1, by rw [upd_ne ne]; exact t2, t3, t4, t5, t6⟩
  · obtain ⟨z1, w1⟩ := old q1
    obtain ⟨z2, w2⟩ := old q2
    exact R.dst j k _ _ b w1 w2 q3 q4
  · by_cases e : i = j
    · subst e
      rw [List.getElem?_set_self hl] at hj; cases hj
    · rw [List.getElem?_set_ne e] at hj
      exact R.exc j hj
theorem Rel.putc {W : W0} {m : Nat} {ys : List GV} {a : Addr} {us : List V} (R : Rel W B S ρ g G σ H) (h : ρ[m]? = some a) (r : PRs W S ρ ys us) : Rel W B S ρ g (G.set m ys) σ (upd H a (.lst us)) := by
  have hm : a ∈ ρ := List.mem_of_getElem? h
  have hlt : m < ρ.length := (List.getElem?_eq_some_iff.mp h).1
  have hG : m < G.length := by rw [← R.hs.len]; exact hlt
  refine R.step ⟨HLe.refl _, fun _ _ q => .inl q, List.prefix_refl _, fun _ q => .inl q, fun b o q hn => ?_, fun b q => ne_none_upd q⟩ ⟨fun b o q => ?_, by rw [List.length_set]; exact R.hs.len, fun k b xs q1 q2 => ?_, R.hs.cS, R.hs.nod, R.hs.cur⟩
  · rw [upd_ne (fun z => hn (by rw [z]; exact hm))]; exact q
  · have := R.hs.cS a hm
    rw [upd_ne (ne_of_none q this)]; exact R.hs.le b o q
  · by_cases e : m = k
    · subst e
      rw [h] at q1; cases q1
      rw [List.getElem?_set_self hG] at q2
      cases q2
      exact ⟨us, upd_same, r⟩
    · rw [List.getElem?_set_ne e] at q2
      obtain ⟨vs, t1, t2⟩ := R.hs.cel k b xs q1 q2
      have ne : b ≠ a := fun z => by
        subst z
        have k1 : k < ρ.length := (List.getElem?_eq_some_iff.mp q1).1
        exact e ((List.getElem?_inj hlt R.hs.nod).mp (h.trans q1.symm))
      exact ⟨vs, by rw [upd_ne ne]; exact t1, t2⟩
end
section
variable {X : Cx} {n : Cn} {pos : Pos}
theorem ss_frz {s : Stmt} {ex : List Sl → Cells → Rs} {ts : List Nat} (h : SS X n s ex) : SS X n s fun g G => ex (frzG g ts) G := PS.imp h fun D σ H q => rs_frz q
theorem ss_sub {i : Nat} {x : Str} {ix e : Expr} {px ps : Pos} {ev ei : List Sl → Cells → Res GV} (hi : X.N[i]? = some x) (hv : Vis X.env.scope x) (hd : (x == ("__debug__" : Str)) = false) (hc : (x == ("__classdict__" : Str)) = false) (he : SE X n e ev) (hx : SE X n ix ei) (hns : noSlice ix = true) :
    SS X n (.Assign [.Subscript (.Name x px) ix ps] e pos) fun g G => (ev g G).thn g fun v G => if lstAt g i = true then (ei g G).thn g (gSubS i v g) else .no := by
  refine (ps_asg he (pg_sub (pe_var hi hv hd hc) hx set_list (fun v => by cases ix <;> first | rfl | cases hns)) ?_ ?_ rfl).imp fun D σ H q => ?_
  · cases e <;> rfl
  · cases e <;> rfl
  refine rs_thn (f := fun g v G => if lstAt g i = true then (ei g G).thn g (gSubS i v g) else .no) q fun B S0 ρ0 g G0 S ρ G v u H1 R0 e1 R pv p => ?_
  show ∃ ov, σ[i]? = some (some ov) ∧ n.rd (PpV n.W) ei σ H1 fun k H2 => rSetL ov k u H2 fun H3 => D.nx σ H3
  by_cases c : lstAt g i = true
  · replace p : PoS n B S ρ ((ei g G).thn g (gSubS i v g)) D := by
      have p' := p
      simp only [c, if_true] at p'
      exact p'
    unfold lstAt at c
    split at c
    · rename_i xs hg
      obtain ⟨a, us, h1, h2, h3, h4, h5, h6⟩ := R.own i xs hg
      refine ⟨.ref a, h1, B, S, ρ, g, G, R, po_thn R p fun S2 ρ2 G2 k uk H2 e2 R2 pk p2 => ?_⟩
      unfold gSubS at p2
      split at p2
      · rename_i k
        cases pk
        rw [hg] at p2
        obtain ⟨a', us', h1', h2', h3', h4', h5', h6'⟩ := R2.own i xs hg
        rw [h1] at h1'; cases h1'
        unfold subS at p2
        cases hj : ixN xs.length k with
        | none => simp only [hj] at p2; exact p2.elim
        | some j =>
          simp only [hj] at p2
          exact ⟨a, us', k, j, rfl, rfl, h2', by rw [h3'.length]; exact hj, PoS.nx p2 (R2.put hg h1 (h3'.set j (pv.mono e2.sle e2.pre)))⟩
      · exact p2.elim
    · rename_i m hg
      obtain ⟨u1, h1, h2⟩ := R.val i _ hg
      cases h2 with
      | cel hr =>
        rename_i a
        refine ⟨.ref a, h1, B, S, ρ, g, G, R, po_thn R p fun S2 ρ2 G2 k uk H2 e2 R2 pk p2 => ?_⟩
        unfold gSubS at p2
        split at p2
        · rename_i k
          cases pk
          rw [hg] at p2
          unfold subS at p2
          cases hG : G2[m]? with
          | none => simp only [hG] at p2; exact p2.elim
          | some xs =>
            simp only [hG] at p2
            cases hj : ixN xs.length k with
            | none => simp only [hj] at p2; exact p2.elim
            | some j =>
              simp only [hj] at p2
              have hr2 := pre_get e2.pre hr
              obtain ⟨us, t1, t2⟩ := R2.hs.cel m a xs hr2 hG
              exact ⟨a, us, k, j, rfl, rfl, t1, by rw [t2.length]; exact hj, PoS.nx p2 (R2.putc hr2 (t2.set j (pv.mono e2.sle e2.pre)))⟩
        · exact p2.elim
    · cases c
  · have p' := p
    simp only [c] at p'
    exact p'.elim
theorem sa_one {e : Expr} {ev : List Sl → Cells → Res GV} (h : SE X n e ev) (hs : noStar e = true) : SA X n [e] fun g G => (ev g G).bind fun x G => .ok [x] G := by
  refine (sa_cons h sa_nil hs).imp fun σ H Q q => ?_
  exact q
theorem ss_app {i : Nat} {x : Str} {e : Expr} {px pa pc : Pos} {ev : List Sl → Cells → Res GV} (k : Okc X n) (hi : X.N[i]? = some x) (hv : Vis X.env.scope x) (hd : (x == ("__debug__" : Str)) = false) (hc : (x == ("__classdict__" : Str)) = false) (he : SE X n e ev) (hns : noStar e = true) (hl : (pa.endLine == pc.line) = true) :
    SS X n (.Expr (.Call (.Attribute (.Name x px) "append" pa) [e] [] pc) pos) fun g G => if ownAt g i = true then (ev g G).thn g (gApp i g) else .no := by
  refine (ps_expr (pe_bm PySem.F.plainAttrs_list PySem.F.slot_list_append PySem.F.type_list_append mt_append (pe_var hi hv hd hc) (sa_one he hns) rfl ?_ hl ?_ rfl) rfl).imp fun D σ H ⟨B, S, ρ, g, G, R, p⟩ => ?_
  · rw [star_cons hns]; rfl
  · rw [star_cons hns]
  by_cases c : ownAt g i = true
  · replace p : PoS n B S ρ (((ev g G).bind fun x G => .ok [x] G).thn g fun xs G => (match xs with | [y] => gApp i g y G | _ => .no)) D := by
      have p' := p
      simp only [c, if_true] at p'
      rw [thn_bind]
      exact p'
    unfold ownAt at c
    split at c
    · rename_i xs hg
      obtain ⟨a, us, h1, h2, h3, h4, h5, h6⟩ := R.own i xs hg
      refine ⟨.ref a, h1, .inl ⟨rfl, us, .inl (.inl h2)⟩, B, S, ρ, g, G, R, po_thn R p fun S2 ρ2 G2 vs uk H2 e2 R2 pk p2 => ?_⟩
      cases pk with
      | nil => exact p2.elim
      | cons pk pks =>
        cases pks with
        | cons _ _ => exact p2.elim
        | nil =>
          rename_i y uy
          show rAppend (.ref a) [uy] H2 fun _ H3 => D.nx σ H3
          obtain ⟨a', us', h1', h2', h3', h4', h5', h6'⟩ := R2.own i xs hg
          rw [h1] at h1'; cases h1'
          replace p2 : PoS n B S2 ρ2 (gApp i g y G2) D := p2
          unfold gApp at p2
          rw [hg] at p2
          replace p2 : PoS n B S2 ρ2 (if xs.length < sizeLine then .nx (g.set i (.own (xs ++ [y]))) G2 else .no) D := p2
          split at p2
          · rename_i hz
            exact ⟨a, us', uy, rfl, rfl, h2', by rw [h3'.length]; exact hz, PoS.nx p2 (R2.put hg h1 (h3'.append (.cons pk .nil)))⟩
          · exact p2.elim
    · cases c
  · have p' := p
    simp only [c] at p'
    exact p'.elim

/-! ### name op= e -/
theorem ss_aug {i : Nat} {x : Str} {e : Expr} {op : Operator} {bo : Bop} {fi : Int → Int → Int} {px : Pos} {ev : List Sl → Cells → Res GV} (hN : X.N.Nodup) (hi : X.N[i]? = some x) (hx : Loc X.env.scope x) (hf : X.fn x = true ∨ X.env.scope.names.lookup x = some .local) (he : SE X n e ev) (ho : PIp X op (ipI fi)) (hb : ∀ a b v, binV bo (.int a) (.int b) = some v → v = .int (fi a b)) :
    SS X n (.AugAssign (.Name x px) op e pos) fun g G => match rd g i with
      | some x => (ev g G).thn g (gAug bo i x g)
      | none => .no := by
  refine (ps_aug hN hi hx he ho hf).imp fun D σ H ⟨B, S, ρ, g, G, R, p⟩ => ?_
  cases er : rd g i with
  | none => simp only [er] at p; exact p.elim
  | some v =>
    simp only [er] at p
    obtain ⟨u, h1, h2⟩ := R.val i v (rd_some er)
    refine ⟨u, h1, B, S, ρ, g, G, R, po_thn R p fun S2 ρ2 G2 y uy H2 e2 R2 py p2 => ?_⟩
    unfold gAug at p2
    split at p2
    · rename_i a b
      cases h2; cases py
      cases ez : binV bo (.int a) (.int b) with
      | none => simp only [ez] at p2; exact p2.elim
      | some z =>
        simp only [ez] at p2
        cases hb a b z ez
        exact ⟨a, b, rfl, rfl, PoS.nx p2 (R2.setv (.int _))⟩
    · exact p2.elim
/-! ### loops -/
theorem ss_whl {c : Expr} {b : List Stmt} {ec : List Sl → Cells → Res Bool} {eb : List Sl → Cells → Rs} (wf : Nat) (hp : PassesOwn (model X.prog X.w) X.A X.env X.xe) (hc : ST X n c ec) (hb : SL X n b eb) :
    SS X n (.While c b [] pos) fun g G => loopW ec eb wf g G := by
  refine (ps_while hp hc hb).imp fun D σ H ⟨B, S, ρ, g, G, R, p⟩ => ?_
  refine ⟨fun m σ H => ∃ S ρ g G, Rel n.W B S ρ g G σ H ∧ PoS n B S ρ (loopW ec eb m g G) D, ⟨wf, S, ρ, g, G, R, p⟩, ?_⟩
  rintro m σ H ⟨S, ρ, g, G, R, p⟩
  cases m with
  | zero => exact p.elim
  | succ m =>
    refine ⟨B, S, ρ, g, G, R, ?_⟩
    unfold loopW at p
    cases ee : ec g G with
    | no => simp only [ee] at p; exact p.elim
    | ex C fs G1 =>
      simp only [ee] at p
      exact fun S' ρ' cls d H' e1 hs x => p S' ρ' cls d σ H' e1.sle e1.pre (R.step e1 hs) x
    | ok k G1 =>
      intro S1 ρ1 kk H1 e1 hs pk
      have R1 := R.step e1 hs
      cases (show kk = k from pk)
      cases k with
      | false =>
        simp only [ee] at p
        rw [if_neg (by simp)]
        exact p S1 ρ1 σ H1 e1.sle e1.pre R1
      | true =>
        simp only [ee] at p
        rw [if_pos rfl]
        refine ⟨fun σ H => ∃ S ρ g G, Rel n.W B S ρ g G σ H ∧ PoS n B S ρ (loopW ec eb m g G) D, fun σ' H' q => ⟨m, Nat.lt_succ_self m, q⟩, B, S1, ρ1, g, G1, R1, ?_⟩
        cases eq : eb g G1 with
        | nx g2 G2 =>
          simp only [eq] at p
          exact fun S2 ρ2 σ2 H2 l2 q2 R2 => ⟨S2, ρ2, g2, G2, R2, PoS.mono p (e1.sle.trans l2) (e1.pre.trans q2)⟩
        | ct g2 G2 =>
          simp only [eq] at p
          exact fun S2 ρ2 σ2 H2 l2 q2 R2 => ⟨S2, ρ2, g2, G2, R2, PoS.mono p (e1.sle.trans l2) (e1.pre.trans q2)⟩
        | bk g2 G2 =>
          simp only [eq] at p
          exact fun S2 ρ2 σ2 H2 l2 q2 R2 => p S2 ρ2 σ2 H2 (e1.sle.trans l2) (e1.pre.trans q2) R2
        | rt v G2 => simp only [eq] at p; exact p
        | ex C fs g2 G2 =>
          simp only [eq] at p
          exact fun S2 ρ2 cls d σ2 H2 l2 q2 => p S2 ρ2 cls d σ2 H2 (e1.sle.trans l2) (e1.pre.trans q2)
        | no => simp only [eq] at p; exact p.elim
theorem ss_for {tg it : Expr} {b : List Stmt} {T : Tg} {ei : List Sl → Cells → Res (List GV)} {eb : List Sl → Cells → Rs} (hp : PassesOwn (model X.prog X.w) X.A X.env X.xe) (hc : X.calm = true) (hi : SIS X n tg it ei) (hg : SG X n tg T) (hb : SL X n b eb) (hs : ∀ x, foldedSetIterable it X.env x = pure x) :
    SS X n (.For tg it b [] pos) fun g G => (ei g G).thn g fun xs G => loopF T eb xs g G := by
  refine (ps_for hp hc hi hg hb hs).imp fun D σ H ⟨B, S, ρ, g, G, R, p⟩ => ?_
  refine ⟨B, S, ρ, g, G, R, po_thn R p fun S1 ρ1 G1 xs J H1 e1 R1 pJ p1 => ?_⟩
  obtain ⟨Gd, src, gd, stab⟩ := pJ
  refine ⟨fun i m σ H => m = xs.length - i ∧ i ≤ xs.length ∧ ∃ S2 ρ2 g2 G2, HLe S1 S2 ∧ ρ1 <+: ρ2 ∧ Rel n.W B S2 ρ2 g2 G2 σ H ∧ PoS n B S2 ρ2 (loopF T eb (xs.drop i) g2 G2) D, ⟨xs.length, by simp, Nat.zero_le _, S1, ρ1, g, G1, HLe.refl _, List.prefix_refl _, R1, p1⟩, ?_⟩
  rintro i m σ H ⟨rfl, hi, S2, ρ2, g2, G2, l2, q2, R2, p2⟩
  have gd2 := stab S2 ρ2 H l2 q2 R2.hs.le
  by_cases hlt : i < xs.length
  · refine .inr ⟨src.go i S2 ρ2 H gd2 hlt, fun σ H => ∃ S2 ρ2 g2 G2, HLe S1 S2 ∧ ρ1 <+: ρ2 ∧ Rel n.W B S2 ρ2 g2 G2 σ H ∧ PoS n B S2 ρ2 (loopF T eb (xs.drop (i + 1)) g2 G2) D, fun σ' H' q => ⟨xs.length - (i + 1), by omega, rfl, hlt, q⟩, fun x H' y => ?_⟩
    obtain ⟨S3, v, e3, hs3, hv, r3⟩ := src.yld i S2 ρ2 G2 H x H' R2.hs gd2 hlt y
    have hdrop : xs.drop i = v :: xs.drop (i + 1) := by
      rw [List.drop_eq_getElem_cons hlt]
      rw [List.getElem?_eq_getElem hlt] at hv
      cases hv; rfl
    rw [hdrop] at p2
    unfold loopF at p2
    have R3 := R2.step e3 hs3
    cases eg : setTg T v g2 with
    | none => simp only [eg] at p2; exact p2.elim
    | some g3 =>
      simp only [eg] at p2
      refine ⟨B, S3, ρ2, g2, G2, v, g3, R3, r3, eg, fun σ4 R4 _ => ⟨B, S3, ρ2, g3, G2, R4, ?_⟩⟩
      have l3 := l2.trans e3.sle
      cases eq : eb g3 G2 with
      | nx g5 G5 =>
        simp only [eq] at p2
        exact fun S5 ρ5 σ5 H5 l5 q5 R5 => ⟨S5, ρ5, g5, G5, l3.trans l5, q2.trans q5, R5, PoS.mono p2 (e3.sle.trans l5) q5⟩
      | ct g5 G5 =>
        simp only [eq] at p2
        exact fun S5 ρ5 σ5 H5 l5 q5 R5 => ⟨S5, ρ5, g5, G5, l3.trans l5, q2.trans q5, R5, PoS.mono p2 (e3.sle.trans l5) q5⟩
      | bk g5 G5 =>
        simp only [eq] at p2
        exact fun S5 ρ5 σ5 H5 l5 q5 R5 => p2 S5 ρ5 σ5 H5 (e3.sle.trans l5) q5 R5
      | rt v5 G5 => simp only [eq] at p2; exact p2
      | ex C fs g5 G5 =>
        simp only [eq] at p2
        exact fun S5 ρ5 cls d σ5 H5 l5 q5 => p2 S5 ρ5 cls d σ5 H5 (e3.sle.trans l5) q5
      | no => simp only [eq] at p2; exact p2.elim
  · have e : i = xs.length := by omega
    subst e
    rw [List.drop_length] at p2
    exact .inl ⟨src.stop _ S2 ρ2 H gd2 (Nat.le_refl _), PoS.nx p2 R2⟩
end
end Gm
end

section
namespace Gm
open PySem PySem.Spec PyProof.Rows L2

/-! ### the calls of the program's defs -/
def spF (W : W0) (xc : Str → Option (List Str)) (np : Nat) (cf : List GV → Cells → Res GV) : Sp := fun vs H Q E => ∃ S ρ G xs, Hs W S ρ G H ∧ PRs W S ρ xs vs ∧ xs.length = np ∧ Post W xc (fun cls d _ H => E cls d H) [] S ρ H (PpV W) (cf xs G) Q
def cV : GV → Option V
  | .non => some .non
  | .bl b => some (.bl b)
  | .int i => some (.int i)
  | .str x => some (.str x)
  | _ => none
def cVs : List GV → Option (List V)
  | [] => some []
  | v :: vs => match cV v with
    | none => none
    | some u => match cVs vs with
      | none => none
      | some us => some (u :: us)
theorem cV_pr {W : W0} {S : Hp} {ρ : List Addr} {v : GV} {u : V} (h : cV v = some u) : PR W S ρ v u := by
  cases v with
  | non => cases h; exact .non
  | bl b => cases h; exact .bl b
  | int b => cases h; exact .int b
  | str b => cases h; exact .str b
  | _ => cases h
theorem cVs_pr {W : W0} {S : Hp} {ρ : List Addr} : ∀ {v : List GV} {u : List V}, cVs v = some u → PRs W S ρ v u
  | [], u, h => by cases h; exact .nil
  | v :: vs, u, h => by
    unfold cVs at h
    cases e1 : cV v with
    | none => simp only [e1] at h; cases h
    | some x =>
      simp only [e1] at h
      cases e2 : cVs vs with
      | none => simp only [e2] at h; cases h
      | some xs =>
        simp only [e2] at h
        cases h
        exact .cons (cV_pr e1) (cVs_pr e2)
/-- what a call of f wants to know -/
structure CallOk (X : Cx) (n : Cn) (cf : List GV → Cells → Res GV) (x : Str) (dv : List GV) : Prop where
  ex : ∃ (k np : Nat) (f : Addr) (fd : FuncData) (ps : List Str) (ds : List Value) (dvs : List V), FnOk X.prog X.w X.K X.mg X.base (L2.CX X.prog X.w) k f fd ps (spF n.W n.xc np cf) ∧ Room k X.A ∧ X.mg x = some (.ref f) ∧ PySem.W.keepIn X.K (.ref f) = true ∧
    Binds X.K fd ps ds ∧ Vals dvs ds ∧ cVs dv = some dvs ∧ ∀ xs G, xs.length ≠ np → cf xs G = .no
section
variable {X : Cx} {n : Cn} {pos : Pos}
theorem call_post {n : Cn} {cf : List GV → Cells → Res GV} {np : Nat} {S H1 : Hp} {ρ : List Addr} {σ : L2.St} {G : Cells} {v dv : List GV} {us dvs : List V} {Q : VK} (hs : Hs n.W S ρ G H1) (pv : PRs n.W S ρ v us) (hd : cVs dv = some dvs) (hlen : ∀ xs G, xs.length ≠ np → cf xs G = .no) (p : Post n.W n.xc n.Wx σ S ρ H1 (PpV n.W) (cf (v ++ dv) G) Q) :
    spF n.W n.xc np cf (us ++ dvs) H1 Q (fun cls d H => n.Wx cls d σ H) := by
  refine ⟨S, ρ, G, v ++ dv, hs, pv.append (cVs_pr hd), ?_, ?_⟩
  · by_cases c : (v ++ dv).length = np
    · exact c
    · rw [hlen _ _ c] at p
      exact p.elim
  · cases e : cf (v ++ dv) G with
    | ok a G' => rw [e] at p; exact p
    | ex C fs G' => rw [e] at p; exact p
    | no => rw [e] at p; exact p
theorem se_call {e : Expr} {es : List Expr} {x : Str} {p : Pos} {dv : List GV} {cf : List GV → Cells → Res GV} {ea : List Sl → Cells → Res (List GV)} (hc : CallOk X n cf x dv) (tk : Takes X n.Wx) (hg : Gl X x) (hdb : (x == ("__debug__" : Str)) = false) (ha : SA X n (e :: es) ea) (hns : noStar e = true) (hns2 : es.all noStar = true) :
    SE X n (.Call (.Name x p) (e :: es) [] pos) fun g G => (ea g G).bind fun xs G => cf (xs ++ dv) G := by
  obtain ⟨k, np, f, fd, ps, ds, dvs, F, hr, hm, hk, hb, hv, hd, hlen⟩ := hc.ex
  refine (pe_callSD F hr hg hm hk hb hv (E := fun σ cls d H => n.Wx cls d σ H) (fun σ => passAt tk σ) ha hdb (star_cons hns) (star_plain hns2)).imp fun σ H Q h => RD.bind h fun B S ρ g G v us H1 R pv p => ?_
  exact call_post R.hs pv hd hlen p
theorem pe_callSD0 {CX : CXT} {k : Nat} {f : Addr} {fd : FuncData} {ps : List Str} {sp : Sp} {dvs : List V} {ds : List Value} {E : L2.St → XK} {x : Str} {p : Pos} (F : FnOk X.prog X.w X.K X.mg X.base CX k f fd ps sp) (hr : Room k X.A) (hg : Gl X x) (hm : X.mg x = some (.ref f)) (hk : PySem.W.keepIn X.K (.ref f) = true) (hb : Binds X.K fd ps ds) (hd : Vals dvs ds) (hx : ∀ σ, PassesAt CX X σ (E σ))
    (hdb : (x == ("__debug__" : Str)) = false) : PE X (.Call (.Name x p) [] [] pos) (tCallSD sp dvs E tNil) := by
  refine ⟨fun pins s σ H Q I h => ?_⟩
  refine wpAny_Call_Name_kw (ld_glob I hg hm ?_ hdb)
  exact PySem.W.callWith_K0 I.kIn hk (run_fnSD (us := []) F hr hb hd (hx σ) I .nil h)
theorem se_call0 {x : Str} {p : Pos} {dv : List GV} {cf : List GV → Cells → Res GV} (hc : CallOk X n cf x dv) (tk : Takes X n.Wx) (hg : Gl X x) (hdb : (x == ("__debug__" : Str)) = false) :
    SE X n (.Call (.Name x p) [] [] pos) fun g G => (Res.ok [] G).bind fun xs G => cf (xs ++ dv) G := by
  obtain ⟨k, np, f, fd, ps, ds, dvs, F, hr, hm, hk, hb, hv, hd, hlen⟩ := hc.ex
  refine (pe_callSD0 F hr hg hm hk hb hv (E := fun σ cls d H => n.Wx cls d σ H) (fun σ => passAt tk σ) hdb).imp fun σ H Q ⟨B, S, ρ, g, G, R, p⟩ => ?_
  exact call_post (v := []) (us := []) R.hs .nil hd hlen p
end

/-! ### a def by its body -/
theorem start_rel {W : W0} {S H : Hp} {ρ : List Addr} {G : Cells} {xs : List GV} {vs : List V} {N : List Str} (hs : Hs W S ρ G H) (r : PRs W S ρ xs vs) : Rel W ⟨H, S, ρ⟩ S ρ (Gm.start N.length xs) G (L2.start N vs) H := by
  have hl := r.length
  have no_other : ∀ (i : Nat) (s : Sl), (Gm.start N.length xs)[i]? = some s → (∃ v, s = .val v ∧ xs[i]? = some v) ∨ s = .no := fun i s h => by
    unfold Gm.start at h
    by_cases hi : i < xs.length
    · rw [List.getElem?_append_left (by simpa using hi), List.getElem?_map] at h
      cases e : xs[i]? with
      | none => rw [e] at h; cases h
      | some v => rw [e] at h; cases h; exact .inl ⟨v, rfl, rfl⟩
    · rw [List.getElem?_append_right (by simpa using hi)] at h
      obtain ⟨_, e⟩ := List.getElem?_eq_some_iff.mp h
      rw [List.getElem_replicate] at e
      exact .inr e.symm
  refine ⟨hs, Ext.refl _ _ _, ?_, fun i v h => ?_, fun i ys h => ?_, fun i j ys zs a h => ?_, fun i h => ?_⟩
  · unfold Gm.start L2.start
    simp [hl]
  · rcases no_other i _ h with ⟨w, e, h1⟩ | e
    · cases e
      obtain ⟨u, h2, h3⟩ := r.get h1
      refine ⟨u, ?_, h3⟩
      unfold L2.start
      have hlt : i < vs.length := (List.getElem?_eq_some_iff.mp h2).1
      rw [List.getElem?_append_left (by simpa using hlt), List.getElem?_map, h2]; rfl
    · cases e
  · rcases no_other i _ h with ⟨w, e, h1⟩ | e <;> cases e
  · rcases no_other i _ h with ⟨w, e, h1⟩ | e <;> cases e
  · rcases no_other i _ h with ⟨w, e, h1⟩ | e <;> cases e
theorem pure_fn {W : W0} {xc : Str → Option (List Str)} {np : Nat} {cf : List GV → Cells → Res GV} {ex : List Sl → Cells → Rs} {N : List Str} {vs : List V} {H : Hp} {Q : VK} {E : XK} (h : spF W xc np cf vs H Q E) (hcf : ∀ xs G, xs.length = np → cf xs G = finR (ex (Gm.start N.length xs) G)) :
    rS ⟨W, xc, fun cls d _ H => E cls d H⟩ ex { nx := fun _ H' => Q .non H', rt := Q } (L2.start N vs) H := by
  obtain ⟨S, ρ, G, xs, hs, r, hl, p⟩ := h
  rw [hcf xs G hl] at p
  refine ⟨⟨H, S, ρ⟩, S, ρ, Gm.start N.length xs, G, start_rel hs r, ?_⟩
  cases e : ex (Gm.start N.length xs) G with
  | nx g G' => rw [e] at p; exact fun S' ρ' σ' H' _ _ R => p S' ρ' .non H' R.ext R.hs .non
  | rt v G' => rw [e] at p; exact fun S' ρ' u H' e' hs' pv => p S' ρ' u H' e' hs' pv
  | bk g G' => rw [e] at p; exact p.elim
  | ct g G' => rw [e] at p; exact p.elim
  | ex C fs g G' => rw [e] at p; exact fun S' ρ' cls d σ' H' _ _ R x => p S' ρ' cls d H' R.ext R.hs x
  | no => rw [e] at p; exact p.elim

/-! ### raise -/
section
variable {X : Cx} {n : Cn} {pos : Pos}
/-- what making an exception asks -/
def rMk (n : Cn) (C : Str) (ns : List Str) (ea : List Sl → Cells → Res (List GV)) : L2.St → Hp → XK → Prop := fun σ H Q => n.rd (PpL n.W) ea σ H fun us H1 => us.length = ns.length ∧ ∀ cls, n.W.mg C = some cls → (ns = [] → Q cls none H1) ∧
  (ns ≠ [] → ∀ d prs, H1 d = none → (∀ (f : Str) (u : V), (ns.zip us).lookup f = some u → prs.lookup f = some u) → Q cls (some d) (upd H1 d (.xd prs)))
theorem zip_rel {W : W0} {S : Hp} {ρ : List Addr} {f : Str} {v : GV} : ∀ {ns : List Str} {fs : List GV} {us : List V}, PRs W S ρ fs us → (ns.zip fs).lookup f = some v → ∃ u, (ns.zip us).lookup f = some u ∧ PR W S ρ v u
  | [], _, _, _, h => by cases h
  | _ :: _, _, _, .nil, h => by cases h
  | m :: ns, _, _, .cons r rs, h => by
    rw [List.zip_cons_cons, List.lookup_cons] at h ⊢
    cases e : (f == m) with
    | true => simp only [e] at h ⊢; cases h; exact ⟨_, rfl, r⟩
    | false => simp only [e] at h ⊢; exact zip_rel rs h
theorem ss_rse {e : Expr} {C : Str} {ns : List Str} {ea : List Sl → Cells → Res (List GV)} (hc : X.calm = true) (tk : Takes X n.Wx) (hx : n.xc C = some ns) (he : PMk X e (rMk n C ns ea)) :
    SS X n (.Raise (some e) none pos) fun g G => (ea g G).thn g fun xs G => if ns.length = xs.length then .ex C xs g G else .no := by
  refine (ps_raise hc tk he).imp fun D σ H q => rs_thn (f := fun g xs G => if ns.length = xs.length then .ex C xs g G else .no) q fun B S0 ρ0 g G0 S ρ G v us H1 R0 e1 R pv p => ?_
  by_cases hl : ns.length = v.length
  · replace p : PoS n B S ρ (.ex C v g G) D := by simpa [hl] using p
    refine ⟨by rw [pv.length, hl], fun cls hm => ⟨fun h0 => ?_, fun h0 d prs hd hp => ?_⟩⟩
    · exact p S ρ cls none σ H1 (HLe.refl _) (List.prefix_refl _) R ⟨hm, ns, hx, hl, fun z => absurd h0 z⟩
    · have ee := ext_new (ρ := ρ) (o := HO.xd prs) hd (R.hs.sfree hd)
      refine p _ ρ cls (some d) σ _ ee.sle (List.prefix_refl _) (R.step ee (R.hs.new hd)) ⟨hm, ns, hx, hl, fun _ => ⟨d, prs, rfl, upd_same, fun f w hw => ?_⟩⟩
      obtain ⟨u, h1, h2⟩ := zip_rel pv hw
      exact ⟨u, hp f u h1, h2.mono ee.sle (List.prefix_refl _)⟩
  · replace p : PoS n B S ρ .no D := by simpa [hl] using p
    exact p.elim
end
/-! ### the same, told of another holder -/
section
variable {W W' : W0} {S : Hp} {ρ : List Addr}
mutual
theorem PR.conv (h1 : W.K = W'.K) (h2 : W.mg = W'.mg) (h3 : W.fl = W'.fl) : ∀ {v : GV} {u : V}, PR W S ρ v u → PR W' S ρ v u
  | _, _, .non => .non
  | _, _, .bl b => .bl b
  | _, _, .int i => .int i
  | _, _, .str x => .str x
  | _, _, .tup h r => .tup (h1 ▸ h) (PRs.conv h1 h2 h3 r)
  | _, _, .lst h r => .lst h (PRs.conv h1 h2 h3 r)
  | _, _, .scr h t => .scr (h1 ▸ h) (h1 ▸ t)
  | _, _, .ins h m f r => .ins h (h2 ▸ m) (h3 ▸ f) (PRs.conv h1 h2 h3 r)
  | _, _, .cel h => .cel h
  | _, _, .ty n => .ty n
  | _, _, .glo h => .glo (h2 ▸ h)
theorem PRs.conv (h1 : W.K = W'.K) (h2 : W.mg = W'.mg) (h3 : W.fl = W'.fl) : ∀ {vs : List GV} {us : List V}, PRs W S ρ vs us → PRs W' S ρ vs us
  | _, _, .nil => .nil
  | _, _, .cons r rs => .cons (PR.conv h1 h2 h3 r) (PRs.conv h1 h2 h3 rs)
end
theorem Hs.conv {G : Cells} {H : Hp} (h1 : W.K = W'.K) (h2 : W.mg = W'.mg) (h3 : W.fl = W'.fl) (hs : Hs W S ρ G H) (hc : ∀ dd prs, W'.xd = some (dd, prs) → S dd = some (.xd prs) ∧ ∀ f v, W'.xf.lookup f = some v → ∃ u, prs.lookup f = some u ∧ PR W' S ρ v u) : Hs W' S ρ G H where
  le := hs.le
  len := hs.len
  cel := fun n a xs q1 q2 => by
    obtain ⟨us, t1, t2⟩ := hs.cel n a xs q1 q2
    exact ⟨us, t1, t2.conv h1 h2 h3⟩
  cS := hs.cS
  nod := hs.nod
  cur := hc
theorem Rel.conv {B : Bs} {g : List Sl} {G : Cells} {σ : L2.St} {H : Hp} (h1 : W.K = W'.K) (h2 : W.mg = W'.mg) (h3 : W.fl = W'.fl) (R : Rel W B S ρ g G σ H) (hc : ∀ dd prs, W'.xd = some (dd, prs) → S dd = some (.xd prs) ∧ ∀ f v, W'.xf.lookup f = some v → ∃ u, prs.lookup f = some u ∧ PR W' S ρ v u)
    (hx : ∀ (i : Nat), g[i]? = some Sl.exc → ∃ a : Addr, W'.xa = some a ∧ σ[i]? = some (some (V.ref a))) : Rel W' B S ρ g G σ H where
  hs := R.hs.conv h1 h2 h3 hc
  ext := R.ext
  len := R.len
  val := fun i v q => by
    obtain ⟨u, t1, t2⟩ := R.val i v q
    exact ⟨u, t1, t2.conv h1 h2 h3⟩
  own := fun i xs q => by
    obtain ⟨a, us, t1, t2, t3, t4⟩ := R.own i xs q
    exact ⟨a, us, t1, t2, t3.conv h1 h2 h3, t4⟩
  dst := R.dst
  exc := hx
end
theorem noExc_get : ∀ {g : List Sl} {i : Nat}, noExc g = true → g[i]? = some Sl.exc → False
  | [], _, _, h => by simp at h
  | s :: g, 0, h, e => by
    simp at e; subst e
    exact absurd h (by simp [noExc])
  | s :: g, i + 1, h, e => by
    refine noExc_get (g := g) (i := i) ?_ (by simpa using e)
    cases s <;> first | exact h | (simp [noExc] at h)
/-- the slot of a caught exception -/
theorem Rel.setx {W : W0} {B : Bs} {S H : Hp} {ρ : List Addr} {g : List Sl} {G : Cells} {σ : L2.St} {i : Nat} {a : Addr} (R : Rel W B S ρ g G σ H) (hx : W.xa = some a) : Rel W B S ρ (g.set i .exc) G (σ.set i (some (.ref a))) H where
  hs := R.hs
  ext := R.ext
  len := by rw [List.length_set, List.length_set]; exact R.len
  val := fun j w h => by
    by_cases e : i = j
    · subst e
      by_cases hl : i < g.length
      · rw [List.getElem?_set_self hl] at h; cases h
      · rw [List.getElem?_eq_none (by simpa using hl)] at h; cases h
    · rw [List.getElem?_set_ne e] at h
      rw [List.getElem?_set_ne e]
      exact R.val j w h
  own := fun j xs h => by
    by_cases e : i = j
    · subst e
      by_cases hl : i < g.length
      · rw [List.getElem?_set_self hl] at h; cases h
      · rw [List.getElem?_eq_none (by simpa using hl)] at h; cases h
    · rw [List.getElem?_set_ne e] at h
      rw [List.getElem?_set_ne e]
      exact R.own j xs h
  dst := fun j k xs ys a h1 h2 h3 h4 => by
    have ne : ∀ {m : Nat} {zs : List GV}, (g.set i .exc)[m]? = some (.own zs) → i ≠ m := fun {m zs} h e => by
      subst e
      by_cases hl : i < g.length
      · rw [List.getElem?_set_self hl] at h; cases h
      · rw [List.getElem?_eq_none (by simpa using hl)] at h; cases h
    have n1 := ne h1
    have n2 := ne h2
    rw [List.getElem?_set_ne n1] at h1 h3
    rw [List.getElem?_set_ne n2] at h2 h4
    exact R.dst j k xs ys a h1 h2 h3 h4
  exc := fun j h => by
    by_cases e : i = j
    · subst e
      by_cases hl : i < g.length
      · exact ⟨a, hx, by rw [List.getElem?_set_self (by rw [← R.len]; exact hl)]⟩
      · rw [List.getElem?_eq_none (by simpa using hl)] at h; cases h
    · rw [List.getElem?_set_ne e] at h
      rw [List.getElem?_set_ne e]
      exact R.exc j h
/-- what holds of the holder in a suite for an exception of class C with fields fs -/
structure Hold (n : Cn) (W' : W0) (a : Addr) (cls : Value) (d : Option Addr) (C : Str) (fs : List GV) (ns : List Str) : Prop where
  K : W'.K = n.W.K
  mg : W'.mg = n.W.mg
  fl : W'.fl = n.W.fl
  xa : W'.xa = some a
  cls : n.W.mg C = some cls
  xc : n.xc C = some ns
  xf : W'.xf = ns.zip fs
  xd : ns ≠ [] → ∃ dd prs, d = some dd ∧ W'.xd = some (dd, prs)
abbrev Cn.held (n : Cn) (W' : W0) : Cn := ⟨W', n.xc, fun _ _ _ _ => False⟩
theorem hold_of {n : Cn} {B : Bs} {S H : Hp} {ρ : List Addr} {g : List Sl} {G : Cells} {σ : L2.St} {C : Str} {fs : List GV} {cls : Value} {d : Option Addr} (a : Addr) (hn : n.W.xa = none) (R : Rel n.W B S ρ g G σ H) (x : XR n.W n.xc S ρ H C fs cls d) :
    ∃ W' ns, Hold n W' a cls d C fs ns ∧ Rel W' B S ρ g G σ H := by
  obtain ⟨hm, ns, hx, hl, hd⟩ := x
  have nox : ∀ (i : Nat), g[i]? = some Sl.exc → False := fun i e => by
    obtain ⟨a, h, _⟩ := R.exc i e
    rw [hn] at h; cases h
  by_cases h0 : ns = []
  · refine ⟨⟨n.W.K, n.W.mg, n.W.fl, some a, none, ns.zip fs⟩, ns, ⟨rfl, rfl, rfl, rfl, hm, hx, rfl, fun z => absurd h0 z⟩, ?_⟩
    exact Rel.conv (W := n.W) rfl rfl rfl R (fun dd prs e => by cases e) fun i e => (nox i e).elim
  · obtain ⟨dd, prs, e1, e2, e3⟩ := hd h0
    refine ⟨⟨n.W.K, n.W.mg, n.W.fl, some a, some (dd, prs), ns.zip fs⟩, ns, ⟨rfl, rfl, rfl, rfl, hm, hx, rfl, fun _ => ⟨dd, prs, e1, rfl⟩⟩, ?_⟩
    refine Rel.conv (W := n.W) rfl rfl rfl R (fun dd' prs' e => ?_) fun i e => (nox i e).elim
    cases e
    refine ⟨e2, fun f v q => ?_⟩
    obtain ⟨u, h1, h2⟩ := e3 f v q
    exact ⟨u, h1, PR.conv (W := n.W) (W' := ⟨n.W.K, n.W.mg, n.W.fl, some a, some (dd, prs), ns.zip fs⟩) rfl rfl rfl h2⟩
theorem unhold {n : Cn} {W' : W0} {B : Bs} {S H : Hp} {ρ : List Addr} {g : List Sl} {G : Cells} {σ : L2.St} {a : Addr} {cls : Value} {d : Option Addr} {C : Str} {fs : List GV} {ns : List Str} (h : Hold n W' a cls d C fs ns) (hd : n.W.xd = none) (R : Rel W' B S ρ g G σ H) (hx : noExc g = true) : Rel n.W B S ρ g G σ H :=
  R.conv h.K h.mg h.fl (fun dd prs e => by rw [hd] at e; cases e) fun i e => (noExc_get hx e).elim

/-! ### try -/
section
variable {X : Cx} {n : Cn} {pos : Pos}
/-- behind a clause: D as the suite sees it -/
def DX (i : Option Nat) (D : Ends) : Ends := match i with
  | some i => { nx := fun σ' H' => D.nx (σ'.set i none) H', rt := D.rt, bk := fun σ' H' => D.bk (σ'.set i none) H', ct := fun σ' H' => D.ct (σ'.set i none) H' }
  | none => D
def sgX (i : Option Nat) (a : Addr) (σ : L2.St) : L2.St := match i with
  | some i => σ.set i (some (.ref a))
  | none => σ
theorem suite_po {W' : W0} {B : Bs} {S : Hp} {ρ : List Addr} {a : Addr} {cls : Value} {d : Option Addr} {C : Str} {fs : List GV} {ns : List Str} {i : Option Nat} {r : Rs} {D : Ends} (h : Hold n W' a cls d C fs ns) (hd : n.W.xd = none) (p : PoS n B S ρ (outX i r) D) : PoS (n.held W') B S ρ r (DX i D) := by
  have back : ∀ {S3 : Hp} {ρ3 : List Addr} {g2 : List Sl} {G2 : Cells} {σ3 : L2.St} {H3 : Hp}, noExc (clrX i g2) = true → Rel W' B S3 ρ3 g2 G2 σ3 H3 → Rel n.W B S3 ρ3 (clrX i g2) G2 (match i with | some i => σ3.set i none | none => σ3) H3 := fun {S3 ρ3 g2 G2 σ3 H3} hx R => by
    cases i with
    | none => exact unhold h hd R hx
    | some i => exact unhold h hd R.setn hx
  cases r with
  | nx g G =>
    unfold outX at p
    by_cases c : noExc (clrX i g) = true
    · simp only [c, if_true] at p
      intro S' ρ' σ' H' l q R
      have := p S' ρ' _ H' l q (back c R)
      cases i <;> exact this
    · simp only [c] at p; exact p.elim
  | bk g G =>
    unfold outX at p
    by_cases c : noExc (clrX i g) = true
    · simp only [c, if_true] at p
      intro S' ρ' σ' H' l q R
      have := p S' ρ' _ H' l q (back c R)
      cases i <;> exact this
    · simp only [c] at p; exact p.elim
  | ct g G =>
    unfold outX at p
    by_cases c : noExc (clrX i g) = true
    · simp only [c, if_true] at p
      intro S' ρ' σ' H' l q R
      have := p S' ρ' _ H' l q (back c R)
      cases i <;> exact this
    · simp only [c] at p; exact p.elim
  | rt v G =>
    intro S' ρ' u H' e hs pv
    have := p S' ρ' u H' e (hs.conv h.K h.mg h.fl fun dd prs e => by rw [hd] at e; cases e) (pv.conv h.K h.mg h.fl)
    cases i <;> exact this
  | ex C fs g G => exact p.elim
  | no => exact p.elim
/-- what a clause's suite does with the exception at hand -/
def tsX (n : Cn) (es : Str → List GV → List Sl → Cells → Rs) : Addr → Value → Option Addr → TS := fun a cls d D σ H => ∃ W' C fs ns, Hold n W' a cls d C fs ns ∧ rS (n.held W') (es C fs) D σ H
abbrev SuiteOk (X : Cx) (n : Cn) (suite : List Stmt) (es : Str → List GV → List Sl → Cells → Rs) : Prop := ∀ (a : Addr) (oe : Obj) (cls : Value) (d : Option Addr) (pn : List (Addr × Obj)), Zc cls d oe → (∃ vs, oe.data = .fields vs) → ∀ W' C fs ns, Hold n W' a cls d C fs ns → SL (X.suite a ((a, oe) :: pn)) (n.held W') suite (es C fs)
theorem suite_ts {suite : List Stmt} {es : Str → List GV → List Sl → Cells → Rs} (h : SuiteOk X n suite es) (a : Addr) (oe : Obj) (cls : Value) (d : Option Addr) (pn : List (Addr × Obj)) (hz : Zc cls d oe) (hf : ∃ vs, oe.data = .fields vs) : PSs (X.suite a ((a, oe) :: pn)) suite (tsX n es a cls d) :=
  ⟨fun pins s σ H D I ⟨W', C, fs, ns, hh, q⟩ => (h a oe cls d pn hz hf W' C fs ns hh).run pins s σ H D I q⟩
/-- the suite is reached -/
theorem suite_go {B : Bs} {S H : Hp} {ρ : List Addr} {g : List Sl} {G : Cells} {σ : L2.St} {a : Addr} {cls : Value} {d : Option Addr} {C : Str} {fs : List GV} {i : Option Nat} {es : Str → List GV → List Sl → Cells → Rs} {D : Ends} (hn : n.W.xa = none) (hd : n.W.xd = none) (R : Rel n.W B S ρ g G σ H) (x : XR n.W n.xc S ρ H C fs cls d) (p : PoS n B S ρ (outX i (es C fs (putX i g) G)) D) :
    tsX n es a cls d (DX i D) (sgX i a σ) H := by
  obtain ⟨W', ns, hh, R'⟩ := hold_of a hn R x
  refine ⟨W', C, fs, ns, hh, B, S, ρ, putX i g, G, ?_, suite_po hh hd p⟩
  cases i with
  | none => exact R'
  | some i => exact R'.setx hh.xa
/-- what is known of a clause's class -/
structure ClsOk (X : Cx) (n : Cn) (sub : Str → Str → Bool) (D : Str) (c : Value) : Prop where
  nm : Names X D c
  tst : ∀ C ns cls, n.xc C = some ns → n.W.mg C = some cls → PySem.W.exmOne X.K cls c = some (sub C D)
def tryG (sub : Str → Str → Bool) (hs : List (Str × Option Nat × (Str → List GV → List Sl → Cells → Rs))) (C : Str) (fs : List GV) (g : List Sl) (G : Cells) : Rs := match hs with
  | [] => .ex C fs g G
  | h :: hs => if sub C h.1 = true then outX h.2.1 (h.2.2 C fs (putX h.2.1 g) G) else tryG sub hs C fs g G
def catchG (f : Str → List GV → List Sl → Cells → Rs) (r : Rs) : Rs := match r with
  | .ex C fs g G => f C fs g G
  | r => r
theorem ss_try1 {D : Str} {c : Value} {b suite : List Stmt} {b₀ : Stmt} {np pos' : Pos} {eb : List Sl → Cells → Rs} {es : Str → List GV → List Sl → Cells → Rs} {sub : Str → Str → Bool} (hs : X.stack = X.env :: X.outer) (hf : X.env.frame = some X.env.locals) (hn : n.W.xa = none) (hd : n.W.xd = none) (ck : ClsOk X n sub D c) (tk : Takes X n.Wx)
    (hb : ∀ (W : WX) (pn : List (Addr × Obj)) (xe : Value → Shared → Prop), Takes (X.tr pn xe) W → PassesOwn (model X.prog X.w) X.A X.env xe → SL (X.tr pn xe) ⟨n.W, n.xc, W⟩ b eb)
    (hsu : SuiteOk X n (b₀ :: suite) es) :
    SS X n (.Try b [.ExceptHandler (some (.Name D np)) none (b₀ :: suite) pos'] [] [] pos) fun g G => catchG (tryG sub [(D, none, es)]) (eb g G) := by
  refine (ps_try_only (tb := fun W => rS ⟨n.W, n.xc, W⟩ eb) (ts := tsX n es) hs hf ck.nm tk hb (suite_ts hsu)).imp fun D' σ H ⟨B, S, ρ, g, G, R, p⟩ => ?_
  refine ⟨B, S, ρ, g, G, R, ?_⟩
  replace p : PoS n B S ρ (catchG (tryG sub [(D, none, es)]) (eb g G)) D' := p
  cases e : eb g G with
  | nx g' G' => rw [e] at p; exact p
  | rt v G => rw [e] at p; exact p
  | bk g G => rw [e] at p; exact p
  | ct g G => rw [e] at p; exact p
  | no => rw [e] at p; exact p
  | ex C fs g' G' =>
    rw [e] at p
    replace p : PoS n B S ρ (if sub C D = true then outX none (es C fs (putX none g') G') else .ex C fs g' G') D' := p
    intro S' ρ' cls d σ' H' l q R' x
    obtain ⟨hm, ns, hx, _⟩ := id x
    refine ⟨sub C D, ck.tst C ns cls hx hm, fun h a ha => ?_, fun h => ?_⟩
    · rw [if_pos h] at p
      exact suite_go (i := none) hn hd R' x (PoS.mono p l q)
    · rw [if_neg (by rw [h]; simp)] at p
      exact p S' ρ' cls d σ' H' l q R' x
theorem ss_try2 {D : Str} {c : Value} {b suite : List Stmt} {b₀ : Stmt} {np pos' : Pos} {i : Nat} {y : Str} {eb : List Sl → Cells → Rs} {es : Str → List GV → List Sl → Cells → Rs} {sub : Str → Str → Bool} (hs : X.stack = X.env :: X.outer) (hf : X.env.frame = some X.env.locals) (hN : X.N.Nodup) (hi : X.N[i]? = some y) (hly : X.env.kindOf y = some .local) (hn : n.W.xa = none) (hd : n.W.xd = none) (ck : ClsOk X n sub D c) (tk : Takes X n.Wx)
    (hb : ∀ (W : WX) (pn : List (Addr × Obj)) (xe : Value → Shared → Prop), Takes (X.tr pn xe) W → PassesOwn (model X.prog X.w) X.A X.env xe → SL (X.tr pn xe) ⟨n.W, n.xc, W⟩ b eb)
    (hsu : SuiteOk X n (b₀ :: suite) es) :
    SS X n (.Try b [.ExceptHandler (some (.Name D np)) (some y) (b₀ :: suite) pos'] [] [] pos) fun g G => catchG (tryG sub [(D, some i, es)]) (eb g G) := by
  refine (ps_try_as (tb := fun W => rS ⟨n.W, n.xc, W⟩ eb) (ts := tsX n es) hs hf hN hi hly ck.nm tk hb (suite_ts hsu)).imp fun D' σ H ⟨B, S, ρ, g, G, R, p⟩ => ?_
  refine ⟨B, S, ρ, g, G, R, ?_⟩
  replace p : PoS n B S ρ (catchG (tryG sub [(D, some i, es)]) (eb g G)) D' := p
  cases e : eb g G with
  | nx g' G' => rw [e] at p; exact p
  | rt v G => rw [e] at p; exact p
  | bk g G => rw [e] at p; exact p
  | ct g G => rw [e] at p; exact p
  | no => rw [e] at p; exact p
  | ex C fs g' G' =>
    rw [e] at p
    replace p : PoS n B S ρ (if sub C D = true then outX (some i) (es C fs (putX (some i) g') G') else .ex C fs g' G') D' := p
    intro S' ρ' cls d σ' H' l q R' x
    obtain ⟨hm, ns, hx, _⟩ := id x
    refine ⟨sub C D, ck.tst C ns cls hx hm, fun h a ha => ?_, fun h => ?_⟩
    · rw [if_pos h] at p
      exact suite_go (i := some i) hn hd R' x (PoS.mono p l q)
    · rw [if_neg (by rw [h]; simp)] at p
      exact p S' ρ' cls d σ' H' l q R' x
end
end Gm
end

section
namespace Gm
open PySem PySem.Spec PyProof.Rows L2

/-! ### an operand that is only looked at -/
def evB (c : Ctx) (e : E) : List Sl → Cells → Res GV := fun g G => bor e g G (evalE c e g G)
def isVarE : E → Bool
  | .var _ => true
  | _ => false
theorem evB_no (c : Ctx) {e : E} (h : isVarE e = false) : evB c e = evalE c e := by
  funext g G
  cases e <;> first | rfl | cases h
theorem rd_rdB {g : List Sl} {i : Nat} {v : GV} (h : rd g i = some v) : rdB g i = some v := by
  have := rd_some h
  unfold rdB
  rw [this]
/-- where the value is known, looking at it is the same -/
theorem evB_ok (c : Ctx) (e : E) (g : List Sl) (G : Cells) : evalE c e g G = .no ∨ evB c e g G = evalE c e g G := by
  cases e with
  | var i =>
    show Res.of (rd g i) G = .no ∨ Res.of (rdB g i) G = Res.of (rd g i) G
    cases h : rd g i with
    | none => exact .inl rfl
    | some v => exact .inr (by rw [rd_rdB h])
  | _ => exact .inr rfl
section
variable {X : Cx} {n : Cn}
theorem st_b {e : Expr} {c : Ctx} {e' : E} (h : ST X n e (tst (evB c e'))) : ST X n e (tst (evalE c e')) := PT.imp h fun σ H Q ⟨B, S, ρ, g, G, R, p⟩ => by
  refine ⟨B, S, ρ, g, G, R, ?_⟩
  unfold tst at p ⊢
  rcases evB_ok c e' g G with q | q
  · rw [q] at p; exact p.elim
  · rw [q]; exact p
theorem se_one {op : BoolOp} {a : Expr} {pos : Pos} {ea : List Sl → Cells → Res GV} (h : SE X n a ea) : SE X n (.BoolOp op [a] pos) ea := pe_one h

/-! ### lists of one's own -/
def rCBF (n : Cn) (f : List GV → Option GV) (H0 : Hp) : List V → Hp → VK → Prop := fun us H Q => ∃ (S : Hp) (ρ : List Addr) (G : Cells) (σ : L2.St) (as : List GV) (v : GV), Hs n.W S ρ G H ∧ PRBs n.W S ρ H as us ∧ f as = some v ∧ (∀ p, H p = none → H0 p = none) ∧ Post n.W n.xc n.Wx σ S ρ H (PpF n.W H0) (Res.ok v G) Q
def rCBX (n : Cn) (f : List GV → Option GV) : List V → Hp → VK → Prop := fun us H Q => ∃ H0, rCBF n f H0 us H Q
theorem cb_listF (k : Okc X n) : CallR X (.type "list") (rCBX n (bltV .listt)) := by
  rintro pins s σ0 H xs us Q I r ⟨H0, S, ρ, G, σ, as, v, hs, pa, e, h0, q⟩
  match as, e with
  | [.lst ys], e =>
    obtain ⟨x, rfl, px⟩ := pa.one
    obtain ⟨p, ws, rfl, t1, r1⟩ := px.lst_inv hs.le
    cases e
    exact call_list_of pins s σ0 H _ us Q I r ⟨p, ws, rfl, .inl (.inl (.inl t1)), fun l hl => Post.lstF q hs r1 hl (h0 l hl)⟩
  | [.tup ys], e =>
    obtain ⟨x, rfl, px⟩ := pa.one
    obtain ⟨p, ws, rfl, s1, t1, r1⟩ := px.tup_inv hs.le
    cases e
    exact call_list_of pins s σ0 H _ us Q I r ⟨p, ws, rfl, .inr (k.K ▸ t1), fun l hl => Post.lstF q hs r1 hl (h0 l hl)⟩
theorem sf_list {p pos : Pos} {e : Expr} {ea : List Sl → Cells → Res (List GV)} (k : Okc X n) (hg : Gl X "list") (hm : X.mg "list" = none) (hv : bootBuiltins "list" = some (.type "list")) (ha : SAB X n [e] ea) (hns : noStar e = true) :
    SF X n (.Call (.Name "list" p) [e] [] pos) fun g G => (ea g G).bind fun xs G => Res.of (bltV .listt xs) G := by
  refine (pe_callTy (cb_listF k) hg hm hv ha (by decide) (by decide) (star_cons hns) rfl).imp fun σ H Q h => RD.bindF h fun B S ρ g G as us H1 hd R pu p => ?_
  cases eo : bltV .listt as with
  | none => rw [eo] at p; exact p.elim
  | some v => rw [eo] at p; exact ⟨H, S, ρ, G, σ, as, v, R.hs, pu, eo, hd, p⟩
def rGX (n : Cn) (o : GV → GV → Option GV) : R2 := fun x y H Q => ∃ (H0 S : Hp) (ρ : List Addr) (G : Cells) (σ : L2.St) (a b : GV) (v : GV), Hs n.W S ρ G H ∧ PRB n.W S ρ H a x ∧ PRB n.W S ρ H b y ∧ o a b = some v ∧ (∀ p, H p = none → H0 p = none) ∧
  Post n.W n.xc n.Wx σ S ρ H (PpF n.W H0) (Res.ok v G) Q
def mulL (x y : GV) : Option GV := match x, y with
  | .lst xs, .int k => binV .mul (.lst xs) (.int k)
  | _, _ => none
theorem opg_mulF : OpR X (binaryOp .Mult) (rGX n mulL) := by
  rintro pins s σ0 H x y v u Q I rx ry ⟨H0, S, ρ, G, σ, a, b, w, hs, pa, pb, e, h0, q⟩
  cases a with
  | lst xs =>
    cases b with
    | int j =>
      have e' : (if decide (-(2 ^ 63) ≤ j) && decide (j < 2 ^ 63) && szOk (xs.length * j.toNat) then some (GV.lst (List.replicate j.toNat xs).flatten) else none) = some w := e
      split at e'
      · rename_i c
        cases e'
        simp only [Bool.and_eq_true, decide_eq_true_eq] at c
        obtain ⟨⟨c1, c2⟩, c3⟩ := c
        obtain ⟨a1, us, rfl, t1, r1⟩ := pa.lst_inv hs.le
        have e2 := pb.int_inv
        subst e2
        exact op_rep pins s σ0 H _ _ v u Q I rx ry ⟨a1, j, us, rfl, rfl, t1, c1, c2, by rw [r1.length]; exact szOk_iff c3, fun p hp => Post.lstF q hs (r1.rep _) hp (h0 p hp)⟩
      · cases e'
    | _ => cases e
  | _ => cases b <;> cases e
theorem sf_mul {a b : Expr} {pos : Pos} {eva evb : List Sl → Cells → Res GV} (ha : SB X n a eva) (hb : SB X n b evb) :
    SF X n (.BinOp a .Mult b pos) fun g G => (eva g G).bind fun x G => (evb g G).bind fun y G => Res.of (mulL x y) G := by
  refine (pe_op (opg_mulF (n := n)) ha hb).imp fun σ H Q h => RD.bindF h fun B S ρ g G a x H1 hd R pa p => ?_
  refine ⟨B, S, ρ, g, G, R, Post.bind p fun b G' S1 ρ1 y H2 _ e hs pb p' => ?_⟩
  cases eo : mulL a b with
  | none => rw [eo] at p'; exact p'.elim
  | some v =>
    rw [eo] at p'
    exact ⟨H, S1, ρ1, G', σ, a, b, v, hs, pa.step e, pb, eo, fun q hq => hd q (e.fresh hq), p'⟩
end
end Gm
end

section
namespace Gm
open PySem PySem.Spec PyProof.Rows L2

/-! ### sorted -/
theorem insI_perm (x : Int) : ∀ ys, (insI x ys).Perm (x :: ys)
  | [] => List.Perm.refl _
  | y :: ys => by
    unfold insI
    split
    · exact List.Perm.refl _
    · exact ((insI_perm x ys).cons y).trans (List.Perm.swap x y ys)
theorem srtI_perm : ∀ xs, (srtI xs).Perm xs
  | [] => List.Perm.refl _
  | x :: xs => (insI_perm x _).trans ((srtI_perm xs).cons x)
theorem insI_up (x : Int) : ∀ {ys : List Int}, ys.Pairwise (· ≤ ·) → (insI x ys).Pairwise (· ≤ ·)
  | [], _ => by simp [insI]
  | y :: ys, h => by
    unfold insI
    have h' := List.pairwise_cons.mp h
    split
    · rename_i c
      refine List.pairwise_cons.mpr ⟨fun z hz => ?_, h⟩
      rcases List.mem_cons.mp hz with rfl | hz
      · exact c
      · exact Int.le_trans c (h'.1 z hz)
    · rename_i c
      refine List.pairwise_cons.mpr ⟨fun z hz => ?_, insI_up x h'.2⟩
      rcases List.mem_cons.mp ((insI_perm x ys).mem_iff.mp hz) with rfl | hz
      · omega
      · exact h'.1 z hz
theorem srtI_up : ∀ xs, (srtI xs).Pairwise (· ≤ ·)
  | [] => List.Pairwise.nil
  | x :: xs => insI_up x (srtI_up xs)
theorem srtI_eq {xs ys : List Int} (hp : ys.Perm xs) (hu : ys.Pairwise (· ≤ ·)) : ys = srtI xs := by
  have h1 := hp.trans (srtI_perm xs).symm
  have h2 := srtI_up xs
  first
    | exact h1.eq_of_pairwise (fun x y _ _ h1 h2 => Int.le_antisymm h1 h2) hu h2
    | exact List.Perm.eq_of_pairwise (fun x y _ _ h1 h2 => Int.le_antisymm h1 h2) hu h2 h1
    | exact h1.eq_of_sorted (fun x y _ _ h1 h2 => Int.le_antisymm h1 h2) hu h2
theorem prs_ints {W : W0} {S : Hp} {ρ : List Addr} : ∀ (ns : List Int), PRs W S ρ (ns.map GV.int) (ns.map V.int)
  | [] => .nil
  | i :: ns => .cons (.int i) (prs_ints ns)
section
variable {X : Cx} {n : Cn}
theorem cb_sorted : CallR X (.builtin "sorted") (rCB n (bltV .sorted)) := by
  rintro pins s σ0 H xs us Q I r ⟨S, ρ, G, σ, as, v, hs, pa, e, q⟩
  match as, e with
  | [.lst ys], e =>
    obtain ⟨x, rfl, px⟩ := pa.one
    obtain ⟨p, ws, rfl, t1, r1⟩ := px.lst_inv hs.le
    have e' : (intsG ys).map (fun ns => GV.lst ((srtI ns).map GV.int)) = some v := e
    cases ei : intsG ys with
    | none => rw [ei] at e'; cases e'
    | some ns =>
      rw [ei] at e'; cases e'
      have ew := PRs.ints_inv ei r1
      subst ew
      refine cr_sortedI pins s σ0 H _ us Q I r ⟨p, ns, rfl, .inl (.inl t1), fun ns' l hp ho hl => ?_⟩
      obtain rfl := srtI_eq hp ho
      exact Post.lst q hs (prs_ints _) hl

/-! ### t[::-1] -/
theorem rev_adj (k : Nat) : Builtin.Slice.sliceAdjust none none (-1) (k : Int) = ((k : Int) - 1, -1) := rfl
theorem rev_places {k : Nat} (h : 0 < k) : Builtin.Slice.slicePlaces ((k : Int) - 1) (-1) (-1) = k := by
  unfold Builtin.Slice.slicePlaces
  rw [if_neg (show ¬ ((-1 : Int) > 0) by omega), if_pos (show ((k : Int) - 1 > -1) by omega)]
  have : ((k : Int) - 1 - -1 - 1) / (- -1) + 1 = k := by
    rw [show (- -1 : Int) = 1 from rfl, Int.ediv_one]; omega
  rw [this]; rfl
theorem rev_pick (xs : Array Value) : ((List.range xs.size).filterMap fun (m : Nat) => xs[(((xs.size : Int) - 1) + (m : Int) * (-1)).toNat]?) = xs.toList.reverse := by
  have h : ∀ (l : List Nat), (∀ m ∈ l, m < xs.size) → (l.filterMap fun (m : Nat) => xs[(((xs.size : Int) - 1) + (m : Int) * (-1)).toNat]?) = l.map fun m => (xs.toList.reverse[m]?).getD default := by
    intro l
    induction l with
    | nil => intro _; rfl
    | cons m l ih =>
      intro hm
      have hlt : m < xs.size := hm m List.mem_cons_self
      have e1 : (((xs.size : Int) - 1) + (m : Int) * (-1)).toNat = xs.size - 1 - m := by omega
      have e2 : xs[xs.size - 1 - m]? = some (xs[xs.size - 1 - m]'(by omega)) := Array.getElem?_eq_getElem (by omega)
      have e3 : xs.toList.reverse[m]? = some (xs[xs.size - 1 - m]'(by omega)) := by
        rw [List.getElem?_reverse (by simpa using hlt)]
        simpa using e2
      rw [List.filterMap_cons, e1, e2, List.map_cons, e3, ih fun k hk => hm k (List.mem_cons_of_mem _ hk)]
      rfl
  rw [h _ fun m hm => List.mem_range.mp hm]
  apply List.ext_getElem?
  intro m
  rw [List.getElem?_map]
  by_cases hm : m < xs.size
  · rw [List.getElem?_range hm]
    have : m < xs.toList.reverse.length := by simpa using hm
    show some ((xs.toList.reverse[m]?).getD default) = xs.toList.reverse[m]?
    rw [List.getElem?_eq_getElem this]
    rfl
  · rw [List.getElem?_eq_none (by simpa using hm), List.getElem?_eq_none (by simpa using hm)]
    rfl
end
section
variable {prog : Program} {w : World} {A : Around} {E : Value → Shared → Prop} {s : Shared}
theorem applied_rev {sl : Addr} {vs : Value} {k : Nat} {Q : Int × Int × Nat → Shared → Prop} (h0 : 0 < k) (hs : s.heap.IsSliceOf sl .none .none vs) (ps : IsPart vs (some (-1))) (h : Q ((k : Int) - 1, -1, k) s) : wpAny (model prog w) A (Builtin.Slice.sliceApplied (.ref sl) (pure (k : Int))) Q E s := by
  obtain ⟨o, ho, _, hd⟩ := id hs
  unfold Builtin.Slice.sliceApplied Builtin.Slice.sliceFields
  refine wpAny_bind (wpAny_bind (wpAny_field ho hd (x := .none) rfl (wpAny_bind (wpAny_field ho hd (x := .none) rfl (wpAny_bind (wpAny_field ho hd (x := vs) rfl (wpAny_pure ?_)))))))
  refine wpAny_bind (HT.slicePart_ ps ?_)
  show wpAny _ _ (if ((-1 : Int) == 0) = true then _ else _) _ _ s
  rw [if_neg (by decide)]
  refine wpAny_bind (slicePart_none (wpAny_bind (slicePart_none (wpAny_bind (wpAny_pure ?_)))))
  show wpAny _ _ (match Builtin.Slice.sliceAdjust none none (-1) (k : Int) with | (lo, hi) => pure (lo, (-1 : Int), Builtin.Slice.slicePlaces lo hi (-1))) _ _ s
  rw [rev_adj]
  show wpAny _ _ (pure ((k : Int) - 1, (-1 : Int), Builtin.Slice.slicePlaces ((k : Int) - 1) (-1) (-1))) _ _ s
  rw [rev_places h0]
  exact wpAny_pure h
theorem item_rev {t sl : Addr} {items : Array Value} {vs : Value} {Q : Value → Shared → Prop} (ht : IsTup s.heap t items) (hs : s.heap.IsSliceOf sl .none .none vs) (ps : IsPart vs (some (-1))) (h0 : 0 < items.size) (hsz : items.size ≤ sizeLine)
    (h : Q (.ref s.heap.objs.size) { s with heap := s.heap.push { cls := .type "tuple", data := .seq items.toList.reverse.toArray } }) : wpAny (model prog w) A (getItem (.ref t) (.ref sl)) Q E s := by
  have hok : sizeOk (.seq items.toList.reverse.toArray) := by
    show items.toList.reverse.toArray.size ≤ sizeLine
    rw [List.size_toArray, List.length_reverse, Array.length_toList]; exact hsz
  obtain ⟨o, ho, hc, _⟩ := id hs
  have hT : s.TypeIs (.ref sl) "slice" := ⟨o, ho, hc⟩
  unfold getItem
  try with_reducible refine wpAny_holding ?_
  first | refine wpAny_bind (wpAny_pure ?_) | skip
  refine wpAny_bind (wpAny_sequenceKey ht.typeIs (by decide) ?_)
  refine wpAny_bind (wpAny_callSpecial?_slot (name := Str.ofString "__getitem__") ht.typeIs slot_tuple_getitem (wpAny_call_entry slot_tuple_getitem ht.typeIs entry_tuple_getitem ?_ (args_tuple_getitem _ _)))
  show wpAny _ _ (Builtin.Tuple.tupleItemsOf (.ref t) >>= _) _ _ s
  refine wpAny_bind (tupleItemsOf_ ht ?_)
  refine wpAny_bind (wpAny_typeOf hT ?_)
  rw [if_pos (by decide)]
  refine wpAny_bind (applied_rev h0 hs ps ?_)
  have hno : ¬ ((((items.size : Int) - 1) == 0 && (-1 : Int) == 1 && items.size == items.size) = true) := by
    rw [show ((-1 : Int) == 1) = false from rfl, Bool.and_false, Bool.false_and]; exact Bool.false_ne_true
  show wpAny _ _ (if (((items.size : Int) - 1) == 0 && (-1 : Int) == 1 && items.size == items.size) = true then _ else _) _ _ s
  rw [if_neg hno]
  have e := rev_pick items
  first
    | rw [e]
    | (show wpAny _ _ _ _ _ s; simp only [e])
  first
    | exact wpAny_bind (m := Builtin.Tuple.tupleExact _) (wpAny_newObj_type (wpAny_pure ⟨_, rfl, wpAny_pure h⟩) hok)
    | exact wpAny_bind (m := Builtin.Tuple.tupleExact _) (wpAny_newObj_type (wpAny_bind (wpAny_pure (wpAny_pure ⟨_, rfl, wpAny_pure h⟩))) hok)
    | exact wpAny_bind (wpAny_bind (m := Builtin.Tuple.tupleExact _) (wpAny_newObj_type (wpAny_pure (wpAny_pure ⟨_, rfl, wpAny_pure h⟩)) hok))
    | exact wpAny_bind (wpAny_bind (m := Builtin.Tuple.tupleExact _) (wpAny_newObj_type (wpAny_pure ⟨_, rfl, wpAny_pure h⟩) hok))
end
section
variable {X : Cx} {n : Cn}
theorem PRs.reverse {W : W0} {S : Hp} {ρ : List Addr} {xs : List GV} {us : List V} (h : PRs W S ρ xs us) : PRs W S ρ xs.reverse us.reverse := by
  induction xs generalizing us with
  | nil => cases h; exact .nil
  | cons x xs ih =>
    cases h with
    | cons a r =>
      rw [List.reverse_cons, List.reverse_cons]
      exact (ih r).append (.cons a .nil)
theorem pe_revT {e : Expr} {te : TE} {k : Nat} {p1 p2 p3 pos : Pos} (he : PE X e te) : PE X (.Subscript e (.Slice none none (some (.UnaryOp .USub (.Constant (.int 1) k p1) p2)) p3) pos) (fun σ H Q => te σ H fun x H1 => ∃ a xs, x = .ref a ∧ SqT X.K H1 a xs ∧ xs ≠ [] ∧ ∀ p, H1 p = none → Q (.ref p) (upd H1 p (.tup xs.reverse))) := by
  refine ⟨fun pins s σ H Q I h => ?_⟩
  have hst : PO X (some (.UnaryOp .USub (.Constant (.int 1) k p1) p2)) (tPart (tUn (rU fun i => .int (-i)) (tC (.int 1)))) := po_some (pe_un un_neg pe_int)
  refine Subscript_ (thn (he.run pins s σ H _ I h) fun v s1 ⟨x, H1, I1, r1, a, xs, ex, hx, hne, q⟩ => ?_)
  subst ex
  cases r1
  refine wpAny_Slice (thn (po_none.run pins s1 σ H1 (fun o H2 => o = none ∧ H2 = H1) I1 ⟨rfl, rfl⟩) fun vl s2 ⟨l, H2, I2, pl, el, e2⟩ => ?_)
  subst el e2
  refine thn (po_none.run pins s2 σ H2 (fun o H3 => o = none ∧ H3 = H2) I2 ⟨rfl, rfl⟩) fun vu s3 ⟨u, H3, I3, pu, eu, e3⟩ => ?_
  subst eu e3
  refine thn (hst.run pins s3 σ H3 (fun o H4 => o = some (-1) ∧ H4 = H3) I3 ⟨1, rfl, -1, rfl, rfl, rfl⟩) fun vs s4 ⟨o, H4, I4, ps, eo, e4⟩ => ?_
  subst eo e4
  cases pl
  cases pu
  have I5 : Inv X pins σ H4 { s4 with heap := s4.heap.push { cls := .type "slice", data := .fields #[.none, .none, vs] } } := I4.kept (t' := s4.toks) fun b ob z => Heap.get?_push_of_some _ z
  obtain ⟨its, r, ht, hz⟩ := I5.tuple hx
  have hlen := r.length
  have h0 : 0 < its.toArray.size := by
    rw [List.size_toArray, ← hlen]
    cases xs with
    | nil => exact absurd rfl hne
    | cons _ _ => simp
  show wpAny (model X.prog X.w) X.A (subscriptTail e (.Slice none none (some (.UnaryOp .USub (.Constant (.int 1) k p1) p2)) p3) (.ref a) (.ref s4.heap.objs.size)) (EP X pins σ Q) X.xe { s4 with heap := s4.heap.push { cls := .type "slice", data := .fields #[.none, .none, vs] } }
  refine tail_any (ops := [.ref a, .ref s4.heap.objs.size]) ht.typeIs slot_tuple_getitem.lookup ?_ (by with_unfolding_all rfl)
  refine item_rev ht (Heap.IsSliceOf.new _ .none .none vs) ps h0 (by rw [List.size_toArray, ← hlen]; exact hz) ?_
  refine ⟨.ref _, _, I5.laid (t' := s4.toks) (o := .tup xs.reverse) (fun b ob z => Heap.get?_push_of_some _ z) (Nat.le_refl _) ?_, rfl, q _ (I5.hok.fresh (Nat.le_refl _))⟩
  exact ⟨by rw [List.length_reverse]; exact hz, _, r.reverse, IsTup.new _ _⟩
theorem se_rev {e : Expr} {k : Nat} {p1 p2 p3 pos : Pos} {ev : List Sl → Cells → Res GV} (ok : Okc X n) (he : SB X n e ev) :
    SE X n (.Subscript e (.Slice none none (some (.UnaryOp .USub (.Constant (.int 1) k p1) p2)) p3) pos) fun g G => ((ev g G).bind fun x G => (Res.ok [] G).bind fun xs G => .ok (x :: xs) G).bind fun xs G => Res.of (bltV .rev xs) G := by
  refine (pe_revT he).imp fun σ H Q q => ?_
  simp only [Res.bind_bind] at q
  refine RD.bind q fun B S ρ g G x ux H1 R px p => ?_
  cases x with
  | tup xs =>
    replace p : Post n.W n.xc n.Wx σ S ρ H1 (PpV n.W) (Res.of (if xs.isEmpty then none else some (GV.tup xs.reverse)) G) Q := p
    obtain ⟨a, us, rfl, s1, t1, r1⟩ := px.tup_inv R.hs.le
    by_cases hx : xs.isEmpty = true
    · rw [if_pos hx] at p; exact p.elim
    · rw [if_neg hx] at p
      have hne : us ≠ [] := fun z => by
        have := r1.length
        rw [z] at this
        cases xs with
        | nil => exact hx rfl
        | cons _ _ => cases this
      exact ⟨a, us, rfl, ok.K ▸ t1, hne, fun l hl => Post.tup p R.hs r1.reverse hl⟩
  | _ => exact p.elim
end
end Gm
end

section
namespace Gm
open PySem PySem.Spec PyProof.Rows L2

/-! ### try with several clauses, with names or without -/
abbrev Clz := Value × Option Nat × (Addr → Value → Option Addr → TS)
def wMix (K : PySem.W.Frag) (Wo : WX) (D : Ends) : List Clz → WX
  | [] => Wo
  | q :: r => fun cls d σ H => ∃ b, PySem.W.exmOne K cls q.1 = some b ∧ (b = true → ∀ a, H a = none → q.2.2 a cls d (DX q.2.1 D) (sgX q.2.1 a σ) H) ∧ (b = false → wMix K Wo D r cls d σ H)
abbrev SuitePS (X : Cx) (ts : Addr → Value → Option Addr → TS) (b : List Stmt) : Prop := ∀ (a : Addr) (oe : Obj) (cls : Value) (d : Option Addr) (pn : List (Addr × Obj)), Zc cls d oe → (∃ vs, oe.data = .fields vs) → PSs (X.suite a ((a, oe) :: pn)) b (ts a cls d)
inductive ClzOk (X : Cx) : List ExceptHandler → List Clz → Prop
  | nil : ClzOk X [] []
  | bare {x : Str} {c : Value} {ts : Addr → Value → Option Addr → TS} {b₀ : Stmt} {b : List Stmt} {p p' : Pos} {hds : List ExceptHandler} {l : List Clz} (hc : Names X x c) (hsu : SuitePS X ts (b₀ :: b)) (r : ClzOk X hds l) :
      ClzOk X (.ExceptHandler (some (.Name x p)) none (b₀ :: b) p' :: hds) ((c, none, ts) :: l)
  | named {x y : Str} {i : Nat} {c : Value} {ts : Addr → Value → Option Addr → TS} {b₀ : Stmt} {b : List Stmt} {p p' : Pos} {hds : List ExceptHandler} {l : List Clz} (hi : X.N[i]? = some y) (hy : X.env.kindOf y = some .local) (hc : Names X x c) (hsu : SuitePS X ts (b₀ :: b)) (r : ClzOk X hds l) :
      ClzOk X (.ExceptHandler (some (.Name x p)) (some y) (b₀ :: b) p' :: hds) ((c, some i, ts) :: l)
section
variable {X : Cx}
theorem ps_try_mix {body : List Stmt} {hd₀ : ExceptHandler} {hds : List ExceptHandler} {l : List Clz} {pos : Pos} {tb : WX → TS} {Wo : WX} (hst : X.stack = X.env :: X.outer) (hf : X.env.frame = some X.env.locals) (hN : X.N.Nodup) (tk : Takes X Wo)
    (hb : ∀ (W : WX) (pn : List (Addr × Obj)) (xe : Value → Shared → Prop), Takes (X.tr pn xe) W → PassesOwn (model X.prog X.w) X.A X.env xe → PSs (X.tr pn xe) body (tb W))
    (hh : ClzOk X (hd₀ :: hds) l) : PS X (.Try body (hd₀ :: hds) [] [] pos) fun D σ H => tb (wMix X.K Wo D l) D σ H := by
  refine ⟨fun pins s σ H D I h => wpAny_Try_except ?_⟩
  have ok := I.ok
  have hfr : X.A.frames = some (X.env :: X.outer) := by rw [ok.frames, hst]
  refine wpAny_mono ((hb (wMix X.K Wo D l) (X.pn ++ pins) (fun e s₁ => wpAny (model X.prog X.w) X.A (noteFrame e X.env) (fun _ s₂ => wpAny (model X.prog X.w) X.A (setFlight e none) (fun _ s₃ =>
    wpAny (model X.prog X.w) X.A (handleBy e X.env (hd₀ :: hds)) (SP X pins D) X.xe s₃) X.xe s₂) X.xe s₁) (fun u s' xx => ?_) PassesOwn.looking).run [] s σ H D (I.toTry _) h) (fun f s1 q => ?_) (fun e s1 q => q)
  · obtain ⟨a, B, sI, pins', σ1, H1, cls, d, rfl, J', nb, up, sky, na, os, ag, wish⟩ := xx
    have J : Inv X pins σ1 H1 sI := J'.ofTry ok
    show wpAny (model X.prog X.w) X.A (noteFrame (.ref a) X.env) _ _ _
    refine Sky.land (B := B) (a := a) (Z := Zc cls d) (L := X.env.locals) Zc.steady hfr hf (by rw [← hst]; exact sky) fun h3 fl up3 => ?_
    have J3 : Inv X pins σ1 H1 { s' with heap := h3 } := J.landed nb fl.1 (up.trans up3) os ag
    obtain ⟨oe, vs, ea, za, da⟩ := fl.there
    have out : a ∉ frs (X.env :: X.outer) := fun hm => by
      obtain ⟨_, o2, e2, no⟩ := fl.2.2.1.mem hm
      rw [ea] at e2; cases e2
      exact no _ da
    have nL : a ≠ X.env.locals := fun z => out (List.mem_filterMap.mpr ⟨X.env, List.mem_cons_self, by rw [hf, z]⟩)
    have nF : a ∉ X.fs := fun hm => by
      obtain ⟨e, he, q⟩ := List.mem_filterMap.mp hm
      exact out (List.mem_filterMap.mpr ⟨e, List.mem_cons_of_mem _ he, q⟩)
    have S3 := J3.suite ea da na nL nF
    have look : PySem.W.Looks (model X.prog X.w) h3 (typeOf (.ref a)) cls := fun A Q E s k q => wpAny_typeOf_ref (k _ _ ea) (by rw [za.1]; exact q)
    -- what a clause's name stands for
    have named : ∀ {x : Str} {c : Value} {p : Pos} {Q E : Value → Shared → Prop}, Names X x c → Q c { s' with heap := h3 } → wpAny (model X.prog X.w) (X.A.mark (some (.ref a))) (eval (.Name x p) X.env) Q E { s' with heap := h3 } := fun {x c p Q E} hc q => by
      obtain ⟨hg, hd, hm | ⟨hm, hv, hn⟩⟩ := hc
      · exact ld_glob (X := X.suite a ((a, oe) :: (X.pn ++ pins))) S3 hg hm q hd
      · exact ld_blt (X := X.suite a ((a, oe) :: (X.pn ++ pins))) S3 hg hm hv q hn hd
    have go : ∀ {hs : List ExceptHandler} {k : List Clz}, ClzOk X hs k → wMix X.K Wo D k cls d σ1 H1 → wpAny (model X.prog X.w) X.A (handleBy (.ref a) X.env hs) (SP X pins D) X.xe { s' with heap := h3 } := by
      intro hs k hk
      induction hk with
      | nil =>
        intro wish
        refine wpAny_handleBy_nil ?_
        obtain ⟨_, _, _, o, ws, T, oT, _, he, _, hd, h1, _⟩ := id fl
        have away : wpAny (model X.prog X.w) X.A (setFlight (.ref a) X.env.frame) (fun _ s4 => wpAny (model X.prog X.w) X.A (throw (.ref a) : Sem Flow) (SP X pins D) X.xe s4) X.xe { s' with heap := h3 } := by
          rw [hf]
          exact HandSPX.setFlight_upZ fl fun h4 held up4 => wpAny_throw (tk _ _ ⟨a, B, sI, pins, σ1, H1, cls, d, rfl, J, nb, (up.trans up3).trans up4, .inr (.inr (by rw [hst]; exact held)), na, os, ag, wish⟩)
        unfold PySem.passOn
        refine wpAny_bind (wpAny_field he hd h1 ?_)
        rw [if_neg (show ¬ ((Value.ref T == Value.none) = true) from by simp)]
        first
          | exact wpAny_bind (wpAny_pure (wpAny_bind away))
          | exact wpAny_bind away
      | bare hc hsu r ih =>
        intro ⟨b, hb1, yes, no⟩
        refine wpAny_handleBy_cons (codeAny_handlers_test (named hc ((PySem.W.exm_one (M := model X.prog X.w) J3.kIn look hb1).here ?_))) (by intro q; cases q)
        cases b with
        | false => exact ih (no rfl)
        | true =>
          refine codeAny_handlers_suite (HandSPX.lands_againZ fl fun h4 fl4 up4 => ?_)
          have J4 : Inv X pins σ1 H1 { s' with heap := h4 } := J.landed nb fl4.1 ((up.trans up3).trans up4) os ag
          obtain ⟨o4, v4, e4, z4, d4⟩ := fl4.there
          have S4 := J4.suite e4 d4 na nL nF
          refine wpAny_mono ((hsu a o4 cls d (X.pn ++ pins) z4 ⟨_, d4⟩).run [] _ _ H1 _ S4 (yes rfl a na)) (fun f s6 q => ?_) (fun _ _ z => z.elim)
          cases f with
          | next => obtain ⟨σ6, H6, S6, q6⟩ := q; exact ⟨_, _, S6.unsuite ok, q6⟩
          | brk => obtain ⟨σ6, H6, S6, q6⟩ := q; exact ⟨_, _, S6.unsuite ok, q6⟩
          | cont => obtain ⟨σ6, H6, S6, q6⟩ := q; exact ⟨_, _, S6.unsuite ok, q6⟩
          | ret u => obtain ⟨v6, σ6, H6, S6, r6, q6⟩ := q; exact ⟨_, _, _, S6.unsuite ok, r6, q6⟩
      | @named x y i c ts b₀ b p p' hds2 l2 hi hy hc hsu r ih =>
        intro ⟨b, hb1, yes, no⟩
        refine wpAny_handleBy_cons (codeAny_handlers_test (named hc ((PySem.W.exm_one (M := model X.prog X.w) J3.kIn look hb1).here ?_))) (by intro q; cases q)
        cases b with
        | false => exact ih (no rfl)
        | true =>
          refine codeAny_handlers_suite_as (HandSPX.lands_againZ fl fun h4 fl4 up4 => ?_)
          have J4 : Inv X pins σ1 H1 { s' with heap := h4 } := J.landed nb fl4.1 ((up.trans up3).trans up4) os ag
          obtain ⟨o4, v4, e4, z4, d4⟩ := fl4.there
          have S4 := J4.suite e4 d4 na nL nF
          refine store_ok (X := X.suite a ((a, o4) :: (X.pn ++ pins))) (v := .ref a) S4 hN hi (.inl hy) rfl (fun s5 S5 => ?_) (.inr hy)
          have gone : ∀ {s6 : Shared} {σ6 : L2.St} {H6 : Hp} {Q : Shared → Prop}, Inv (X.suite a ((a, o4) :: (X.pn ++ pins))) [] σ6 H6 s6 → (∀ s7, Inv X pins (σ6.set i none) H6 s7 → Q s7) →
              wpAny (model X.prog X.w) X.A (do bindName X.env y .none; unbindBehindTheSuite X.env y p') (fun _ s7 => Q s7) X.xe s6 := fun S6 hq => gone_ok (S6.unsuite ok) hN hi hy hq
          refine wpAny_mono ((hsu a o4 cls d (X.pn ++ pins) z4 ⟨_, d4⟩).run [] s5 _ H1 _ S5 (yes rfl a na)) (fun f s6 q => ?_) (fun _ _ z => z.elim)
          cases f with
          | next => obtain ⟨σ6, H6, S6, q6⟩ := q; exact gone S6 fun s7 J7 => ⟨_, _, J7, q6⟩
          | brk => obtain ⟨σ6, H6, S6, q6⟩ := q; exact gone S6 fun s7 J7 => ⟨_, _, J7, q6⟩
          | cont => obtain ⟨σ6, H6, S6, q6⟩ := q; exact gone S6 fun s7 J7 => ⟨_, _, J7, q6⟩
          | ret u => obtain ⟨v6, σ6, H6, S6, r6, q6⟩ := q; exact gone S6 fun s7 J7 => ⟨_, _, _, J7, r6, q6⟩
    exact go hh wish
  · cases f with
    | next => obtain ⟨σ1, H1, J1, q1⟩ := q; exact wpAny_execs_nil ⟨σ1, H1, J1.ofTry ok, q1⟩
    | brk => obtain ⟨σ1, H1, J1, q1⟩ := q; exact ⟨σ1, H1, J1.ofTry ok, q1⟩
    | cont => obtain ⟨σ1, H1, J1, q1⟩ := q; exact ⟨σ1, H1, J1.ofTry ok, q1⟩
    | ret u => obtain ⟨v, σ1, H1, J1, r1, q1⟩ := q; exact ⟨v, σ1, H1, J1.ofTry ok, r1, q1⟩
end

/-! ### .. over plain values -/
abbrev ClG := Str × Option Nat × (Str → List GV → List Sl → Cells → Rs)
inductive ClgOk (X : Cx) (n : Cn) (sub : Str → Str → Bool) : List ExceptHandler → List ClG → Prop
  | nil : ClgOk X n sub [] []
  | bare {D : Str} {c : Value} {es : Str → List GV → List Sl → Cells → Rs} {b₀ : Stmt} {b : List Stmt} {p p' : Pos} {hds : List ExceptHandler} {l : List ClG} (ck : ClsOk X n sub D c) (hsu : SuiteOk X n (b₀ :: b) es) (r : ClgOk X n sub hds l) :
      ClgOk X n sub (.ExceptHandler (some (.Name D p)) none (b₀ :: b) p' :: hds) ((D, none, es) :: l)
  | named {D y : Str} {i : Nat} {c : Value} {es : Str → List GV → List Sl → Cells → Rs} {b₀ : Stmt} {b : List Stmt} {p p' : Pos} {hds : List ExceptHandler} {l : List ClG} (hi : X.N[i]? = some y) (hy : X.env.kindOf y = some .local) (ck : ClsOk X n sub D c) (hsu : SuiteOk X n (b₀ :: b) es) (r : ClgOk X n sub hds l) :
      ClgOk X n sub (.ExceptHandler (some (.Name D p)) (some y) (b₀ :: b) p' :: hds) ((D, some i, es) :: l)
section
variable {X : Cx} {n : Cn}
theorem mix_of {sub : Str → Str → Bool} (hn : n.W.xa = none) (hd : n.W.xd = none) : ∀ {hds : List ExceptHandler} {hs : List ClG}, ClgOk X n sub hds hs → ∃ l, ClzOk X hds l ∧ ∀ {B : Bs} {S H : Hp} {ρ : List Addr} {C : Str} {fs : List GV} {g : List Sl} {G : Cells} {σ : L2.St} {cls : Value} {d : Option Addr} {D : Ends},
    PoS n B S ρ (tryG sub hs C fs g G) D → Rel n.W B S ρ g G σ H → XR n.W n.xc S ρ H C fs cls d → wMix X.K n.Wx D l cls d σ H
  | _, _, .nil => ⟨[], .nil, fun {B S H ρ C fs g G σ cls d D} p R x => p S ρ cls d σ H (HLe.refl _) (List.prefix_refl _) R x⟩
  | _, _, .bare (D := D0) (c := c) (es := es) (l := l0) ck hsu r => by
    obtain ⟨l, h1, h2⟩ := mix_of hn hd r
    refine ⟨(c, none, tsX n es) :: l, .bare ck.nm (suite_ts hsu) h1, fun {B S H ρ C fs g G σ cls d D} p R x => ?_⟩
    obtain ⟨hm, ns, hx, _⟩ := id x
    replace p : PoS n B S ρ (if sub C D0 = true then outX none (es C fs (putX none g) G) else tryG sub l0 C fs g G) D := p
    refine ⟨sub C D0, ck.tst C ns cls hx hm, fun h a ha => ?_, fun h => ?_⟩
    · rw [if_pos h] at p
      exact suite_go (i := none) hn hd R x p
    · rw [if_neg (by rw [h]; simp)] at p
      exact h2 p R x
  | _, _, .named (D := D0) (c := c) (i := i) (es := es) (l := l0) hi hy ck hsu r => by
    obtain ⟨l, h1, h2⟩ := mix_of hn hd r
    refine ⟨(c, some i, tsX n es) :: l, .named hi hy ck.nm (suite_ts hsu) h1, fun {B S H ρ C fs g G σ cls d D} p R x => ?_⟩
    obtain ⟨hm, ns, hx, _⟩ := id x
    replace p : PoS n B S ρ (if sub C D0 = true then outX (some i) (es C fs (putX (some i) g) G) else tryG sub l0 C fs g G) D := p
    refine ⟨sub C D0, ck.tst C ns cls hx hm, fun h a ha => ?_, fun h => ?_⟩
    · rw [if_pos h] at p
      exact suite_go (i := some i) hn hd R x p
    · rw [if_neg (by rw [h]; simp)] at p
      exact h2 p R x
theorem ss_tryN {b : List Stmt} {hd₀ : ExceptHandler} {hds : List ExceptHandler} {pos : Pos} {eb : List Sl → Cells → Rs} {hs : List ClG} {sub : Str → Str → Bool} (hst : X.stack = X.env :: X.outer) (hf : X.env.frame = some X.env.locals) (hN : X.N.Nodup) (hn : n.W.xa = none) (hd : n.W.xd = none) (tk : Takes X n.Wx)
    (hb : ∀ (W : WX) (pn : List (Addr × Obj)) (xe : Value → Shared → Prop), Takes (X.tr pn xe) W → PassesOwn (model X.prog X.w) X.A X.env xe → SL (X.tr pn xe) ⟨n.W, n.xc, W⟩ b eb)
    (hh : ClgOk X n sub (hd₀ :: hds) hs) : SS X n (.Try b (hd₀ :: hds) [] [] pos) fun g G => catchG (tryG sub hs) (eb g G) := by
  obtain ⟨l, h1, h2⟩ := mix_of hn hd hh
  refine (ps_try_mix (tb := fun W => rS ⟨n.W, n.xc, W⟩ eb) hst hf hN tk hb h1).imp fun D' σ H ⟨B, S, ρ, g, G, R, p⟩ => ?_
  refine ⟨B, S, ρ, g, G, R, ?_⟩
  replace p : PoS n B S ρ (catchG (tryG sub hs) (eb g G)) D' := p
  cases e : eb g G with
  | nx g' G' => rw [e] at p; exact p
  | rt v G => rw [e] at p; exact p
  | bk g G => rw [e] at p; exact p
  | ct g G => rw [e] at p; exact p
  | no => rw [e] at p; exact p
  | ex C fs g' G' =>
    rw [e] at p
    intro S' ρ' cls d σ' H' l' q R' x
    exact h2 (PoS.mono (show PoS n B S ρ (tryG sub hs C fs g' G') D' from p) l' q) R' x
end

/-! ### an own error without own __init__, made with nothing -/
section
variable {X : Cx} {C : Addr} {bmB : List Value} {B newId initId : String}
theorem pmk_own0 {x : Str} {p pos : Pos} (F : ExcBaseFacts B newId initId bmB) (q : PySem.W.excIn X.K C bmB newId = true) (gC : X.mg x = some (.ref C)) (kC : PySem.W.keepIn X.K (.ref C) = true) (r : Raises X (.ref C)) (hg : Gl X x) (hdb : (x == ("__debug__" : Str)) = false) :
    PMk X (.Call (.Name x p) [] [] pos) (fun _ H Q => Q (.ref C) none H) := by
  intro pins s σ H Q I h
  refine wpAny_Call_Name_kw (ld_glob I hg gC ?_ hdb)
  refine PySem.W.callWith_K0 I.kIn kC ?_
  show wpAny _ _ (call (.ref C) []) _ _ _
  obtain ⟨bm, N, nm, qn, bs, hdct, sn, sub, ab, col, dd, k0, k1, k2, k3, k5, mN, hC, hN, hni, T⟩ := exc_obj I.kIn q
  exact wpAny_call_exc_subT F T hC hN hni (fun h' e hm => mk_of I hm r h (I.hok.gone hm.new)) (by show 0 ≤ sizeLine; exact Nat.zero_le _)
end
end Gm
end

section
namespace Gm
open PySem PySem.Spec PyProof.Rows L2 GenW

/-! ### for in a generator -/
section
variable {M : Model} {A : Around} {R : GenEnd} {Y : Protocol} {n : Nat} {s₀ : Shared} {c : Code} {fs : List Frame} {s : Shared} {env : Env} {K : Flow → Sem PySem.Fin} {J : Value → Sem PySem.Fin} {gd : Bool → Bool} {lv : List Value → List Value}
theorem seg_For {tg it : Expr} {b : List Stmt} {pos : Pos} (hs : ∀ x, foldedSetIterable it env x = pure x)
    (h : wpAny M (A.over c fs) (eval it env) (fun v s1 => wpAny M (A.over c fs) (pyIter v) (fun i s2 => ∀ (p : Pos) (l : List Value), Seg M A R Y n s₀ (.forLoop tg i b [] env) (M.den (.forLoop tg i b [] env))
      (.ret (fun r => ((match r with | .ok f => (.pure f : Sem Flow) | .error e => .raise e).onRaise (cameBack env)).wrap K J gd lv) none (gd false) l c p [] :: fs) s2) (fun e s' => Seg M A R Y n s₀ c (J e) fs s') s1) (fun e s' => Seg M A R Y n s₀ c (J e) fs s') s) :
    Seg M A R Y n s₀ c ((exec (.For tg it b [] pos) env).wrap K J gd lv) fs s := by
  rw [exec_For]
  refine seg_at ?_
  show Seg M A R Y n s₀ c ((eval it env >>= fun v => foldedSetIterable it env v >>= fun x => standAt it.pos >>= fun _ => holding [x] (pyIter x) >>= fun i => runOwn (.forLoop tg i b [] env) env).wrap K J gd lv) fs s
  rw [Sem.bind_eq_wrap', Sem.wrap_wrap]
  refine seg_wrap (wpAny_mono h (fun v s1 h1 => ?_) fun _ _ z => z)
  rw [hs v]
  show Seg M A R Y n s₀ c ((standAt it.pos >>= fun _ => holding [v] (pyIter v) >>= fun i => runOwn (.forLoop tg i b [] env) env).wrap K J gd lv) fs s1
  refine seg_at ?_
  show Seg M A R Y n s₀ c ((holding [v] (pyIter v) >>= fun i => runOwn (.forLoop tg i b [] env) env).wrap K J gd lv) fs s1
  rw [Sem.bind_eq_wrap', Sem.wrap_wrap]
  refine seg_wrap (wpAny_holding (wpAny_mono h1 (fun i s2 h2 => ?_) fun _ _ z => z))
  exact seg_call fun p => h2 p _
end
section
variable {prog : Program} {w : World} {A : Around} {R : GenEnd} {Y : Protocol} {n : Nat} {s₀ : Shared} {fs : List Frame} {s : Shared} {env : Env}
/-- what the loop's code does with an exception -/
abbrev offE (env : Env) (e : Value) : Sem PySem.Fin := (do noteFrame e env; theTreesLotGoes e : Sem Unit).wrap (fun _ => .raise e) .raise id id
theorem seg_forL {tg : Expr} {it : Value} {b : List Stmt}
    (h : wpAny (model prog w) (A.over (.forLoop tg it b [] env) fs) (pyNext it) (fun r s1 => match r with
      | none => ∀ c', c' = Code.block [] env → Seg (model prog w) A R Y n s₀ c' (.pure (.done .next)) fs s1
      | some v => wpAny (model prog w) (A.over (.forLoop tg it b [] env) fs) (letOwnedTupleGo tg it v) (fun _ s2 => wpAny (model prog w) (A.over (.forLoop tg it b [] env) fs) (assign tg env v) (fun _ s3 =>
          Seg (model prog w) A R Y n s₀ (.forLoop tg it b [] env) ((execs b env).wrap (fun f => match f with
            | .next | .cont => .pure (.again (.forLoop tg it b [] env))
            | .brk => .pure (.done .next)
            | .ret v => .pure (.done (.ret v))) (offE env) id id) fs s3)
          (fun e s' => Seg (model prog w) A R Y n s₀ (.forLoop tg it b [] env) (offE env e) fs s') s2) (fun e s' => Seg (model prog w) A R Y n s₀ (.forLoop tg it b [] env) (offE env e) fs s') s1)
      (fun e s' => Seg (model prog w) A R Y n s₀ (.forLoop tg it b [] env) (offE env e) fs s') s) :
    Seg (model prog w) A R Y n s₀ (.forLoop tg it b [] env) ((model prog w).den (.forLoop tg it b [] env)) fs s := by
  have off : ∀ (e : Value) (s' : Shared), Seg (model prog w) A R Y n s₀ (.forLoop tg it b [] env) (offE env e) fs s' → Seg (model prog w) A R Y n s₀ (.forLoop tg it b [] env) ((do noteFrame e env; theTreesLotGoes e : Sem Unit).bind fun _ => .raise e) fs s' := fun e s' z => by
    rw [Sem.bind_eq_wrap]; exact z
  show Seg _ A R Y n s₀ _ ((forTurn tg it b [] env).onRaise (fun x => do noteFrame x env; theTreesLotGoes x)) fs s
  rw [Sem.onRaise_eq_wrap]
  unfold forTurn
  refine seg_at ?_
  show Seg _ A R Y n s₀ _ (((pyNext it).onRaise (fun _ => standAt { tg.pos with line := 0 }) >>= _ : Sem PySem.Fin).wrap _ _ _ _) fs s
  rw [Sem.bind_eq_wrap', Sem.wrap_wrap, Sem.onRaise_eq_wrap, Sem.wrap_wrap]
  refine seg_wrap (wpAny_mono h (fun r s1 h1 => ?_) fun e s' z => ?_)
  · cases r with
    | none => exact seg_again rfl (h1 _ rfl)
    | some v =>
      show Seg _ A R Y n s₀ _ ((letOwnedTupleGo tg it v >>= fun _ => assign tg env v >>= fun _ => execs b env >>= _).wrap _ _ _ _) fs s1
      rw [Sem.bind_eq_wrap', Sem.wrap_wrap]
      refine seg_wrap (wpAny_mono h1 (fun _ s2 h2 => ?_) fun e s' z => off e s' z)
      rw [Sem.bind_eq_wrap', Sem.wrap_wrap]
      refine seg_wrap (wpAny_mono h2 (fun _ s3 h3 => ?_) fun e s' z => off e s' z)
      rw [Sem.bind_eq_wrap', Sem.wrap_wrap]
      rw [Sem.wrap_congr (execs b env) _ _ (K' := fun f => match f with
            | .next | .cont => .pure (.again (.forLoop tg it b [] env))
            | .brk => .pure (.done .next)
            | .ret v => .pure (.done (.ret v))) (H' := offE env) (fun f => by cases f <;> rfl) (fun e => by exact Sem.bind_eq_wrap _ _)]
      exact h3
  · exact seg_at (off e s' z)
end
def tGFor (wi : TI) (g : TG) (tb : TGn) : TGn := fun D ys σ H => wi σ H fun J H1 => ∃ W : Nat → Nat → List V → L2.St → Hp → Prop, (∃ m, W 0 m ys σ H1) ∧ ∀ i m ys σ H, W i m ys σ H →
  (J.stop i H ∧ D.nx ys σ H) ∨ (J.go i H ∧ ∃ N : List V → L2.St → Hp → Prop, (∀ ys' σ' H', N ys' σ' H' → ∃ m', m' < m ∧ W (i + 1) m' ys' σ' H') ∧ ∀ x H', J.yld i H x H' → g x σ H' fun σ2 H2 => tb { D with nx := N, ct := N, bk := D.nx } ys σ2 H2)
section
variable {X : Cx}
theorem gs_for {tg it : Expr} {b : List Stmt} {pos : Pos} {wi : TI} {g : TG} {tb : TGn} (hp : PassesOwn (model X.prog X.w) X.A X.env X.xe) (hc : X.calm = true) (hi : PI X tg it wi) (hg : PG X tg g) (hb : GSs X b tb) (hs : ∀ x, foldedSetIterable it X.env x = pure x) :
    L2.GS X (.For tg it b [] pos) (tGFor wi g tb) := by
  refine ⟨fun A S ip R n ys s₀ c fs K J gd lv s σ H D g0 hn k hI ht => ?_⟩
  obtain ⟨acc, cc, ra, I⟩ := hI
  refine seg_For hs ?_
  rw [g0.over]
  refine wpAny_mono (hi.run _ s σ H _ I ht) (fun v s1 h1 => wpAny_mono h1 (fun itv s2 h2 p l => ?_) fun e s' z => k.exc n s₀ e s' z) fun e s' z => k.exc n s₀ e s' z
  obtain ⟨itA, fp, tn, JI, H2, e, I2, T, st2, f2, W, ⟨m0, w0⟩, turn⟩ := h2
  subst e
  have gl := fun (kk : Result → Sem PySem.Fin) (ip' : List (Addr × Obj)) (hip : ∀ q ∈ ip', q.1 ≠ S) => gc_loop (k := kk) (c' := .forLoop tg (.ref itA) b [] X.env) (l := l) (kp := []) (p := p) (GC.mk (X := X) (S := S) (ip := ip') (A := A) (c := c) (fs := fs) (gd := gd) g0.pn hip g0.apart g0.over g0.split g0.guard g0.gd) rfl rfl
  have hSfp : ∀ q ∈ fp, S ≠ q := fun q hq => (f2 q hq).2.2.2.2.2 (S, lstObj acc cc) (List.mem_append_right _ List.mem_cons_self)
  have stat : ∀ {H' : Hp} {o : Obj}, (∀ q ∈ fp, H' q = none) → ∀ q ∈ fp, FpOk X ((S, o) :: ip) H' q := fun {H' o} hn' q hq => by
    obtain ⟨_, f1, f2', f3, f4, f5⟩ := f2 q hq
    refine ⟨hn' q hq, f1, f2', f3, f4, fun x hx => ?_⟩
    rcases List.mem_append.mp hx with hx | hx
    · exact f5 x (List.mem_append_left _ hx)
    · rcases List.mem_cons.mp hx with rfl | hx
      · exact hSfp q hq
      · exact f5 x (List.mem_append_right _ (List.mem_cons_of_mem _ hx))
  have loop : ∀ (m i n : Nat) (ys : List V) (s₀ s : Shared) (σ : L2.St) (H : Hp), n + ys.length = sizeLine → W i m ys σ H → GI X S ip ys σ H s → tn i s.heap → (∀ q ∈ fp, H q = none) →
      Seg (model X.prog X.w) A R (GY X S) n s₀ (.forLoop tg (.ref itA) b [] X.env) ((model X.prog X.w).den (.forLoop tg (.ref itA) b [] X.env))
        (.ret (fun r => ((match r with | .ok f => (.pure f : Sem Flow) | .error e => .raise e).onRaise (cameBack X.env)).wrap K J gd lv) none (gd false) l c p [] :: fs) s := by
    intro m
    induction m using Nat.strongRecOn with
    | ind m ih =>
      intro i n ys s₀ s σ H hn w hI st fr
      have ee : ∀ (n : Nat) (s₀ : Shared) (x : Value) (s' : Shared), X.xe x s' → Seg (model X.prog X.w) A R (GY X S) n s₀ (.forLoop tg (.ref itA) b [] X.env) (offE X.env x)
          (.ret (fun r => ((match r with | .ok f => (.pure f : Sem Flow) | .error e => .raise e).onRaise (cameBack X.env)).wrap K J gd lv) none (gd false) l c p [] :: fs) s' := fun n s₀ x s' hx => by
        refine seg_wrap ?_
        rw [(gl _ ip g0.ip).over]
        refine wpAny_bind (wpAny_mono (hp x s' hx) (fun _ s'' hcb => wpAny_theTreesLotGoes ?_) fun y s'' hcb => ?_)
        · exact seg_leaf (.error x) (seg_cameBack g0 k hcb)
        · exact seg_leaf (.error y) (seg_cameBack g0 k hcb)
      obtain ⟨acc', cc', r', I'⟩ := hI
      refine seg_forL ?_
      rw [(gl _ ip g0.ip).over]
      rcases turn i m ys σ H w with ⟨stop, qn⟩ | ⟨go, N, hN, step⟩
      · refine wpAny_mono (T.done X rfl rfl rfl hc i _ s σ H X.xe I' (stat fr) st stop) (fun r s4 h4 => ?_) fun x s' hx => ee n s₀ x s' hx
        obtain ⟨hr, I4⟩ := h4
        subst hr
        exact fun c' _ => seg_leaf (.ok .next) (k.ok n ys s₀ s4 .next hn ⟨σ, H, ⟨acc', cc', r', I4⟩, qn⟩)
      · refine wpAny_mono (T.item X rfl rfl rfl hc i _ s σ H X.xe I' (stat fr) st go) (fun r s4 h4 => ?_) fun x s' hx => ee n s₀ x s' hx
        obtain ⟨u, hr, h4⟩ := h4
        subst hr
        refine wpAny_mono h4 (fun _ s5 h5 => ?_) fun x s' hx => ee n s₀ x s' hx
        obtain ⟨x, H5, I5, r5, y5, st5, fr5⟩ := h5
        have I5' := I5.pinned (stat fr5) (T.obj _ _ st5)
        have hip : ∀ q ∈ ip ++ pinsAt fp s5.heap, q.1 ≠ S := fun q hq => by
          rcases List.mem_append.mp hq with hq | hq
          · exact g0.ip q hq
          · exact Ne.symm (hSfp q.1 (of_pinsAt hq).1)
        refine wpAny_mono (hg.run _ s5 σ H5 x u _ I5' r5 (step x H5 y5)) (fun _ s6 h6 => ?_) fun x s' hx => ee n s₀ x s' hx
        obtain ⟨σ6, H6, I6, q6⟩ := h6
        refine hb.run A S (ip ++ pinsAt fp s5.heap) R n ys s₀ _ _ _ _ id id s6 σ6 H6 { D with nx := N, ct := N, bk := D.nx } (gl _ _ hip) hn ⟨fun n' ys' s₀' s7 f hn' hs => ?_, fun n' s₀' x s7 hx => ee n' s₀' x s7 hx⟩ ⟨acc', cc', r', I6⟩ q6
        have unp : ∀ {ys7 : List V} {σ7 : L2.St} {H7 : Hp}, GI X S (ip ++ pinsAt fp s5.heap) ys7 σ7 H7 s7 → GI X S ip ys7 σ7 H7 s7 := fun ⟨acc7, cc7, r7, I7⟩ => ⟨acc7, cc7, r7, Inv.unpinned (pins := (S, lstObj acc7 cc7) :: ip) (pl := pinsAt fp s5.heap) I7⟩
        have again : ∀ {σ7 : L2.St} {H7 : Hp}, GI X S (ip ++ pinsAt fp s5.heap) ys' σ7 H7 s7 → N ys' σ7 H7 → Seg (model X.prog X.w) A R (GY X S) n' s₀' (.forLoop tg (.ref itA) b [] X.env) ((model X.prog X.w).den (.forLoop tg (.ref itA) b [] X.env))
            (.ret (fun r => ((match r with | .ok f => (.pure f : Sem Flow) | .error e => .raise e).onRaise (cameBack X.env)).wrap K J gd lv) none (gd false) l c p [] :: fs) s7 := fun {σ7 H7} G7 n7 => by
          obtain ⟨m', hm, w7⟩ := hN ys' σ7 H7 n7
          obtain ⟨acc7, cc7, r7, I7⟩ := id G7
          refine ih m' hm (i + 1) n' ys' s₀' s7 σ7 H7 hn' w7 (unp G7) (T.keep _ _ _ st5 fun q hq o e => (I7.pin (q, o) (List.mem_append_right _ (List.mem_cons_of_mem _ (List.mem_append_right _ (mem_pinsAt hq e))))).1) fun q hq => ?_
          obtain ⟨o, e, _⟩ := T.obj _ _ st5 q hq
          exact (I7.pin (q, o) (List.mem_append_right _ (List.mem_cons_of_mem _ (List.mem_append_right _ (mem_pinsAt hq e))))).2.1
        cases f with
        | next => obtain ⟨σ7, H7, G7, n7⟩ := hs; exact seg_again rfl (again G7 n7)
        | cont => obtain ⟨σ7, H7, G7, n7⟩ := hs; exact seg_again rfl (again G7 n7)
        | brk => obtain ⟨σ7, H7, G7, n7⟩ := hs; exact seg_leaf (.ok .next) (k.ok n' ys' s₀' s7 .next hn' ⟨σ7, H7, unp G7, n7⟩)
        | ret v => obtain ⟨x7, σ7, H7, G7, r7, n7⟩ := hs; exact seg_leaf (.ok (.ret v)) (k.ok n' ys' s₀' s7 (.ret v) hn' ⟨x7, σ7, H7, unp G7, r7, n7⟩)
  exact loop m0 0 n ys s₀ s2 σ H2 hn w0 ⟨acc, cc, ra, I2⟩ st2 fun q hq => (f2 q hq).1
end
end Gm
end

section
namespace Gm
open PySem PySem.Spec PyProof.Rows L2 GenW

/-! ### list(f(..)), f a generator def -/
abbrev PpGL (W : W0) : Hp → List Addr → Hp → GV → List V → Prop := fun S ρ _ v us => ∃ ys, v = .lst ys ∧ PRs W S ρ ys us
def spGf (W : W0) (xc : Str → Option (List Str)) (np : Nat) (cf : List GV → Cells → Res GV) : SpG := fun vs H cont E => ∃ S ρ G xs, Hs W S ρ G H ∧ PRs W S ρ xs vs ∧ xs.length = np ∧ Post W xc (fun cls d _ H => E cls d H) [] S ρ H (PpGL W) (cf xs G) cont
structure GenOk (X : Cx) (n : Cn) (cf : List GV → Cells → Res GV) (x : Str) (dv : List GV) : Prop where
  ex : ∃ (k np : Nat) (f : Addr) (fd : FuncData) (ps : List Str) (ds : List Value) (dvs : List V), GFn X.prog X.w X.K X.mg X.base k f fd ps (spGf n.W n.xc np cf) ∧ Room (k + 3) X.A ∧ X.mg x = some (.ref f) ∧ PySem.W.keepIn X.K (.ref f) = true ∧
    Binds X.K fd ps ds ∧ Vals dvs ds ∧ cVs dv = some dvs ∧ ∀ xs G, xs.length ≠ np → cf xs G = .no
  ns : ∀ C ns cls, n.xc C = some ns → n.W.mg C = some cls → PySem.W.subIn X.K cls (.type "StopIteration") = some false
section
variable {X : Cx} {n : Cn}
/-- list(g), what leaves it told at these slots -/
theorem run_listG {k : Nat} {e : Expr} {tg : TGen} {E : XK} {nm : Str} {p pos : Pos} {pins : List (Addr × Obj)} {s : Shared} {σ : L2.St} {H : Hp} {Q : VK} (h : PGen X k e tg E) (hx : PassesAt (L2.CX X.prog X.w) X σ E) (hns : NoStop X.K E) (hr : Room (k + 3) X.A) (hg : Gl X nm) (hmg : X.mg nm = none) (hv : bootBuiltins nm = some (.type "list")) (hnm : nm ≠ "__name__") (hdb : (nm == ("__debug__" : Str)) = false)
    (he : starEach [e] X.env = (false, eval e X.env) :: starEach [] X.env) (I : Inv X pins σ H s) (hq : tListG tg σ H Q) : wpAny (model X.prog X.w) X.A (eval (.Call (.Name nm p) [e] [] pos) X.env) (EP X pins σ Q) X.xe s := by
  refine wpAny_Call_Name_kw (ld_blt I hg hmg hv (PyProof.Rows.callWith_type1 ?_ he rfl) hnm hdb)
  rw [he]
  show wpAny _ _ (spliced ((false, eval e X.env) :: backTo pos (starEach [] X.env))) _ _ s
  refine Calls.spliced_cons (thn (h.run pins s σ H _ I hq) fun u s1 ⟨H1, sc, ex, I1, hex, hG⟩ => Calls.spliced_nil ?_)
  have hsz : sc.heap.objs.size ≤ s1.heap.objs.size := by
    obtain ⟨a, g, c, _, h1, h2, _⟩ := hG
    exact Nat.le_trans h1 (Nat.le_of_lt h2)
  refine call_list_new hr I1.ok.frames hG (fun S s' acc c H' ys q0 q1 q2 hl q3 q4 q5 q6 q7 q8 => ⟨.ref S, upd H' S (.lst ys), I1.drained (Nat.le_trans hsz q0) hl q1 q2 hex q3 q4 q5 q6 q7, rfl, q8 S q7⟩) fun e s' g hc => ?_
  have kin : X.K.In s'.heap := by
    obtain ⟨a, B, H', cls, d, _, fl, _, ub, _⟩ := id hc
    refine I1.ok.mod.kin.keeps fun b o eb => fl.1 b o (ub.keep b o (I1.bs b o eb).1 (I1.bs b o eb).2 fun hm => ?_)
    rcases List.mem_cons.mp (I1.stkSub b hm) with z | z
    · have l1 := Heap.lt_size eb
      rw [z] at l1
      exact absurd (Nat.lt_of_lt_of_le l1 (Nat.le_trans I1.ok.bsz I1.ok.above)) (Nat.lt_irrefl _)
    · exact I1.ok.nofr eb z
  refine ⟨notStop_of hns kin hc, hx pins H1 sc e _ I1 ?_⟩
  obtain ⟨a, B, H', cls, d, z1, fl, z2, ub, z3, z4, z5, z6⟩ := hc
  exact ⟨a, B, H', cls, d, z1, fl, z2, ub, z3, z4, allBare_setGen z5 rfl, z6⟩
theorem se_list {cf : List GV → Cells → Res GV} {x : Str} {dv : List GV} {e : Expr} {es : List Expr} {ea : List Sl → Cells → Res (List GV)} {p p2 pos pos2 : Pos} (ok : GenOk X n cf x dv) (tk : Takes X n.Wx) (hg : Gl X x) (hdb : (x == ("__debug__" : Str)) = false) (hgl : Gl X "list") (hml : X.mg "list" = none)
    (ha : SA X n (e :: es) ea) (hns : noStar e = true) (hns2 : es.all noStar = true) :
    SE X n (.Call (.Name "list" p) [.Call (.Name x p2) (e :: es) [] pos2] [] pos) fun g G => (((ea g G).bind fun xs G => cf (xs ++ dv) G).bind fun v G => (Res.ok [] G).bind fun vs G => .ok (v :: vs) G).bind fun xs G => Res.of (bltV .listt xs) G := by
  obtain ⟨k, np, f, fd, ps, ds, dvs, F, hr, hm, hk, hb, hv, hd, hlen⟩ := ok.ex
  refine ⟨fun pins s σ H Q I h => ?_⟩
  have hx : PassesAt (L2.CX X.prog X.w) X σ (fun cls d H => n.Wx cls d σ H ∧ ∃ C ns, n.xc C = some ns ∧ n.W.mg C = some cls) := fun pins' H' s' e' s2 I' c => tk e' s2 (XE.of_call I' (fun _ _ _ z => z.1) c)
  have hst : NoStop X.K (fun cls d H => n.Wx cls d σ H ∧ ∃ C ns, n.xc C = some ns ∧ n.W.mg C = some cls) := fun cls d H ⟨_, C, ns, h1, h2⟩ => ok.ns C ns cls h1 h2
  refine run_listG (k := k) (pgen_call F ⟨hr.hd, by have := hr.dp; omega, by have := hr.un; omega⟩ hg hm hk hb hv ha hdb (star_cons hns) (star_plain hns2)) hx hst hr hgl hml (by decide +kernel) (by decide) (by decide) (star_cons (e := .Call (.Name x p2) (e :: es) [] pos2) rfl) I ?_
  simp only [Res.bind_bind] at h
  refine RD.bind h fun B S ρ g G v us H1 R pu q => ?_
  refine ⟨S, ρ, G, v ++ dv, R.hs, pu.append (cVs_pr hd), ?_, ?_⟩
  · by_cases c : (v ++ dv).length = np
    · exact c
    · rw [hlen _ _ c] at q
      exact q.elim
  · cases ec : cf (v ++ dv) G with
    | no => rw [ec] at q; exact q.elim
    | ex C fs G' =>
      rw [ec] at q
      intro S' ρ' cls d H' e1 hs' x
      exact ⟨q S' ρ' cls d H' e1 hs' x, C, _, x.2.choose_spec.1, x.1⟩
    | ok w G' =>
      rw [ec] at q
      rintro S' ρ' us' H' e1 hs' ⟨ys, rfl, pys⟩ l hl
      have q' : Post n.W n.xc n.Wx σ S ρ H1 (PpV n.W) (Res.ok (.lst ys) G') Q := q
      exact Post.lst (q'.step e1) hs' pys hl
end
end Gm
end

section
namespace Gm
open PySem PySem.Spec PyProof.Rows L2

/-! ### the text of an expression, read -/
inductive Md where | v | t
  deriving DecidableEq
structure Gam where
  N : List Str
  nm : List (Str × NameKind)
  top : Bool
  calm : Bool
  fns : List (Str × (Nat × List GV))
  gns : List (Str × (Nat × List GV))
  gv : List (Str × GV)
  bl : List Str
  xc : List (Str × List Str)
  hc : List Str
def ixOf (x : Str) : List Str → Option Nat
  | [] => none
  | y :: ys => if y = x then some 0 else (ixOf x ys).map (· + 1)
theorem ixOf_ok {x : Str} : ∀ {N : List Str} {i : Nat}, ixOf x N = some i → N[i]? = some x
  | [], _, h => by cases h
  | y :: ys, i, h => by
    unfold ixOf at h
    split at h
    · rename_i e; cases h; rw [e]; rfl
    · cases e : ixOf x ys with
      | none => rw [e] at h; cases h
      | some j => rw [e] at h; cases h; simpa using ixOf_ok e
def visB : Option NameKind → Bool
  | some .local => true
  | some .cell => true
  | some .free => true
  | _ => false
def glB : Option NameKind → Bool
  | some .globalImplicit => true
  | _ => false
def dbgB (x : Str) : Bool := (x == ("__debug__" : Str)) || (x == ("__classdict__" : Str)) || (x == ("__name__" : Str))
def varC (Γ : Gam) (x : Str) : Option Nat := if visB (Γ.nm.lookup x) && !dbgB x then ixOf x Γ.N else none
def btyC (x : Str) : Option String := if x = ("int" : Str) then some "int" else if x = ("bool" : Str) then some "bool" else if x = ("str" : Str) then some "str" else if x = ("list" : Str) then some "list" else if x = ("tuple" : Str) then some "tuple" else if x = ("dict" : Str) then some "dict" else none
def glC (Γ : Gam) (x : Str) : Bool := glB (Γ.nm.lookup x) && !dbgB x
def nameC (Γ : Gam) (x : Str) : Option E := match varC Γ x with
  | some i => some (.var i)
  | none => if glC Γ x = true then (match Γ.gv.lookup x with
    | some _ => some (.glb x)
    | none => if x ∈ Γ.bl then (btyC x).map .bty else none) else none
def conC : Const → Option E
  | .none => some (.con .non)
  | .bool b => some (.con (.bl b))
  | .int i => some (.con (.int i))
  | .str x => some (.con (.str x))
  | _ => none
def mapO {α β : Type} (f : α → Option β) : List α → Option (List β)
  | [] => some []
  | x :: xs => match f x with
    | none => none
    | some y => match mapO f xs with
      | none => none
      | some ys => some (y :: ys)
def binC : Operator → Option Bop
  | .Add => some .add
  | .Sub => some .sub
  | .Mult => some .mul
  | .FloorDiv => some .fdiv
  | .Mod => some .mod
  | .Pow => some .pow
  | .LShift => some .shl
  | .RShift => some .shr
  | .BitAnd => some .band
  | .BitOr => some .bor
  | .BitXor => some .bxor
  | _ => none
def cmpC : CmpOp → Cop
  | .Lt => .lt
  | .LtE => .le
  | .Gt => .gt
  | .GtE => .ge
  | .Eq => .eq
  | .NotEq => .ne
  | .Is => .isI
  | .IsNot => .isN
  | .In => .inn
  | .NotIn => .nin
abbrev Rec := Md → Gam → Expr → Option E
def binS (rec : Rec) (Γ : Gam) (a : Expr) (op : Operator) (b : Expr) : Option E := match binC op with
  | none => none
  | some o => match rec .v Γ a with
    | none => none
    | some a' => match rec .v Γ b with
      | none => none
      | some b' => some (.bin o a' b')
def unS (rec : Rec) (m : Md) (Γ : Gam) (op : UnaryOp) (a : Expr) : Option E := match op with
  | .USub => (rec .v Γ a).map .neg
  | .Not => (rec m Γ a).map .not
  | _ => none
def boolC (op : BoolOp) : List E → Option E
  | [] => none
  | e :: es => match es with
    | [] => some e
    | _ :: _ => match boolC op es with
      | none => none
      | some r => some (match op with | .And => .and e r | .Or => .or e r)
def boolS (rec : Rec) (m : Md) (Γ : Gam) (op : BoolOp) (es : List Expr) : Option E := match es with
  | _ :: _ :: _ => (match mapO (rec m Γ) es with
    | none => none
    | some es' => boolC op es')
  | _ => none
def cmpS (rec : Rec) (Γ : Gam) (a : Expr) (ops : List CmpOp) (cs : List Expr) : Option E := match ops, cs with
  | [op], [b] => if behindInMarks op b = true then none else (match rec .v Γ a with
    | none => none
    | some a' => match rec .v Γ b with
      | none => none
      | some b' => some (.cmp (cmpC op) a' b'))
  | [op, op'], [b, d] => if behindInMarks op' d = true then none else (match rec .v Γ a with
    | none => none
    | some a' => match rec .v Γ b with
      | none => none
      | some b' => match rec .v Γ d with
        | none => none
        | some d' => some (.chn (cmpC op) (cmpC op') a' b' d'))
  | _, _ => none
def iteS (rec : Rec) (m : Md) (Γ : Gam) (t a b : Expr) : Option E := match m with
  | .t => none
  | .v => match rec .t Γ t with
    | none => none
    | some t' => match rec .v Γ a with
      | none => none
      | some a' => match rec .v Γ b with
        | none => none
        | some b' => some (.ite t' a' b')
def argsC (rec : Rec) (Γ : Gam) (es : List Expr) : Option (List E) := if es.all noStar = true then mapO (rec .v Γ) es else none
def optC (rec : Rec) (Γ : Gam) : Option Expr → Option (List E)
  | none => some []
  | some e => match rec .v Γ e with
    | none => none
    | some e' => some [e']
def isM1 : Expr → Bool
  | .UnaryOp .USub (.Constant (.int 1) _ _) _ => true
  | _ => false
def subSC (rec : Rec) (Γ : Gam) (a b : Expr) : Option E := match rec .v Γ a with
  | none => none
  | some a' => match b with
    | .Slice lo hi st _ => (match st with
      | some t => if isM1 t = true ∧ lo.isNone = true ∧ hi.isNone = true then some (.blt .rev [a']) else none
      | none => match optC rec Γ lo with
        | none => none
        | some lo' => match optC rec Γ hi with
          | none => none
          | some hi' => some (.slc a' lo' hi'))
    | b => match rec .v Γ b with
      | none => none
      | some b' => some (.idx a' b')
def bltC (x : Str) (n : Nat) : Option Blt :=
  if x = ("len" : Str) then (if n = 1 then some .len else none)
  else if x = ("tuple" : Str) then (if n = 1 then some .tupl else none)
  else if x = ("list" : Str) then (if n = 1 then some .listt else none)
  else if x = ("int" : Str) then (if n = 1 then some .intt else none)
  else if x = ("bool" : Str) then (if n = 1 then some .boolt else none)
  else if x = ("str" : Str) then (if n = 1 then some .str else none)
  else if x = ("abs" : Str) then (if n = 1 then some .abs else none)
  else if x = ("isinstance" : Str) then (if n = 2 then some .isi else none)
  else if x = ("sorted" : Str) then (if n = 1 then some .sorted else none)
  else none
def bltM (x : Str) (n : Nat) : Option Blt :=
  if x = ("max" : Str) then (if n = 2 then some .max2 else none)
  else if x = ("min" : Str) then (if n = 2 then some .min2 else none)
  else if x = ("sum" : Str) then (if n = 1 then some .sum else none)
  else none
def callS (rec : Rec) (Γ : Gam) (f : Expr) (es : List Expr) (ks : List Keyword) : Option E := match f, ks with
  | .Name x _, [] => if glC Γ x = true then (match argsC rec Γ es with
    | none => none
    | some es' => if x ∈ Γ.bl then (match bltC x es.length with
        | some b => some (.blt b es')
        | none => if Γ.calm = true then (bltM x es.length).map fun b => .blt b es' else none)
      else if Γ.calm = true then (match Γ.fns.lookup x with
        | some (np, dfl) => if es.length ≤ np ∧ np ≤ es.length + dfl.length then some (.call x es' (dfl.drop (es.length + dfl.length - np))) else none
        | none => none) else none) else none
  | _, _ => none
/-- list(f(..)), f a generator def -/
def genS (rec : Rec) (Γ : Gam) (f : Expr) (es : List Expr) (ks : List Keyword) : Option E := match f, es, ks with
  | .Name l _, [.Call (.Name x _) (a :: as) [] _], [] => if l = ("list" : Str) ∧ Γ.calm = true ∧ glC Γ l = true ∧ l ∈ Γ.bl ∧ glC Γ x = true then (match Γ.gns.lookup x with
    | none => none
    | some (np, dfl) => if (a :: as).length ≤ np ∧ np ≤ (a :: as).length + dfl.length then (argsC rec Γ (a :: as)).map fun es' => .blt .listt [.call x es' (dfl.drop ((a :: as).length + dfl.length - np))] else none) else none
  | _, _, _ => none
def ownC (N : List Str) : List (Str × NameKind) → List (Str × Nat)
  | [] => []
  | (x, k) :: r => if k = .local ∨ k = .cell then (match ixOf x N with
    | some i => (x, i) :: ownC N r
    | none => ownC N r) else ownC N r
def relN (nm0 nm : List (Str × NameKind)) : List (Str × NameKind) := nm.map fun (n, k) => if (k == .free && nm0.lookup n == some .cell) then (n, .cell) else (n, k)
def stoC (Γ : Gam) (x : Str) : Option Nat := if (Γ.nm.lookup x = some .local) ∨ (Γ.top = true ∧ Γ.nm.lookup x = some .cell) then ixOf x Γ.N else none
def nmsC (Γ : Gam) : List Expr → Option (List Nat)
  | [] => some []
  | .Name x _ :: es => (match stoC Γ x with
    | none => none
    | some i => match nmsC Γ es with
      | none => none
      | some is => some (i :: is))
  | _ :: _ => none
def tgC (Γ : Gam) : Expr → Option Tg
  | .Name x _ => (stoC Γ x).map .name
  | .Tuple ts _ _ => if Γ.calm = true then (nmsC Γ ts).map .tup else none
  | _ => none
def notSet : Expr → Bool
  | .Set _ _ _ => false
  | _ => true
def rngS (rec : Rec) (Γ : Gam) (it : Expr) : Option It := match it with
  | .Call (.Name x _) es [] _ => if x = ("range" : Str) ∧ glC Γ x = true ∧ x ∈ Γ.bl ∧ (es.length = 1 ∨ es.length = 2) then (argsC rec Γ es).map .rng else none
  | _ => none
def itB (rec : Rec) (Γ : Gam) (it : Expr) : Option It := match rngS rec Γ it with
  | some r => some r
  | none => (rec .v Γ it).map .seq
def itS (rec : Rec) (Γ : Gam) (it : Expr) : Option It := match rngS rec Γ it with
  | some r => some r
  | none => (rec .v Γ it).map .seqs
def cndC (rec : Rec) (Γ : Gam) : List Expr → Option E
  | [] => some (.con (.bl true))
  | [c] => rec .t Γ c
  | _ => none
def blkG (Γ : Gam) (scope : Scope) : Gam := { Γ with nm := relN Γ.nm scope.names, top := false }
def lcS (rec : Rec) (Γ : Gam) (elt : Expr) (gs : List Comprehension) (scope : Scope) : Option E := match gs with
  | [⟨tg, it, ifs, as⟩] => if as = 0 ∧ Γ.calm = true ∧ notSet it = true ∧ blkC Γ.N { scope with names := Γ.nm } scope (ownC Γ.N scope.names) = true then (match tgC (blkG Γ scope) tg with
    | none => none
    | some T => if T.slots.all (fun i => decide (i ∈ (ownC Γ.N scope.names).map (·.2))) = true then (match itB rec Γ it with
      | none => none
      | some it' => match cndC rec (blkG Γ scope) ifs with
        | none => none
        | some c' => match rec .v (blkG Γ scope) elt with
          | none => none
          | some e' => some (.cmpr e' T ((ownC Γ.N scope.names).map (·.2)) it' c')) else none) else none
  | _ => none
def attS (Γ : Gam) (a : Expr) (f : Str) : Option E := match a with
  | .Name x _ => if Γ.calm = true then none else (varC Γ x).map fun i => .xfl i f
  | _ => none
def compS (rec : Rec) (m : Md) (Γ : Gam) : Expr → Option E
  | .Name x _ => nameC Γ x
  | .Constant k _ _ => conC k
  | .BinOp a op b _ => binS rec Γ a op b
  | .UnaryOp op a _ => unS rec m Γ op a
  | .BoolOp op es _ => boolS rec m Γ op es
  | .Compare a ops cs _ => cmpS rec Γ a ops cs
  | .IfExp t a b _ => iteS rec m Γ t a b
  | .Tuple es _ _ => (argsC rec Γ es).map .tup
  | .List es _ => (argsC rec Γ es).map .lst
  | .Subscript a b _ => subSC rec Γ a b
  | .Call f es ks _ => (match genS rec Γ f es ks with
    | some e => some e
    | none => callS rec Γ f es ks)
  | .ListComp elt gs scope _ => lcS rec Γ elt gs scope
  | .Attribute a f _ => attS Γ a f
  | _ => none
def comp : Nat → Rec
  | 0, _, _, _ => none
  | f + 1, m, Γ, e => compS (comp f) m Γ e

/-! ### it holds -/
structure GOk (X : Cx) (n : Cn) (Γ : Gam) (c : Ctx) : Prop where
  okc : Okc X n
  N : X.N = Γ.N
  nd : Γ.N.Nodup
  nm : X.env.scope.names = Γ.nm
  kind : X.env.scope.kind = .function
  un : X.A.units + 65 < cLine
  calm : Γ.calm = true → X.calm = true
  fn : Γ.top = true → ∀ x, X.fn x = true
  gv : ∀ x v, Γ.gv.lookup x = some v → c.T.gv x = some v ∧ ∃ u w, X.mg x = some u ∧ RelV w u ∧ ∀ S ρ, PR n.W S ρ v w
  bl : ∀ x, x ∈ Γ.bl → X.mg x = none
  tk : Γ.calm = true → Takes X n.Wx
  fns : Γ.calm = true → ∀ x np dfl j, Γ.fns.lookup x = some (np, dfl) → j ≤ dfl.length → CallOk X n (c.cf x) x (dfl.drop j)
  gns : Γ.calm = true → ∀ x np dfl j, Γ.gns.lookup x = some (np, dfl) → j ≤ dfl.length → GenOk X n (c.cf x) x (dfl.drop j)
  att : Γ.calm = false → ∀ i x f p pos, X.N[i]? = some x → Vis X.env.scope x → (x == ("__debug__" : Str)) = false → (x == ("__classdict__" : Str)) = false → SE X n (.Attribute (.Name x p) f pos) (evalE c (.xfl i f))
def Ok1 (X : Cx) (n : Cn) (c : Ctx) (m : Md) (e : Expr) (e' : E) : Prop := match m with
  | .v => SE X n e (evalE c e') ∧ SB X n e (evB c e')
  | .t => ST X n e (tst (evB c e'))
abbrev RecOk (rec : Rec) : Prop := ∀ m Γ e e', rec m Γ e = some e' → ∀ X n c, GOk X n Γ c → Ok1 X n c m e e'
section
variable {X : Cx} {n : Cn} {c : Ctx} {Γ : Gam} {rec : Rec}
theorem ok_any {m : Md} {e : Expr} {e' : E} (k : Okc X n) (h : SE X n e (evalE c e')) (hv : isVarE e' = false) (hp : plainT e = true) : Ok1 X n c m e e' := by
  have hb : SB X n e (evB c e') := by rw [evB_no c hv]; exact h.b
  cases m with
  | v => exact ⟨h, hb⟩
  | t => exact st_tru k hb hp
theorem ok_v {e : Expr} {e' : E} (h : SE X n e (evalE c e')) (hv : isVarE e' = false) : Ok1 X n c .v e e' := ⟨h, by rw [evB_no c hv]; exact h.b⟩
theorem vis_of (g : GOk X n Γ c) {x : Str} (h : visB (Γ.nm.lookup x) = true) : Vis X.env.scope x := by
  unfold Vis
  rw [g.nm]
  cases e : Γ.nm.lookup x with
  | none => rw [e] at h; cases h
  | some k => cases k <;> first | exact .inl rfl | exact .inr (.inl rfl) | exact .inr (.inr rfl) | (rw [e] at h; cases h)
theorem dbg_of {x : Str} (h : (!dbgB x) = true) : (x == ("__debug__" : Str)) = false ∧ (x == ("__classdict__" : Str)) = false ∧ x ≠ "__name__" := by
  unfold dbgB at h
  simp only [Bool.not_eq_true', Bool.or_eq_false_iff] at h
  exact ⟨h.1.1, h.1.2, fun e => by have := h.2; rw [e] at this; simp at this⟩
theorem varC_ok (g : GOk X n Γ c) {x : Str} {i : Nat} (h : varC Γ x = some i) : X.N[i]? = some x ∧ Vis X.env.scope x ∧ (x == ("__debug__" : Str)) = false ∧ (x == ("__classdict__" : Str)) = false := by
  unfold varC at h
  split at h
  · rename_i hh
    rw [Bool.and_eq_true] at hh
    obtain ⟨d1, d2, _⟩ := dbg_of hh.2
    exact ⟨by rw [g.N]; exact ixOf_ok h, vis_of g hh.1, d1, d2⟩
  · cases h
theorem glC_ok (g : GOk X n Γ c) {x : Str} (h : glC Γ x = true) : Gl X x ∧ (x == ("__debug__" : Str)) = false ∧ x ≠ "__name__" := by
  unfold glC at h
  rw [Bool.and_eq_true] at h
  obtain ⟨d1, _, d3⟩ := dbg_of h.2
  refine ⟨?_, d1, d3⟩
  show X.env.scope.names.lookup x = some .globalImplicit
  rw [g.nm]
  have h1 := h.1
  cases e : Γ.nm.lookup x with
  | none => rw [e] at h1; cases h1
  | some k => cases k <;> first | rfl | (rw [e] at h1; cases h1)
theorem name_ok {m : Md} {x : Str} {pos : Pos} {e' : E} (g : GOk X n Γ c) (h : nameC Γ x = some e') : Ok1 X n c m (.Name x pos) e' := by
  unfold nameC at h
  split at h
  · rename_i i hv
    cases h
    obtain ⟨h1, h2, h3, h4⟩ := varC_ok g hv
    have hb : SB X n (.Name x pos) (evB c (.var i)) := sb_var h1 h2 h3 h4
    cases m with
    | v => exact ⟨se_var h1 h2 h3 h4, hb⟩
    | t => exact st_tru g.okc hb rfl
  · split at h
    · rename_i hg
      obtain ⟨g1, g2, g3⟩ := glC_ok g hg
      split at h
      · rename_i v hv
        cases h
        obtain ⟨t1, t2⟩ := g.gv x v hv
        refine ok_any g.okc (se_glb g1 (fun w hw => ?_) (by rw [t1]; rfl) g2) rfl rfl
        rw [t1] at hw; cases hw
        exact t2
      · split at h
        · rename_i hb
          cases et : btyC x with
          | none => rw [et] at h; cases h
          | some t =>
            rw [et] at h; cases h
            have hv : bootBuiltins x = some (.type t) := by
              unfold btyC at et
              repeat' (split at et)
              all_goals first | (cases et; rename_i e; subst e; decide +kernel) | cases et
            exact ok_any g.okc (se_bty g1 (g.bl x hb) hv g3 g2) rfl rfl
        · cases h
    · cases h
theorem con_ok {m : Md} {k : Const} {j : Nat} {pos : Pos} {e' : E} (g : GOk X n Γ c) (h : conC k = some e') : Ok1 X n c m (.Constant k j pos) e' := by
  cases k with
  | none => cases h; exact ok_any g.okc se_non rfl rfl
  | bool b => cases h; exact ok_any g.okc se_bl rfl rfl
  | int i => cases h; exact ok_any g.okc se_int rfl rfl
  | str x => cases h; exact ok_any g.okc se_str rfl rfl
  | _ => cases h
theorem bin_of (g : GOk X n Γ c) {op : Operator} {o : Bop} (h : binC op = some o) : OpR X (binaryOp op) (rG n (binV o)) := by
  cases op with
  | Add => cases h; exact opg_add g.okc
  | Sub => cases h; exact opg_sub
  | Mult => cases h; exact opg_mul g.okc
  | FloorDiv => cases h; exact opg_fdiv
  | Mod => cases h; exact opg_mod
  | Pow => cases h; exact opg_pow
  | LShift => cases h; exact opg_shl
  | RShift => cases h; exact opg_shr
  | BitAnd => cases h; exact opg_band
  | BitOr => cases h; exact opg_bor
  | BitXor => cases h; exact opg_bxor
  | _ => cases h
theorem cmp_of (g : GOk X n Γ c) (op : CmpOp) : OpR X (compareOp op) (rG n (bolV (cmpV (cmpC op)))) := by
  have u := g.un
  cases op with
  | Eq => exact cmg_eq g.okc (by omega)
  | NotEq => exact cmg_ne g.okc (by omega)
  | Lt => exact cmg_lt
  | LtE => exact cmg_le
  | Gt => exact cmg_gt
  | GtE => exact cmg_ge
  | Is => exact cmg_is
  | IsNot => exact cmg_isN
  | In => exact cmg_in g.okc u
  | NotIn => exact cmg_nin g.okc u
theorem binS_ok {m : Md} {a b : Expr} {op : Operator} {pos : Pos} {e' : E} (IH : RecOk rec) (g : GOk X n Γ c) (h : binS rec Γ a op b = some e') : Ok1 X n c m (.BinOp a op b pos) e' := by
  unfold binS at h
  split at h
  · cases h
  · rename_i o ho
    split at h
    · cases h
    · rename_i a' ha
      split at h
      · cases h
      · rename_i b' hb
        cases h
        exact ok_any g.okc (se_bin (bin_of g ho) (IH _ _ _ _ ha X n c g).2 (IH _ _ _ _ hb X n c g).2) rfl rfl
theorem unS_ok {m : Md} {a : Expr} {op : UnaryOp} {pos : Pos} {e' : E} (IH : RecOk rec) (g : GOk X n Γ c) (h : unS rec m Γ op a = some e') : Ok1 X n c m (.UnaryOp op a pos) e' := by
  unfold unS at h
  cases op with
  | USub =>
    cases ha : rec .v Γ a with
    | none => simp only [ha] at h; cases h
    | some a' =>
      simp only [ha] at h; cases h
      exact ok_any g.okc (se_neg (IH _ _ _ _ ha X n c g).1) rfl rfl
  | Not =>
    cases ha : rec m Γ a with
    | none => simp only [ha] at h; cases h
    | some a' =>
      simp only [ha] at h; cases h
      have q := IH _ _ _ _ ha X n c g
      cases m with
      | v => exact ok_v (se_not g.okc q.2) rfl
      | t => exact st_not q
  | _ => cases h
end
end Gm
end

section
namespace Gm
open PySem PySem.Spec PyProof.Rows L2
section
variable {X : Cx} {n : Cn} {c : Ctx} {Γ : Gam} {rec : Rec}
theorem boolV_ok {op : BoolOp} {pos : Pos} (g : GOk X n Γ c) (IH : RecOk rec) : ∀ {es : List Expr} {es' : List E} {e' : E}, mapO (rec .v Γ) es = some es' → boolC op es' = some e' → SE X n (.BoolOp op es pos) (evalE c e')
  | [], es', e', h, h2 => by cases h; cases h2
  | e :: es, es', e', h, h2 => by
    unfold mapO at h
    cases h1 : rec .v Γ e with
    | none => simp only [h1] at h; cases h
    | some y =>
      simp only [h1] at h
      cases h3 : mapO (rec .v Γ) es with
      | none => simp only [h3] at h; cases h
      | some ys =>
        simp only [h3] at h; cases h
        have hy := (IH _ _ _ _ h1 X n c g).1
        cases es with
        | nil =>
          cases h3
          cases h2
          exact se_one hy
        | cons e2 es2 =>
          cases ys with
          | nil =>
            unfold mapO at h3
            cases q : rec .v Γ e2 with
            | none => simp only [q] at h3; cases h3
            | some z => simp only [q] at h3; cases q2 : mapO (rec .v Γ) es2 with
              | none => simp only [q2] at h3; cases h3
              | some zs => simp only [q2] at h3; cases h3
          | cons y2 ys2 =>
            unfold boolC at h2
            cases q : boolC op (y2 :: ys2) with
            | none => simp only [q] at h2; cases h2
            | some r =>
              simp only [q] at h2; cases h2
              have hr := boolV_ok (op := op) (pos := pos) g IH h3 q
              cases op with
              | And => exact se_and g.okc hy hr
              | Or => exact se_or g.okc hy hr
theorem boolT_ok {op : BoolOp} {pos : Pos} (g : GOk X n Γ c) (IH : RecOk rec) : ∀ {es : List Expr} {es' : List E} {e' : E}, mapO (rec .t Γ) es = some es' → boolC op es' = some e' → SW X n (.BoolOp op es pos) (tst (evalE c e'))
  | [], es', e', h, h2 => by cases h; cases h2
  | e :: es, es', e', h, h2 => by
    unfold mapO at h
    cases h1 : rec .t Γ e with
    | none => simp only [h1] at h; cases h
    | some y =>
      simp only [h1] at h
      cases h3 : mapO (rec .t Γ) es with
      | none => simp only [h3] at h; cases h
      | some ys =>
        simp only [h3] at h; cases h
        have hy := st_b (IH _ _ _ _ h1 X n c g)
        cases es with
        | nil =>
          cases h3
          cases h2
          cases op with
          | And => exact sw_and1 hy
          | Or => exact sw_or1 hy
        | cons e2 es2 =>
          cases ys with
          | nil =>
            unfold mapO at h3
            cases q : rec .t Γ e2 with
            | none => simp only [q] at h3; cases h3
            | some z => simp only [q] at h3; cases q2 : mapO (rec .t Γ) es2 with
              | none => simp only [q2] at h3; cases h3
              | some zs => simp only [q2] at h3; cases h3
          | cons y2 ys2 =>
            unfold boolC at h2
            cases q : boolC op (y2 :: ys2) with
            | none => simp only [q] at h2; cases h2
            | some r =>
              simp only [q] at h2; cases h2
              have hr := boolT_ok (op := op) (pos := pos) g IH h3 q
              cases op with
              | And => exact sw_and hy hr
              | Or => exact sw_or hy hr
theorem boolC_nv {op : BoolOp} : ∀ {es : List E} {e' : E} {a b : E} {r : List E}, es = a :: b :: r → boolC op es = some e' → isVarE e' = false := by
  intro es e' a b r he h
  subst he
  unfold boolC at h
  cases q : boolC op (b :: r) with
  | none => simp only [q] at h; cases h
  | some z => simp only [q] at h; cases h; cases op <;> rfl
theorem mapO_len {α β : Type} {f : α → Option β} : ∀ {es : List α} {es' : List β}, mapO f es = some es' → es'.length = es.length
  | [], es', h => by cases h; rfl
  | e :: es, es', h => by
    unfold mapO at h
    cases h1 : f e with
    | none => simp only [h1] at h; cases h
    | some y =>
      simp only [h1] at h
      cases h3 : mapO f es with
      | none => simp only [h3] at h; cases h
      | some ys => simp only [h3] at h; cases h; simp [mapO_len h3]
theorem boolS_ok {m : Md} {op : BoolOp} {es : List Expr} {pos : Pos} {e' : E} (IH : RecOk rec) (g : GOk X n Γ c) (h : boolS rec m Γ op es = some e') : Ok1 X n c m (.BoolOp op es pos) e' := by
  unfold boolS at h
  split at h
  · rename_i e1 e2 r
    split at h
    · cases h
    · rename_i es' hes
      have hl := mapO_len hes
      match es', hl, hes, h with
      | a' :: b' :: r', _, hes, h =>
        have nv : isVarE e' = false := boolC_nv rfl h
        cases m with
        | v => exact ok_v (boolV_ok g IH hes h) nv
        | t =>
          show ST X n _ (tst (evB c e'))
          rw [evB_no c nv]
          exact (boolT_ok (pos := pos) g IH hes h).pt
  · cases h
theorem cmpS_ok {m : Md} {a : Expr} {ops : List CmpOp} {cs : List Expr} {pos : Pos} {e' : E} (IH : RecOk rec) (g : GOk X n Γ c) (h : cmpS rec Γ a ops cs = some e') : Ok1 X n c m (.Compare a ops cs pos) e' := by
  unfold cmpS at h
  split at h
  · rename_i op b
    split at h
    · cases h
    · rename_i hm
      have hm' : behindInMarks op b = false := by simpa using hm
      split at h
      · cases h
      · rename_i a' ha
        split at h
        · cases h
        · rename_i b' hb
          cases h
          have qa := (IH _ _ _ _ ha X n c g).2
          have qb := (IH _ _ _ _ hb X n c g).2
          cases m with
          | v => exact ok_v (se_cmp (cmp_of g op) qa qb hm') rfl
          | t => exact st_cmp (cmp_of g op) qa qb hm'
  · rename_i op op' b d
    split at h
    · cases h
    · rename_i hm
      have hm' : behindInMarks op' d = false := by simpa using hm
      split at h
      · cases h
      · rename_i a' ha
        split at h
        · cases h
        · rename_i b' hb
          split at h
          · cases h
          · rename_i d' hd
            cases h
            have qa := (IH _ _ _ _ ha X n c g).1
            have qb := (IH _ _ _ _ hb X n c g).1
            have qd := (IH _ _ _ _ hd X n c g).1
            cases m with
            | v => exact ok_v (se_chn (cmp_of g op) (cmp_of g op') qa qb qd hm') rfl
            | t => exact st_chn (cmp_of g op) (cmp_of g op') qa qb qd hm'
  · cases h
theorem iteS_ok {m : Md} {t a b : Expr} {pos : Pos} {e' : E} (IH : RecOk rec) (g : GOk X n Γ c) (h : iteS rec m Γ t a b = some e') : Ok1 X n c m (.IfExp t a b pos) e' := by
  unfold iteS at h
  cases m with
  | t => cases h
  | v =>
    cases ht : rec .t Γ t with
    | none => simp only [ht] at h; cases h
    | some t' =>
      simp only [ht] at h
      cases ha : rec .v Γ a with
      | none => simp only [ha] at h; cases h
      | some a' =>
        simp only [ha] at h
        cases hb : rec .v Γ b with
        | none => simp only [hb] at h; cases h
        | some b' =>
          simp only [hb] at h; cases h
          exact ok_v (se_ite (IH _ _ _ _ ht X n c g) (IH _ _ _ _ ha X n c g).1 (IH _ _ _ _ hb X n c g).1) rfl
theorem args_ok (IH : RecOk rec) (g : GOk X n Γ c) : ∀ {es : List Expr} {es' : List E}, es.all noStar = true → mapO (rec .v Γ) es = some es' → SA X n es (evalL c es') ∧ SAB X n es (evalLB c es')
  | [], es', hs, h => by cases h; exact ⟨sa_nil, sab_nil⟩
  | e :: es, es', hs, h => by
    rw [List.all_cons, Bool.and_eq_true] at hs
    unfold mapO at h
    cases h1 : rec .v Γ e with
    | none => simp only [h1] at h; cases h
    | some y =>
      simp only [h1] at h
      cases h3 : mapO (rec .v Γ) es with
      | none => simp only [h3] at h; cases h
      | some ys =>
        simp only [h3] at h; cases h
        obtain ⟨q1, q2⟩ := args_ok IH g hs.2 h3
        obtain ⟨p1, p2⟩ := IH _ _ _ _ h1 X n c g
        exact ⟨sa_cons p1 q1 hs.1, sab_cons p2 q2 hs.1⟩
theorem argsC_ok (IH : RecOk rec) (g : GOk X n Γ c) {es : List Expr} {es' : List E} (h : argsC rec Γ es = some es') : SA X n es (evalL c es') ∧ SAB X n es (evalLB c es') ∧ es.all noStar = true ∧ es'.length = es.length := by
  unfold argsC at h
  split at h
  · rename_i hs
    obtain ⟨h1, h2⟩ := args_ok IH g hs h
    exact ⟨h1, h2, hs, mapO_len h⟩
  · cases h
theorem opt_ok (IH : RecOk rec) (g : GOk X n Γ c) {o : Option Expr} {l : List E} (h : optC rec Γ o = some l) : SPO X n o fun g G => (evalL c l g G).bind fun l G => Res.of (prtL l) G := by
  cases o with
  | none => cases h; exact sp_none
  | some e =>
    unfold optC at h
    cases h1 : rec .v Γ e with
    | none => simp only [h1] at h; cases h
    | some y => simp only [h1] at h; cases h; exact sp_some (IH _ _ _ _ h1 X n c g).1
theorem subSC_ok {m : Md} {a b : Expr} {pos : Pos} {e' : E} (IH : RecOk rec) (g : GOk X n Γ c) (h : subSC rec Γ a b = some e') : Ok1 X n c m (.Subscript a b pos) e' := by
  unfold subSC at h
  split at h
  · cases h
  · rename_i a' ha
    have qa := (IH _ _ _ _ ha X n c g).2
    split at h
    · rename_i lo hi st p2
      split at h
      · rename_i t
        split at h
        · rename_i hh
          obtain ⟨h1, h2, h3⟩ := hh
          cases h
          cases lo with
          | some _ => cases h2
          | none =>
            cases hi with
            | some _ => cases h3
            | none =>
              unfold isM1 at h1
              split at h1
              · exact ok_any g.okc (show SE X n _ (evalE c (.blt .rev [a'])) from se_rev g.okc qa) rfl rfl
              · cases h1
        · cases h
      · split at h
        · cases h
        · rename_i lo' hlo
          split at h
          · cases h
          · rename_i hi' hhi
            cases h
            exact ok_any g.okc (se_slc g.okc qa (opt_ok IH g hlo) (opt_ok IH g hhi)) rfl rfl
    · rename_i hns
      split at h
      · cases h
      · rename_i b' hb
        cases h
        have hs : noSlice b = true := by
          cases b <;> first | rfl | exact (hns _ _ _ _ rfl).elim
        exact ok_any g.okc (se_idx g.okc qa (IH _ _ _ _ hb X n c g).1 hs) rfl rfl
theorem blt_of (k : Okc X n) {x : Str} {m : Nat} {b : Blt} (h : bltC x m = some b) : (∃ id, bootBuiltins x = some (.builtin id) ∧ CallR X (.builtin id) (rCB n (bltV b))) ∨ (∃ id, bootBuiltins x = some (.type id) ∧ CallR X (.type id) (rCB n (bltV b))) := by
  unfold bltC at h
  repeat' (split at h)
  all_goals first | cases h | skip
  · rename_i e _; subst e; exact .inl ⟨_, by decide +kernel, cb_len k⟩
  · rename_i e _; subst e; exact .inr ⟨_, by decide +kernel, cb_tuple k⟩
  · rename_i e _; subst e; exact .inr ⟨_, by decide +kernel, cb_list k⟩
  · rename_i e _; subst e; exact .inr ⟨_, by decide +kernel, cb_int⟩
  · rename_i e _; subst e; exact .inr ⟨_, by decide +kernel, cb_bool⟩
  · rename_i e _; subst e; exact .inr ⟨_, by decide +kernel, cb_str⟩
  · rename_i e _; subst e; exact .inl ⟨_, by decide +kernel, cb_abs⟩
  · rename_i e _; subst e; exact .inl ⟨_, by decide +kernel, cb_isi k⟩
  · rename_i e _; subst e; exact .inl ⟨_, by decide +kernel, cb_sorted⟩
theorem bltM_of (k : Okc X n) (hc : X.calm = true) {x : Str} {m : Nat} {b : Blt} (h : bltM x m = some b) : ∃ id, bootBuiltins x = some (.builtin id) ∧ CallR X (.builtin id) (rCB n (bltV b)) := by
  unfold bltM at h
  repeat' (split at h)
  all_goals first | cases h | skip
  · rename_i e _; subst e; exact ⟨_, by decide +kernel, cb_max2 hc⟩
  · rename_i e _; subst e; exact ⟨_, by decide +kernel, cb_min2 hc⟩
  · rename_i e _; subst e; exact ⟨_, by decide +kernel, cb_sum k hc⟩
theorem bltC_pos {x : Str} {b : Blt} (h : bltC x 0 = some b) : False := by
  unfold bltC at h
  repeat' (split at h)
  all_goals first | (rename_i z; exact absurd z (by decide)) | cases h
theorem bltM_pos {x : Str} {b : Blt} (h : bltM x 0 = some b) : False := by
  unfold bltM at h
  repeat' (split at h)
  all_goals first | (rename_i z; exact absurd z (by decide)) | cases h
theorem callS_ok {m : Md} {f : Expr} {es : List Expr} {ks : List Keyword} {pos : Pos} {e' : E} (IH : RecOk rec) (g : GOk X n Γ c) (h : callS rec Γ f es ks = some e') : Ok1 X n c m (.Call f es ks pos) e' := by
  unfold callS at h
  split at h
  · rename_i x p
    split at h
    · rename_i hg
      obtain ⟨g1, g2, g3⟩ := glC_ok g hg
      split at h
      · cases h
      · rename_i es' hes
        obtain ⟨q1, q2, q3, q4⟩ := argsC_ok IH g hes
        split at h
        · rename_i hbl
          have hmg := g.bl x hbl
          split at h
          · rename_i b hb
            cases h
            cases es with
            | nil => exact (bltC_pos hb).elim
            | cons e es =>
              rcases blt_of g.okc hb with ⟨id, h1, h2⟩ | ⟨id, h1, h2⟩
              · exact ok_any g.okc (se_blt h2 g1 hmg h1 q2 q3 g3 g2) rfl rfl
              · exact ok_any g.okc (se_bltT h2 g1 hmg h1 q2 q3 g3 g2) rfl rfl
          · split at h
            · rename_i hc
              cases hb : bltM x es.length with
              | none => rw [hb] at h; cases h
              | some b =>
                rw [hb] at h; cases h
                cases es with
                | nil => exact (bltM_pos hb).elim
                | cons e es =>
                  obtain ⟨id, h1, h2⟩ := bltM_of g.okc (g.calm hc) hb
                  exact ok_any g.okc (se_blt h2 g1 hmg h1 q2 q3 g3 g2) rfl rfl
            · cases h
        · split at h
          · rename_i hc
            split at h
            · rename_i np dfl hf
              split at h
              · rename_i hle
                cases h
                have hcall := g.fns hc x np dfl (es.length + dfl.length - np) hf (by omega)
                cases es with
                | nil =>
                  cases es' with
                  | cons _ _ => cases q4
                  | nil => exact ok_any g.okc (se_call0 hcall (g.tk hc) g1 g2) rfl rfl
                | cons e es =>
                  have q5 := q3
                  rw [List.all_cons, Bool.and_eq_true] at q5
                  exact ok_any g.okc (se_call hcall (g.tk hc) g1 g2 q1 q5.1 q5.2) rfl rfl
              · cases h
            · cases h
          · cases h
    · cases h
  · cases h

/-! ### targets, walks, comprehensions -/
theorem stoC_ok (g : GOk X n Γ c) {x : Str} {i : Nat} (h : stoC Γ x = some i) : X.N[i]? = some x ∧ Loc X.env.scope x ∧ (X.fn x = true ∨ X.env.scope.names.lookup x = some .local) := by
  unfold stoC at h
  split at h
  · rename_i hh
    have h1 : X.N[i]? = some x := by rw [g.N]; exact ixOf_ok h
    rcases hh with q | ⟨t, q⟩
    · exact ⟨h1, .inl (by rw [g.nm]; exact q), .inr (by rw [g.nm]; exact q)⟩
    · exact ⟨h1, .inr (by rw [g.nm]; exact q), .inl (g.fn t x)⟩
  · cases h
theorem nms_ok (g : GOk X n Γ c) : ∀ {ts : List Expr} {is : List Nat}, nmsC Γ ts = some is → SGs X n ts is ∧ ts.length = is.length ∧ ts.all noStar = true
  | [], is, h => by cases h; exact ⟨sgs_nil, rfl, rfl⟩
  | t :: ts, is, h => by
    cases t with
    | Name x p =>
      unfold nmsC at h
      cases h1 : stoC Γ x with
      | none => simp only [h1] at h; cases h
      | some i =>
        simp only [h1] at h
        cases h2 : nmsC Γ ts with
        | none => simp only [h2] at h; cases h
        | some js =>
          simp only [h2] at h; cases h
          obtain ⟨q1, q2, q3⟩ := nms_ok g h2
          obtain ⟨p1, p2, p3⟩ := stoC_ok g h1
          exact ⟨sgs_cons (g.N ▸ g.nd) p1 p2 p3 q1, by simp [q2], by rw [List.all_cons, q3]; rfl⟩
    | _ => cases h
theorem tgC_ok (g : GOk X n Γ c) {tg : Expr} {T : Tg} (h : tgC Γ tg = some T) : SG X n tg T := by
  cases tg with
  | Name x p =>
    cases h1 : stoC Γ x with
    | none => simp [tgC, h1] at h
    | some i =>
      have e : T = .name i := by simpa [tgC, h1] using h.symm
      subst e
      obtain ⟨p1, p2, p3⟩ := stoC_ok g h1
      exact sg_name (g.N ▸ g.nd) p1 p2 p3
  | Tuple ts k1 p =>
    have h' : (if Γ.calm = true then (nmsC Γ ts).map Tg.tup else none) = some T := h
    split at h'
    · rename_i hc
      cases h1 : nmsC Γ ts with
      | none => rw [h1] at h'; cases h'
      | some is =>
        rw [h1] at h'; cases h'
        obtain ⟨q1, q2, q3⟩ := nms_ok g h1
        exact sg_tup g.okc (g.calm hc) q1 q2 q3
    · cases h'
  | _ => cases h
theorem evalL_len {c : Ctx} : ∀ {es : List E} {g : List Sl} {G : Cells} {v : List GV} {G' : Cells}, evalL c es g G = .ok v G' → v.length = es.length
  | [], g, G, v, G', h => by
    have h' : (Res.ok ([] : List GV) G) = .ok v G' := h
    cases h'; rfl
  | e :: es, g, G, v, G', h => by
    have h' : ((evalE c e g G).bind fun x G => (evalL c es g G).bind fun xs G => Res.ok (x :: xs) G) = .ok v G' := h
    cases h1 : evalE c e g G with
    | ok x G1 =>
      rw [h1] at h'
      have h2 : ((evalL c es g G1).bind fun xs G => Res.ok (x :: xs) G) = .ok v G' := h'
      cases h3 : evalL c es g G1 with
      | ok xs G2 =>
        rw [h3] at h2
        have h4 : Res.ok (x :: xs) G2 = .ok v G' := h2
        cases h4
        rw [List.length_cons, List.length_cons, evalL_len h3]
      | ex C fs G2 => rw [h3] at h2; cases h2
      | no => rw [h3] at h2; cases h2
    | ex C fs G2 => rw [h1] at h'; cases h'
    | no => rw [h1] at h'; cases h'
theorem rng_ok (IH : RecOk rec) (g : GOk X n Γ c) {tg it : Expr} {it' : It} (h : rngS rec Γ it = some it') : SIS X n tg it (iterE c it') ∧ notSet it = true := by
  unfold rngS at h
  split at h
  · rename_i x p es pos
    split at h
    · rename_i hh
      obtain ⟨rfl, hg, hb, hl⟩ := hh
      obtain ⟨g1, g2, g3⟩ := glC_ok g hg
      have hm := g.bl _ hb
      cases ha : argsC rec Γ es with
      | none => rw [ha] at h; cases h
      | some es' =>
        rw [ha] at h; cases h
        obtain ⟨q1, _, q3, q4⟩ := argsC_ok IH g ha
        rcases hl with hl | hl
        · match es, hl, q1, q3, q4 with
          | [a], _, q1, q3, q4 =>
            rw [List.all_cons, Bool.and_eq_true] at q3
            exact ⟨sis_rng1 g1 hm q1 q3.1 fun g G v G' hv => (evalL_len hv).trans q4, rfl⟩
        · match es, hl, q1, q3, q4 with
          | [a, b], _, q1, q3, q4 =>
            rw [List.all_cons, List.all_cons, Bool.and_eq_true, Bool.and_eq_true] at q3
            exact ⟨sis_rng2 g1 hm q1 q3.1 q3.2.1 fun g G v G' hv => (evalL_len hv).trans q4, rfl⟩
    · cases h
  · cases h
theorem itB_ok (IH : RecOk rec) (g : GOk X n Γ c) {tg it : Expr} {it' : It} (h : itB rec Γ it = some it') : SIB X n tg it (iterE c it') := by
  unfold itB at h
  split at h
  · rename_i r hr
    cases h
    exact (rng_ok IH g hr).1.b
  · cases h1 : rec .v Γ it with
    | none => rw [h1] at h; cases h
    | some e' => rw [h1] at h; cases h; exact sib_seq g.okc (IH _ _ _ _ h1 X n c g).2
theorem itS_ok (IH : RecOk rec) (g : GOk X n Γ c) {tg it : Expr} {it' : It} (h : itS rec Γ it = some it') : SIS X n tg it (iterE c it') := by
  unfold itS at h
  split at h
  · rename_i r hr
    cases h
    exact (rng_ok IH g hr).1
  · cases h1 : rec .v Γ it with
    | none => rw [h1] at h; cases h
    | some e' => rw [h1] at h; cases h; exact sis_seq g.okc (IH _ _ _ _ h1 X n c g).1
theorem takes0' {X : Cx} : Takes X (fun _ _ _ _ => False) := fun _ _ x => by
  obtain ⟨_, _, _, _, _, _, _, _, _, _, _, _, _, _, _, _, z⟩ := x
  exact z.elim
theorem callOk_blk {n' : Cn} {X' : Cx} {cf : List GV → Cells → Res GV} {x : Str} {dv : List GV} (h : CallOk X n cf x dv) (h1 : X'.prog = X.prog) (h2 : X'.w = X.w) (h3 : X'.K = X.K) (h4 : X'.mg = X.mg) (h5 : X'.base = X.base) (h6 : X'.A = X.A) (h7 : n'.W = n.W) (h8 : n'.xc = n.xc) : CallOk X' n' cf x dv := by
  obtain ⟨k, np, f, fd, ps, ds, dvs, q⟩ := h.ex
  exact ⟨⟨k, np, f, fd, ps, ds, dvs, by rw [h1, h2, h3, h4, h5, h6, h7, h8]; exact q⟩⟩
theorem genOk_blk {n' : Cn} {X' : Cx} {cf : List GV → Cells → Res GV} {x : Str} {dv : List GV} (h : GenOk X n cf x dv) (h1 : X'.prog = X.prog) (h2 : X'.w = X.w) (h3 : X'.K = X.K) (h4 : X'.mg = X.mg) (h5 : X'.base = X.base) (h6 : X'.A = X.A) (h7 : n'.W = n.W) (h8 : n'.xc = n.xc) : GenOk X' n' cf x dv := by
  obtain ⟨k, np, f, fd, ps, ds, dvs, q⟩ := h.ex
  exact ⟨⟨k, np, f, fd, ps, ds, dvs, by rw [h1, h2, h3, h4, h5, h6, h7, h8]; exact q⟩, by rw [h3, h7, h8]; exact h.ns⟩
theorem blk_ok (g : GOk X n Γ c) {scope : Scope} (hk : scope.kind = .function) (hcalm : Γ.calm = true) (s : Shared) (H : Hp) (C : Addr) (cl : List (Str × Addr)) (fp : List Addr) : GOk (X.blk s H scope (compEnvC scope cl C X.env) fp) n.calm (blkG Γ scope) c where
  okc := ⟨g.okc.K, g.okc.mg⟩
  N := g.N
  nd := g.nd
  nm := by
    show (relS scope X.env.scope).names = relN Γ.nm scope.names
    unfold relS relN
    rw [g.nm, g.kind]
    simp
  kind := hk
  un := g.un
  calm := g.calm
  fn := fun h => by cases h
  gv := g.gv
  bl := g.bl
  tk := fun _ => takes0'
  fns := fun h x np dfl j h1 h2 => callOk_blk (g.fns hcalm x np dfl j h1 h2) rfl rfl rfl rfl rfl rfl rfl rfl
  gns := fun h x np dfl j h1 h2 => genOk_blk (g.gns hcalm x np dfl j h1 h2) rfl rfl rfl rfl rfl rfl rfl rfl
  att := fun h => by
    have h' : Γ.calm = false := h
    rw [hcalm] at h'; cases h'
theorem folded_of {it : Expr} (h : notSet it = true) {env : Env} : ∀ x, foldedSetIterable it env x = pure x := fun x => by
  cases it <;> first | rfl | cases h
theorem lc_parts (IH : RecOk rec) (g : GOk X n Γ c) {elt : Expr} {gs : List Comprehension} {scope : Scope} {e' : E} (h : lcS rec Γ elt gs scope = some e') : ∃ tg it ifs T it' c' e1, gs = [⟨tg, it, ifs, 0⟩] ∧ e' = .cmpr e1 T ((ownC Γ.N scope.names).map (·.2)) it' c' ∧
    LcOk X n elt tg it ifs scope (ownC Γ.N scope.names) (iterE c it') T (evalE c c') (evalE c e1) := by
  unfold lcS at h
  split at h
  · rename_i tg it ifs as
    split at h
    · rename_i hh
      obtain ⟨rfl, hc, hs, hb⟩ := hh
      split at h
      · cases h
      · rename_i T hT
        split at h
        · rename_i hsub
          split at h
          · cases h
          · rename_i it' hit
            split at h
            · cases h
            · rename_i c' hcd
              split at h
              · cases h
              · rename_i e1 he
                cases h
                have ok := blkOk_by hb
                have hb' : BlkOk X.N X.env.scope scope (ownC Γ.N scope.names) := ⟨ok.kind, ok.uniq, by rw [g.N]; exact ok.ix, fun y hy e => by rw [g.nm]; exact ok.free y hy e, by rw [g.N]; exact ok.own⟩
                have gb := fun s H C cl fp => blk_ok g ok.kind hc s H C cl fp
                refine ⟨tg, it, ifs, T, it', c', e1, rfl, rfl, g.calm hc, g.N ▸ g.nd, itB_ok IH g hit, hb', fun s H C cl fp => tgC_ok (gb s H C cl fp) hT, fun s H C cl fp => ?_, fun s H C cl fp => (IH _ _ _ _ he _ _ _ (gb s H C cl fp)).1, folded_of hs, fun i hi => ?_⟩
                · unfold cndC at hcd
                  split at hcd
                  · cases hcd; exact sts_nil
                  · exact sts_one (st_b (IH _ _ _ _ hcd _ _ _ (gb s H C cl fp)))
                  · cases hcd
                · rw [List.all_eq_true] at hsub
                  exact of_decide_eq_true (hsub i hi)
        · cases h
    · cases h
  · cases h
theorem lcS_ok {m : Md} {elt : Expr} {gs : List Comprehension} {scope : Scope} {pos : Pos} {e' : E} (IH : RecOk rec) (g : GOk X n Γ c) (h : lcS rec Γ elt gs scope = some e') : Ok1 X n c m (.ListComp elt gs scope pos) e' := by
  obtain ⟨tg, it, ifs, T, it', c', e1, rfl, rfl, k⟩ := lc_parts IH g h
  exact ok_any g.okc (k.sf (pos := pos)).e rfl rfl
theorem attS_ok {m : Md} {a : Expr} {f : Str} {pos : Pos} {e' : E} (g : GOk X n Γ c) (h : attS Γ a f = some e') : Ok1 X n c m (.Attribute a f pos) e' := by
  unfold attS at h
  split at h
  · rename_i x p
    split at h
    · cases h
    · rename_i hc
      have hc' : Γ.calm = false := by simpa using hc
      cases hv : varC Γ x with
      | none => rw [hv] at h; cases h
      | some i =>
        rw [hv] at h; cases h
        obtain ⟨h1, h2, h3, h4⟩ := varC_ok g hv
        exact ok_any g.okc (g.att hc' i x f p pos h1 h2 h3 h4) rfl rfl
  · cases h
theorem map_some {α β : Type} {f : α → β} {o : Option α} {y : β} (h : o.map f = some y) : ∃ x, o = some x ∧ f x = y := by
  cases o with
  | none => cases h
  | some x => cases h; exact ⟨x, rfl, rfl⟩
theorem genS_ok {m : Md} {f : Expr} {es : List Expr} {ks : List Keyword} {pos : Pos} {e' : E} (IH : RecOk rec) (g : GOk X n Γ c) (h : genS rec Γ f es ks = some e') : Ok1 X n c m (.Call f es ks pos) e' := by
  unfold genS at h
  split at h
  · rename_i l p x p2 a as pos2
    split at h
    · rename_i hh
      obtain ⟨rfl, hc, hgl, hbl, hgx⟩ := hh
      split at h
      · cases h
      · rename_i np dfl hf
        split at h
        · rename_i hle
          obtain ⟨es', hes, rfl⟩ := map_some h
          obtain ⟨l1, l2, l3⟩ := glC_ok g hgl
          obtain ⟨g1, g2, g3⟩ := glC_ok g hgx
          obtain ⟨q1, q2, q3, q4⟩ := argsC_ok IH g hes
          have hgen := g.gns hc x np dfl ((a :: as).length + dfl.length - np) hf (by omega)
          have q5 := q3
          rw [List.all_cons, Bool.and_eq_true] at q5
          refine ok_any g.okc ?_ rfl rfl
          have key := se_list (p := p) (p2 := p2) (pos := pos) (pos2 := pos2) hgen (g.tk hc) g1 g2 l1 (g.bl _ hbl) q1 q5.1 q5.2
          refine PE.imp key fun σ H Q ⟨B, S, ρ, gg, G, R, pp⟩ => ⟨B, S, ρ, gg, G, R, ?_⟩
          have ee : evalE c (.blt .listt [.call x es' (dfl.drop ((a :: as).length + dfl.length - np))]) gg G = ((((evalL c es' gg G).bind fun xs G => c.cf x (xs ++ dfl.drop ((a :: as).length + dfl.length - np)) G).bind fun v G => (Res.ok [] G).bind fun vs G => .ok (v :: vs) G).bind fun xs G => Res.of (bltV .listt xs) G) := by
            simp only [evalE, evalLB, bor]
          rw [ee] at pp
          exact pp
        · cases h
    · cases h
  · cases h
theorem compS_ok (IH : RecOk rec) : RecOk (compS rec) := by
  intro m Γ e e' h X n c g
  cases e with
  | Name x p => exact name_ok g h
  | Constant k j p => exact con_ok g h
  | BinOp a op b p => exact binS_ok IH g h
  | UnaryOp op a p => exact unS_ok IH g h
  | BoolOp op es p => exact boolS_ok IH g h
  | Compare a ops cs p => exact cmpS_ok IH g h
  | IfExp t a b p => exact iteS_ok IH g h
  | Tuple es k p =>
    obtain ⟨es', h1, rfl⟩ := map_some h
    exact ok_any g.okc (se_tup (argsC_ok IH g h1).1) rfl rfl
  | List es p =>
    obtain ⟨es', h1, rfl⟩ := map_some h
    exact ok_any g.okc (se_lst (argsC_ok IH g h1).1) rfl rfl
  | Subscript a b p => exact subSC_ok IH g h
  | Call f es ks p =>
    replace h : (match genS rec Γ f es ks with | some e => some e | none => callS rec Γ f es ks) = some e' := h
    cases hg : genS rec Γ f es ks with
    | some e1 => rw [hg] at h; cases h; exact genS_ok IH g hg
    | none => rw [hg] at h; exact callS_ok IH g h
  | ListComp elt gs sc p => exact lcS_ok IH g h
  | Attribute a f p => exact attS_ok g h
  | _ => cases h
theorem comp_ok : ∀ f, RecOk (comp f)
  | 0 => fun m Γ e e' h => by cases h
  | f + 1 => fun m Γ e e' h => compS_ok (comp_ok f) m Γ e e' h
end
end Gm
end

section
namespace Gm
open PySem PySem.Spec PyProof.Rows L2

/-! ### which slots escape -/
mutual
def escE : E → List Nat
  | .var i => [i]
  | .con _ => []
  | .glb _ => []
  | .bty _ => []
  | .bin _ a b => escB a (escE a) ++ escB b (escE b)
  | .neg a => escE a
  | .cmp _ a b => escB a (escE a) ++ escB b (escE b)
  | .chn _ _ a b d => escE a ++ escE b ++ escE d
  | .and a b => escE a ++ escE b
  | .or a b => escE a ++ escE b
  | .not a => escB a (escE a)
  | .ite t a b => escB t (escE t) ++ escE a ++ escE b
  | .tup es => escL es
  | .lst es => escL es
  | .cel es => escL es
  | .idx a b => escB a (escE a) ++ escE b
  | .slc a lo hi => escB a (escE a) ++ escL lo ++ escL hi
  | .call _ es _ => escL es
  | .blt _ es => escLB es
  | .cmpr elt _ _ it cnd => escE elt ++ escI it ++ escE cnd
  | .xfl _ _ => []
def escB (e : E) (l : List Nat) : List Nat := match e with
  | .var _ => []
  | _ => l
def escL : List E → List Nat
  | [] => []
  | e :: es => escE e ++ escL es
def escLB : List E → List Nat
  | [] => []
  | e :: es => escB e (escE e) ++ escLB es
def escI : It → List Nat
  | .seq e => escB e (escE e)
  | .seqs e => escE e
  | .rng es => escL es
end
def escS : S → List Nat
  | .set _ e => escE e
  | .seto _ e => escE e
  | .sett _ e => escE e
  | .par _ es => escL es
  | .sub _ ix e => escE e ++ escE ix
  | .app _ e => escE e
  | .exp e => escE e
  | .ret e => escE e
  | .ite t _ _ => escB t (escE t)
  | .whl t _ => escB t (escE t)
  | .forr _ it _ => escI it
  | .rse _ es => escL es
  | .aug _ _ e => escE e
  | _ => []
def frzW (own : List Nat) (s : S) : S := if (escS s).any (fun i => decide (i ∈ own)) = true then .frz ((escS s).filter fun i => decide (i ∈ own)) s else s
/-- names whose lists the text changes -/
def colS : Nat → List Stmt → List Str
  | 0, _ => []
  | f + 1, ss => ss.flatMap fun s => match s with
    | .Expr (.Call (.Attribute (.Name x _) _ _) _ _ _) _ => [x]
    | .Assign [.Subscript (.Name x _) _ _] _ _ => [x]
    | .If _ a b _ => colS f a ++ colS f b
    | .While _ b _ _ => colS f b
    | .For _ _ b _ _ => colS f b
    | .Try b hs _ _ _ => colS f b ++ hs.flatMap fun h => match h with | .ExceptHandler _ _ b _ => colS f b
    | _ => []

/-! ### the text of a statement, read -/
structure Sty where
  own : List Nat
  cel : Bool
abbrev RecS := Gam → Stmt → Option S
def isTupE : Expr → Bool
  | .Tuple _ _ _ => true
  | _ => false
def isCompE : Expr → Bool
  | .ListComp _ _ _ _ => true
  | .SetComp _ _ _ _ => true
  | .DictComp _ _ _ _ _ => true
  | _ => false
def swB (Γ : Gam) (x : Str) (px : Pos) (scope : Scope) (pc : Pos) : Bool := (Γ.nm.lookup x == some .local) && px.line == pc.line && !(scope.names.any fun (n, k) => n == x && (k == .local || k == .cell))
def isCallE : Expr → Bool
  | .Call _ _ _ _ => true
  | _ => false
/-- a list of one's own: its form -/
def freshB (Γ : Gam) (e : Expr) : Bool := match e with
  | .List _ _ => true
  | .ListComp _ _ _ _ => true
  | .Call (.Name x _) [a] [] _ => x = ("list" : Str) && x ∈ Γ.bl && !isCallE a
  | .BinOp _ .Mult _ _ => true
  | _ => false
def setC (rec : Rec) (st : Sty) (Γ : Gam) (x : Str) (e : Expr) : Option S := match stoC Γ x with
  | none => none
  | some i => match rec .v Γ e with
    | none => none
    | some e' => if i ∈ st.own ∧ freshB Γ e = true then some (.seto i e') else some (.set i e')
def noStarL (es : List Expr) : Bool := es.all noStar
def parOk (Γ : Gam) (xs : List (Str × Pos)) (vs : List Expr) : Bool := (xs.all fun (x, p) => (Γ.nm.lookup x == some .local) && p.line == (xs.head?.map (·.2.line)).getD 0) && vs.all noStar && !(vs.all (foldedForSure 8)) && !(vs.all (constantsAlone 8))
def parC (rec : Rec) (Γ : Gam) (ts vs : List Expr) : Option S := match ts, vs with
  | [.Name x px, .Name y py], [a, b] => if x ≠ y ∧ parOk Γ [(x, px), (y, py)] [a, b] = true then (match stoC Γ x with
    | none => none
    | some i => match stoC Γ y with
      | none => none
      | some j => (argsC rec Γ [a, b]).map fun es => .par [i, j] es) else none
  | [.Name x px, .Name y py, .Name z pz], [a, b, d] => if x ≠ y ∧ x ≠ z ∧ y ≠ z ∧ parOk Γ [(x, px), (y, py), (z, pz)] [a, b, d] = true then (match stoC Γ x with
    | none => none
    | some i => match stoC Γ y with
      | none => none
      | some j => match stoC Γ z with
        | none => none
        | some l => (argsC rec Γ [a, b, d]).map fun es => .par [i, j, l] es) else none
  | _, _ => none
/-- a target that is no plain local -/
def notLoc (Γ : Gam) : Expr → Bool
  | .Name x _ => !(Γ.nm.lookup x == some .local)
  | _ => true
def tupC (rec : Rec) (Γ : Gam) (ts : List Expr) (e : Expr) : Option S := if Γ.calm = true then (match e with
  | .Tuple vs _ _ => (match parC rec Γ ts vs with
    | some s => some s
    | none => if vs.all noStar = true ∧ (vs.length > 3 ∨ vs.all (foldedForSure 8) = true ∨ ts.any (notLoc Γ) = true) then (match nmsC Γ ts with
      | none => none
      | some is => (rec .v Γ e).map fun e' => .sett is e') else none)
  | e => if isCompE e = true then none else (match nmsC Γ ts with
    | none => none
    | some is => (rec .v Γ e).map fun e' => .sett is e')) else none
def retC (rec : Rec) (st : Sty) (Γ : Gam) (e : Expr) : Option S := match st.cel, e with
  | true, .List es _ => (argsC rec Γ es).map fun es' => .ret (.cel es')
  | _, e => (rec .v Γ e).map .ret
def augC (op : Operator) : Option Bop := match op with
  | .Add => some .add
  | .Sub => some .sub
  | _ => none
def expC (rec : Rec) (Γ : Gam) (e : Expr) : Option S := match e with
  | .Constant (.str _) _ _ => some .pas
  | .Call (.Attribute (.Name x _) m pa) [a] [] pc => if m = ("append" : Str) ∧ (pa.endLine == pc.line) = true ∧ noStar a = true then (match varC Γ x with
    | none => none
    | some i => (rec .v Γ a).map fun a' => .app i a') else none
  | e => if isCompE e = true then none else (rec .v Γ e).map .exp
def asgC (rec : Rec) (st : Sty) (Γ : Gam) (t e : Expr) : Option S := match t with
  | .Name x _ => setC rec st Γ x e
  | .Tuple ts _ _ => tupC rec Γ ts e
  | .Subscript (.Name x _) ix _ => (match varC Γ x with
    | none => none
    | some i => if noSlice ix = true then (match rec .v Γ ix with
      | none => none
      | some ix' => (rec .v Γ e).map fun e' => .sub i ix' e') else none)
  | _ => none
def rseC (rec : Rec) (Γ : Gam) (e : Expr) : Option S := match e with
  | .Call (.Name C _) es [] _ => if Γ.calm = true ∧ glC Γ C = true then (match Γ.xc.lookup C with
    | none => none
    | some ns => if es.isEmpty = ns.isEmpty then (argsC rec Γ es).map fun es' => .rse C es' else none) else none
  | _ => none
def sufG (Γ : Gam) : Gam := { Γ with calm := false }
def hdC (rs : RecS) (Γ : Gam) : ExceptHandler → Option (Str × Option Nat × List S)
  | .ExceptHandler (some (.Name D _)) none (b₀ :: b) _ => if D ∈ Γ.hc ∧ glC Γ D = true then (mapO (rs (sufG Γ)) (b₀ :: b)).map fun b' => (D, none, b') else none
  | .ExceptHandler (some (.Name D _)) (some y) (b₀ :: b) _ => if D ∈ Γ.hc ∧ glC Γ D = true ∧ Γ.nm.lookup y = some .local then (match ixOf y Γ.N with
    | none => none
    | some i => (mapO (rs (sufG Γ)) (b₀ :: b)).map fun b' => (D, some i, b')) else none
  | _ => none
def tryC (rs : RecS) (Γ : Gam) (b : List Stmt) (hs : List ExceptHandler) : Option S := match hs with
  | _ :: _ => if Γ.calm = true then (match mapO (rs Γ) b with
    | none => none
    | some b' => (mapO (hdC rs Γ) hs).map fun hs' => .tryy b' hs') else none
  | [] => none
def stS (rec : Rec) (st : Sty) (rs : RecS) (Γ : Gam) : Stmt → Option S
  | .Expr e _ => expC rec Γ e
  | .Assign [t] e _ => asgC rec st Γ t e
  | .AugAssign (.Name x _) op e _ => (match augC op, stoC Γ x with
    | some o, some i => (rec .v Γ e).map fun e' => .aug i o e'
    | _, _ => none)
  | .Return o _ => (match o with
    | none => some (.ret (.con .non))
    | some e => retC rec st Γ e)
  | .If t a b _ => (match rec .t Γ t with
    | none => none
    | some t' => match mapO (rs Γ) a with
      | none => none
      | some a' => (mapO (rs Γ) b).map fun b' => .ite t' a' b')
  | .While t b [] _ => (match rec .t Γ t with
    | none => none
    | some t' => (mapO (rs Γ) b).map fun b' => .whl t' b')
  | .For tg it b [] _ => if Γ.calm = true ∧ notSet it = true then (match tgC Γ tg with
    | none => none
    | some T => match itS rec Γ it with
      | none => none
      | some it' => (mapO (rs Γ) b).map fun b' => .forr T it' b') else none
  | .Raise (some e) none _ => rseC rec Γ e
  | .Try b hs [] [] _ => tryC rs Γ b hs
  | .Pass _ => some .pas
  | .Break _ => some .brk
  | .Continue _ => some .cnt
  | _ => none
def compS2 (F : Nat) (st : Sty) : Nat → RecS
  | 0, _, _ => none
  | f + 1, Γ, s => (stS (comp F) st (compS2 F st f) Γ s).map (frzW st.own)

/-! ### it holds -/
/-- an own exception class: how its objects' fields are read -/
structure XAt (K : PySem.W.Frag) (A : Addr) (ns : List Str) : Prop where
  ga : PySem.W.findIn K (.ref A) "__getattribute__" = some (some (.builtin "BaseException.__getattribute__"))
  gg : PySem.W.findIn K (.ref A) "__getattr__" = some none
  ex : PySem.W.subIn K (.ref A) (.type "BaseException") = some true
  hd : PySem.W.hasDictIn K A = true
  no : ∀ f ∈ ns, PySem.W.findIn K (.ref A) f = some none
/-- its objects are made -/
def ExcMk (X : Cx) (n : Cn) (C : Str) (ns : List Str) : Prop := ∀ (X' : Cx) (n' : Cn), X'.prog = X.prog → X'.w = X.w → X'.K = X.K → X'.mg = X.mg → X'.base = X.base → X'.A = X.A → n'.W = n.W → n'.xc = n.xc →
  (ns ≠ [] → ∀ (es : List Expr) (ea : List Sl → Cells → Res (List GV)) (p pos : Pos), es ≠ [] → Gl X' C → SA X' n' es ea → es.all noStar = true → PMk X' (.Call (.Name C p) es [] pos) (rMk n' C ns ea)) ∧
  (ns = [] → ∀ (p pos : Pos), Gl X' C → PMk X' (.Call (.Name C p) [] [] pos) (rMk n' C ns fun _ G => .ok [] G))
structure GS (X : Cx) (n : Cn) (Γ : Gam) (c : Ctx) : Prop extends GOk X n Γ c where
  po : PassesOwn (model X.prog X.w) X.A X.env X.xe
  stk : X.stack = X.env :: X.outer
  frm : X.env.frame = some X.env.locals
  xa : Γ.calm = true → n.W.xa = none
  xd : Γ.calm = true → n.W.xd = none
  exc : Γ.calm = true → ∀ C ns, Γ.xc.lookup C = some ns → n.xc C = some ns ∧ c.T.xc C = some ns ∧ ExcMk X n C ns
  hcl : ∀ D, D ∈ Γ.hc → ∃ cv, (X.mg D = some cv ∨ (X.mg D = none ∧ bootBuiltins D = some cv)) ∧ ∀ C ns cls, n.xc C = some ns → n.W.mg C = some cls → PySem.W.exmOne X.K cls cv = some (c.T.xsub C D)
  xat : ∀ C ns, n.xc C = some ns → c.T.xc C = some ns ∧ ∃ A, n.W.mg C = some (.ref A) ∧ XAt X.K A ns
section
variable {X : Cx} {n : Cn} {c : Ctx} {Γ : Gam}
theorem GS.ex1 {F : Nat} (g : GS X n Γ c) {m : Md} {e : Expr} {e' : E} (h : comp F m Γ e = some e') : Ok1 X n c m e e' := comp_ok F m Γ e e' h X n c g.toGOk
theorem bk_fun (g : GS X n Γ c) : X.env.blockKind = .function := by unfold Env.blockKind; rw [g.kind]; rfl
theorem sw_lc (g : GS X n Γ c) {elt : Expr} {gs : List Comprehension} {scope : Scope} {pc px : Pos} {x : Str} {l : Nat} : swapsWith (.ListComp elt gs scope pc) (some (.Name x px)) l X.env = pure (swB Γ x px scope pc) := by
  have ky : X.env.kindOf x = Γ.nm.lookup x := by show X.env.scope.names.lookup x = _; rw [g.nm]
  unfold swapsWith swB
  simp only [bk_fun g, ky, Expr.pos]
  rfl
theorem noComp_of {e : Expr} (h : isCompE e = false) : noComp e = true := by
  cases e <;> first | rfl | cases h
theorem sole_false {t e : Expr} {l : Nat} {env : Env} (h : isCompE e = false) : swapsWithSole [t] e l env = pure false := swaps_none (noComp_of h)
theorem mul_gOwn (op : Bop) (h : op = .mul) (i : Nat) (g : List Sl) (x y : GV) (G : Cells) : (Res.of (binV op x y) G).thn g (gOwn i g) = (Res.of (mulL x y) G).thn g (gOwn i g) := by
  subst h
  cases x <;> cases y <;> first | rfl | skip
  · rename_i a b
    show (Res.of (if mulOk a b then some (GV.int (a * b)) else none) G).thn g (gOwn i g) = .no
    split <;> rfl
  · rename_i xs b
    show (Res.of (if decide (1 ≤ b) && decide (b ≤ 1000) && decide (xs.length ≤ 1000) && !xs.isEmpty then some (GV.tup (List.replicate b.toNat xs).flatten) else if decide (-1000 ≤ b) && decide (b ≤ 0) && !xs.isEmpty then some (GV.tup []) else none) G).thn g (gOwn i g) = .no
    split
    · rfl
    · split <;> rfl
theorem callS_name {rec : Rec} {x : Str} {p : Pos} {es : List Expr} : callS rec Γ (.Name x p) es [] = if glC Γ x = true then (match argsC rec Γ es with
    | none => none
    | some es' => if x ∈ Γ.bl then (match bltC x es.length with
        | some b => some (.blt b es')
        | none => if Γ.calm = true then (bltM x es.length).map fun b => .blt b es' else none)
      else if Γ.calm = true then (match Γ.fns.lookup x with
        | some (np, dfl) => if es.length ≤ np ∧ np ≤ es.length + dfl.length then some (.call x es' (dfl.drop (es.length + dfl.length - np))) else none
        | none => none) else none) else none := rfl
theorem RecOk_at (F : Nat) : RecOk (comp F) := comp_ok F
theorem set_ok {F : Nat} {st : Sty} {x : Str} {px pos : Pos} {e : Expr} {s : S} (g : GS X n Γ c) (h : setC (comp F) st Γ x e = some s) : SS X n (.Assign [.Name x px] e pos) (execS c s) := by
  unfold setC at h
  split at h
  · cases h
  · rename_i i hi
    obtain ⟨p1, p2, p3⟩ := stoC_ok g.toGOk hi
    have nd := g.N ▸ g.nd
    split at h
    · cases h
    · rename_i e' he
      have q := (g.ex1 he).1
      by_cases hc : isCompE e = true
      · cases e with
        | ListComp elt gs scope pc =>
          cases F with
          | zero => cases he
          | succ F =>
            obtain ⟨tg, it, ifs, T, it', c', e1, rfl, rfl, k⟩ := lc_parts (comp_ok F) g.toGOk (show lcS (comp F) Γ elt gs scope = some e' from he)
            by_cases hs : swB Γ x px scope pc = true
            · have hl : X.env.scope.names.lookup x = some .local := by
                unfold swB at hs
                simp only [Bool.and_eq_true, beq_iff_eq] at hs
                rw [g.nm]; exact hs.1.1
              have hw := sw_lc g (elt := elt) (gs := [⟨tg, it, ifs, 0⟩]) (scope := scope) (pc := pc) (px := px) (x := x) (l := pos.line)
              rw [hs] at hw
              split at h
              · cases h; exact k.seto p1 hl hw
              · cases h; exact k.set p1 hl hw
            · have hs' : swB Γ x px scope pc = false := by simpa using hs
              have hw := sw_lc g (elt := elt) (gs := [⟨tg, it, ifs, 0⟩]) (scope := scope) (pc := pc) (px := px) (x := x) (l := pos.line)
              rw [hs'] at hw
              split at h
              · cases h; exact ss_seto nd p1 p2 p3 k.sf hw
              · cases h; exact ss_set nd p1 p2 p3 q hw
        | SetComp _ _ _ _ => cases F <;> cases he
        | DictComp _ _ _ _ _ => cases F <;> cases he
        | _ => cases hc
      · have hw := swaps_none (t := some (.Name x px)) (l := pos.line) (env := X.env) (noComp_of (by simpa using hc))
        split at h
        · rename_i hf
          cases h
          obtain ⟨_, hf⟩ := hf
          unfold freshB at hf
          split at hf
          · rename_i es p
            cases F with
            | zero => cases he
            | succ F =>
              obtain ⟨es', h1, rfl⟩ := map_some (show (argsC (comp F) Γ es).map E.lst = some e' from he)
              exact ss_seto nd p1 p2 p3 (sf_lst (argsC_ok (comp_ok F) g.toGOk h1).1) hw
          · exact absurd rfl hc
          · rename_i y p a p2'
            rw [Bool.and_eq_true, Bool.and_eq_true, decide_eq_true_eq, decide_eq_true_eq] at hf
            obtain ⟨⟨rfl, hb⟩, hca⟩ := hf
            cases F with
            | zero => cases he
            | succ F =>
              have hgn : genS (comp F) Γ (.Name "list" p) [a] [] = none := by cases a <;> first | rfl | cases hca
              have hcs : callS (comp F) Γ (.Name "list" p) [a] [] = some e' := by
                have he2 : (match genS (comp F) Γ (.Name "list" p) [a] [] with | some e => some e | none => callS (comp F) Γ (.Name "list" p) [a] []) = some e' := he
                rw [hgn] at he2
                exact he2
              rw [callS_name] at hcs
              split at hcs
              · rename_i hgl
                obtain ⟨g1, g2, g3⟩ := glC_ok g.toGOk hgl
                split at hcs
                · cases hcs
                · rename_i es' hes
                  obtain ⟨_, q2, q3, _⟩ := argsC_ok (comp_ok F) g.toGOk hes
                  have e0 : bltC "list" [a].length = some .listt := by show bltC "list" 1 = some .listt; decide +kernel
                  rw [e0] at hcs
                  cases hcs
                  rw [List.all_cons, Bool.and_eq_true] at q3
                  exact ss_seto nd p1 p2 p3 (sf_list g.okc g1 (g.bl _ hb) (by decide +kernel) q2 q3.1) hw
              · cases hcs
          · rename_i a b p
            cases F with
            | zero => cases he
            | succ F =>
              have hbs : binS (comp F) Γ a .Mult b = some e' := he
              unfold binS at hbs
              split at hbs
              · cases hbs
              · rename_i o ho
                cases ho
                split at hbs
                · cases hbs
                · rename_i a' ha
                  split at hbs
                  · cases hbs
                  · rename_i b' hb
                    cases hbs
                    refine PS.imp (ss_seto nd p1 p2 p3 (sf_mul (comp_ok F _ _ _ _ ha X n c g.toGOk).2 (comp_ok F _ _ _ _ hb X n c g.toGOk).2) hw) fun D σ H ⟨B, S, ρ, gg, G, R, pp⟩ => ⟨B, S, ρ, gg, G, R, ?_⟩
                    have ee : (((evB c a' gg G).bind fun x G => (evB c b' gg G).bind fun y G => Res.of (binV .mul x y) G).thn gg (gOwn i gg)) = (((evB c a' gg G).bind fun x G => (evB c b' gg G).bind fun y G => Res.of (mulL x y) G).thn gg (gOwn i gg)) := by
                      simp only [thn_bind, mul_gOwn .mul rfl]
                    show PoS n B S ρ (((evB c a' gg G).bind fun x G => (evB c b' gg G).bind fun y G => Res.of (mulL x y) G).thn gg (gOwn i gg)) D
                    rw [← ee]
                    exact pp
          · cases hf
        · cases h
          exact ss_set nd p1 p2 p3 q hw
end
end Gm
end

section
namespace Gm
open PySem PySem.Spec PyProof.Rows L2
section
variable {X : Cx} {n : Cn} {c : Ctx} {Γ : Gam}
theorem hw_not {ts : List Expr} {k : Nat} {pt : Pos} {e : Expr} {env : Env} (h : isTupE e = false) : swappedStores [.Tuple ts k pt] e env = pure none := by
  cases e <;> first | rfl | cases h
theorem hw_long {ts vs : List Expr} {k k2 : Nat} {pt p2 : Pos} {env : Env} (h : vs.length > 3) : swappedStores [.Tuple ts k pt] (.Tuple vs k2 p2) env = pure none := by
  unfold swappedStores
  dsimp only
  have : (!(ts.length == 2 || ts.length == 3) || vs.length != ts.length || env.blockKind != .function) = true := by
    by_cases h2 : ts.length = 2
    · have : (vs.length != ts.length) = true := by rw [bne_iff_ne]; omega
      rw [this]; simp
    · by_cases h3 : ts.length = 3
      · have : (vs.length != ts.length) = true := by rw [bne_iff_ne]; omega
        rw [this]; simp
      · have e2 : (ts.length == 2) = false := by rw [beq_eq_false_iff_ne]; exact h2
        have e3 : (ts.length == 3) = false := by rw [beq_eq_false_iff_ne]; exact h3
        rw [e2, e3]; rfl
  rw [if_pos this]
theorem noStar_any {vs : List Expr} (h : vs.all noStar = true) : (vs.any fun | .Starred .. => true | _ => false) = false := by
  induction vs with
  | nil => rfl
  | cons v vs ih =>
    rw [List.all_cons, Bool.and_eq_true] at h
    rw [List.any_cons, ih h.2, Bool.or_false]
    cases v <;> first | rfl | exact absurd h.1 (by simp [noStar])
theorem hw_fold {ts vs : List Expr} {k k2 : Nat} {pt p2 : Pos} {env : Env} (h : vs.all (foldedForSure 8) = true) (hs : vs.all noStar = true) : swappedStores [.Tuple ts k pt] (.Tuple vs k2 p2) env = pure none := by
  have q := noStar_any hs
  unfold swappedStores
  dsimp only
  split
  · rfl
  · split
    · rename_i z; exact Bool.noConfusion (q.symm.trans z)
    · split
      · rfl
      · first
        | rfl
        | (split
           · rfl
           · rename_i z; exact absurd h z)
theorem hw_two (g : GS X n Γ c) {x y : Str} {px py pt p2 : Pos} {a b : Expr} {k k2 : Nat} (hxy : x ≠ y) (h : parOk Γ [(x, px), (y, py)] [a, b] = true) : swappedStores [.Tuple [.Name x px, .Name y py] k pt] (.Tuple [a, b] k2 p2) X.env = pure (some [x, y]) := by
  unfold parOk at h
  simp only [Bool.and_eq_true, List.all_cons, List.all_nil, Bool.and_true, beq_iff_eq, Bool.not_eq_true', List.head?_cons, Option.map_some, Option.getD_some] at h
  obtain ⟨⟨⟨⟨⟨h1, _⟩, h2, h3⟩, h4⟩, h5⟩, h6⟩ := h
  have ky : ∀ z, X.env.kindOf z = Γ.nm.lookup z := fun z => by show X.env.scope.names.lookup z = _; rw [g.nm]
  have hx : ¬ y = x := fun e => hxy e.symm
  have q : ([a, b].any fun | .Starred .. => true | _ => false) = false := noStar_any (by simp only [List.all_cons, List.all_nil, Bool.and_true, Bool.and_eq_true]; exact h4)
  unfold swappedStores
  dsimp only
  split
  · rename_i z; simp [bk_fun g] at z
  · split
    · rename_i z; exact Bool.noConfusion (q.symm.trans z)
    · split
      · rename_i z; simp [ky, h1, h2, h3, Expr.pos, List.eraseDups_cons, hxy, hx] at z
      · split
        · rename_i z; simp only [List.all_cons, List.all_nil, Bool.and_true] at z; rw [z] at h5; cases h5
        · split
          · rename_i z; simp only [List.all_cons, List.all_nil, Bool.and_true] at z; rw [z] at h6; cases h6
          · simp [ky, h1, h2, h3, Expr.pos]
theorem hw_three (g : GS X n Γ c) {x y w : Str} {px py pw pt p2 : Pos} {a b d : Expr} {k k2 : Nat} (hxy : x ≠ y) (hxw : x ≠ w) (hyw : y ≠ w) (h : parOk Γ [(x, px), (y, py), (w, pw)] [a, b, d] = true) : swappedStores [.Tuple [.Name x px, .Name y py, .Name w pw] k pt] (.Tuple [a, b, d] k2 p2) X.env = pure (some [x, y, w]) := by
  unfold parOk at h
  simp only [Bool.and_eq_true, List.all_cons, List.all_nil, Bool.and_true, beq_iff_eq, Bool.not_eq_true', List.head?_cons, Option.map_some, Option.getD_some] at h
  obtain ⟨⟨⟨⟨⟨h1, _⟩, ⟨h2, h3⟩, h2', h3'⟩, h4⟩, h5⟩, h6⟩ := h
  have ky : ∀ z, X.env.kindOf z = Γ.nm.lookup z := fun z => by show X.env.scope.names.lookup z = _; rw [g.nm]
  have q : ([a, b, d].any fun | .Starred .. => true | _ => false) = false := noStar_any (by simp only [List.all_cons, List.all_nil, Bool.and_true, Bool.and_eq_true]; exact h4)
  have e1 : ¬ y = x := fun e => hxy e.symm
  have e2 : ¬ w = x := fun e => hxw e.symm
  have e3 : ¬ w = y := fun e => hyw e.symm
  unfold swappedStores
  dsimp only
  split
  · rename_i z; simp [bk_fun g] at z
  · split
    · rename_i z; exact Bool.noConfusion (q.symm.trans z)
    · split
      · rename_i z; simp [ky, h1, h2, h3, h2', h3', Expr.pos, List.eraseDups_cons, hxy, hxw, hyw, e1, e2, e3] at z
      · split
        · rename_i z; simp only [List.all_cons, List.all_nil, Bool.and_true] at z; rw [z] at h5; cases h5
        · split
          · rename_i z; simp only [List.all_cons, List.all_nil, Bool.and_true] at z; rw [z] at h6; cases h6
          · simp [ky, h1, h2, h3, h2', h3', Expr.pos]
theorem filterMap_lt {α β : Type} {f : α → Option β} : ∀ {l : List α}, (∃ x ∈ l, f x = none) → (l.filterMap f).length < l.length
  | [], h => by obtain ⟨x, hx, _⟩ := h; cases hx
  | a :: l, h => by
    cases e : f a with
    | none =>
      rw [List.filterMap_cons_none e]
      exact Nat.lt_succ_of_le (List.length_filterMap_le f l)
    | some b =>
      rw [List.filterMap_cons_some e]
      obtain ⟨x, hx, hn⟩ := h
      rcases List.mem_cons.mp hx with rfl | hx
      · rw [e] at hn; cases hn
      · have := filterMap_lt (f := f) (l := l) ⟨x, hx, hn⟩
        simp only [List.length_cons]; omega
theorem hw_cell (g : GS X n Γ c) {ts vs : List Expr} {k k2 : Nat} {pt p2 : Pos} (h : ts.any (notLoc Γ) = true) (hs : vs.all noStar = true) : swappedStores [.Tuple ts k pt] (.Tuple vs k2 p2) X.env = pure none := by
  have q := noStar_any hs
  have ky : ∀ z, X.env.kindOf z = Γ.nm.lookup z := fun z => by show X.env.scope.names.lookup z = _; rw [g.nm]
  unfold swappedStores
  dsimp only
  split
  · rfl
  · split
    · rename_i z; exact Bool.noConfusion (q.symm.trans z)
    · split
      · rfl
      · exfalso
        rename_i z
        apply z
        rw [Bool.or_eq_true]
        left
        rw [bne_iff_ne]
        apply Nat.ne_of_lt
        apply filterMap_lt
        obtain ⟨t, ht, hn⟩ := List.any_eq_true.mp h
        refine ⟨t, ht, ?_⟩
        cases t <;> first | rfl | skip
        rename_i x px
        have hn' : (Γ.nm.lookup x == some NameKind.local) = false := by simpa [notLoc] using hn
        simp only [ky, hn', Bool.false_and, Bool.false_eq_true, if_false]
end
end Gm
end

section
namespace Gm
open PySem PySem.Spec PyProof.Rows L2
section
variable {X : Cx} {n : Cn} {c : Ctx} {Γ : Gam}
theorem sole_nc {t e : Expr} {l : Nat} {env : Env} (h : isCompE e = false) : swapsWithSole [t] e l env = pure false := swaps_none (noComp_of h)
theorem loc_of (g : GS X n Γ c) {x : Str} {px : Pos} {l : Nat} (h : (Γ.nm.lookup x == some NameKind.local && px.line == l) = true) : X.env.scope.names.lookup x = some .local := by
  rw [Bool.and_eq_true] at h
  rw [g.nm]; exact beq_iff_eq.mp h.1
theorem ix_ne {N : List Str} {i j : Nat} {x y : Str} (h : N[i]? = some x) (k : N[j]? = some y) (e : x ≠ y) : i ≠ j := fun z => by
  subst z; rw [h] at k; cases k; exact e rfl
theorem par_ok {F : Nat} {ts vs : List Expr} {k1 k2 : Nat} {p2 p3 pos : Pos} {s : S} (g : GS X n Γ c) (hc : Γ.calm = true) (h : parC (comp F) Γ ts vs = some s) : SS X n (.Assign [.Tuple ts k1 p2] (.Tuple vs k2 p3) pos) (execS c s) := by
  have calm := g.calm hc
  have nd := g.N ▸ g.nd
  unfold parC at h
  split at h
  · rename_i x px y py a b
    split at h
    · rename_i hh
      obtain ⟨hxy, hp⟩ := hh
      split at h
      · cases h
      · rename_i i hi
        split at h
        · cases h
        · rename_i j hj
          obtain ⟨es, h1, rfl⟩ := map_some h
          obtain ⟨p1, _, _⟩ := stoC_ok g.toGOk hi
          obtain ⟨q1, _, _⟩ := stoC_ok g.toGOk hj
          have hp' := hp
          unfold parOk at hp'
          simp only [Bool.and_eq_true, List.all_cons, List.all_nil, Bool.and_true, beq_iff_eq] at hp'
          exact ss_par2 calm nd p1 q1 (ix_ne p1 q1 hxy) (by rw [g.nm]; exact hp'.1.1.1.1.1) (by rw [g.nm]; exact hp'.1.1.1.2.1) (argsC_ok (comp_ok F) g.toGOk h1).1 (hw_two g hxy hp)
    · cases h
  · rename_i x px y py z pz a b d
    split at h
    · rename_i hh
      obtain ⟨hxy, hxz, hyz, hp⟩ := hh
      split at h
      · cases h
      · rename_i i hi
        split at h
        · cases h
        · rename_i j hj
          split at h
          · cases h
          · rename_i l hl
            obtain ⟨es, h1, rfl⟩ := map_some h
            obtain ⟨p1, _, _⟩ := stoC_ok g.toGOk hi
            obtain ⟨q1, _, _⟩ := stoC_ok g.toGOk hj
            obtain ⟨r1, _, _⟩ := stoC_ok g.toGOk hl
            have hp' := hp
            unfold parOk at hp'
            simp only [Bool.and_eq_true, List.all_cons, List.all_nil, Bool.and_true, beq_iff_eq] at hp'
            exact ss_par3 calm nd p1 q1 r1 (ix_ne p1 q1 hxy) (ix_ne p1 r1 hxz) (ix_ne q1 r1 hyz) (by rw [g.nm]; exact hp'.1.1.1.1.1) (by rw [g.nm]; exact hp'.1.1.1.2.1.1) (by rw [g.nm]; exact hp'.1.1.1.2.2.1) (argsC_ok (comp_ok F) g.toGOk h1).1 (hw_three g hxy hxz hyz hp)
    · cases h
  · cases h
theorem tup_ok {F : Nat} {ts : List Expr} {k1 : Nat} {p2 pos : Pos} {e : Expr} {s : S} (g : GS X n Γ c) (h : tupC (comp F) Γ ts e = some s) : SS X n (.Assign [.Tuple ts k1 p2] e pos) (execS c s) := by
  unfold tupC at h
  split at h
  · rename_i hc
    have calm := g.calm hc
    split at h
    · rename_i vs kk pp
      split at h
      · rename_i s' hpar
        cases h
        exact par_ok g hc hpar
      · split at h
        · rename_i hh
          split at h
          · cases h
          · rename_i is his
            obtain ⟨e', h1, rfl⟩ := map_some h
            obtain ⟨q1, q2, q3⟩ := nms_ok g.toGOk his
            refine ss_sett (sg_tup g.okc calm q1 q2 q3) (g.ex1 h1).1 rfl ?_
            obtain ⟨hs, hh | hh | hh⟩ := hh
            · exact hw_long hh
            · exact hw_fold hh hs
            · exact hw_cell g hh hs
        · cases h
    · rename_i hnt
      split at h
      · cases h
      · rename_i hcm
        split at h
        · cases h
        · rename_i is his
          obtain ⟨e', h1, rfl⟩ := map_some h
          obtain ⟨q1, q2, q3⟩ := nms_ok g.toGOk his
          refine ss_sett (sg_tup g.okc calm q1 q2 q3) (g.ex1 h1).1 (sole_nc (by simpa using hcm)) (hw_not ?_)
          cases e <;> first | rfl | exact (hnt _ _ _ rfl).elim
  · cases h
theorem cls_of (g : GS X n Γ c) {D : Str} (hD : D ∈ Γ.hc) (hg : glC Γ D = true) : ∃ cv, ClsOk X n c.T.xsub D cv := by
  obtain ⟨g1, g2, g3⟩ := glC_ok g.toGOk hg
  obtain ⟨cv, q1, q2⟩ := g.hcl D hD
  refine ⟨cv, ⟨⟨g1, g2, ?_⟩, q2⟩⟩
  rcases q1 with q | ⟨q, q'⟩
  · exact .inl q
  · exact .inr ⟨q, q', g3⟩
theorem asg_ok {F : Nat} {st : Sty} {t e : Expr} {pos : Pos} {s : S} (g : GS X n Γ c) (h : asgC (comp F) st Γ t e = some s) : SS X n (.Assign [t] e pos) (execS c s) := by
  unfold asgC at h
  split at h
  · exact set_ok g h
  · exact tup_ok g h
  · rename_i x px ix ps
    split at h
    · cases h
    · rename_i i hi
      obtain ⟨h1, h2, h3, h4⟩ := varC_ok g.toGOk hi
      split at h
      · rename_i hs
        split at h
        · cases h
        · rename_i ix' hix
          obtain ⟨e', he, rfl⟩ := map_some h
          exact ss_sub h1 h2 h3 h4 (g.ex1 he).1 (g.ex1 hix).1 hs
      · cases h
  · cases h
theorem ret_ok {F : Nat} {st : Sty} {e : Expr} {pos : Pos} {s : S} (g : GS X n Γ c) (h : retC (comp F) st Γ e = some s) : SS X n (.Return (some e) pos) (execS c s) := by
  unfold retC at h
  split at h
  · obtain ⟨es', h1, rfl⟩ := map_some h
    exact ss_ret (se_cel (argsC_ok (comp_ok F) g.toGOk h1).1)
  · obtain ⟨e', h1, rfl⟩ := map_some h
    exact ss_ret (g.ex1 h1).1
theorem exp_ok {F : Nat} {e : Expr} {pos : Pos} {s : S} (g : GS X n Γ c) (h : expC (comp F) Γ e = some s) : SS X n (.Expr e pos) (execS c s) := by
  unfold expC at h
  split at h
  · cases h; exact ss_doc
  · rename_i x px m pa a pc
    split at h
    · rename_i hh
      obtain ⟨rfl, hl, hs⟩ := hh
      split at h
      · cases h
      · rename_i i hi
        obtain ⟨h1, h2, h3, h4⟩ := varC_ok g.toGOk hi
        obtain ⟨a', ha, rfl⟩ := map_some h
        exact ss_app g.okc h1 h2 h3 h4 (g.ex1 ha).1 hs hl
    · cases h
  · split at h
    · cases h
    · rename_i hcm
      obtain ⟨e', h1, rfl⟩ := map_some h
      exact ss_exp (g.ex1 h1).1 (swaps_none (noComp_of (by simpa using hcm)))
theorem rse_ok {F : Nat} {e : Expr} {pos : Pos} {s : S} (g : GS X n Γ c) (h : rseC (comp F) Γ e = some s) : SS X n (.Raise (some e) none pos) (execS c s) := by
  unfold rseC at h
  split at h
  · rename_i C p es p2
    split at h
    · rename_i hh
      obtain ⟨hc, hg⟩ := hh
      split at h
      · cases h
      · rename_i ns hns
        split at h
        · rename_i hem
          obtain ⟨es', h1, rfl⟩ := map_some h
          obtain ⟨g1, _, _⟩ := glC_ok g.toGOk hg
          obtain ⟨x1, x2, x3⟩ := g.exc hc C ns hns
          obtain ⟨x4, x5⟩ := x3 X n rfl rfl rfl rfl rfl rfl rfl rfl
          obtain ⟨q1, _, q3, _⟩ := argsC_ok (comp_ok F) g.toGOk h1
          have mk : PMk X (.Call (.Name C p) es [] p2) (rMk n C ns (evalL c es')) := by
            cases ns with
            | nil =>
              cases es with
              | nil => cases h1; exact x5 rfl p p2 g1
              | cons _ _ => cases hem
            | cons m ns =>
              cases es with
              | nil => cases hem
              | cons e es => exact x4 (by simp) (e :: es) (evalL c es') p p2 (by simp) g1 q1 q3
          refine PS.imp (ss_rse (g.calm hc) (g.tk hc) x1 mk) fun D σ H ⟨B, S, ρ, gg, G, R, pp⟩ => ⟨B, S, ρ, gg, G, R, ?_⟩
          have ee : execS c (.rse C es') gg G = (evalL c es' gg G).thn gg fun xs G => if ns.length = xs.length then .ex C xs gg G else .no := by
            show ((evalL c es' gg G).thn gg fun xs G => match c.T.xc C with
              | some ns => if ns.length = xs.length then .ex C xs gg G else .no
              | none => .no) = _
            rw [x2]
          rw [ee] at pp
          exact pp
        · cases h
    · cases h
  · cases h
/-! ### an exception's field, in a suite -/
theorem pe_xfl {a A : Addr} {oe : Obj} {cls : Value} {d : Option Addr} {pn : List (Addr × Obj)} {e : Expr} {te : TE} {pos : Pos} {f : Str} {ns : List Str} (T : XAt X.K A ns) (hfn : f ∈ ns) (hz : Zc cls d oe) (hf : ∃ vs, oe.data = .fields vs) (he : PE (X.suite a ((a, oe) :: pn)) e te)
    (hb : attributeBase e f X.env (eval e X.env) = eval e X.env) :
    PE (X.suite a ((a, oe) :: pn)) (.Attribute e f pos) (fun σ H Q => te σ H fun x H1 => x = .ref a ∧ cls = .ref A ∧ ∃ (dd : Addr) (prs : List (Str × V)) (v : V), d = some dd ∧ H1 dd = some (.xd prs) ∧ prs.lookup f = some v ∧ Q v H1) := by
  refine ⟨fun pins s σ H Q I h => ?_⟩
  refine attr_of hb (thn (he.run pins s σ H _ I h) fun u s1 hh => ?_)
  obtain ⟨x, H1, I1, rx, ex, ec, dd, prs, v, ed, ea, el, q⟩ := hh
  subst ex
  obtain rfl : u = Value.ref a := rx
  subst ec
  subst ed
  obtain ⟨ha, _⟩ := I1.pin (a, oe) (List.mem_append_left _ List.mem_cons_self)
  obtain ⟨vs, hd⟩ := hf
  have hx : ObjOk X.prog X.w H1 s1.heap dd (.xd prs) := I1.hok dd _ ea
  obtain ⟨mA, hns, hr⟩ := hx
  obtain ⟨od, ho, hl⟩ := lookIn_ns hns
  obtain ⟨u, hu, ru⟩ := RelO.some_of (v := v) (o := mA f) (by rw [← el]; exact hr f)
  have J : PySem.W.InstAt s1.heap a oe A (some od) := ⟨ha, hz.1, by unfold PySem.W.notCls; rw [hd] <;> rfl, by rw [hz.2]; exact ho⟩
  exact HandSPX.exc_get I1.kIn J T.ga T.gg T.ex (PySem.W.findObj_own T.hd (T.no f hfn) rfl (by rw [hl, hu])) (handed_of ru) ⟨v, H1, I1.tok _, ru, q⟩
theorem lookup_zip {f : Str} {v : GV} : ∀ {ns : List Str} {fs : List GV}, (ns.zip fs).lookup f = some v → f ∈ ns
  | [], _, h => by cases h
  | m :: ns, [], h => by cases h
  | m :: ns, w :: fs, h => by
    rw [List.zip_cons_cons, List.lookup_cons] at h
    cases e : (f == m) with
    | true => rw [beq_iff_eq.mp e]; exact List.mem_cons_self
    | false => simp only [e] at h; exact List.mem_cons_of_mem _ (lookup_zip h)
theorem se_xfl {a A : Addr} {oe : Obj} {cls : Value} {d : Option Addr} {pn : List (Addr × Obj)} {W' : W0} {C : Str} {fs : List GV} {ns : List Str} {i : Nat} {x f : Str} {p pos : Pos} (hh : Hold n W' a cls d C fs ns) (hc : c.cur = some (C, fs)) (hx : c.T.xc C = some ns) (hA : n.W.mg C = some (.ref A)) (T : XAt X.K A ns) (hz : Zc cls d oe) (hf : ∃ vs, oe.data = .fields vs)
    (hi : X.N[i]? = some x) (hv : Vis X.env.scope x) (hd : (x == ("__debug__" : Str)) = false) (hcd : (x == ("__classdict__" : Str)) = false) : SE (X.suite a ((a, oe) :: pn)) (n.held W') (.Attribute (.Name x p) f pos) (evalE c (.xfl i f)) := by
  by_cases hfn : f ∈ ns
  · refine (pe_xfl T hfn hz hf (pe_var (X := X.suite a ((a, oe) :: pn)) hi hv hd hcd) rfl).imp fun σ H Q ⟨B, S, ρ, g, G, R, pp⟩ => ?_
    replace pp : Post W' n.xc (fun _ _ _ _ => False) σ S ρ H (PpV W') (Res.of (xfld c i f g) G) Q := pp
    cases ev : xfld c i f g with
    | none => rw [ev] at pp; exact pp.elim
    | some v =>
      rw [ev] at pp
      unfold xfld at ev
      rw [hc] at ev
      simp only [hx] at ev
      split at ev
      · rename_i hg
        obtain ⟨a', h1, h2⟩ := R.exc i hg
        rw [hh.xa] at h1; cases h1
        have hne : ns ≠ [] := fun z => by rw [z] at hfn; cases hfn
        obtain ⟨dd, prs, d1, d2⟩ := hh.xd hne
        obtain ⟨s1, s2⟩ := R.hs.cur dd prs d2
        obtain ⟨u, u1, u2⟩ := s2 f v (by rw [hh.xf]; exact ev)
        refine ⟨.ref a, h2, rfl, ?_, dd, prs, u, d1, R.hs.le _ _ s1, u1, Post.ok pp R.hs u2⟩
        have := hh.cls
        rw [hA] at this; cases this; rfl
      · cases ev
  · refine PE.imp (t := fun _ _ _ => False) ⟨fun pins s σ H Q I h => h.elim⟩ fun σ H Q ⟨B, S, ρ, g, G, R, pp⟩ => ?_
    · replace pp : Post W' n.xc (fun _ _ _ _ => False) σ S ρ H (PpV W') (Res.of (xfld c i f g) G) Q := pp
      cases ev : xfld c i f g with
      | none => rw [ev] at pp; exact pp.elim
      | some v =>
        unfold xfld at ev
        rw [hc] at ev
        simp only [hx] at ev
        split at ev
        · exact hfn (lookup_zip ev)
        · cases ev

/-! ### contexts of a try -/
theorem gs_tr (g : GS X n Γ c) (hc : Γ.calm = true) (W : WX) (pn : List (Addr × Obj)) (xe : Value → Shared → Prop) (tk : Takes (X.tr pn xe) W) (po : PassesOwn (model X.prog X.w) X.A X.env xe) : GS (X.tr pn xe) ⟨n.W, n.xc, W⟩ Γ c where
  okc := ⟨g.okc.K, g.okc.mg⟩
  N := g.N
  nd := g.nd
  nm := g.nm
  kind := g.kind
  un := g.un
  calm := g.calm
  fn := g.fn
  gv := g.gv
  bl := g.bl
  tk := fun _ => tk
  fns := fun h x np dfl j h1 h2 => callOk_blk (g.fns h x np dfl j h1 h2) rfl rfl rfl rfl rfl rfl rfl rfl
  gns := fun h x np dfl j h1 h2 => genOk_blk (g.gns h x np dfl j h1 h2) rfl rfl rfl rfl rfl rfl rfl rfl
  att := fun h => by rw [hc] at h; cases h
  po := po
  stk := g.stk
  frm := g.frm
  xa := g.xa
  xd := g.xd
  exc := fun h C ns h1 => by
    obtain ⟨x1, x2, x3⟩ := g.exc h C ns h1
    exact ⟨x1, x2, fun X' n' e1 e2 e3 e4 e5 e6 e7 e8 => x3 X' n' e1 e2 e3 e4 e5 e6 e7 e8⟩
  hcl := g.hcl
  xat := g.xat
theorem gs_suite (g : GS X n Γ c) (hc : Γ.calm = true) {a : Addr} {oe : Obj} {cls : Value} {d : Option Addr} {pn : List (Addr × Obj)} (hz : Zc cls d oe) (hf : ∃ vs, oe.data = .fields vs) {W' : W0} {C : Str} {fs : List GV} {ns : List Str} (hh : Hold n W' a cls d C fs ns) :
    GS (X.suite a ((a, oe) :: pn)) (n.held W') (sufG Γ) { c with cur := some (C, fs) } where
  okc := ⟨hh.K.trans g.okc.K, hh.mg.trans g.okc.mg⟩
  N := g.N
  nd := g.nd
  nm := g.nm
  kind := g.kind
  un := g.un
  calm := fun h => by cases h
  fn := g.fn
  gv := fun x v h => by
    obtain ⟨t1, u, w, t2, t3, t4⟩ := g.gv x v h
    exact ⟨t1, u, w, t2, t3, fun S ρ => (t4 S ρ).conv hh.K.symm hh.mg.symm hh.fl.symm⟩
  bl := g.bl
  tk := fun h => by cases h
  fns := fun h => by cases h
  gns := fun h => by cases h
  att := fun _ i x f p pos h1 h2 h3 h4 => by
    obtain ⟨t1, A, t2, t3⟩ := g.xat C ns hh.xc
    exact se_xfl hh rfl t1 t2 t3 hz hf h1 h2 h3 h4
  po := PassesOwn.never
  stk := g.stk
  frm := g.frm
  xa := fun h => by cases h
  xd := fun h => by cases h
  exc := fun h => by cases h
  hcl := fun D hD => by
    obtain ⟨cv, q1, q2⟩ := g.hcl D hD
    exact ⟨cv, q1, fun C' ns' cls' x1 x2 => q2 C' ns' cls' x1 (by rw [← hh.mg]; exact x2)⟩
  xat := fun C' ns' x1 => by
    obtain ⟨t1, A, t2, t3⟩ := g.xat C' ns' x1
    exact ⟨t1, A, by show W'.mg C' = _; rw [hh.mg]; exact t2, t3⟩
abbrev RecSOk (rs : RecS) : Prop := ∀ Γ s s', rs Γ s = some s' → ∀ X n c, GS X n Γ c → SS X n s (execS c s')
theorem body_ok {rs : RecS} (IH : RecSOk rs) (g : GS X n Γ c) : ∀ {ss : List Stmt} {ss' : List S}, mapO (rs Γ) ss = some ss' → SL X n ss (execL c ss')
  | [], ss', h => by cases h; exact sl_nil
  | s :: ss, ss', h => by
    unfold mapO at h
    cases h1 : rs Γ s with
    | none => simp only [h1] at h; cases h
    | some y =>
      simp only [h1] at h
      cases h3 : mapO (rs Γ) ss with
      | none => simp only [h3] at h; cases h
      | some ys =>
        simp only [h3] at h; cases h
        exact sl_cons (IH Γ s y h1 X n c g) (body_ok IH g h3)
def clG (c : Ctx) (h : Str × Option Nat × List S) : ClG := (h.1, h.2.1, fun C fs => execL { c with cur := some (C, fs) } h.2.2)
theorem execH_try {C : Str} {fs : List GV} (g : List Sl) (G : Cells) : ∀ hs, execH c C fs hs g G = tryG c.T.xsub (hs.map (clG c)) C fs g G
  | [] => rfl
  | h :: hs => by
    show (if c.T.xsub C h.1 = true then _ else execH c C fs hs g G) = (if c.T.xsub C h.1 = true then _ else tryG c.T.xsub (hs.map (clG c)) C fs g G)
    rw [execH_try g G hs]; rfl
theorem try_sem {b' : List S} {hs : List (Str × Option Nat × List S)} (g : List Sl) (G : Cells) : execS c (.tryy b' hs) g G = catchG (tryG c.T.xsub (hs.map (clG c))) (execL c b' g G) := by
  show (match execL c b' g G with
    | .ex C fs σ' G' => execH c C fs hs σ' G'
    | r => r) = _
  cases execL c b' g G with
  | ex C fs σ' G' => exact execH_try σ' G' hs
  | _ => rfl
theorem hds_ok {rs : RecS} (IH : RecSOk rs) (g : GS X n Γ c) (hc : Γ.calm = true) : ∀ {hs : List ExceptHandler} {hs' : List (Str × Option Nat × List S)}, mapO (hdC rs Γ) hs = some hs' → ClgOk X n c.T.xsub hs (hs'.map (clG c))
  | [], hs', h => by cases h; exact .nil
  | hd :: hs, hs', h => by
    have hsuite : ∀ {b₀ : Stmt} {bb : List Stmt} {b1 : List S}, mapO (rs (sufG Γ)) (b₀ :: bb) = some b1 → SuiteOk X n (b₀ :: bb) fun C fs => execL { c with cur := some (C, fs) } b1 := fun {b₀ bb b1} hm a oe cls d pn hz hf W' C fs ns hh => body_ok IH (gs_suite g hc hz hf hh) hm
    unfold mapO at h
    cases h1 : hdC rs Γ hd with
    | none => simp only [h1] at h; cases h
    | some y =>
      simp only [h1] at h
      cases h3 : mapO (hdC rs Γ) hs with
      | none => simp only [h3] at h; cases h
      | some ys =>
        simp only [h3] at h; cases h
        have rest := hds_ok IH g hc h3
        unfold hdC at h1
        split at h1
        · rename_i D np b₀ bb pos'
          split at h1
          · rename_i hD
            obtain ⟨b1, hb1, rfl⟩ := map_some h1
            obtain ⟨cv, ck⟩ := cls_of g hD.1 hD.2
            exact .bare ck (hsuite hb1) rest
          · cases h1
        · rename_i D np yy b₀ bb pos'
          split at h1
          · rename_i hD
            obtain ⟨hD, hDg, hy⟩ := hD
            split at h1
            · cases h1
            · rename_i i hi
              obtain ⟨b1, hb1, rfl⟩ := map_some h1
              obtain ⟨cv, ck⟩ := cls_of g hD hDg
              exact .named (by rw [g.N]; exact ixOf_ok hi) (by show X.env.scope.names.lookup yy = _; rw [g.nm]; exact hy) ck (hsuite hb1) rest
          · cases h1
        · cases h1
theorem try_ok {rs : RecS} {b : List Stmt} {hs : List ExceptHandler} {pos : Pos} {s : S} (IH : RecSOk rs) (g : GS X n Γ c) (h : tryC rs Γ b hs = some s) : SS X n (.Try b hs [] [] pos) (execS c s) := by
  unfold tryC at h
  split at h
  · rename_i h0 ht
    split at h
    · rename_i hc
      split at h
      · cases h
      · rename_i b' hb
        obtain ⟨hs', hh1, rfl⟩ := map_some h
        refine PS.imp (ss_tryN g.stk g.frm (g.N ▸ g.nd) (g.xa hc) (g.xd hc) (g.tk hc) (fun W pn xe tk po => body_ok IH (gs_tr g hc W pn xe tk po) hb) (hds_ok IH g hc hh1)) fun D' σ H ⟨B, S, ρ, gg, G, R, pp⟩ => ⟨B, S, ρ, gg, G, R, ?_⟩
        rw [try_sem] at pp
        exact pp
    · cases h
  · cases h
theorem aug_ok {F : Nat} {x : Str} {px pos : Pos} {op : Operator} {e : Expr} {s : S} (g : GS X n Γ c) (h : (match augC op, stoC Γ x with
    | some o, some i => (comp F .v Γ e).map fun e' => S.aug i o e'
    | _, _ => none) = some s) : SS X n (.AugAssign (.Name x px) op e pos) (execS c s) := by
  cases hi : stoC Γ x with
  | none => rw [hi] at h; cases op <;> cases h
  | some i =>
    rw [hi] at h
    obtain ⟨p1, p2, p3⟩ := stoC_ok g.toGOk hi
    cases op with
    | Add =>
      obtain ⟨e', he, rfl⟩ := map_some (show (comp F .v Γ e).map (fun e' => S.aug i .add e') = some s from h)
      exact ss_aug (g.N ▸ g.nd) p1 p2 p3 (g.ex1 he).1 ip_add fun a b v hv => by cases hv; rfl
    | Sub =>
      obtain ⟨e', he, rfl⟩ := map_some (show (comp F .v Γ e).map (fun e' => S.aug i .sub e') = some s from h)
      exact ss_aug (g.N ▸ g.nd) p1 p2 p3 (g.ex1 he).1 ip_sub fun a b v hv => by cases hv; rfl
    | _ => cases h
theorem stS_ok {F : Nat} {st : Sty} {rs : RecS} (IH : RecSOk rs) : RecSOk (stS (comp F) st rs) := by
  intro Γ s s' h X n c g
  have nd := g.N ▸ g.nd
  unfold stS at h
  split at h
  · exact exp_ok g h
  · exact asg_ok g h
  · exact aug_ok g h
  · split at h
    · cases h; exact ss_retN
    · exact ret_ok g h
  · split at h
    · cases h
    · rename_i t' ht
      split at h
      · cases h
      · rename_i a' ha
        obtain ⟨b', hb, rfl⟩ := map_some h
        exact ss_ite (g.ex1 ht) (body_ok IH g ha) (body_ok IH g hb)
  · split at h
    · cases h
    · rename_i t' ht
      obtain ⟨b', hb, rfl⟩ := map_some h
      exact ss_whl c.wf g.po (g.ex1 ht) (body_ok IH g hb)
  · split at h
    · rename_i hh
      split at h
      · cases h
      · rename_i T hT
        split at h
        · cases h
        · rename_i it' hit
          obtain ⟨b', hb, rfl⟩ := map_some h
          exact ss_for g.po (g.calm hh.1) (itS_ok (comp_ok F) g.toGOk hit) (tgC_ok g.toGOk hT) (body_ok IH g hb) (folded_of hh.2)
    · cases h
  · exact rse_ok g h
  · exact try_ok IH g h
  · cases h; exact ss_pass
  · cases h; exact ss_brk
  · cases h; exact ss_cnt
  · cases h
theorem frzW_ok {own : List Nat} {st : Stmt} {s : S} (h : SS X n st (execS c s)) : SS X n st (execS c (frzW own s)) := by
  unfold frzW
  split
  · exact ss_frz h
  · exact h
theorem compS2_ok (F : Nat) (st : Sty) : ∀ f, RecSOk (compS2 F st f)
  | 0 => fun Γ s s' h => by cases h
  | f + 1 => fun Γ s s' h X n c g => by
    obtain ⟨s1, h1, rfl⟩ := map_some (show (stS (comp F) st (compS2 F st f) Γ s).map (frzW st.own) = some s' from h)
    exact frzW_ok (stS_ok (compS2_ok F st f) Γ s s1 h1 X n c g)
end
end Gm
end

section
namespace Gm
open PySem PySem.Spec PyProof.Rows L2

/-! ### a generator's body -/
def PoG (n : Cn) (B : Bs) (S : Hp) (ρ : List Addr) (r : Rs) (D : GEnds) : Prop := match r with
  | .nx _ _ => True
  | .rt v G => ∀ S' ρ' us σ' H', HLe S S' → ρ <+: ρ' → Ext B.S0 B.r0 B.E S' ρ' H' → Hs n.W S' ρ' G H' → PpGL n.W S' ρ' H' v us → D.nx us σ' H'
  | .bk _ _ => False
  | .ct _ _ => False
  | .ex C fs g G => ∀ S' ρ' cls d σ' H', HLe S S' → ρ <+: ρ' → Rel n.W B S' ρ' g G σ' H' → XR n.W n.xc S' ρ' H' C fs cls d → n.Wx cls d σ' H'
  | .no => False
theorem PoG.mono {n : Cn} {B : Bs} {S S' : Hp} {ρ ρ' : List Addr} {r : Rs} {D : GEnds} (p : PoG n B S ρ r D) (l : HLe S S') (q : ρ <+: ρ') : PoG n B S' ρ' r D := by
  cases r with
  | nx g G => trivial
  | rt v G => exact fun S2 ρ2 us σ2 H2 l2 q2 => p S2 ρ2 us σ2 H2 (l.trans l2) (q.trans q2)
  | bk g G => exact p
  | ct g G => exact p
  | ex C fs g G => exact fun S2 ρ2 cls d σ2 H2 l2 q2 => p S2 ρ2 cls d σ2 H2 (l.trans l2) (q.trans q2)
  | no => exact p
def tGg (n : Cn) (r : List Sl → Cells → Rs) : TGn := fun D ys σ H => ys = [] ∧ ∃ B S ρ g G, Rel n.W B S ρ g G σ H ∧ PoG n B S ρ (r g G) D
theorem GSs.imp' {X : Cx} {b : List Stmt} {t t' : TGn} (h : GSs X b t) (i : ∀ D ys σ H, t' D ys σ H → t D ys σ H) : GSs X b t' := ⟨fun A S ip R n ys s₀ c fs K J gd lv s σ H D g hn k hI ht => h.run A S ip R n ys s₀ c fs K J gd lv s σ H D g hn k hI (i D ys σ H ht)⟩
/-- statements that neither return nor break -/
def noRtS : S → Bool
  | .exp _ => true
  | .set _ _ => true
  | .pas => true
  | .ite _ [.rse _ _] [] => true
  | _ => false
def NoRt (ex : List Sl → Cells → Rs) : Prop := ∀ g G, (∃ g' G', ex g G = .nx g' G') ∨ (∃ C fs g' G', ex g G = .ex C fs g' G') ∨ ex g G = .no
theorem thn_noRt {α : Type} {r : Res α} {g : List Sl} {f : α → Cells → Rs} (h : ∀ a G, (∃ g' G', f a G = .nx g' G') ∨ (∃ C fs g' G', f a G = .ex C fs g' G') ∨ f a G = .no) : (∃ g' G', r.thn g f = .nx g' G') ∨ (∃ C fs g' G', r.thn g f = .ex C fs g' G') ∨ r.thn g f = .no := by
  cases r with
  | ok a G => exact h a G
  | ex C fs G => exact .inr (.inl ⟨C, fs, g, G, rfl⟩)
  | no => exact .inr (.inr rfl)
theorem noRt_ok {c : Ctx} : ∀ {s : S}, noRtS s = true → NoRt (execS c s) := by
  intro s h g G
  unfold noRtS at h
  split at h
  · rename_i e
    have e1 : execS c (.exp e) g G = (evalE c e g G).thn g fun _ G => .nx g G := by simp only [execS]
    rw [e1]
    exact thn_noRt fun a G => .inl ⟨_, _, rfl⟩
  · rename_i i e
    have e1 : execS c (.set i e) g G = (evalE c e g G).thn g fun v G => .nx (g.set i (.val v)) G := by simp only [execS]
    rw [e1]
    exact thn_noRt fun a G => .inl ⟨_, _, rfl⟩
  · exact .inl ⟨g, G, by simp only [execS]⟩
  · rename_i t C es
    have e1 : execS c (.ite t [.rse C es] []) g G = (tstE c t g G).thn g fun k G => if k = true then execL c [.rse C es] g G else execL c [] g G := by simp only [execS]
    rw [e1]
    refine thn_noRt fun k G => ?_
    cases k with
    | false => exact .inl ⟨g, G, by simp [execL]⟩
    | true =>
      have e2 : execL c [.rse C es] g G = (execS c (.rse C es) g G).seq fun g G => execL c [] g G := by simp only [execL]
      rw [if_pos rfl, e2]
      have e3 : execS c (.rse C es) g G = (evalL c es g G).thn g fun xs G => match c.T.xc C with | some ns => if ns.length = xs.length then .ex C xs g G else .no | none => .no := rfl
      rw [e3]
      cases hx : c.T.xc C with
      | none =>
        simp only [hx]
        cases evalL c es g G with
        | no => exact .inr (.inr rfl)
        | ex C fs G => exact .inr (.inl ⟨C, fs, g, G, rfl⟩)
        | ok xs G => exact .inr (.inr rfl)
      | some ns =>
        simp only [hx]
        cases evalL c es g G with
        | no => exact .inr (.inr rfl)
        | ex C fs G => exact .inr (.inl ⟨C, fs, g, G, rfl⟩)
        | ok xs G =>
          by_cases hl : ns.length = xs.length
          · refine .inr (.inl ⟨C, xs, g, G, ?_⟩)
            show (if ns.length = xs.length then Rs.ex C xs g G else Rs.no).seq _ = _
            rw [if_pos hl]; rfl
          · refine .inr (.inr ?_)
            show (if ns.length = xs.length then Rs.ex C xs g G else Rs.no).seq _ = _
            rw [if_neg hl]; rfl
  · cases h
section
variable {X : Cx} {n : Cn}
theorem gs_front {s : Stmt} {rest : List Stmt} {ex f : List Sl → Cells → Rs} (h : SS X n s ex) (hr : GSs X rest (tGg n f)) (hn : NoRt ex) : GSs X (s :: rest) (tGg n fun g G => (ex g G).seq f) := by
  refine GSs.imp' (gss_cons (gs_ps h) hr) fun D ys σ H ⟨e, B, S, ρ, g, G, R, p⟩ => ⟨B, S, ρ, g, G, R, ?_⟩
  replace p : PoG n B S ρ ((ex g G).seq f) D := p
  rcases hn g G with ⟨g', G', q⟩ | ⟨C, fs, g', G', q⟩ | q
  · rw [q]
    replace p : PoG n B S ρ (f g' G') D := by rw [q] at p; exact p
    exact fun S' ρ' σ' H' l l2 R' => ⟨e, B, S', ρ', g', G', R', p.mono l l2⟩
  · rw [q]
    rw [q] at p
    exact p
  · rw [q] at p
    exact p.elim
/-- the end of a run of items -/
def finI (r : Res (List GV)) : Rs := match r with
  | .ok zs G => .rt (.lst zs) G
  | _ => .no
theorem noX_ne {α : Type} {r : Res α} {C : Str} {fs : List GV} {G : Cells} : noX r ≠ .ex C fs G := by cases r <;> simp [noX]
theorem turn_ne {tg : Tg} {own : List Nat} {cnd elt : List Sl → Cells → Res GV} {σ : List Sl} {x : GV} {acc : List GV} {G : Cells} {C : Str} {fs : List GV} {G' : Cells} : turnC tg own cnd elt σ x acc G ≠ .ex C fs G' := by
  unfold turnC
  cases setTg tg x (wipeG σ own) with
  | none => simp
  | some σ2 =>
    show (noX ((cnd σ2 G).bind fun t G => Res.of (truV t) G)).bind _ ≠ _
    cases h1 : noX ((cnd σ2 G).bind fun t G => Res.of (truV t) G) with
    | ex C fs G => exact absurd h1 noX_ne
    | no => simp [Res.bind]
    | ok k G1 =>
      show (if k = true then (noX (elt σ2 G1)).bind fun y G => Res.ok (acc ++ [y]) G else Res.ok acc G1) ≠ _
      cases k with
      | false => simp
      | true =>
        rw [if_pos rfl]
        cases h2 : noX (elt σ2 G1) with
        | ex C fs G => exact absurd h2 noX_ne
        | no => simp [Res.bind]
        | ok y G2 => simp [Res.bind]
theorem loopC_ne {f : GV → List GV → Cells → Res (List GV)} (hf : ∀ x acc G C fs G', f x acc G ≠ .ex C fs G') : ∀ (xs acc : List GV) (G : Cells) {C : Str} {fs : List GV} {G' : Cells}, loopC f xs acc G ≠ .ex C fs G'
  | [], acc, G, C, fs, G' => by simp [loopC]
  | x :: xs, acc, G, C, fs, G' => by
    show (f x acc G).bind (fun acc' G' => loopC f xs acc' G') ≠ _
    cases h : f x acc G with
    | ex C fs G => exact absurd h (hf _ _ _ _ _ _)
    | no => simp [Res.bind]
    | ok a G1 => exact loopC_ne hf xs a G1
theorem gs_items {tg it e : Expr} {yp p1 p2 : Pos} {i0 : Nat} {ei : List Sl → Cells → Res (List GV)} {ee : List Sl → Cells → Res GV} (hp : PassesOwn (model X.prog X.w) X.A X.env X.xe) (hc : X.calm = true) (hi : SIS X n tg it ei) (hg : SG X n tg (.name i0)) (he : SE X n e ee) (hs : ∀ x, foldedSetIterable it X.env x = pure x)
    (hco : X.env.scope.isCoroutine = false) (hint : interactive X.env = false) :
    GSs X [.For tg it [.Expr (.Yield (some e) yp) p1] [] p2] (tGg n fun g G => (ei g G).thn g fun xs G => if szOk xs.length then finI (loopC (turnC (.name i0) [i0] (fun _ G => .ok (.bl true) G) ee g) xs [] G) else .no) := by
  refine GSs.imp' (gss_cons (gs_for hp hc hi hg (gss_cons (gs_yield he hco hint) gss_nil) hs) gss_nil) fun D ys σ H ⟨ey, B, S, ρ, g, G, R, p⟩ => ?_
  subst ey
  refine ⟨B, S, ρ, g, G, R, ?_⟩
  replace p : PoG n B S ρ ((ei g G).thn g fun xs G => if szOk xs.length then finI (loopC (turnC (.name i0) [i0] (fun _ G => .ok (.bl true) G) ee g) xs [] G) else .no) D := p
  cases hq : ei g G with
  | no => rw [hq] at p; exact p.elim
  | ex C fs G' =>
    rw [hq] at p
    exact fun S' ρ' cls d H' e1 hs' x => p S' ρ' cls d σ H' e1.sle e1.pre (R.step e1 hs') x
  | ok xs G1 =>
    rw [hq] at p
    replace p : PoG n B S ρ (if szOk xs.length then finI (loopC (turnC (.name i0) [i0] (fun _ G => .ok (.bl true) G) ee g) xs [] G1) else .no) D := p
    intro S1 ρ1 J H1 e1 hs1 pJ
    have hz : szOk xs.length = true := by
      cases hz : szOk xs.length with
      | true => rfl
      | false => rw [hz] at p; exact p.elim
    rw [if_pos hz] at p
    obtain ⟨Gd, src, gd, stab⟩ := pJ
    refine ⟨fun i m ys σ H => m = xs.length - i ∧ i ≤ xs.length ∧ ∃ S2 ρ2 g2 G2 acc, HLe S1 S2 ∧ ρ1 <+: ρ2 ∧ Rel n.W B S2 ρ2 g2 G2 σ H ∧ PRs n.W S2 ρ2 acc ys ∧ acc.length = i ∧ (∀ v, g2.set i0 (.val v) = g.set i0 (.val v)) ∧ PoG n B S2 ρ2 (finI (loopC (turnC (.name i0) [i0] (fun _ G => .ok (.bl true) G) ee g) (xs.drop i) acc G2)) D,
      ⟨xs.length, by simp, Nat.zero_le _, S1, ρ1, g, G1, [], HLe.refl _, List.prefix_refl _, R.step e1 hs1, .nil, rfl, fun _ => rfl, p.mono e1.sle e1.pre⟩, ?_⟩
    rintro i m ys σ H ⟨rfl, hi', S2, ρ2, g2, G2, acc, l2, q2, R2, pa, hal, hg2, p2⟩
    have gd2 := stab S2 ρ2 H l2 q2 R2.hs.le
    by_cases hlt : i < xs.length
    · refine .inr ⟨src.go i S2 ρ2 H gd2 hlt, fun ys σ H => ∃ S2 ρ2 g2 G2 acc, HLe S1 S2 ∧ ρ1 <+: ρ2 ∧ Rel n.W B S2 ρ2 g2 G2 σ H ∧ PRs n.W S2 ρ2 acc ys ∧ acc.length = i + 1 ∧ (∀ v, g2.set i0 (.val v) = g.set i0 (.val v)) ∧ PoG n B S2 ρ2 (finI (loopC (turnC (.name i0) [i0] (fun _ G => .ok (.bl true) G) ee g) (xs.drop (i + 1)) acc G2)) D, fun ys' σ' H' q => ⟨xs.length - (i + 1), by omega, rfl, hlt, q⟩, fun x H' y => ?_⟩
      obtain ⟨S3, v, e3, hs3, hv, r3⟩ := src.yld i S2 ρ2 G2 H x H' R2.hs gd2 hlt y
      have hdrop : xs.drop i = v :: xs.drop (i + 1) := by
        rw [List.drop_eq_getElem_cons hlt]
        rw [List.getElem?_eq_getElem hlt] at hv
        cases hv; rfl
      have eset : (wipeG g [i0]).set i0 (.val v) = g.set i0 (.val v) := by
        show (g.set i0 .no).set i0 (.val v) = _
        rw [List.set_set]
      have et : turnC (.name i0) [i0] (fun _ G => .ok (.bl true) G) ee g v acc G2 = (noX (ee (g.set i0 (.val v)) G2)).bind fun y G => .ok (acc ++ [y]) G := by
        unfold turnC
        show (match some ((wipeG g [i0]).set i0 (.val v)) with
          | none => Res.no
          | some σ2 => _) = _
        rw [eset]; rfl
      rw [hdrop] at p2
      replace p2 : PoG n B S2 ρ2 (finI (((noX (ee (g.set i0 (.val v)) G2)).bind fun y G => .ok (acc ++ [y]) G).bind fun acc' G' => loopC (turnC (.name i0) [i0] (fun _ G => .ok (.bl true) G) ee g) (xs.drop (i + 1)) acc' G')) D := by rw [← et]; exact p2
      have R3 := R2.step e3 hs3
      have eg : setTg (.name i0) v g2 = some (g2.set i0 (.val v)) := rfl
      refine ⟨B, S3, ρ2, g2, G2, v, _, R3, r3, eg, fun σ4 R4 _ => ⟨?_, B, S3, ρ2, _, G2, R4, ?_⟩⟩
      · have h1 := pa.length
        have h2 := of_decide_eq_true hz
        omega
      · rw [hg2 v]
        rw [hg2 v] at R4
        cases hy : ee (g.set i0 (.val v)) G2 with
        | no => rw [hy] at p2; exact p2.elim
        | ex C fs G5 => rw [hy] at p2; exact p2.elim
        | ok yv G5 =>
          rw [hy] at p2
          intro S5 ρ5 u H5 e5 hs5 pu
          refine ⟨S5, ρ5, g.set i0 (.val v), G5, acc ++ [yv], l2.trans (e3.sle.trans e5.sle), q2.trans e5.pre, R4.step e5 hs5, (pa.mono (e3.sle.trans e5.sle) e5.pre).append (.cons pu .nil), by rw [List.length_append, hal]; rfl, fun v' => by rw [List.set_set], ?_⟩
          exact PoG.mono (S := S2) (ρ := ρ2) p2 (e3.sle.trans e5.sle) e5.pre
    · have e : i = xs.length := by omega
      subst e
      rw [List.drop_length] at p2
      replace p2 : PoG n B S2 ρ2 (.rt (.lst acc) G2) D := p2
      exact .inl ⟨src.stop _ S2 ρ2 H gd2 (Nat.le_refl _), p2 S2 ρ2 ys σ H (HLe.refl _) (List.prefix_refl _) R2.ext R2.hs ⟨acc, rfl, pa⟩⟩
end
end Gm
end

section
namespace Gm
open PySem PySem.Spec PyProof.Rows L2

/-! ### the program's table -/
def fnG (Γ : Gam) (N : List Str) (nm : List (Str × NameKind)) : Gam := { Γ with N := N, nm := nm, top := true, calm := true }
/-- one def stands as the table tells it -/
structure FnE (K : PySem.W.Frag) (mg : Str → Option Value) (Γ : Gam) (f : Str) (d : Fn) (fa : Addr) (fd : FuncData) (ps : List Str) : Prop where
  ex : ∃ (st : Stmt) (kws : List (Str × V)) (dvs : List V) (N : List Str) (F F' : Nat) (sty : Sty), FunD K f f (defArgs st) (defBody st) (defScope st) dvs kws fa fd ∧ FnScope N ps (defScope st) ∧
    mapO (compS2 F sty F' (fnG Γ N (defScope st).names)) (defBody st) = some d.body ∧ N.length = d.ns
  mgf : mg f = some (.ref fa)
  np : ps.length = d.np
  bn : ∀ j, j ≤ d.dfl.length → ∃ ds dvs, Binds K fd ps ds ∧ cVs (d.dfl.drop j) = some dvs ∧ Vals dvs ds
/-- a generator def's ghost code: its items in a list -/
def forY (F : Nat) (Γ : Gam) (s : Stmt) : Option (List S) := match s with
  | .For tg it [.Expr (.Yield (some e) _) _] [] _ => if notSet it = true then (match tgC Γ tg with
    | some (.name i0) => (match itS (comp F) Γ it with
      | none => none
      | some it' => (comp F .v Γ e).map fun e' => [.ret (.cmpr e' (.name i0) [i0] it' (.con (.bl true)))])
    | _ => none) else none
  | _ => none
def genB (F : Nat) (sty : Sty) (F' : Nat) (Γ : Gam) : List Stmt → Option (List S)
  | [] => none
  | [s] => forY F Γ s
  | s :: s2 :: ss => match compS2 F sty F' Γ s with
    | none => none
    | some s' => if noRtS s' = true then (genB F sty F' Γ (s2 :: ss)).map (s' :: ·) else none
theorem ret_items {c : Ctx} {e' : E} {i0 : Nat} {it' : It} (g : List Sl) (G : Cells) : execL c [.ret (.cmpr e' (.name i0) [i0] it' (.con (.bl true)))] g G = (iterE c it' g G).thn g fun xs G => if szOk xs.length then finI (loopC (turnC (.name i0) [i0] (fun _ G => .ok (.bl true) G) (evalE c e') g) xs [] G) else .no := by
  have ec : evalE c (.con (.bl true)) = fun _ G => .ok (.bl true) G := by
    funext g G
    simp only [evalE]
  have e1 : execL c [.ret (.cmpr e' (.name i0) [i0] it' (.con (.bl true)))] g G = ((evalE c (.cmpr e' (.name i0) [i0] it' (.con (.bl true))) g G).thn g fun v G => .rt v G).seq fun g G => .nx g G := by simp only [execL, execS]
  have e2 : evalE c (.cmpr e' (.name i0) [i0] it' (.con (.bl true))) g G = (iterE c it' g G).bind fun xs G => if szOk xs.length then (loopC (turnC (.name i0) [i0] (fun _ G => .ok (.bl true) G) (evalE c e') g) xs [] G).bind fun ys G => .ok (.lst ys) G else .no := by
    rw [← ec]; simp only [evalE]
  rw [e1, e2]
  cases iterE c it' g G with
  | no => rfl
  | ex C fs G1 => rfl
  | ok xs G1 =>
    show ((if szOk xs.length then (loopC (turnC (.name i0) [i0] (fun _ G => .ok (.bl true) G) (evalE c e') g) xs [] G1).bind fun ys G => Res.ok (.lst ys) G else .no).thn g fun v G => Rs.rt v G).seq (fun g G => .nx g G) = if szOk xs.length then finI (loopC (turnC (.name i0) [i0] (fun _ G => .ok (.bl true) G) (evalE c e') g) xs [] G1) else .no
    cases szOk xs.length with
    | false => rfl
    | true =>
      rw [if_pos rfl, if_pos rfl]
      cases hl : loopC (turnC (.name i0) [i0] (fun _ G => .ok (.bl true) G) (evalE c e') g) xs [] G1 with
      | no => rfl
      | ok ys G2 => rfl
      | ex C fs G2 => exact absurd hl (loopC_ne (fun _ _ _ _ _ _ => turn_ne) _ _ _)
theorem genB_ok {X : Cx} {n : Cn} {c : Ctx} {Γ : Gam} {F F' : Nat} {sty : Sty} (g : GS X n Γ c) (hc : Γ.calm = true) (hco : X.env.scope.isCoroutine = false) (hint : interactive X.env = false) : ∀ {ss : List Stmt} {b : List S}, genB F sty F' Γ ss = some b → GSs X ss (tGg n (execL c b))
  | [], b, h => by cases h
  | [s], b, h => by
    replace h : forY F Γ s = some b := h
    unfold forY at h
    split at h
    · rename_i tg it e yp p1 p2
      split at h
      · rename_i hns
        split at h
        · rename_i i0 htg
          split at h
          · cases h
          · rename_i it' hit
            obtain ⟨e', he, rfl⟩ := map_some h
            have key := gs_items (yp := yp) (p1 := p1) (p2 := p2) g.po (g.calm hc) (itS_ok (comp_ok F) g.toGOk hit) (tgC_ok g.toGOk htg) (g.ex1 he).1 (folded_of hns) hco hint
            have ef : (execL c [.ret (.cmpr e' (.name i0) [i0] it' (.con (.bl true)))]) = fun g G => (iterE c it' g G).thn g fun xs G => if szOk xs.length then finI (loopC (turnC (.name i0) [i0] (fun _ G => .ok (.bl true) G) (evalE c e') g) xs [] G) else .no := by
              funext g G
              exact ret_items g G
            rw [ef]
            exact key
        · cases h
      · cases h
    · cases h
  | s :: s2 :: ss, b, h => by
    replace h : (match compS2 F sty F' Γ s with
      | none => none
      | some s' => if noRtS s' = true then (genB F sty F' Γ (s2 :: ss)).map (s' :: ·) else none) = some b := h
    split at h
    · cases h
    · rename_i s' hs
      split at h
      · rename_i hn
        obtain ⟨b', hb, rfl⟩ := map_some h
        have ih := genB_ok g hc hco hint hb
        have ef : execL c (s' :: b') = fun g G => (execS c s' g G).seq (execL c b') := by
          funext g G
          simp only [execL]
        rw [ef]
        exact gs_front (compS2_ok F sty F' Γ s s' hs X n c g) ih (noRt_ok hn)
      · cases h
/-- one generator def stands as the table tells it -/
structure GnE (K : PySem.W.Frag) (mg : Str → Option Value) (Γ : Gam) (f : Str) (d : Fn) (fa : Addr) (fd : FuncData) (ps : List Str) : Prop where
  ex : ∃ (st : Stmt) (N : List Str) (F F' : Nat) (sty : Sty) (oc : Value) (od : Option Addr) (sl : Array (Option Value)) (kV dc pm : Value) (an : Option Addr) (cd ct : Value), fd = PySem.W.fnOf f f (defArgs st) (defBody st) (defScope st) .none kV dc pm an cd ct ∧ K.lookup fa = some ⟨oc, od, .func fd, sl⟩ ∧ PySem.W.codeIn K cd f = true ∧
    GScope N ps (defScope st) ∧ genB F sty F' (fnG Γ N (defScope st).names) (defBody st) = some d.body ∧ N.length = d.ns
  kp : PySem.W.keepIn K (.ref fa) = true
  mgf : mg f = some (.ref fa)
  np : ps.length = d.np
  dfl : d.dfl = []
  bn : Binds K fd ps []
structure EnvOk (P : Program) (w : World) (K : PySem.W.Frag) (mg : Str → Option Value) (W : W0) (Γ : Gam) (T : Tb) : Prop where
  hK : W.K = K
  hmg : W.mg = mg
  xa : W.xa = none
  xd : W.xd = none
  fns : ∀ x np dfl, Γ.fns.lookup x = some (np, dfl) → ∃ d, T.fn x = some d ∧ d.np = np ∧ d.dfl = dfl ∧ ∃ fa fd ps, FnE K mg Γ x d fa fd ps
  gns : ∀ x np dfl, Γ.gns.lookup x = some (np, dfl) → ∃ d, T.fn x = some d ∧ d.np = np ∧ d.dfl = dfl ∧ ∃ fa fd ps, GnE K mg Γ x d fa fd ps
  stop : ∀ x v, Γ.gns.lookup x = some v → ∀ C ns cls, T.xc C = some ns → mg C = some cls → PySem.W.subIn K cls (.type "StopIteration") = some false
  gv : ∀ x v, Γ.gv.lookup x = some v → T.gv x = some v ∧ ∃ u w, mg x = some u ∧ RelV w u ∧ ∀ S ρ, PR W S ρ v w
  bl : ∀ x, x ∈ Γ.bl → mg x = none
  exc : ∀ C ns, Γ.xc.lookup C = some ns → T.xc C = some ns ∧ ∀ (X : Cx) (n : Cn), X.prog = P → X.w = w → X.K = K → X.mg = mg → n.W = W → n.xc = T.xc → Room 1 X.A → ExcMk X n C ns
  hcl : ∀ D, D ∈ Γ.hc → ∃ cv, (mg D = some cv ∨ (mg D = none ∧ bootBuiltins D = some cv)) ∧ ∀ C ns cls, T.xc C = some ns → mg C = some cls → PySem.W.exmOne K cls cv = some (T.xsub C D)
  xat : ∀ C ns, T.xc C = some ns → ∃ A, mg C = some (.ref A) ∧ XAt K A ns
theorem callK_np {T : Tb} {wf k : Nat} {f : Str} {d : Fn} (h : T.fn f = some d) (xs : List GV) (G : Cells) (hl : xs.length ≠ d.np) : callK T wf k f xs G = .no := by
  cases k with
  | zero => rfl
  | succ k =>
    unfold callK
    rw [h]
    show (if xs.length = d.np then _ else _) = _
    rw [if_neg hl]
theorem Room.mono' {j k : Nat} {A : Around} (r : Room k A) (h : j ≤ k) : Room j A := ⟨r.hd, by have := r.dp; omega, by have := r.un; omega⟩
section
variable {P : Program} {w : World} {K : PySem.W.Frag} {mg : Str → Option Value} {W : W0} {Γ : Gam} {T : Tb} {base : Heap}
abbrev FnAll (P : Program) (w : World) (K : PySem.W.Frag) (mg : Str → Option Value) (base : Heap) (W : W0) (Γ : Gam) (T : Tb) (wf k : Nat) : Prop := ∀ f d fa fd ps, T.fn f = some d → FnE K mg Γ f d fa fd ps → FnOk P w K mg base (L2.CX P w) (4 * k + 3) fa fd ps (spF W T.xc d.np (callK T wf k f))
abbrev GnAll (P : Program) (w : World) (K : PySem.W.Frag) (mg : Str → Option Value) (base : Heap) (W : W0) (Γ : Gam) (T : Tb) (wf k : Nat) : Prop := ∀ f d fa fd ps, T.fn f = some d → GnE K mg Γ f d fa fd ps → GFn P w K mg base (4 * k + 3) fa fd ps (spGf W T.xc d.np (callK T wf k f))
theorem calls_of (V : EnvOk P w K mg W Γ T) {k wf : Nat} (IH : FnAll P w K mg base W Γ T wf k) {X : Cx} {n : Cn} (h1 : X.prog = P) (h2 : X.w = w) (h3 : X.K = K) (h4 : X.mg = mg) (h5 : X.base = base) (h6 : n.W = W) (h7 : n.xc = T.xc) (hr : Room (4 * k + 6) X.A) :
    ∀ x np dfl j, Γ.fns.lookup x = some (np, dfl) → j ≤ dfl.length → CallOk X n (callK T wf k x) x (dfl.drop j) := fun x np dfl j e1 e2 => by
  obtain ⟨d, e3, rfl, rfl, fa', fd, ps', fe⟩ := V.fns x np dfl e1
  obtain ⟨ds, dvs, b1, b2, b3⟩ := fe.bn j e2
  obtain ⟨st, kws, dvs0, N', F, F', sty, hF, _⟩ := fe.ex
  exact ⟨⟨4 * k + 3, d.np, fa', fd, ps', ds, dvs, by rw [h1, h2, h3, h4, h5, h6, h7]; exact IH x d fa' fd ps' e3 fe, hr.mono (by omega), by rw [h4]; exact fe.mgf, by rw [h3]; exact hF.kp, by rw [h3]; exact b1, b3, b2, fun xs G hl => callK_np e3 xs G hl⟩⟩
theorem gens_of (V : EnvOk P w K mg W Γ T) {k wf : Nat} (IH : GnAll P w K mg base W Γ T wf k) {X : Cx} {n : Cn} (h1 : X.prog = P) (h2 : X.w = w) (h3 : X.K = K) (h4 : X.mg = mg) (h5 : X.base = base) (h6 : n.W = W) (h7 : n.xc = T.xc) (hr : Room (4 * k + 6) X.A) :
    ∀ x np dfl j, Γ.gns.lookup x = some (np, dfl) → j ≤ dfl.length → GenOk X n (callK T wf k x) x (dfl.drop j) := fun x np dfl j e1 e2 => by
  have hst := V.stop x _ e1
  obtain ⟨d, e3, rfl, rfl, fa', fd, ps', fe⟩ := V.gns x np dfl e1
  have hd := fe.dfl
  refine ⟨⟨4 * k + 3, d.np, fa', fd, ps', [], [], by rw [h1, h2, h3, h4, h5, h6, h7]; exact IH x d fa' fd ps' e3 fe, hr, by rw [h4]; exact fe.mgf, by rw [h3]; exact fe.kp, by rw [h3]; exact fe.bn, .nil, by rw [hd]; simp [cVs], fun xs G hl => callK_np e3 xs G hl⟩, fun C ns cls x1 x2 => ?_⟩
  rw [h3]
  exact hst C ns cls (by rw [← h7]; exact x1) (by rw [← V.hmg, ← h6]; exact x2)
theorem gs_fn (V : EnvOk P w K mg W Γ T) {k wf : Nat} (IH : FnAll P w K mg base W Γ T wf k) (IG : GnAll P w K mg base W Γ T wf k)
    {N ps : List Str} {scope : Scope} {q : Str} {fa : Addr} {cdv : Value} {A : Around} {outer : List Env} {s : Shared} {H : Hp} {E : XK} (S : FnScope N ps scope) (hr : Room (4 * k + 6) (A.deeper (envOfC q scope s.heap.objs.size fa cdv))) :
    GS (cxOf (L2.CX P w) P w K mg base N q scope fa cdv A outer s H E) ⟨W, T.xc, fun cls d _ H => E cls d H⟩ (fnG Γ N scope.names) ⟨T, callK T wf k, wf, none⟩ where
  okc := ⟨V.hK, V.hmg⟩
  N := rfl
  nd := S.nd
  nm := rfl
  kind := S.kind
  un := by
    have := hr.un
    show (A.deeper (envOfC q scope s.heap.objs.size fa cdv)).units + 65 < cLine
    omega
  calm := fun _ => rfl
  fn := fun _ _ => rfl
  gv := V.gv
  bl := V.bl
  tk := fun _ => takes_of rfl rfl rfl rfl
  fns := fun _ => calls_of V IH rfl rfl rfl rfl rfl rfl rfl hr
  gns := fun _ => gens_of V IG rfl rfl rfl rfl rfl rfl rfl hr
  att := fun h => by cases h
  po := passes_of (K := fun e s'' => L2.CX P w outer H s E e s'') (E₁ := fun e' s'' => L2.CX P w outer H s E e' s'') rfl
  stk := rfl
  frm := rfl
  xa := fun _ => V.xa
  xd := fun _ => V.xd
  exc := fun _ C ns h => by
    obtain ⟨h1, h2⟩ := V.exc C ns h
    exact ⟨h1, h1, h2 _ _ rfl rfl rfl rfl rfl rfl (hr.mono (by omega))⟩
  hcl := fun D hD => by
    obtain ⟨cv, q1, q2⟩ := V.hcl D hD
    exact ⟨cv, q1, fun C ns cls x1 x2 => q2 C ns cls x1 (by rw [← V.hmg]; exact x2)⟩
  xat := fun C ns h => by
    obtain ⟨A', q1, q2⟩ := V.xat C ns h
    exact ⟨h, A', by show W.mg C = _; rw [V.hmg]; exact q1, q2⟩
theorem gs_gen (V : EnvOk P w K mg W Γ T) {k wf : Nat} (IH : FnAll P w K mg base W Γ T wf k) (IG : GnAll P w K mg base W Γ T wf k)
    {N ps : List Str} {scope : Scope} {q : Str} {fa : Addr} {cdv : Value} {A : Around} {outer : List Env} {s : Shared} {H : Hp} {E : XK} {pn : List (Addr × Obj)} (S : GScope N ps scope) (hr : Room (4 * k + 6) (A.deeper (envOfC q scope s.heap.objs.size fa cdv))) :
    GS (gcxOf P w K mg base N q scope fa cdv A outer s H E pn) ⟨W, T.xc, fun cls d _ H => E cls d H⟩ (fnG Γ N scope.names) ⟨T, callK T wf k, wf, none⟩ where
  okc := ⟨V.hK, V.hmg⟩
  N := rfl
  nd := S.nd
  nm := rfl
  kind := S.kind
  un := by
    have := hr.un
    show (A.deeper (envOfC q scope s.heap.objs.size fa cdv)).units + 65 < cLine
    omega
  calm := fun _ => rfl
  fn := fun _ _ => rfl
  gv := V.gv
  bl := V.bl
  tk := fun _ => takes_gcx
  fns := fun _ => calls_of V IH rfl rfl rfl rfl rfl rfl rfl hr
  gns := fun _ => gens_of V IG rfl rfl rfl rfl rfl rfl rfl hr
  att := fun h => by cases h
  po := owns_gcx
  stk := rfl
  frm := rfl
  xa := fun _ => V.xa
  xd := fun _ => V.xd
  exc := fun _ C ns h => by
    obtain ⟨h1, h2⟩ := V.exc C ns h
    exact ⟨h1, h1, h2 _ _ rfl rfl rfl rfl rfl rfl (hr.mono (by omega))⟩
  hcl := fun D hD => by
    obtain ⟨cv, q1, q2⟩ := V.hcl D hD
    exact ⟨cv, q1, fun C ns cls x1 x2 => q2 C ns cls x1 (by rw [← V.hmg]; exact x2)⟩
  xat := fun C ns h => by
    obtain ⟨A', q1, q2⟩ := V.xat C ns h
    exact ⟨h, A', by show W.mg C = _; rw [V.hmg]; exact q1, q2⟩
theorem all_both (V : EnvOk P w K mg W Γ T) (wf : Nat) : ∀ k, FnAll P w K mg base W Γ T wf k ∧ GnAll P w K mg base W Γ T wf k := by
  intro k
  induction k with
  | zero =>
    exact ⟨fun f d fa fd ps hf fe => ⟨fun vs H Q E ⟨_, _, _, _, _, _, _, p⟩ => p.elim, fun _ _ _ _ _ _ _ _ _ _ _ _ _ ⟨_, _, _, _, _, _, _, p⟩ => p.elim⟩,
      fun f d fa fd ps hf fe => ⟨fun vs H Q E ⟨_, _, _, _, _, _, _, p⟩ => p.elim, fun _ _ _ _ _ _ _ _ _ _ _ _ _ ⟨_, _, _, _, _, _, _, p⟩ => p.elim⟩⟩
  | succ k IHH =>
    obtain ⟨IH, IG⟩ := IHH
    constructor
    · intro f d fa fd ps hf fe
      obtain ⟨st, kws, dvs0, N, F, F', sty, hF, hS, hb, hn⟩ := fe.ex
      refine hF.ok (k := 4 * k + 6) hS (fun vs H Q E ⟨S, ρ, G, xs, _, r, hl, _⟩ => by rw [r.length, hl, fe.np]) fun cdv A outer s H vs Q E hr hsp => ?_
      refine ⟨_, body_ok (compS2_ok F sty F') (gs_fn V IH IG hS hr) hb, ?_⟩
      refine pure_fn hsp fun xs G hl => ?_
      show callK T wf (k + 1) f xs G = _
      unfold callK
      rw [hf]
      show (if xs.length = d.np then finR (execL ⟨T, callK T wf k, wf, none⟩ d.body (Gm.start d.ns xs) G) else .no) = _
      rw [if_pos hl, hn]
    · intro f d fa fd ps hf fe
      obtain ⟨st, N, F, F', sty, oc, od, sl, kV, dc, pm, an, cd, ct, rfl, lk, hcd, hS, hb, hn⟩ := fe.ex
      refine gfn_of (k := 4 * k + 6) lk hcd hS (fun vs H Q E ⟨S, ρ, G, xs, _, r, hl, _⟩ => by rw [r.length, hl, fe.np]) fun A outer s H vs Q E pn hr hsp => ?_
      refine ⟨_, genB_ok (gs_gen V IH IG (pn := pn) (E := E) hS hr) rfl hS.co (by simp [interactive, gcxOf, cxOf, envOfC, hS.kind]) hb, ?_⟩
      obtain ⟨S, ρ, G, xs, hs, r, hl, p⟩ := hsp
      refine ⟨rfl, ⟨H, S, ρ⟩, S, ρ, Gm.start N.length xs, G, start_rel hs r, ?_⟩
      have ec : callK T wf (k + 1) f xs G = finR (execL ⟨T, callK T wf k, wf, none⟩ d.body (Gm.start N.length xs) G) := by
        unfold callK
        rw [hf]
        show (if xs.length = d.np then finR (execL ⟨T, callK T wf k, wf, none⟩ d.body (Gm.start d.ns xs) G) else .no) = _
        rw [if_pos hl, hn]
      rw [ec] at p
      cases e : execL ⟨T, callK T wf k, wf, none⟩ d.body (Gm.start N.length xs) G with
      | nx g G' => trivial
      | rt v G' => rw [e] at p; exact fun S' ρ' us σ' H' _ _ e1 hs' pv => p S' ρ' us H' e1 hs' pv
      | bk g G' => rw [e] at p; exact p.elim
      | ct g G' => rw [e] at p; exact p.elim
      | ex C fs g G' => rw [e] at p; exact fun S' ρ' cls d σ' H' _ _ R x => p S' ρ' cls d H' R.ext R.hs x
      | no => rw [e] at p; exact p.elim
theorem all_fn (V : EnvOk P w K mg W Γ T) (wf k : Nat) : FnAll P w K mg base W Γ T wf k := (all_both V wf k).1
end
end Gm
end

section
namespace Gm
open PySem PySem.Spec PyProof.Rows L2

theorem tyx_of {K : PySem.W.Frag} {H : Hp} {a : Addr} {xs : List V} (h : SqL K H a xs) : TyX K H (.ref a) (.type "list") := by
  rcases h with (h | ⟨o, h⟩) | ⟨o, its, n, h1, h2, _⟩
  · exact .base (.lst h)
  · exact .base (.frz h)
  · exact .kList h1 h2
theorem law_at {l : PySem.W.OpenLaw} {w : World} {K : PySem.W.Frag} {mg : Str → Option Value} {W : W0} {Γ : Gam} {T : Tb} {n k : Nat} {x : Str} {fa : Addr} {h : Heap} {d : Fn} (V : EnvOk l.prog w K mg W Γ T) (hd : T.fn "law" = some d) (hnp : d.np = 1) {fd : FuncData} (fe : FnE K mg Γ "law" d fa fd [x]) (hb : ∀ (s : Shared) (u : Value), BindsTo s fd ⟨[u], []⟩ [(x, u)])
    (math : ∀ ns : List Int, ns.length ≤ n → (∀ z ∈ ns, Builtin.Int.intBits z ≤ 1048576) → ∃ wf G, callK T wf k "law" [.scr ns] [] = .ok (.bl true) G) : LamX.LawAtS l w K (L2.CX l.prog w) (4 * k + 3) n x mg fa h := by
  refine ⟨fd, [], fun vs H Q E => ∃ wf, spF W T.xc d.np (callK T wf k "law") vs H Q E, fun p hp => (by cases hp), fun p hp => (by cases hp), fun p hp => (by cases hp), hb, fun H a ns hl hz _ hS => ?_, fun base _ _ _ => ?_⟩
  · obtain ⟨wf, G, hm⟩ := math ns hl hz
    refine ⟨wf, H, [], [], [.scr ns], ?_, .cons (.scr (V.hK ▸ hS) (V.hK ▸ tyx_of hS)) .nil, hnp.symm, ?_⟩
    · exact ⟨HLe.refl _, rfl, fun n a xs q => (by simp at q), fun a q => (by cases q), List.nodup_nil, fun dd prs e => by rw [V.xd] at e; cases e⟩
    · rw [hm]
      intro S' ρ' u H' _ _ p
      cases p; rfl
  · have q := all_fn (base := base) V
    refine ⟨fun vs H Q E ⟨wf, hh⟩ => (q wf k "law" d fa fd [x] hd fe).len vs H Q E hh, fun A outer s H args us vs Q E hr he hb hv ⟨wf, hh⟩ => (q wf k "law" d fa fd [x] hd fe).run A outer s H args us vs Q E hr he hb hv hh⟩
theorem cx_end {P : Program} {w : World} (H : Hp) (s : Shared) (e : Value) (s' : Shared) (h : L2.CX P w [] H s (fun _ _ _ => False) e s') : False := by
  obtain ⟨_, _, _, _, _, _, _, _, _, _, _, _, z⟩ := h
  exact z
end Gm
end

section
set_option maxHeartbeats 2000000
namespace Gm
open PySem PySem.W PySem.Calls PyProof.Rows PySem.HandSPX

/-! ### an own exception whose __init__ says super().__init__(..), then keeps its arguments -/
abbrev FieldT := Str × Pos × Pos × Pos × Pos
def asS : List FieldT → List Stmt
  | [] => []
  | (f, a, b, c, d) :: l => .Assign [.Attribute (.Name "self" a) f b] (.Name f c) d :: asS l
def okArg (ps : List Str) : Expr → Bool
  | .Constant (.str _) _ _ => true
  | .Name x _ => decide (x ∈ ps) && !(x == ("__debug__" : Str))
  | _ => false
def suB (q0 q1 q2 q3 q4 : Pos) (args : List Expr) (l : List FieldT) : List Stmt := .Expr (.Call (.Attribute (.Call (.Name "super" q0) [] [] q1) "__init__" q2) args [] q3) q4 :: asS l
section
variable {prog : Program} {w : World} {M : Model} {A : Around} {E : Value → Shared → Prop} {s : Shared} {K : Frag}
theorem lk_none {h : Heap} {a : Addr} (X : K.In h) (ha : h.objs.size ≤ a) : K.lookup a = none := by
  cases e : K.lookup a with
  | none => rfl
  | some o => exact absurd (Nat.lt_of_lt_of_le (Heap.lt_size (X _ _ e)) ha) (Nat.lt_irrefl _)
theorem in_but {h h' : Heap} {x : Addr} (X : K.In h) (hx : K.lookup x = none) (k : ∀ b o, b ≠ x → h.get? b = some o → h'.get? b = some o) : K.In h' := fun a o e =>
  k a o (fun z => by rw [z, hx] at e; cases e) (X a o e)
theorem ns_but {h h' : Heap} {L x : Addr} {m : Str → Option Value} (hn : h.Ns L m) (hx : L ≠ x) (k : ∀ b o, b ≠ x → h.get? b = some o → h'.get? b = some o) : h'.Ns L m := by
  obtain ⟨oL, es, ep, hL, r⟩ := hn
  exact ⟨oL, es, ep, k _ _ hx hL, r⟩
theorem ld_loc {env : Env} {m : Str → Option Value} {x : Str} {pos : Pos} {v : Value} {Q : Value → Shared → Prop} (hn : s.heap.Ns env.locals m) (hv : m x = some v) (h : Q v s) (hk : env.scope.kind = .function) (hl : env.kindOf x = some .local) (hd : (x == ("__debug__" : Str)) = false) :
    wpAny M A (eval (.Name x pos) env) Q E s := wpAny_Name (wpAny_loadName_local hk hl hn hv h) hd
/-- the written arguments of super().__init__ -/
theorem sp_args {env : Env} {m : Str → Option Value} {ps : List Str} {pos : Pos} {h : Heap} {g : Array GenState} {d : Drawn} {os : OsState} (hn : h.Ns env.locals m) (hk : env.scope.kind = .function) (hl : ∀ x ∈ ps, env.kindOf x = some .local ∧ ∃ v, m x = some v) :
    ∀ (args : List Expr) (tk : Nat) (Q : List Value → Shared → Prop), args.all (okArg ps) = true → (∀ us tk', us.length = args.length → Q us ⟨h, g, d, tk', os⟩) → wpAny M A (spliced (backTo pos (starEach args env))) Q E ⟨h, g, d, tk, os⟩
  | [], tk, Q, _, hq => Calls.spliced_nil (hq [] tk rfl)
  | e :: es, tk, Q, ha, hq => by
    rw [List.all_cons, Bool.and_eq_true] at ha
    have hs : noStar e = true := by cases e <;> first | rfl | exact absurd ha.1 (by simp [okArg])
    rw [star_cons hs]
    show wpAny _ _ (spliced ((false, eval e env) :: backTo pos (starEach es env))) _ _ _
    have more : ∀ (u : Value) (tk' : Nat), wpAny M A (spliced (backTo pos (starEach es env))) (fun us s' => Q (u :: us) s') E ⟨h, g, d, tk', os⟩ := fun u tk' => sp_args hn hk hl es tk' _ ha.2 fun us tk2 hlen => hq (u :: us) tk2 (by simp [hlen])
    cases e with
    | Constant k j p =>
      cases k with
      | str z => exact Calls.spliced_cons (Calls.Constant_str (more _ _))
      | _ => exact absurd ha.1 (by simp [okArg])
    | Name x p =>
      have h1 := ha.1
      unfold okArg at h1
      rw [Bool.and_eq_true, decide_eq_true_eq] at h1
      obtain ⟨k1, v, hv⟩ := hl x h1.1
      exact Calls.spliced_cons (ld_loc hn hv (more v tk) hk k1 (by simpa using h1.2))
    | _ => exact absurd ha.1 (by simp [okArg])
/-- the bound __init__ of ValueError, called -/
theorem call_mw {h : Heap} {g : Array GenState} {d : Drawn} {t : Nat} {os : OsState} {nm q : Str} {C N : Addr} {bs bm : List Value} {hdct : Bool} {sn : List Str} {sub : List Value} {ab : Bool} {col : Option Bool} {dd : Option Addr} {k0 k1 k2 k3 k5 : Option Value} {u e t0 : Addr} {rest : List Value} {Q : Value → Shared → Prop}
    (hC : h.get? C = some (excClassObj nm q C N bs bm hdct sn sub ab col dd k0 k1 k2 k3 k5 "ValueError.__new__")) (he : h.get? e = some (excO C t0)) (hu : h.get? u = some (kxs_mw "ValueError.__init__" e)) (hrest : rest.length ≤ sizeLine)
    (hq : ∀ h' t1, (∀ b o, b ≠ e → h.get? b = some o → h'.get? b = some o) → h'.get? e = some (excO C t1) → Q .none ⟨h', g, d, t, os⟩) :
    wpAny (model prog w) A (call (.ref u) rest) Q E ⟨h, g, d, t, os⟩ := by
  refine wpAny_call (codeAny_of_tree ?_)
  show wpAny _ A.in1 (callAny (.ref u) ⟨rest, []⟩) _ _ _
  simp only [callAny]
  refine wpAny_bind (wpAny_load hu ?_)
  simp only [kxs_mw, show (Value.type "method-wrapper" == Value.type "method" || Value.type "method-wrapper" == Value.type "builtin_function_or_method" || Value.type "method-wrapper" == Value.type "method-wrapper") = true by decide, if_true]
  refine W.KFB.if_so (by decide) ?_
  refine wpAny_bind (ESX.check_bound F.excBase_ValueError hC he rfl ?_)
  refine wpAny_bind (wpAny_pure (wpAny_pure ?_))
  refine ⟨Code.quiet_builtin _ (by decide +kernel), codeAny_builtin F.excBase_ValueError.initEntry ?_⟩
  rw [Around.under_plainId F.excBase_ValueError.init.plain _]
  wp_walk
  refine hq _ h.objs.size (fun b o hb ho => ?_) ?_
  · rw [Heap.get?_update_other _ _ (Ne.symm hb)]
    exact Heap.get?_push_of_some _ ho
  · rw [Heap.get?_update_self _ (Heap.get?_push_of_some _ he) rfl]
    rfl

/-! ### self.f = f, one after another -/
section
variable {C x L : Addr} {env : Env} {m : Str → Option Value} {cd : ClassData} {fv : Array Value} {g : Array GenState} {d : Drawn} {os : OsState} {ps : List Str}
/-- fields behind the first -/
theorem rest_ok (hcl : clsIn K C = some cd) (hm : refsVE cd.mro = true) (hh : cd.hasDict = true) (hsa : findIn K (.ref C) "__setattr__" = some (some (.builtin "object.__setattr__"))) (hno : ∀ f ∈ ps, findIn K (.ref C) f = some none)
    (hk : env.scope.kind = .function) (hL : env.locals = L) (hself : env.kindOf "self" = some .local ∧ m "self" = some (.ref x)) :
    ∀ (l : List FieldT) (vs : List L2.V) (us : List Value) (prs : List (Str × L2.V)) (h : Heap) (tk : Nat) (mA : Str → Option Value) (dx : Addr) (Q : Flow → Shared → Prop), L2.Vals vs us → (∀ f u, (f, u) ∈ (l.map (·.1)).zip us → m f = some u ∧ env.kindOf f = some .local ∧ f ∈ ps ∧ (f == ("__debug__" : Str)) = false) → l.length = us.length →
      h.Ns L m → K.In h → K.lookup dx = none → L ≠ dx → x ≠ dx → h.get? x = some { cls := .ref C, dict := some dx, data := .fields fv } → h.Ns1 dx mA → (∀ y, L2.RelO (prs.lookup y) (mA y)) → prs.length + l.length ≤ 1000 →
      (∀ h' tk' mA', (∀ b o, b ≠ dx → h.get? b = some o → h'.get? b = some o) → h'.Ns1 dx mA' → (∀ y, L2.RelO ((((l.map (·.1)).zip vs).reverse ++ prs).lookup y) (mA' y)) → Q .next ⟨h', g, d, tk', os⟩) →
      wpAny (model prog w) A (execs (asS l) env) Q E ⟨h, g, d, tk, os⟩
  | [], vs, us, prs, h, tk, mA, dx, Q, _, _, _, hn, X, _, _, _, hx, hd, hr, _, hq => by
    refine wpAny_execs_nil (hq h tk mA (fun _ _ _ e => e) hd fun y => ?_)
    simpa using hr y
  | (f, a, b, c', e) :: l, vs, us, prs, h, tk, mA, dx, Q, rv, hf, hlen, hn, X, hnd, hLd, hxd, hx, hd, hr, hz, hq => by
    cases rv with
    | nil => cases hlen
    | cons r rs =>
      rename_i v u vs us
      obtain ⟨q1, q2, q3, q4⟩ := hf f u (by simp)
      refine wpAny_execs_cons (plainObj_wpAny_Assign_Attribute ?_)
      refine ld_loc (hL ▸ hn) q1 (ld_loc (hL ▸ hn) hself.2 ?_ hk hself.1 (by decide)) hk q2 q4
      obtain ⟨oD, esD, epD, hoD, hdD, _⟩ := hd.count (L2.within_of hr)
      refine set_plain X (ox := { cls := .ref C, dict := some dx, data := .fields fv }) (od := some oD) ⟨hx, rfl, rfl, hoD⟩ hsa ?_
      refine OEX.osa_old X hx hd (L2.within_of hr) (by rw [List.length_map]; simp at hz; omega) hcl hm hh (hno f q3) (fun h' tk' k' hn' => ?_)
      refine rest_ok hcl hm hh hsa hno hk hL hself l vs us ((f, v) :: prs) h' tk' _ dx Q rs (fun f' u' hm' => hf f' u' (by simp [hm'])) (by simpa using hlen) (ns_but hn hLd k') (in_but X hnd k') hnd hLd hxd (k' _ _ hxd hx) hn' (L2.relO_put r hr) (by simp at hz ⊢; omega) fun h2 tk2 mA2 k2 d2 r2 => ?_
      refine hq h2 tk2 mA2 (fun b o hb e => k2 b o hb (k' b o hb e)) d2 fun y => ?_
      have := r2 y
      simpa using this
end
end
end Gm
end

section
set_option maxHeartbeats 2000000
namespace Gm
open PySem PySem.W PySem.Calls PyProof.Rows PySem.HandSPX

/-- the text of such an __init__ -/
structure IniTxt (prog : Program) (K : Frag) (C fI : Addr) (fs : List FieldT) (ps : List Str) (oc : Value) (od : Option Addr) (osl : Array (Option Value)) (qual : Str) (params : Arguments) (args : List Expr) (scope : Scope) (doc pm : Value) (an : Option Addr) (cda : Addr) (ct : Value) (cc : Addr) (q0 q1 q2 q3 q4 : Pos) : Prop where
  lk : K.lookup fI = some ⟨oc, od, .func (ksFn "__init__" qual params (suB q0 q1 q2 q3 q4 args fs) scope .none .none doc pm an (.ref cda) ct cc), osl⟩
  cd : codeIn K (.ref cda) qual = true
  fil : ∃ (ccl : Value) (cdd : Option Addr) (vs : Array Value) (ccs : Array (Option Value)) (file : Str) (tf : Tok), K.lookup cda = some ⟨ccl, cdd, .fields vs, ccs⟩ ∧ vs[2]? = some (.str file tf) ∧ ((prog.main.file : Str) == file) = true
  cel : ∃ (cl : Value) (cld : Option Addr) (csl : Array (Option Value)), K.lookup cc = some ⟨cl, cld, .cell (some (.ref C)), csl⟩
  arg : args.all (okArg ps) = true
  few : args.length ≤ 1000
  kind : scope.kind = .function
  co : scope.isCoroutine = false
  gen : scope.isGenerator = false
  noc : ∀ y ∈ scope.names, y.2 ≠ .cell
  loc : ∀ y ∈ ("self" : Str) :: ps, scope.names.lookup y = some .local
  sup : scope.names.lookup ("super" : Str) = some .globalImplicit
  cls : scope.names.lookup ("__class__" : Str) = some .free
  ev : ∃ pl : Env → Sem Bool, ∀ env : Env, eval (.Call (.Attribute (.Call (.Name "super" q0) [] [] q1) "__init__" q2) args [] q3) env = (do
    let ov ← attributeBase (.Call (.Name "super" q0) [] [] q1) "__init__" env (eval (.Call (.Name "super" q0) [] [] q1) env)
    standAt q2.atName
    let (f, first) ← holding [ov] (getMethod ov "__init__" (pl env))
    callWith q3 f first (backTo q3 (starEach args env)) [])
  hd : ∃ ar : Arg, (params.posonlyargs ++ params.args).head? = some ar ∧ ar.arg = ("self" : Str)
  bind : ∀ (x : Addr) (us : List Value), us.length = ps.length → bindArgs (ksFn "__init__" qual params (suB q0 q1 q2 q3 q4 args fs) scope .none .none doc pm an (.ref cda) ct cc) ⟨.ref x :: us, []⟩ = pure ((("self" : Str), Value.ref x) :: ps.zip us)
/-- what the written part says of such a class -/
structure ExTxt (prog : Program) (K : Frag) (mg : Str → Option Value) (nmC : Str) (C fI : Addr) (fs : List FieldT) (ps : List Str) : Prop where
  gC : mg nmC = some (.ref C)
  cls : ∃ nm q N bs bm sn sub ab col dd k0 k1 k2 k3 k5, K.lookup C = some (excClassObj nm q C N bs bm true sn sub ab col dd k0 k1 k2 k3 k5 "ValueError.__new__") ∧ refsVE bm = true
  sa : findIn K (.ref C) "__setattr__" = some (some (.builtin "object.__setattr__"))
  noN : ∀ f ∈ ps, findIn K (.ref C) f = some none
  iC : findIn K (.ref C) "__init__" = some (some (.ref fI))
  tI : typeIn K (.ref fI) = some (.type "function")
  kC : keepIn K (.ref C) = true
  exC : subIn K (.ref C) (.type "BaseException") = some true
  tyC : typeIn K (.ref C) = some (.type "type")
  ve : subIn K (.ref C) (.type "ValueError") = some true
  selfC : mroIn K C (.ref C) = some true
  sup : ks_superIn K C C "__init__" = some (some (.builtin "ValueError.__init__"))
  opq : nsIn K cStatics "thirdparty.any" = some none
  noS : mg "super" = none
  top : (prog.main.scope.names.lookup ("super" : Str)).isSome = false
  flds : fs.map (·.1) = ps
  nd : ps.Nodup
  nself : ("self" : Str) ∉ ps
  ndb : ∀ f ∈ ps, (f == ("__debug__" : Str)) = false
  few : ps.length ≤ 1000
  ne : ps ≠ []
  fn : ∃ oc od osl qual params args scope doc pm an cda ct cc q0 q1 q2 q3 q4, IniTxt prog K C fI fs ps oc od osl qual params args scope doc pm an cda ct cc q0 q1 q2 q3 q4
section
variable {prog : Program} {w : World} {A : Around} {R : Result → Shared → Prop} {K : Frag} {mg : Str → Option Value} {nmC : Str} {C fI : Addr} {fs : List FieldT} {ps : List Str}
theorem mem_zip_nodup {α : Type} : ∀ {ps : List Str} {us : List α} {f : Str} {u : α}, ps.Nodup → (f, u) ∈ ps.zip us → (ps.zip us).reverse.lookup f = some u
  | [], _, _, _, _, h => by cases h
  | _ :: _, [], _, _, _, h => by simp at h
  | p :: ps, v :: us, f, u, hn, h => by
    rw [List.zip_cons_cons, List.reverse_cons, List.lookup_append]
    rw [List.nodup_cons] at hn
    rw [List.zip_cons_cons, List.mem_cons] at h
    rcases h with e | h
    · cases e
      have : (ps.zip us).reverse.lookup p = none := by
        rw [List.lookup_eq_none_iff]
        intro q hq
        rw [List.mem_reverse] at hq
        have : q.1 ∈ ps := (List.of_mem_zip (a := q.1) (b := q.2) hq).1
        simp only [beq_eq_false_iff_ne, bne_iff_ne, ne_eq, Bool.not_eq_true]
        intro e
        first
          | exact hn.1 (e ▸ this)
          | (rw [e] at hn; exact hn.1 this)
      rw [this]
      simp
    · rw [mem_zip_nodup hn.2 h]; rfl
theorem ini_ok (T : ExTxt prog K mg nmC C fI fs ps) {s : Shared} {x t0 : Addr} {vs : List L2.V} {us : List Value} (rv : L2.Vals vs us) (hlen : us.length = ps.length) (X : K.In s.heap) (hlim : s.heap.NoLimit) (hg : s.heap.Ns mainGlobals mg) (hb : ∃ mb, s.heap.Ns builtinsNs mb ∧ ∀ y : Str, y ≠ "__name__" → mb y = bootBuiltins y)
    (hx : s.heap.get? x = some (excO C t0)) (hnx : K.lookup x = none) (hroom : A.depth < recursionLimit)
    (hq : ∀ h' tk dx t1 mA, (∀ b o, b ≠ x → s.heap.get? b = some o → h'.get? b = some o) → s.heap.objs.size ≤ dx → dx ≠ x → h'.get? x = some { cls := .ref C, dict := some dx, data := .fields #[.ref t1, .none, .none, .none, .bool false, .none] } → h'.Ns1 dx mA →
      (∀ y, L2.RelO ((ps.zip vs).reverse.lookup y) (mA y)) → R (.ok (.ret .none)) { s with heap := h', toks := tk }) :
    codeAny (model prog w) A (.call (.ref fI) ⟨.ref x :: us, []⟩) R s := by
  obtain ⟨oc, od, osl, qual, params, args, scope, doc, pm, an, cda, ct, cc, q0, q1, q2, q3, q4, U⟩ := T.fn
  obtain ⟨nm, q, N, bs, bm, sn, sub, ab, col, dd, k0, k1, k2, k3, k5, hC, hbm⟩ := T.cls
  have hcl : clsIn K C = some { name := nm, bases := bs, mro := .ref C :: bm, ns := N, qualname := q, hasDict := true, slotNames := sn, subclasses := sub, abstract := ab, collection := col, hasDel := false } := by unfold clsIn; rw [hC] <;> rfl
  refine ks_codeAny_call_defAt (fd := ksFn "__init__" qual params (suB q0 q1 q2 q3 q4 args fs) scope .none .none doc pm an (.ref cda) ct cc) (body := suB q0 q1 q2 q3 q4 args fs) (binds := (("self" : Str), Value.ref x) :: ps.zip us) hroom (X _ _ U.lk) rfl hlim (codeRec_of X U.cd) rfl (BindsTo.of_eq (U.bind x us hlen)) U.noc (fun y hy => ?_) (fun h₀ hns k₀ => ?_) U.co U.gen U.kind
  · rcases List.mem_cons.mp hy with e | h
    · rw [e]; exact U.loc _ List.mem_cons_self
    · exact U.loc _ (List.mem_cons_of_mem _ (List.of_mem_zip (a := y.1) (b := y.2) h).1)
  have X₀ : K.In h₀ := X.keeps k₀
  have hx₀ := k₀ _ _ hx
  have hLx : s.heap.objs.size ≠ x := Nat.ne_of_gt (Heap.lt_size hx)
  obtain ⟨mb, hb1, hb2⟩ := hb
  obtain ⟨ar, har, har2⟩ := U.hd
  obtain ⟨ccl, cdd, vsc, ccs, file, tf, hcd1, hcd2, hcd3⟩ := U.fil
  obtain ⟨ccl2, cld, csl, hcel⟩ := U.cel
  have hm_self : (List.lookup ("self" : Str) ((("self" : Str), Value.ref x) :: ps.zip us).reverse) = some (.ref x) := by
    rw [List.reverse_cons, List.lookup_append]
    have : (ps.zip us).reverse.lookup ("self" : Str) = none := by
      rw [List.lookup_eq_none_iff]
      intro q hq
      rw [List.mem_reverse] at hq
      have : q.1 ∈ ps := (List.of_mem_zip (a := q.1) (b := q.2) hq).1
      simp only [beq_eq_false_iff_ne, bne_iff_ne, ne_eq, Bool.not_eq_true]
      intro e
      exact T.nself (e ▸ this)
    rw [this]; simp
  have hm_par : ∀ f u, (f, u) ∈ ps.zip us → (List.lookup f (((("self" : Str), Value.ref x) :: ps.zip us).reverse)) = some u := fun f u h => by
    rw [List.reverse_cons, List.lookup_append, mem_zip_nodup T.nd h]; rfl
  have hl_par : ∀ y ∈ ps, (callEnv (ksFn "__init__" qual params (suB q0 q1 q2 q3 q4 args fs) scope .none .none doc pm an (.ref cda) ct cc) s.heap.objs.size fI).kindOf y = some .local := fun y hy => U.loc y (List.mem_cons_of_mem _ hy)
  have hv_par : ∀ y ∈ ps, ∃ v, (List.lookup y (((("self" : Str), Value.ref x) :: ps.zip us).reverse)) = some v := fun y hy => by
    obtain ⟨i, hi⟩ := List.getElem?_of_mem hy
    have hlt : i < ps.length := (List.getElem?_eq_some_iff.mp hi).1
    obtain ⟨_, e⟩ := List.getElem?_eq_some_iff.mp hi
    have hmem : (y, us[i]'(by omega)) ∈ ps.zip us := by
      rw [List.mem_iff_getElem]
      exact ⟨i, by simp; omega, by simp [e]⟩
    exact ⟨_, hm_par _ _ hmem⟩
  obtain ⟨hp0, g, dr, tk, os⟩ := s
  -- super().__init__(..)
  obtain ⟨pl, hev⟩ := U.ev
  refine ks_wpAt_execs_cons (ks_wpAt_Expr_any (hi := by simp [interactive, callEnv, newEnv, U.kind]) (hs := rfl) (ks_wpAt_MethodCall (pl := pl _) (he := hev _) (ks_wpAt_super_base (f := fI) (cc := cda) U.sup U.cls rfl rfl (X₀ _ _ U.lk) rfl har rfl (X₀ _ _ hcd1) rfl hcd2 hcd3 T.top ?_)))
  refine ks_loadName_global U.kind U.sup (loadGlobal_builtin (hg.keeps k₀) T.noS (hb1.keeps k₀) ((hb2 _ (by decide)).trans (show bootBuiltins "super" = some (.type "super") by decide +kernel)) ⟨rfl, ?_⟩)
  refine wpAny_loadName_free U.kind U.cls rfl ⟨_, X₀ _ _ hcel, rfl⟩ ?_
  rw [har2]
  refine wpAny_loadName_local U.kind (U.loc _ List.mem_cons_self) hns hm_self ?_
  have hC₀ := X₀ _ _ hC
  refine ks_wpAny_isType_cls hC₀ rfl ⟨rfl, ?_⟩
  refine ks_wpAny_call_super hC₀ rfl hx₀ rfl (fun c e => by cases e) (looks_mroIn X₀ T.selfC) (fun h1 e1 k1 => ?_)
  have X1 : K.In h1 := X₀.keeps k1
  have hx1 := k1 _ _ hx₀
  have I1 : InstAt h1 x (excO C t0) C none := ⟨hx1, rfl, rfl, trivial⟩
  have hsup := T.sup
  unfold ks_superIn at hsup
  rw [hcl] at hsup
  refine kxs_getMethod kxs_ValueError e1 (looks_opaque X1 T.opq) (l₀ := .ref C :: bm) ((looks_clsIn X1 hcl).andThen .now) rfl X1 hsup (I1.type.andThen (looks_subIn X1 T.ve)) (ks_ne X1 I1 hcl) (by decide) ?_
  have k2 : ∀ b o, h1.get? b = some o → (h1.push (kxs_mw "ValueError.__init__" x)).get? b = some o := fun b o e => Heap.get?_push_of_some _ e
  have hu2 : (h1.push (kxs_mw "ValueError.__init__" x)).get? h1.objs.size = some (kxs_mw "ValueError.__init__" x) := Heap.get?_push_size _ rfl
  have hns2 : (h1.push (kxs_mw "ValueError.__init__" x)).Ns hp0.objs.size _ := (hns.keeps k1).keeps k2
  have ncom : ∀ (l : List Expr), l.all (okArg ps) = true → (backTo q3 (starEach l (callEnv (ksFn "__init__" qual params (suB q0 q1 q2 q3 q4 args fs) scope .none .none doc pm an (.ref cda) ct cc) hp0.objs.size fI))).any (·.1) = false := fun l hl => star_plain (by
    rw [List.all_eq_true] at hl ⊢
    intro e he
    have := hl e he
    cases e <;> first | rfl | exact absurd this (by simp [okArg]))
  refine kxs_callWith (i := "ValueError.__init__") (x := x) (ncom args U.arg) (L2.FK.evalArgs_any (ncom args U.arg) ?_)
  refine sp_args hns2 U.kind (fun y hy => ⟨hl_par y hy, hv_par y hy⟩) args _ _ U.arg fun ws tk2 hw => ⟨hu2, ?_⟩
  refine call_mw (k2 _ _ (k1 _ _ hC₀)) (k2 _ _ hx1) hu2 (by rw [List.nil_append, hw]; have := U.few; rw [sizeLine_eq]; omega) fun h3 t3 k3 hx3 => ?_
  have k03 : ∀ b o, b ≠ x → h₀.get? b = some o → h3.get? b = some o := fun b o hb e => k3 b o hb (k2 _ _ (k1 _ _ e))
  have X3 : K.In h3 := in_but X₀ hnx k03
  have hns3 := ns_but hns hLx k03
  -- the fields
  refine wpAt_of_wpAny ?_
  have hK := U.kind
  have hlx : hp0.objs.size ≤ h3.objs.size := Nat.le_of_lt (hns3.lt)
  cases hfs : fs with
  | nil => exact absurd (by rw [← T.flds, hfs]; rfl) T.ne
  | cons f1 fl =>
    obtain ⟨f, a, b, c', e⟩ := f1
    have hps : ps = f :: fl.map (·.1) := by rw [← T.flds, hfs]; rfl
    cases rv with
    | nil => rw [hps] at hlen; cases hlen
    | cons r1 rs =>
      rename_i v1 u1 vs' us'
      have hf1 : f ∈ ps := by rw [hps]; exact List.mem_cons_self
      have hz1 : (f, u1) ∈ ps.zip (u1 :: us') := by rw [hps]; exact List.mem_cons_self
      refine wpAny_execs_cons (plainObj_wpAny_Assign_Attribute ?_)
      refine ld_loc hns3 (hm_par f u1 hz1) (ld_loc hns3 hm_self ?_ hK (U.loc _ List.mem_cons_self) (by decide)) hK (hl_par f hf1) (T.ndb f hf1)
      refine set_plain X3 (ox := excO C t3) (od := none) ⟨hx3, rfl, rfl, trivial⟩ T.sa ?_
      refine exc_osa X3 hx3 hcl (show refsVE (.ref C :: bm) = true from hbm) rfl (T.noN f hf1) (fun h4 tk4 dx k4 dn dne hx4 hn4 => ?_)
      have hdx0 : hp0.objs.size < dx := Nat.lt_of_lt_of_le hns3.lt dn
      have k04 : ∀ b o, b ≠ x → hp0.get? b = some o → h4.get? b = some o := fun b o hb e => k4 b o hb (k03 b o hb (k₀ b o e))
      have hlt3 := Heap.lt_size hx3
      refine rest_ok (env := callEnv (ksFn "__init__" qual params (suB q0 q1 q2 q3 q4 args fs) scope .none .none doc pm an (.ref cda) ct cc) hp0.objs.size fI) (C := C) (x := x) (L := hp0.objs.size) (ps := ps) hcl (show refsVE (.ref C :: bm) = true from hbm) rfl T.sa T.noN hK rfl ⟨U.loc _ List.mem_cons_self, hm_self⟩ fl vs' us' [(f, v1)] h4 tk4 _ dx _ rs (fun f' u' hm' => ?_) (by rw [hps] at hlen; simpa using hlen.symm) (ns_but hns3 hLx k4) (in_but X3 hnx k4) (lk_none X3 dn) (Nat.ne_of_lt hdx0) (Ne.symm dne) hx4 hn4 (L2.relO_put r1 (fs := []) (mA := fun _ => none) fun _ => trivial) (by have := T.few; rw [hps] at this; simp at this ⊢; omega) fun h5 tk5 mA5 k5 d5 r5 => ?_
      · have hz : (f', u') ∈ ps.zip (u1 :: us') := by rw [hps]; exact List.mem_cons_of_mem _ hm'
        have hmem : f' ∈ ps := (List.of_mem_zip hz).1
        exact ⟨hm_par f' u' hz, hl_par f' hmem, hmem, T.ndb f' hmem⟩
      · refine hq h5 tk5 dx t3 mA5 (fun b o hb e => ?_) (Nat.le_of_lt hdx0) dne (k5 _ _ (Ne.symm dne) hx4) d5 fun y => ?_
        · have hbd : b ≠ dx := fun z => by
            have := Heap.lt_size e
            rw [z] at this
            exact absurd (Nat.lt_trans this hdx0) (Nat.lt_irrefl _)
          exact k5 b o hbd (k04 b o hb e)
        · have := r5 y
          rw [hps]
          simpa using this
end
end Gm
end

section
set_option maxHeartbeats 2000000
namespace Gm
section
open PySem PySem.W PySem.Calls PyProof.Rows PySem.HandSPX
variable {prog : Program} {w : World} {A : Around} {R : Result → Shared → Prop} {K : Frag} {mg : Str → Option Value} {nmC : Str} {C fI : Addr} {fs : List FieldT} {ps : List Str}
theorem ex_made (T : ExTxt prog K mg nmC C fI fs ps) {s : Shared} {vs : List L2.V} {us : List Value} (rv : L2.Vals vs us) (hlen : us.length = ps.length) (X : K.In s.heap) (hlim : s.heap.NoLimit) (hg : s.heap.Ns mainGlobals mg) (hb : ∃ mb, s.heap.Ns builtinsNs mb ∧ ∀ y : Str, y ≠ "__name__" → mb y = bootBuiltins y)
    (hroom : A.depth + 1 < recursionLimit)
    (hq : ∀ h' tk e dx t1 mA, (∀ b o, s.heap.get? b = some o → h'.get? b = some o) → s.heap.objs.size ≤ e → h'.get? e = some { cls := .ref C, dict := some dx, data := .fields #[.ref t1, .none, .none, .none, .bool false, .none] } → s.heap.objs.size ≤ dx → dx ≠ e → h'.Ns1 dx mA →
      (∀ y, L2.RelO ((ps.zip vs).reverse.lookup y) (mA y)) → R (.ok (.ret (.ref e))) { s with heap := h', toks := tk }) :
    codeAny (model prog w) A (.call (.ref C) ⟨us, []⟩) R s := by
  obtain ⟨nm, q, N, bs, bm, sn, sub, ab, col, dd, k0, k1, k2, k3, k5, hC, hbm⟩ := T.cls
  obtain ⟨hp, g, dr, tk, os⟩ := s
  have k : ∀ b o, hp.get? b = some o → ((hp.push (kdv_tup us)).push (excO C hp.objs.size)).get? b = some o := fun b o e => Heap.get?_push_of_some _ (Heap.get?_push_of_some _ e)
  have hget : ((hp.push (kdv_tup us)).push (excO C hp.objs.size)).get? (hp.objs.size + 1) = some (excO C hp.objs.size) := by heap_get
  have hnx : K.lookup (hp.objs.size + 1) = none := lk_none X (Nat.le_succ _)
  have hz : us.length ≤ sizeLine := by rw [hlen]; have := T.few; rw [sizeLine_eq]; omega
  obtain ⟨mb, hb1, hb2⟩ := hb
  refine call_own F.excBase_ValueError (fun X => refsVE_contains X bm hbm) (X _ _ hC) (looks_findIn X T.iC) (fun self => bind_fn X self T.tI) hz ?_
  refine ini_ok (s := ⟨(hp.push (kdv_tup us)).push (excO C hp.objs.size), g, dr, tk, os⟩) T rv hlen (X.keeps k) (hlim.keeps k) (hg.keeps k) ⟨mb, hb1.keeps k, hb2⟩ hget hnx ?_ fun h' tk' dx t1 mA k' dn dne hx hns hr => ?_
  · show A.depth + 1 < recursionLimit
    exact hroom
  · have old : ∀ b o, hp.get? b = some o → h'.get? b = some o := fun b o e => k' b o (Nat.ne_of_lt (Nat.lt_succ_of_lt (Heap.lt_size e))) (k b o e)
    have z : hp.objs.size + 1 + 1 ≤ dx := by
      first
        | (simpa only [Heap.size_push] using dn)
        | exact dn
        | (have q := dn; rw [Heap.size_push, Heap.size_push] at q; exact q)
    exact ⟨rfl, hq h' tk' (hp.objs.size + 1) dx t1 mA old (Nat.le_succ _) hx (Nat.le_trans (Nat.le_trans (Nat.le_succ _) (Nat.le_succ _)) z) dne hns hr⟩
end
section
open PySem PySem.Spec PyProof.Rows L2
variable {X : Cx} {nmC : Str} {C fI : Addr} {fs : List FieldT} {ps : List Str}
theorem pmk_ex {e : Expr} {es : List Expr} {ta : TA} {p pos : Pos} {k : Nat} (T : ExTxt X.prog X.K X.mg nmC C fI fs ps) (hr : Room k X.A) (ha : PA X (e :: es) ta) (hg : Gl X nmC) (hdb : (nmC == ("__debug__" : Str)) = false)
    (he : starEach (e :: es) X.env = (false, eval e X.env) :: starEach es X.env) (hpl : (backTo pos (starEach es X.env)).any (·.1) = false) :
    PMk X (.Call (.Name nmC p) (e :: es) [] pos) (fun σ H Q => ta σ H fun vs H1 => vs.length = ps.length ∧ ∀ d, H1 d = none → Q (.ref C) (some d) (upd H1 d (.xd (ps.zip vs).reverse))) := by
  intro pins s σ H Q I h
  refine wpAny_Call_Name_kw (ld_glob I hg T.gC ?_ hdb)
  refine PySem.W.callWith_K (h₀ := X.base) I.ok.mod.kin T.kC (thn (ha.run pos pins s σ H _ I h) fun us s1 hh => ?_) he hpl
  obtain ⟨vs, H1, I1, r1, hl, q1⟩ := hh
  refine ⟨I1.kIn, ?_⟩
  show wpAny _ _ (call (.ref C) us) _ _ _
  have hlim := I1.nolimit
  obtain ⟨mb, hb1, hb2⟩ := I1.ok.mod.blt
  have hgl := I1.ok.mod.glob.keeps I1.bk
  have hbl := hb1.keeps I1.bk
  obtain ⟨hp, g, dr, tk, os⟩ := s1
  refine wpAny_call (ex_made T r1 (by rw [← r1.length]; exact hl) I1.kIn hlim hgl ⟨mb, hbl, hb2⟩ (by have := hr.dp; omega) fun h' tk' e d t1 mA old hnew hoe dbig dne hns hrel => ?_)
  show MkP X pins σ Q (.ref e) ⟨h', g, dr, tk', os⟩
  obtain ⟨G', g1, g2⟩ := restrict h' fun b => decide (b ≠ e)
  have gk : ∀ b, b ≠ e → G'.get? b = h'.get? b := fun b hb => g1 b (decide_eq_true hb)
  have ge : G'.get? e = none := g2 e (by simp)
  have old' : ∀ b o, hp.get? b = some o → G'.get? b = some o := fun b o q => (gk b (Nat.ne_of_lt (Nat.lt_of_lt_of_le (Heap.lt_size q) hnew))).trans (old b o q)
  have ob : ObjOk X.prog X.w (upd H1 d (.xd (ps.zip vs).reverse)) G' d (.xd (ps.zip vs).reverse) :=
    ⟨_, hns.at (fun o q => (gk d dne).trans q), hrel⟩
  have J : Inv X pins σ (upd H1 d (.xd (ps.zip vs).reverse)) ⟨G', g, dr, tk', os⟩ := I1.laid (t' := tk') old' dbig ob
  refine ⟨e, _, _, ⟨G', g, dr, tk', os⟩, _, .ref C, some d, rfl, J, fun b o q => ?_, ge, hoe, ⟨rfl, rfl⟩, rfl, rfl, ?_, rfl, I1.bare, raises_own T.exC T.tyC, q1 d (I1.hok.fresh dbig)⟩
  · by_cases hb : b = e
    · have q' : G'.get? b = some o := q
      rw [hb, ge] at q'; cases q'
    · exact (gk b hb).symm.trans q
  · rw [upd_ne (Ne.symm dne)]
    exact I1.hok.fresh hnew
theorem lookup_rev {f : Str} {u : V} {ps : List Str} {us : List V} (hn : ps.Nodup) (h : (ps.zip us).lookup f = some u) : (ps.zip us).reverse.lookup f = some u := by
  refine mem_zip_nodup hn ?_
  clear hn
  induction ps generalizing us with
  | nil => cases h
  | cons p ps ih =>
    cases us with
    | nil => cases h
    | cons v us =>
      rw [List.zip_cons_cons, List.lookup_cons] at h
      rw [List.zip_cons_cons]
      cases e : (f == p) with
      | true => simp only [e] at h; cases h; rw [beq_iff_eq.mp e]; exact List.mem_cons_self
      | false => simp only [e] at h; exact List.mem_cons_of_mem _ (ih h)
theorem RD.q {W : W0} {xc : Str → Option (List Str)} {Wx : WX} {α β : Type} {P : Hp → List Addr → Hp → α → β → Prop} {ev : List Sl → Cells → Res α} {σ : L2.St} {H : Hp} {Q Q' : β → Hp → Prop} (h : RD W xc Wx P ev σ H Q) (i : ∀ b H, Q b H → Q' b H) : RD W xc Wx P ev σ H Q' := by
  obtain ⟨B, S, ρ, g, G, R, p⟩ := h
  refine ⟨B, S, ρ, g, G, R, ?_⟩
  cases e : ev g G with
  | ok v G' => rw [e] at p; exact fun S' ρ' u H' e1 hs pv => i _ _ (p S' ρ' u H' e1 hs pv)
  | ex C fs G' => rw [e] at p; exact p
  | no => rw [e] at p; exact p
theorem exc_mk {n : Cn} {k : Nat} (T : ExTxt X.prog X.K X.mg nmC C fI fs ps) (hmg : n.W.mg = X.mg) (hr : Room k X.A) (hdb : (nmC == ("__debug__" : Str)) = false) : ExcMk X n nmC ps := by
  intro X' n' e1 e2 e3 e4 e5 e6 e7 e8
  refine ⟨fun _ es ea p pos hne hg ha hns => ?_, fun h0 => absurd h0 T.ne⟩
  have T' : ExTxt X'.prog X'.K X'.mg nmC C fI fs ps := by rw [e1, e3, e4]; exact T
  have hm : n'.W.mg nmC = some (.ref C) := by rw [e7, hmg]; exact T.gC
  cases es with
  | nil => exact absurd rfl hne
  | cons e es =>
    rw [List.all_cons, Bool.and_eq_true] at hns
    intro pins s σ H Q I h
    refine pmk_ex T' (e6 ▸ hr) ha hg hdb (star_cons hns.1) (star_plain hns.2) pins s σ H Q I (RD.q h fun us H1 ⟨hl, hh⟩ => ⟨hl, fun d hd => ?_⟩)
    exact (hh _ hm).2 T.ne d _ hd fun f u hf => lookup_rev T.nd hf
/-- an own error without own __init__ -/
structure Exc0 (K : PySem.W.Frag) (mg : Str → Option Value) (nmC : Str) (C : Addr) : Prop where
  gC : mg nmC = some (.ref C)
  ex : PySem.W.excIn K C [.type "ValueError", .type "Exception", .type "BaseException", .type "object"] "ValueError.__new__" = true
  kC : PySem.W.keepIn K (.ref C) = true
  exC : PySem.W.subIn K (.ref C) (.type "BaseException") = some true
  tyC : PySem.W.typeIn K (.ref C) = some (.type "type")
theorem exc_mk0 {n : Cn} (T : Exc0 X.K X.mg nmC C) (hmg : n.W.mg = X.mg) (hdb : (nmC == ("__debug__" : Str)) = false) : ExcMk X n nmC [] := by
  intro X' n' e1 e2 e3 e4 e5 e6 e7 e8
  refine ⟨fun h => absurd rfl h, fun _ p pos hg => ?_⟩
  have T' : Exc0 X'.K X'.mg nmC C := by rw [e3, e4]; exact T
  have hm : n'.W.mg nmC = some (.ref C) := by rw [e7, hmg]; exact T.gC
  intro pins s σ H Q I h
  refine pmk_own0 PySem.F.excBase_ValueError T'.ex T'.gC T'.kC (raises_own T'.exC T'.tyC) hg hdb pins s σ H Q I ?_
  obtain ⟨B, S, ρ, g, G, R, q⟩ := h
  exact ((q S ρ [] H (Ext.refl _ _ _) R.hs .nil).2 _ hm).1 rfl
end
end Gm
end

section
namespace Gm
open PySem PySem.Spec PyProof.Rows L2
section
variable {K : PySem.W.Frag} {mg : Str → Option Value} {h : Heap} {Γ : Gam} {fn : Str} {d : Fn} {f : Addr} {od an : Option Addr} {sl : Array (Option Value)} {oc kV dc pm cd ct : Value} {st : Stmt} {N ps : List Str} {F F' : Nat} {sty : Sty}
theorem fe_mk (X : K.In h) (G : h.Ns mainGlobals mg) (a : PySem.W.nsIn K mainGlobals fn = some (some (.ref f))) (l : K.lookup f = some ⟨oc, od, .func (PySem.W.fnOf fn fn (defArgs st) (defBody st) (defScope st) .none kV dc pm an cd ct), sl⟩) (c : PySem.W.codeIn K cd fn = true) (k : PySem.W.keepIn K (.ref f) = true)
    (S : FnScope N ps (defScope st)) (hb : mapO (compS2 F sty F' (fnG Γ N (defScope st).names)) (defBody st) = some d.body) (hn : N.length = d.ns) (hp : ps.length = d.np) (hd : d.dfl = [])
    (bind : ∀ (kV doc pm : Value) (an : Option Addr) (cdv ct : Value) (us : List Value), us.length = ps.length → bindArgs (PySem.W.fnOf fn fn (defArgs st) (defBody st) (defScope st) .none kV doc pm an cdv ct) ⟨us, []⟩ = pure (ps.zip us)) :
    FnE K mg Γ fn d f (PySem.W.fnOf fn fn (defArgs st) (defBody st) (defScope st) .none kV dc pm an cd ct) ps where
  ex := ⟨st, [], [], N, F, F', sty, ⟨⟨oc, od, .none, kV, dc, pm, an, cd, ct, sl, rfl, l, c, .inl ⟨rfl, rfl⟩, .inl rfl⟩, k⟩, S, hb, hn⟩
  mgf := PySem.W.mg_of X G a
  np := hp
  bn := fun j hj => ⟨[], [], .all (bind kV dc pm an cd ct), by rw [hd]; simp [cVs], .nil⟩
theorem ge_mk (X : K.In h) (G : h.Ns mainGlobals mg) (a : PySem.W.nsIn K mainGlobals fn = some (some (.ref f))) (l : K.lookup f = some ⟨oc, od, .func (PySem.W.fnOf fn fn (defArgs st) (defBody st) (defScope st) .none kV dc pm an cd ct), sl⟩) (c : PySem.W.codeIn K cd fn = true) (k : PySem.W.keepIn K (.ref f) = true)
    (S : GScope N ps (defScope st)) (hb : genB F sty F' (fnG Γ N (defScope st).names) (defBody st) = some d.body) (hn : N.length = d.ns) (hp : ps.length = d.np) (hd : d.dfl = [])
    (bind : ∀ (kV doc pm : Value) (an : Option Addr) (cdv ct : Value) (us : List Value), us.length = ps.length → bindArgs (PySem.W.fnOf fn fn (defArgs st) (defBody st) (defScope st) .none kV doc pm an cdv ct) ⟨us, []⟩ = pure (ps.zip us)) :
    GnE K mg Γ fn d f (PySem.W.fnOf fn fn (defArgs st) (defBody st) (defScope st) .none kV dc pm an cd ct) ps where
  ex := ⟨st, N, F, F', sty, oc, od, sl, kV, dc, pm, an, cd, ct, rfl, l, c, S, hb, hn⟩
  kp := k
  mgf := PySem.W.mg_of X G a
  np := hp
  dfl := hd
  bn := .all (bind kV dc pm an cd ct)
theorem cVs_drop : ∀ {v : List GV} {u : List V} (j : Nat), cVs v = some u → cVs (v.drop j) = some (u.drop j)
  | v, u, 0, h => by simpa using h
  | [], u, j + 1, h => by cases h; rfl
  | x :: xs, u, j + 1, h => by
    unfold cVs at h
    cases e1 : cV x with
    | none => simp only [e1] at h; cases h
    | some y =>
      simp only [e1] at h
      cases e2 : cVs xs with
      | none => simp only [e2] at h; cases h
      | some ys =>
        simp only [e2] at h
        cases h
        exact cVs_drop j e2
theorem cVs_len : ∀ {v : List GV} {u : List V}, cVs v = some u → u.length = v.length
  | [], u, h => by cases h; rfl
  | x :: xs, u, h => by
    unfold cVs at h
    cases e1 : cV x with
    | none => simp only [e1] at h; cases h
    | some y =>
      simp only [e1] at h
      cases e2 : cVs xs with
      | none => simp only [e2] at h; cases h
      | some ys => simp only [e2] at h; cases h; simp [cVs_len e2]
theorem fe_mkD {T : Addr} {tc : Value} {td : Option Addr} {its : List Value} {tm : Nat} {tsl : Array (Option Value)} {dvs : List V} (X : K.In h) (G : h.Ns mainGlobals mg) (a : PySem.W.nsIn K mainGlobals fn = some (some (.ref f))) (l : K.lookup f = some ⟨oc, od, .func (PySem.W.fnOf fn fn (defArgs st) (defBody st) (defScope st) (.ref T) kV dc pm an cd ct), sl⟩) (c : PySem.W.codeIn K cd fn = true) (k : PySem.W.keepIn K (.ref f) = true)
    (lT : K.lookup T = some ⟨tc, td, .seq its.toArray tm, tsl⟩) (hv : Vals dvs its) (hdv : cVs d.dfl = some dvs) (hne : dvs ≠ [])
    (S : FnScope N ps (defScope st)) (hb : mapO (compS2 F sty F' (fnG Γ N (defScope st).names)) (defBody st) = some d.body) (hn : N.length = d.ns) (hp : ps.length = d.np) (hle : dvs.length ≤ ps.length)
    (bind : ∀ j, j ≤ dvs.length → ∀ (T : Addr) (kV doc pm : Value) (an : Option Addr) (cdv ct : Value) (us its : List Value), us.length + (dvs.length - j) = ps.length → its.length = dvs.length →
      ∃ k, bindArgs (PySem.W.fnOf fn fn (defArgs st) (defBody st) (defScope st) (.ref T) kV doc pm an cdv ct) ⟨us, []⟩ = seqItems? (.ref T) >>= k ∧ k (some its.toArray) = pure (ps.zip (us ++ its.drop j))) :
    FnE K mg Γ fn d f (PySem.W.fnOf fn fn (defArgs st) (defBody st) (defScope st) (.ref T) kV dc pm an cd ct) ps := by
  have FD : FunD K fn fn (defArgs st) (defBody st) (defScope st) dvs [] f (PySem.W.fnOf fn fn (defArgs st) (defBody st) (defScope st) (.ref T) kV dc pm an cd ct) :=
    ⟨⟨oc, od, .ref T, kV, dc, pm, an, cd, ct, sl, rfl, l, c, .inr ⟨hne, T, _, its, tm, rfl, lT, rfl, hv⟩, .inl rfl⟩, k⟩
  refine ⟨⟨st, [], dvs, N, F, F', sty, FD, S, hb, hn⟩, PySem.W.mg_of X G a, hp, fun j hj => ?_⟩
  have hl := cVs_len hdv
  have hj' : j ≤ dvs.length := by omega
  obtain ⟨ds, h1, h2⟩ := FD.binds1 (ps := ps) (ps.length - (dvs.length - j)) j hne (by omega) fun T kV doc pm an cdv ct us its hu hi => bind j hj' T kV doc pm an cdv ct us its (by omega) hi
  exact ⟨ds, dvs.drop j, h2, cVs_drop j hdv, h1⟩
end
/-- an own error named by its own class -/
theorem exm_self {K : PySem.W.Frag} {S : Addr} (h1 : PySem.W.subIn K (.ref S) (.type "BaseException") = some true) (h2 : PySem.W.isClsIn K S = true) (h3 : PySem.W.typeIn K (.ref S) = some (.type "type")) (h4 : PySem.W.subIn K (.ref S) (.ref S) = some true) :
    PySem.W.exmOne K (.ref S) (.ref S) = some true := by
  have e1 : (PySem.W.subIn K (.ref S) (.type "BaseException") == some true) = true := by rw [h1] <;> rfl
  have e2 : ((PySem.W.clsIn K S).isSome && PySem.W.typeIn K (.ref S) == some (.type "type")) = true := by
    have h2' : (PySem.W.clsIn K S).isSome = true := h2
    rw [h2', h3] <;> rfl
  show (if (PySem.W.subIn K (.ref S) (.type "BaseException") == some true) = true then (if ((PySem.W.clsIn K S).isSome && PySem.W.typeIn K (.ref S) == some (.type "type")) = true then PySem.W.subIn K (.ref S) (.ref S) else none) else none) = some true
  rw [if_pos e1, if_pos e2]
  exact h4

/-! ### an own error's class, from the top's facts -/
def fldsOf : List Stmt → List FieldT
  | .Assign [.Attribute (.Name _ a) f b] (.Name _ c) d :: r => (f, a, b, c, d) :: fldsOf r
  | _ => []
structure IniQ where
  q0 : Pos
  q1 : Pos
  q2 : Pos
  q3 : Pos
  q4 : Pos
  args : List Expr
  fs : List FieldT
def iniQ : List Stmt → IniQ
  | .Expr (.Call (.Attribute (.Call (.Name _ q0) [] [] q1) _ q2) args [] q3) q4 :: r => ⟨q0, q1, q2, q3, q4, args, fldsOf r⟩
  | _ => ⟨⟨0, 0, 0, 0⟩, ⟨0, 0, 0, 0⟩, ⟨0, 0, 0, 0⟩, ⟨0, 0, 0, 0⟩, ⟨0, 0, 0, 0⟩, [], []⟩
def clsBody : Stmt → List Stmt
  | .ClassDef _ _ _ b _ _ _ _ _ _ _ => b
  | _ => []
def iniOf (st : Stmt) : Stmt := ((clsBody st).find? fun s => match s with | .FunctionDef n _ _ _ _ _ _ _ _ _ => n == ("__init__" : Str) | _ => false).getD st
def noCells (nm : List (Str × NameKind)) : Bool := nm.all fun y => decide (y.2 ≠ .cell)
/-- what the text alone says -/
structure IniT (ini : Stmt) (qual : Str) (ps : List Str) : Prop where
  body : defBody ini = suB (iniQ (defBody ini)).q0 (iniQ (defBody ini)).q1 (iniQ (defBody ini)).q2 (iniQ (defBody ini)).q3 (iniQ (defBody ini)).q4 (iniQ (defBody ini)).args (iniQ (defBody ini)).fs
  flds : (iniQ (defBody ini)).fs.map (·.1) = ps
  arg : (iniQ (defBody ini)).args.all (okArg ps) = true
  few : (iniQ (defBody ini)).args.length ≤ 1000
  kind : (defScope ini).kind = .function
  co : (defScope ini).isCoroutine = false
  gen : (defScope ini).isGenerator = false
  noc : noCells (defScope ini).names = true
  loc : (("self" : Str) :: ps).all (fun y => decide ((defScope ini).names.lookup y = some .local)) = true
  sup : (defScope ini).names.lookup ("super" : Str) = some .globalImplicit
  cls : (defScope ini).names.lookup ("__class__" : Str) = some .free
  ev : ∃ pl : Env → Sem Bool, ∀ env : Env, eval (.Call (.Attribute (.Call (.Name "super" (iniQ (defBody ini)).q0) [] [] (iniQ (defBody ini)).q1) "__init__" (iniQ (defBody ini)).q2) (iniQ (defBody ini)).args [] (iniQ (defBody ini)).q3) env = (do
    let ov ← attributeBase (.Call (.Name "super" (iniQ (defBody ini)).q0) [] [] (iniQ (defBody ini)).q1) "__init__" env (eval (.Call (.Name "super" (iniQ (defBody ini)).q0) [] [] (iniQ (defBody ini)).q1) env)
    standAt (iniQ (defBody ini)).q2.atName
    let (f, first) ← holding [ov] (getMethod ov "__init__" (pl env))
    callWith (iniQ (defBody ini)).q3 f first (backTo (iniQ (defBody ini)).q3 (starEach (iniQ (defBody ini)).args env)) [])
  hd : ∃ ar : Arg, ((defArgs ini).posonlyargs ++ (defArgs ini).args).head? = some ar ∧ ar.arg = ("self" : Str)
  bind : ∀ (doc pm : Value) (an : Option Addr) (cda : Addr) (ct : Value) (cc x : Addr) (us : List Value), us.length = ps.length → bindArgs (PySem.W.ksFn "__init__" qual (defArgs ini) (defBody ini) (defScope ini) .none .none doc pm an (.ref cda) ct cc) ⟨.ref x :: us, []⟩ = pure (((("self" : Str), Value.ref x)) :: ps.zip us)
section
variable {prog : Program} {K : PySem.W.Frag} {mg : Str → Option Value} {h : Heap} {nmC qual : Str} {C fI N : Addr} {ps : List Str} {ini : Stmt} {nm q : Str} {bs bm : List Value} {sn : List Str} {sub : List Value} {ab : Bool} {col : Option Bool} {dd : Option Addr} {k0 k1 k2 k3 k5 : Option Value}
  {oc doc pm ct : Value} {od an : Option Addr} {osl : Array (Option Value)} {cda cc : Addr} {ccl cl : Value} {cdd cld : Option Addr} {vs : Array Value} {ccs csl : Array (Option Value)} {file : Str} {tf : Tok}
theorem ext_mk (X : K.In h) (G : h.Ns mainGlobals mg) (U : IniT ini qual ps) (aC : PySem.W.nsIn K mainGlobals nmC = some (some (.ref C))) (xL : K.lookup C = some (excClassObj nm q C N bs bm true sn sub ab col dd k0 k1 k2 k3 k5 "ValueError.__new__")) (hbm : PySem.HandSPX.refsVE bm = true)
    (sa : PySem.W.findIn K (.ref C) "__setattr__" = some (some (.builtin "object.__setattr__"))) (noN : ∀ f ∈ ps, PySem.W.findIn K (.ref C) f = some none) (iC : PySem.W.findIn K (.ref C) "__init__" = some (some (.ref fI))) (tI : PySem.W.typeIn K (.ref fI) = some (.type "function"))
    (kC : PySem.W.keepIn K (.ref C) = true) (exC : PySem.W.subIn K (.ref C) (.type "BaseException") = some true) (tyC : PySem.W.typeIn K (.ref C) = some (.type "type")) (ve : PySem.W.subIn K (.ref C) (.type "ValueError") = some true) (selfC : PySem.W.mroIn K C (.ref C) = some true)
    (sup : PySem.W.ks_superIn K C C "__init__" = some (some (.builtin "ValueError.__init__"))) (opq : PySem.W.nsIn K cStatics "thirdparty.any" = some none) (noS : PySem.W.nsIn K mainGlobals "super" = some none) (top : (prog.main.scope.names.lookup ("super" : Str)).isSome = false)
    (lI : K.lookup fI = some ⟨oc, od, .func (PySem.W.ksFn "__init__" qual (defArgs ini) (defBody ini) (defScope ini) .none .none doc pm an (.ref cda) ct cc), osl⟩) (cI : PySem.W.codeIn K (.ref cda) qual = true) (lcd : K.lookup cda = some ⟨ccl, cdd, .fields vs, ccs⟩) (hv : vs[2]? = some (.str file tf)) (hfile : ((prog.main.file : Str) == file) = true)
    (lcc : K.lookup cc = some ⟨cl, cld, .cell (some (.ref C)), csl⟩) (nd : ps.Nodup) (nself : ("self" : Str) ∉ ps) (ndb : ps.all (fun f => !(f == ("__debug__" : Str))) = true) (few : ps.length ≤ 1000) (ne : ps ≠ []) :
    ExTxt prog K mg nmC C fI (iniQ (defBody ini)).fs ps where
  gC := PySem.W.mg_of X G aC
  cls := ⟨nm, q, N, bs, bm, sn, sub, ab, col, dd, k0, k1, k2, k3, k5, xL, hbm⟩
  sa := sa
  noN := noN
  iC := iC
  tI := tI
  kC := kC
  exC := exC
  tyC := tyC
  ve := ve
  selfC := selfC
  sup := sup
  opq := opq
  noS := PySem.W.mg_none_of X G noS
  top := top
  flds := U.flds
  nd := nd
  nself := nself
  ndb := fun f hf => by
    have := List.all_eq_true.mp ndb f hf
    simpa using this
  few := few
  ne := ne
  fn := by
    have hb := U.body
    refine ⟨oc, od, osl, qual, defArgs ini, (iniQ (defBody ini)).args, defScope ini, doc, pm, an, cda, ct, cc, (iniQ (defBody ini)).q0, (iniQ (defBody ini)).q1, (iniQ (defBody ini)).q2, (iniQ (defBody ini)).q3, (iniQ (defBody ini)).q4, ?_⟩
    exact { lk := by rw [← hb]; exact lI, cd := cI, fil := ⟨ccl, cdd, vs, ccs, file, tf, lcd, hv, hfile⟩, cel := ⟨cl, cld, csl, lcc⟩, arg := U.arg, few := U.few, kind := U.kind, co := U.co, gen := U.gen,
            noc := fun y hy => of_decide_eq_true (List.all_eq_true.mp U.noc y hy), loc := fun y hy => of_decide_eq_true (List.all_eq_true.mp U.loc y hy), sup := U.sup, cls := U.cls, ev := U.ev, hd := U.hd, bind := fun x us hl => by rw [← hb]; exact U.bind doc pm an cda ct cc x us hl }
end
/-! ### the table as a list -/
theorem lookup_mem {β : Type} {f : Str} {d : β} : ∀ {l : List (Str × β)}, l.lookup f = some d → (f, d) ∈ l
  | [], h => by cases h
  | (g, e) :: l, h => by
    rw [List.lookup_cons] at h
    cases q : (f == g) with
    | true => simp only [q] at h; cases h; rw [beq_iff_eq.mp q]; exact List.mem_cons_self
    | false => simp only [q] at h; exact List.mem_cons_of_mem _ (lookup_mem h)
theorem lookup_l {β : Type} {f : Str} {d : β} {l r : List (Str × β)} (h : l.lookup f = some d) : (l ++ r).lookup f = some d := by rw [List.lookup_append, h]; rfl
theorem lookup_r {β : Type} {f : Str} {d : β} {l r : List (Str × β)} (hd : (r.all fun p => (l.lookup p.1).isNone) = true) (h : r.lookup f = some d) : (l ++ r).lookup f = some d := by
  have : l.lookup f = none := by
    have := List.all_eq_true.mp hd _ (lookup_mem h)
    simpa using this
  rw [List.lookup_append, this, h]; rfl
theorem lookup_map {β γ : Type} {g : β → γ} {x : Str} : ∀ {l : List (Str × β)}, (l.map fun p => (p.1, g p.2)).lookup x = (l.lookup x).map g
  | [] => rfl
  | (y, e) :: l => by
    rw [List.map_cons, List.lookup_cons, List.lookup_cons]
    cases q : (x == y) with
    | true => rfl
    | false => exact lookup_map
theorem all_nil {β : Type} {P : Str → β → Prop} : ∀ p ∈ ([] : List (Str × β)), P p.1 p.2 := fun p hp => by cases hp
theorem all_cons {β : Type} {P : Str → β → Prop} {f : Str} {d : β} {l : List (Str × β)} (h : P f d) (t : ∀ p ∈ l, P p.1 p.2) : ∀ p ∈ (f, d) :: l, P p.1 p.2 := fun p hp => by
  rcases List.mem_cons.mp hp with rfl | hp
  · exact h
  · exact t p hp
theorem by_list {β : Type} {P : Str → β → Prop} {l : List (Str × β)} (t : ∀ p ∈ l, P p.1 p.2) {f : Str} {d : β} (h : l.lookup f = some d) : P f d := t _ (lookup_mem h)
end Gm
end

section
namespace Cm
open PySem Gm

theorem callK_step {T : Tb} {wf k : Nat} {f : Str} {d : Fn} {xs : List GV} {G : Cells} (h : T.fn f = some d) (hl : xs.length = d.np) : callK T wf (k + 1) f xs G = finR (execL ⟨T, callK T wf k, wf, none⟩ d.body (Gm.start d.ns xs) G) := by
  unfold callK
  rw [h]
  exact if_pos hl
theorem log_le {i : Int} (h : i.natAbs < 2 ^ 1000) : i.natAbs.log2 < 1000 := by
  by_cases h0 : i.natAbs = 0
  · rw [h0]; decide
  · exact (Nat.log2_lt h0).mpr h
theorem mulOk_of {i j : Int} (h1 : i.natAbs < 2 ^ 1000) (h2 : j.natAbs < 2 ^ 1000) : mulOk i j = true := by
  unfold mulOk
  have a := log_le h1
  have b := log_le h2
  exact decide_eq_true (by omega)
theorem big : (10 : Nat) ^ 30 < 2 ^ 1000 := by decide +kernel
theorem mulOk_b {i j : Int} (h1 : i.natAbs ≤ 10 ^ 30) (h2 : j.natAbs ≤ 10 ^ 30) : mulOk i j = true := mulOk_of (Nat.lt_of_le_of_lt h1 big) (Nat.lt_of_le_of_lt h2 big)
theorem mul_ok {i j : Int} (h1 : i.natAbs ≤ 10 ^ 30) (h2 : j.natAbs ≤ 10 ^ 30) : binV .mul (.int i) (.int j) = some (.int (i * j)) := if_pos (mulOk_b h1 h2)
theorem divOk_b {j : Int} (h0 : j ≠ 0) (h : j.natAbs ≤ 10 ^ 30) : divOk j = true := by
  unfold divOk
  have := log_le (Nat.lt_of_le_of_lt h big)
  rw [Bool.and_eq_true]
  exact ⟨decide_eq_true h0, decide_eq_true (by omega)⟩
theorem div_ok {i j : Int} (h0 : j ≠ 0) (h : j.natAbs ≤ 10 ^ 30) : binV .fdiv (.int i) (.int j) = some (.int (i.fdiv j)) := if_pos (divOk_b h0 h)
theorem mod_ok {i j : Int} (h0 : j ≠ 0) : binV .mod (.int i) (.int j) = some (.int (i.fmod j)) := if_pos (decide_eq_true h0)
theorem add_ok {i j : Int} : binV .add (.int i) (.int j) = some (.int (i + j)) := rfl
theorem sub_ok {i j : Int} : binV .sub (.int i) (.int j) = some (.int (i - j)) := rfl
theorem fmod_bd {i j : Int} (h : 0 < j) : 0 ≤ i.fmod j ∧ i.fmod j < j := ⟨Int.fmod_nonneg_of_pos i h, Int.fmod_lt_of_pos i h⟩

def bMixed : List S := [(.set 2 (.bin .mod (.blt .intt [(.bin .add (.bin .add (.bin .mul (.var 0) (.con (.int 48271))) (.bin .mul (.var 1) (.con (.int 7919)))) (.con (.int 65537)))]) (.con (.int 2147483647)))), (.set 3 (.bin .mod (.blt .intt [(.bin .add (.bin .add (.bin .mul (.var 2) (.var 2)) (.bin .mul (.var 1) (.con (.int 104729)))) (.bin .fdiv (.var 2) (.con (.int 127))))]) (.con (.int 2147483629)))), (.ret (.bin .fdiv (.blt .intt [(.bin .mod (.blt .intt [(.bin .add (.bin .mul (.var 3) (.con (.int 69621))) (.bin .fdiv (.var 2) (.con (.int 5))))]) (.con (.int 2147483587)))]) (.con (.int 16))))]
def dMixed : Fn := ⟨2, 4, [], [], bMixed⟩
section
variable {T : Tb} {wf k : Nat} {G : Cells}
theorem mixed_ok (hT : T.fn "_law_mixed" = some dMixed) {number turn : Int} (h1 : number.natAbs ≤ 10 ^ 12) (h2 : turn.natAbs ≤ 10 ^ 12) : ∃ r : Int, callK T wf (k + 1) "_law_mixed" [.int number, .int turn] G = .ok (.int r) G := by
  rw [callK_step hT rfl]
  obtain ⟨o, ho⟩ : ∃ o, o = (number * 48271 + turn * 7919 + 65537).fmod 2147483647 := ⟨_, rfl⟩
  have bo := fmod_bd (i := number * 48271 + turn * 7919 + 65537) (j := 2147483647) (by decide)
  rw [← ho] at bo
  obtain ⟨t, ht⟩ : ∃ t, t = (o * o + turn * 104729 + o.fdiv 127).fmod 2147483629 := ⟨_, rfl⟩
  have bt := fmod_bd (i := o * o + turn * 104729 + o.fdiv 127) (j := 2147483629) (by decide)
  rw [← ht] at bt
  refine ⟨((t * 69621 + o.fdiv 5).fmod 2147483587).fdiv 16, ?_⟩
  have m1 := mul_ok (i := number) (j := 48271) (by omega) (by decide)
  have m2 := mul_ok (i := turn) (j := 7919) (by omega) (by decide)
  have m3 := mul_ok (i := o) (j := o) (by omega) (by omega)
  have m4 := mul_ok (i := turn) (j := 104729) (by omega) (by decide)
  have m5 := mul_ok (i := t) (j := 69621) (by omega) (by decide)
  have d1 := div_ok (i := o) (j := 127) (by decide) (by decide)
  have d2 := div_ok (i := o) (j := 5) (by decide) (by decide)
  have d3 := div_ok (i := (t * 69621 + o.fdiv 5).fmod 2147483587) (j := 16) (by decide) (by decide)
  have e1 := mod_ok (i := number * 48271 + turn * 7919 + 65537) (j := 2147483647) (by decide)
  have e2 := mod_ok (i := o * o + turn * 104729 + o.fdiv 127) (j := 2147483629) (by decide)
  have e3 := mod_ok (i := t * 69621 + o.fdiv 5) (j := 2147483587) (by decide)
  rw [← ho] at e1
  rw [← ht] at e2
  simp only [dMixed, bMixed, execL, execS, evalE, evalL, evalLB, bor, Res.bind, Res.of, Res.thn, Rs.seq, Gm.start, rd, rdB, bltV, m1, m2, m3, m4, m5, d1, d2, d3, e1, e2, e3, add_ok, finR, List.map_cons, List.map_nil, List.replicate, List.cons_append, List.nil_append, List.set_cons_zero, List.set_cons_succ, List.getElem?_cons_zero, List.getElem?_cons_succ, List.length_cons, List.length_nil]
theorem eq_int {i j : Int} : cmpV .eq (.int i) (.int j) = some (i == j) := rfl
theorem ne_int {i j : Int} : cmpV .ne (.int i) (.int j) = some (!(i == j)) := rfl
theorem lt_int {i j : Int} : cmpV .lt (.int i) (.int j) = some (decide (i < j)) := rfl
theorem le_int {i j : Int} : cmpV .le (.int i) (.int j) = some (decide (i ≤ j)) := rfl
theorem gt_int {i j : Int} : cmpV .gt (.int i) (.int j) = some (decide (j < i)) := rfl
theorem ge_int {i j : Int} : cmpV .ge (.int i) (.int j) = some (decide (j ≤ i)) := rfl
theorem pow18 : binV .pow (.int 10) (.int 18) = some (.int 1000000000000000000) := by kernel_rfl
/-- the cells while only the law's hand is one -/
def HG (cells : List Int) (a : Nat) (b c : Int) : Cells := [[.lst (cells.map .int), .int a, .int b, .int c]]
structure HI (cells : List Int) (a : Nat) (b c : Int) : Prop where
  ha : a ≤ cells.length
  hl : cells.length ≤ 1000
  hb : 0 ≤ b
  hc : 0 ≤ c ∧ c < 2147483629
  hz : ∀ z ∈ cells, 0 ≤ z
theorem ix0 {cells a b c} : idxV (.cel 0) (.int 0) (HG cells a b c) = some (.lst (cells.map .int)) := rfl
theorem ix1 {cells a b c} : idxV (.cel 0) (.int 1) (HG cells a b c) = some (.int a) := rfl
theorem ix2 {cells a b c} : idxV (.cel 0) (.int 2) (HG cells a b c) = some (.int b) := rfl
theorem ix3 {cells a b c} : idxV (.cel 0) (.int 3) (HG cells a b c) = some (.int c) := rfl
theorem ixl {xs : List GV} {a : Nat} {v : GV} {G : Cells} (h : xs[a]? = some v) : idxV (.lst xs) (.int a) G = some v := L2.atI_nat h
theorem ixt {xs : List GV} {a : Nat} {v : GV} {G : Cells} (h : xs[a]? = some v) : idxV (.tup xs) (.int a) G = some v := L2.atI_nat h
theorem int_int {i : Int} : bltV .intt [.int i] = some (.int i) := rfl
theorem tru_bl {b : Bool} : truV (.bl b) = some b := rfl
theorem tru_int {i : Int} : truV (.int i) = some (i != 0) := rfl
theorem len_lst {xs : List GV} : bltV .len [.lst xs] = some (.int xs.length) := rfl
def bTake : List S := [(.ite (.and (.cmp .eq (.idx (.var 0) (.con (.int 2))) (.con (.int 0))) (.cmp .lt (.idx (.var 0) (.con (.int 1))) (.blt .len [(.idx (.var 0) (.con (.int 0)))]))) [(.set 2 (.idx (.idx (.var 0) (.con (.int 0))) (.idx (.var 0) (.con (.int 1))))), (.sub 0 (.con (.int 1)) (.bin .add (.idx (.var 0) (.con (.int 1))) (.con (.int 1)))), (.ite (.cmp .lt (.var 2) (.bin .pow (.con (.int 10)) (.con (.int 18)))) [(.ret (.bin .mod (.blt .intt [(.call "_law_mixed" [(.bin .mod (.blt .intt [(.var 2)]) (.con (.int 2147483647))), (.idx (.var 0) (.con (.int 1)))] [])]) (.var 1)))] []), (.sub 0 (.con (.int 2)) (.var 2))] []), (.ite (.cmp .gt (.idx (.var 0) (.con (.int 2))) (.con (.int 0))) [(.set 3 (.idx (.var 0) (.con (.int 2)))), (.sub 0 (.con (.int 2)) (.bin .fdiv (.blt .intt [(.var 3)]) (.var 1))), (.ret (.bin .mod (.blt .intt [(.var 3)]) (.var 1)))] []), (.sub 0 (.con (.int 3)) (.bin .mod (.blt .intt [(.bin .add (.idx (.var 0) (.con (.int 3))) (.con (.int 1)))]) (.con (.int 2147483629)))), (.ret (.bin .mod (.blt .intt [(.call "_law_mixed" [(.idx (.var 0) (.con (.int 3))), (.idx (.var 0) (.con (.int 1)))] [])]) (.var 1)))]
def dTake : Fn := ⟨2, 4, [], [], bTake⟩
theorem sub1 {cells a b c} {v : GV} {i : Nat} {σ : List Sl} : subS (some (.val (.cel 0))) 1 v i σ (HG cells a b c) = .nx σ [[.lst (cells.map .int), v, .int b, .int c]] := rfl
theorem sub2 {cells a b c} {v : GV} {i : Nat} {σ : List Sl} : subS (some (.val (.cel 0))) 2 v i σ (HG cells a b c) = .nx σ [[.lst (cells.map .int), .int a, v, .int c]] := rfl
theorem sub3 {cells a b c} {v : GV} {i : Nat} {σ : List Sl} : subS (some (.val (.cel 0))) 3 v i σ (HG cells a b c) = .nx σ [[.lst (cells.map .int), .int a, .int b, v]] := rfl
theorem HG_eq {cells : List Int} {a : Nat} {b c : Int} : ([[GV.lst (cells.map .int), .int a, .int b, .int c]] : Cells) = HG cells a b c := rfl
theorem HG_eq' {cells : List Int} {a : Nat} {b c : Int} : ([[GV.lst (cells.map .int), .int ((a : Int) + 1), .int b, .int c]] : Cells) = HG cells (a + 1) b c := rfl
theorem take_ok (hM : T.fn "_law_mixed" = some dMixed) (hT : T.fn "_law_take" = some dTake) {cells : List Int} {a : Nat} {b c many : Int} (h : HI cells a b c) (hm : 0 < many) (hm2 : many ≤ 10 ^ 30) :
    ∃ (r : Int) (a' : Nat) (b' c' : Int), callK T wf (k + 2) "_law_take" [.cel 0, .int many] (HG cells a b c) = .ok (.int r) (HG cells a' b' c') ∧ 0 ≤ r ∧ r < many ∧ HI cells a' b' c' := by
  rw [callK_step hT rfl]
  have hne : many ≠ 0 := by omega
  have hab : many.natAbs ≤ 10 ^ 30 := by omega
  by_cases hA : b = 0 ∧ a < cells.length
  · obtain ⟨rfl, ha⟩ := hA
    have hg : (cells.map GV.int)[a]? = some (.int cells[a]) := by simp [ha]
    have hz : 0 ≤ cells[a] := h.hz _ (List.getElem_mem ha)
    have lt1 : decide ((a : Int) < ((cells.map GV.int).length : Int)) = true := by simp; omega
    by_cases hc : cells[a] < 1000000000000000000
    · obtain ⟨r, hr⟩ := mixed_ok (T := T) (wf := wf) (k := k) (G := HG cells (a + 1) 0 c) hM (number := cells[a].fmod 2147483647) (turn := ((a + 1 : Nat) : Int)) (by have := fmod_bd (i := cells[a]) (j := 2147483647) (by decide); omega) (by have := h.hl; omega)
      have e1 := mod_ok (i := cells[a]) (j := 2147483647) (by decide)
      have e2 := mod_ok (i := r) (j := many) hne
      have hr' : callK T wf (k + 1) "_law_mixed" [.int (cells[a].fmod 2147483647), .int ((a : Int) + 1)] (HG cells (a + 1) 0 c) = .ok (.int r) (HG cells (a + 1) 0 c) := hr
      refine ⟨r.fmod many, a + 1, 0, c, ?_, (fmod_bd hm).1, (fmod_bd hm).2, ⟨ha, h.hl, by decide, h.hc, h.hz⟩⟩
      have ixa : ∀ {b c}, idxV (.cel 0) (.int 1) (HG cells (a + 1) b c) = some (.int ((a : Int) + 1)) := fun {b c} => rfl
      simp only [dTake, bTake, execL, execS, evalE, evalL, evalLB, bor, Res.bind, Res.of, Res.thn, Rs.seq, Gm.start, rd, rdB, tstE, tru_bl, lstAt, gSubS, int_int, ix0, ix1, ix2, ix3, ixa, ixl hg, eq_int, lt_int, len_lst, lt1, pow18, sub1, HG_eq', hr', e1, e2, add_ok, finR, List.map_cons, List.map_nil, List.replicate, List.cons_append, List.nil_append, List.append_nil, List.set_cons_zero, List.set_cons_succ, List.getElem?_cons_zero, List.getElem?_cons_succ, List.length_cons, List.length_nil, Option.map_some, beq_self_eq_true, if_true, hc, decide_true]
    · have e1 := div_ok (i := cells[a]) (j := many) hne hab
      have e2 := mod_ok (i := cells[a]) (j := many) hne
      have c1 : decide (cells[a] < 1000000000000000000) = false := decide_eq_false hc
      have c2 : decide (0 < cells[a]) = true := decide_eq_true (by omega)
      refine ⟨cells[a].fmod many, a + 1, cells[a].fdiv many, c, ?_, (fmod_bd hm).1, (fmod_bd hm).2, ⟨ha, h.hl, Int.fdiv_nonneg hz (by omega), h.hc, h.hz⟩⟩
      simp only [dTake, bTake, execL, execS, evalE, evalL, evalLB, bor, Res.bind, Res.of, Res.thn, Rs.seq, Gm.start, rd, rdB, tstE, tru_bl, lstAt, gSubS, int_int, ix0, ix1, ix2, ix3, eq_int, lt_int, gt_int, len_lst, pow18, sub1, sub2, sub3, HG_eq, HG_eq', add_ok, finR, List.map_cons, List.map_nil, List.replicate, List.cons_append, List.nil_append, List.append_nil, List.set_cons_zero, List.set_cons_succ, List.getElem?_cons_zero, List.getElem?_cons_succ, List.length_cons, List.length_nil, Option.map_some, beq_self_eq_true, if_true, if_false, decide_true, Bool.false_eq_true, ixl hg, lt1, c1, c2, e1, e2]
  · by_cases hb : b = 0
    · subst hb
      have ha : ¬ a < cells.length := fun z => hA ⟨rfl, z⟩
      have lt1 : decide ((a : Int) < ((cells.map GV.int).length : Int)) = false := by simp; omega
      have e0 := mod_ok (i := c + 1) (j := 2147483629) (by decide)
      have bc := fmod_bd (i := c + 1) (j := 2147483629) (by decide)
      obtain ⟨c', hc'⟩ : ∃ c', c' = (c + 1).fmod 2147483629 := ⟨_, rfl⟩
      rw [← hc'] at e0 bc
      obtain ⟨r, hr⟩ := mixed_ok (T := T) (wf := wf) (k := k) (G := HG cells a 0 c') hM (number := c') (turn := (a : Int)) (by omega) (by have := h.hl; have := h.ha; omega)
      have e2 := mod_ok (i := r) (j := many) hne
      have c2 : decide ((0 : Int) < 0) = false := rfl
      refine ⟨r.fmod many, a, 0, c', ?_, (fmod_bd hm).1, (fmod_bd hm).2, ⟨h.ha, h.hl, by decide, bc, h.hz⟩⟩
      simp only [dTake, bTake, execL, execS, evalE, evalL, evalLB, bor, Res.bind, Res.of, Res.thn, Rs.seq, Gm.start, rd, rdB, tstE, tru_bl, lstAt, gSubS, int_int, ix0, ix1, ix2, ix3, eq_int, lt_int, gt_int, len_lst, pow18, sub1, sub2, sub3, HG_eq, HG_eq', add_ok, finR, List.map_cons, List.map_nil, List.replicate, List.cons_append, List.nil_append, List.append_nil, List.set_cons_zero, List.set_cons_succ, List.getElem?_cons_zero, List.getElem?_cons_succ, List.length_cons, List.length_nil, Option.map_some, beq_self_eq_true, if_true, if_false, decide_true, Bool.false_eq_true, lt1, c2, e0, e2, hr]
    · have c0 : (b == 0) = false := by rw [beq_eq_false_iff_ne]; exact hb
      have hb0 := h.hb
      have c2 : decide (0 < b) = true := decide_eq_true (by omega)
      have e1 := div_ok (i := b) (j := many) hne hab
      have e2 := mod_ok (i := b) (j := many) hne
      refine ⟨b.fmod many, a, b.fdiv many, c, ?_, (fmod_bd hm).1, (fmod_bd hm).2, ⟨h.ha, h.hl, Int.fdiv_nonneg hb0 (by omega), h.hc, h.hz⟩⟩
      simp only [dTake, bTake, execL, execS, evalE, evalL, evalLB, bor, Res.bind, Res.of, Res.thn, Rs.seq, Gm.start, rd, rdB, tstE, tru_bl, lstAt, gSubS, int_int, ix0, ix1, ix2, ix3, eq_int, lt_int, gt_int, len_lst, pow18, sub1, sub2, sub3, HG_eq, HG_eq', add_ok, finR, List.map_cons, List.map_nil, List.replicate, List.cons_append, List.nil_append, List.append_nil, List.set_cons_zero, List.set_cons_succ, List.getElem?_cons_zero, List.getElem?_cons_succ, List.length_cons, List.length_nil, Option.map_some, beq_self_eq_true, if_true, if_false, decide_true, Bool.false_eq_true, c0, c2, e1, e2]
end
end Cm
end

section
namespace Cm
open PySem Gm
def bHandL : List S := [(.set 1 (.bin .mod (.blt .intt [(.bin .add (.bin .mul (.var 1) (.con (.int 1019))) (.blt .intt [(.var 3)]))]) (.con (.int 2147483629)))), (.app 2 (.ite (.cmp .ge (.var 3) (.con (.int 0))) (.blt .intt [(.var 3)]) (.neg (.blt .intt [(.var 3)]))))]
def bHand : List S := [(.set 1 (.bin .add (.blt .len [(.var 0)]) (.con (.int 31)))), (.seto 2 (.lst [])), (.forr (.name 3) (.seqs (.var 0)) bHandL), (.frz [2] (.ret (.cel [(.var 2), (.con (.int 0)), (.con (.int 0)), (.var 1)])))]
def dHand : Fn := ⟨1, 4, [], [], bHand⟩
theorem small_sz {n : Nat} (h : n ≤ 100000) : n < sizeLine := Nat.lt_of_le_of_lt h (by decide)
theorem sz_ok {n : Nat} (h : n ≤ 100000) : szOk n = true := decide_eq_true (Nat.le_of_lt (small_sz h))
section
variable {T : Tb} {wf k : Nat} {G : Cells}
theorem len_scr {ns : List Int} : bltV .len [.scr ns] = some (.int ns.length) := rfl
theorem hand_loop {c : Gm.Ctx} (s0 : Sl) : ∀ (ns : List Int) (t : Int) (cells : List Int) (s3 : Sl), t.natAbs ≤ 10 ^ 20 → (∀ z ∈ cells, 0 ≤ z) → cells.length + ns.length ≤ 1000 →
    ∃ (t' : Int) (cells' : List Int) (s3' : Sl), loopF (.name 3) (execL c bHandL) (ns.map .int) [s0, .val (.int t), .own (cells.map .int), s3] [] = .nx [s0, .val (.int t'), .own (cells'.map .int), s3'] [] ∧ (∀ z ∈ cells', 0 ≤ z) ∧ cells'.length = cells.length + ns.length ∧ (ns ≠ [] → 0 ≤ t' ∧ t' < 2147483629) ∧ (ns = [] → t' = t)
  | [], t, cells, s3, _, hz, _ => ⟨t, cells, s3, rfl, hz, rfl, fun h => absurd rfl h, fun _ => rfl⟩
  | n :: ns, t, cells, s3, ht, hz, hl => by
    have e1 := mod_ok (i := t * 1019 + n) (j := 2147483629) (by decide)
    have b1 := fmod_bd (i := t * 1019 + n) (j := 2147483629) (by decide)
    have m1 := mul_ok (i := t) (j := 1019) (by omega) (by decide)
    have hsz : (cells.map GV.int).length < sizeLine := small_sz (by simp at hl ⊢; omega)
    obtain ⟨t1, ht1⟩ : ∃ t1, t1 = (t * 1019 + n).fmod 2147483629 := ⟨_, rfl⟩
    rw [← ht1] at e1 b1
    have step : ∀ v : Int, 0 ≤ v → ∃ (t' : Int) (cells' : List Int) (s3' : Sl), loopF (.name 3) (execL c bHandL) (ns.map .int) [s0, .val (.int t1), .own (cells.map .int ++ [.int v]), .val (.int n)] [] = .nx [s0, .val (.int t'), .own (cells'.map .int), s3'] [] ∧ (∀ z ∈ cells', 0 ≤ z) ∧ cells'.length = cells.length + (n :: ns).length ∧ 0 ≤ t' ∧ t' < 2147483629 := fun v hv => by
      obtain ⟨t', cells', s3', q1, q2, q3, q4, q5⟩ := hand_loop s0 ns t1 (cells ++ [v]) (.val (.int n)) (by omega) (fun z hm => by
        rcases List.mem_append.mp hm with h | h
        · exact hz z h
        · rw [List.mem_singleton] at h; rw [h]; exact hv) (by simp at hl ⊢; omega)
      refine ⟨t', cells', s3', by simpa using q1, q2, by simp at q3 ⊢; omega, ?_⟩
      by_cases h0 : ns = []
      · rw [q5 h0]; exact b1
      · exact q4 h0
    by_cases hn : 0 ≤ n
    · obtain ⟨t', cells', s3', q1, q2, q3, q4⟩ := step n hn
      refine ⟨t', cells', s3', ?_, q2, q3, fun _ => q4, fun h => by cases h⟩
      rw [← q1]
      have c1 : decide (0 ≤ n) = true := decide_eq_true hn
      conv => lhs; unfold bHandL
      simp only [execL, execS, evalE, evalL, evalLB, bor, Res.bind, Res.of, Res.thn, Rs.seq, Gm.start, rd, rdB, tstE, tru_bl, lstAt, gSubS, int_int, ix0, ix1, ix2, ix3, eq_int, lt_int, gt_int, ge_int, len_lst, add_ok, sub_ok, finR, List.map_cons, List.map_nil, List.replicate, List.cons_append, List.nil_append, List.append_nil, List.set_cons_zero, List.set_cons_succ, List.getElem?_cons_zero, List.getElem?_cons_succ, List.length_cons, List.length_nil, Option.map_some, beq_self_eq_true, if_true, if_false, decide_true, Bool.false_eq_true, setTg, ownAt, gApp, gOwn, iterE, itmV, rngV, loopF, frzG, m1, e1, c1, hsz]
      rfl
    · obtain ⟨t', cells', s3', q1, q2, q3, q4⟩ := step (-n) (by omega)
      refine ⟨t', cells', s3', ?_, q2, q3, fun _ => q4, fun h => by cases h⟩
      rw [← q1]
      have c1 : decide (0 ≤ n) = false := decide_eq_false hn
      conv => lhs; unfold bHandL
      simp only [execL, execS, evalE, evalL, evalLB, bor, Res.bind, Res.of, Res.thn, Rs.seq, Gm.start, rd, rdB, tstE, tru_bl, lstAt, gSubS, int_int, ix0, ix1, ix2, ix3, eq_int, lt_int, gt_int, ge_int, len_lst, add_ok, sub_ok, finR, List.map_cons, List.map_nil, List.replicate, List.cons_append, List.nil_append, List.append_nil, List.set_cons_zero, List.set_cons_succ, List.getElem?_cons_zero, List.getElem?_cons_succ, List.length_cons, List.length_nil, Option.map_some, beq_self_eq_true, if_true, if_false, decide_true, Bool.false_eq_true, setTg, ownAt, gApp, gOwn, iterE, itmV, rngV, loopF, frzG, m1, e1, c1, hsz]
      rfl
theorem hand_ok (hT : T.fn "_law_hand" = some dHand) {ns : List Int} (hl : ns.length ≤ 63) : ∃ cells c, callK T wf (k + 1) "_law_hand" [.scr ns] [] = .ok (.cel 0) (HG cells 0 0 c) ∧ HI cells 0 0 c := by
  rw [callK_step hT rfl]
  obtain ⟨t', cells', s3', q1, q2, q3, q4, q5⟩ := hand_loop (c := ⟨T, callK T wf k, wf, none⟩) (.val (.scr ns)) ns ((ns.length : Int) + 31) [] .no (by omega) (fun z h => by cases h) (by simp; omega)
  have bt : 0 ≤ t' ∧ t' < 2147483629 := by
    by_cases h0 : ns = []
    · rw [q5 h0]; omega
    · exact q4 h0
  refine ⟨cells', t', ?_, ⟨Nat.zero_le _, by simp at q3; omega, by decide, bt, q2⟩⟩
  have q1' : loopF (.name 3) (execL ⟨T, callK T wf k, wf, none⟩ bHandL) (ns.map .int) [.val (.scr ns), .val (.int ((ns.length : Int) + 31)), .own [], .no] [] = .nx [.val (.scr ns), .val (.int t'), .own (cells'.map .int), s3'] [] := q1
  have z0 : szOk 0 = true := sz_ok (by decide)
  have z4 : szOk (0 + 1 + 1 + 1 + 1) = true := sz_ok (by decide)
  simp only [dHand, bHand, execL, execS, evalE, evalL, evalLB, bor, Res.bind, Res.of, Res.thn, Rs.seq, Gm.start, rd, rdB, tstE, tru_bl, lstAt, gSubS, int_int, ix0, ix1, ix2, ix3, eq_int, lt_int, gt_int, ge_int, len_lst, add_ok, sub_ok, finR, List.map_cons, List.map_nil, List.replicate, List.cons_append, List.nil_append, List.append_nil, List.set_cons_zero, List.set_cons_succ, List.getElem?_cons_zero, List.getElem?_cons_succ, List.length_cons, List.length_nil, Option.map_some, beq_self_eq_true, if_true, if_false, decide_true, Bool.false_eq_true, setTg, ownAt, gApp, gOwn, iterE, itmV, rngV, frzG, len_scr, q1', z0, z4]
  rfl
end
end Cm
end

section
namespace Cm
open PySem Gm
def bWordL : List S := [(.app 2 (.bin .sub (.con (.int 1)) (.bin .mul (.con (.int 2)) (.call "_law_take" [(.var 0), (.con (.int 2))] []))))]
def bWord : List S := [(.seto 2 (.lst [(.con (.int 1))])), (.forr (.name 3) (.rng [(.con (.int 1)), (.var 1)]) bWordL), (.ret (.blt .tupl [(.var 2)]))]
def dWord : Fn := ⟨2, 4, [], [], bWord⟩
def Sgn (w : List Int) : Prop := ∀ z ∈ w, z = 1 ∨ z = -1
structure IsW (n : Nat) (w : List Int) : Prop where
  len : w.length = n
  sg : Sgn w
  hd : w[0]? = some 1
theorem Sgn.app {a b : List Int} (h : Sgn a) (k : Sgn b) : Sgn (a ++ b) := fun z hz => (List.mem_append.mp hz).elim (h z) (k z)
theorem sgn_take {r : Int} (h0 : 0 ≤ r) (h1 : r < 2) : (1 - 2 * r) = 1 ∨ (1 - 2 * r) = -1 := by omega
section
variable {T : Tb} {wf k : Nat} {G : Cells}
theorem loopF_nx {tg : Tg} {f : List Sl → Cells → Rs} {x : GV} {xs : List GV} {σ σ2 σ3 : List Sl} {G G3 : Cells} (h1 : setTg tg x σ = some σ2) (h2 : f σ2 G = .nx σ3 G3) : loopF tg f (x :: xs) σ G = loopF tg f xs σ3 G3 := by
  show (match setTg tg x σ with | none => Rs.no | some σ2 => match f σ2 G with | .nx σ G => loopF tg f xs σ G | .ct σ G => loopF tg f xs σ G | .bk σ G => .nx σ G | r => r) = _
  rw [h1]
  show (match f σ2 G with | .nx σ G => loopF tg f xs σ G | .ct σ G => loopF tg f xs σ G | .bk σ G => .nx σ G | r => r) = _
  rw [h2]
theorem exl_nx {c : Gm.Ctx} {s : S} {ss : List S} {σ σ1 : List Sl} {G G1 : Cells} (h : execS c s σ G = .nx σ1 G1) : execL c (s :: ss) σ G = execL c ss σ1 G1 := by simp only [execL, h, Rs.seq]
theorem exl_rt {c : Gm.Ctx} {s : S} {ss : List S} {σ : List Sl} {v : GV} {G G1 : Cells} (h : execS c s σ G = .rt v G1) : execL c (s :: ss) σ G = .rt v G1 := by simp only [execL, h, Rs.seq]
theorem ex_forr {c : Gm.Ctx} {tg : Tg} {it : It} {b : List S} {σ : List Sl} {G G1 : Cells} {xs : List GV} (h : iterE c it σ G = .ok xs G1) : execS c (.forr tg it b) σ G = loopF tg (execL c b) xs σ G1 := by simp only [execS, h, Res.thn]
theorem ex_ret {c : Gm.Ctx} {e : E} {σ : List Sl} {G G1 : Cells} {v : GV} (h : evalE c e σ G = .ok v G1) : execS c (.ret e) σ G = .rt v G1 := by simp only [execS, h, Res.thn]
theorem ex_set {c : Gm.Ctx} {i : Nat} {e : E} {σ : List Sl} {G G1 : Cells} {v : GV} (h : evalE c e σ G = .ok v G1) : execS c (.set i e) σ G = .nx (σ.set i (.val v)) G1 := by simp only [execS, h, Res.thn]
theorem word_loop (hM : T.fn "_law_mixed" = some dMixed) (hT : T.fn "_law_take" = some dTake) {s1 : Sl} : ∀ (xs : List GV) (w : List Int) (s3 : Sl) {cells : List Int} {a : Nat} {b c : Int}, HI cells a b c → Sgn w → w.length + xs.length ≤ 1000 →
    ∃ (v : List Int) (s3' : Sl) (a' : Nat) (b' c' : Int), loopF (.name 3) (execL ⟨T, callK T wf (k + 2), wf, none⟩ bWordL) xs [.val (.cel 0), s1, .own (w.map .int), s3] (HG cells a b c) = .nx [.val (.cel 0), s1, .own ((w ++ v).map .int), s3'] (HG cells a' b' c') ∧ Sgn v ∧ v.length = xs.length ∧ HI cells a' b' c'
  | [], w, s3, cells, a, b, c, h, hw, hl => ⟨[], s3, a, b, c, by simp [loopF], fun z hz => (by cases hz), rfl, h⟩
  | x :: xs, w, s3, cells, a, b, c, h, hw, hl => by
    obtain ⟨r, a1, b1, c1, q1, q2, q3, q4⟩ := take_ok (wf := wf) (k := k) hM hT h (many := 2) (by decide) (by decide)
    obtain ⟨v, s3', a2, b2, c2, p1, p2, p3, p4⟩ := word_loop hM hT xs (w ++ [1 - 2 * r]) (.val x) q4 (hw.app fun z hz => by rw [List.mem_singleton] at hz; rw [hz]; exact sgn_take q2 q3) (by simp at hl ⊢; omega)
    refine ⟨(1 - 2 * r) :: v, s3', a2, b2, c2, ?_, ?_, by simp [p3], p4⟩
    · have e : w ++ (1 - 2 * r) :: v = w ++ [1 - 2 * r] ++ v := by simp
      rw [e, ← p1]
      have m1 := mul_ok (i := 2) (j := r) (by decide) (by omega)
      have hsz : (w.map GV.int).length < sizeLine := small_sz (by simp at hl ⊢; omega)
      have hb : execL ⟨T, callK T wf (k + 2), wf, none⟩ bWordL [.val (.cel 0), s1, .own (w.map .int), .val x] (HG cells a b c) = .nx [.val (.cel 0), s1, .own ((w ++ [1 - 2 * r]).map .int), .val x] (HG cells a1 b1 c1) := by
        unfold bWordL
        simp only [execL, execS, evalE, evalL, evalLB, bor, Res.bind, Res.of, Res.thn, Rs.seq, Gm.start, rd, rdB, tstE, tru_bl, lstAt, gSubS, int_int, ix0, ix1, ix2, ix3, eq_int, lt_int, gt_int, ge_int, len_lst, add_ok, sub_ok, finR, List.map_cons, List.map_nil, List.replicate, List.cons_append, List.nil_append, List.append_nil, List.set_cons_zero, List.set_cons_succ, List.getElem?_cons_zero, List.getElem?_cons_succ, List.length_cons, List.length_nil, Option.map_some, beq_self_eq_true, if_true, if_false, decide_true, Bool.false_eq_true, setTg, ownAt, gApp, gOwn, iterE, itmV, loopF, frzG, q1, m1, hsz, List.map_append]
      exact loopF_nx rfl hb
    · intro z hz
      rcases List.mem_cons.mp hz with h | h
      · rw [h]; exact sgn_take q2 q3
      · exact p2 z h
theorem rngOk_of {j : Int} (h1 : -(2 ^ 60) ≤ j) (h2 : j < 2 ^ 60) : rngOk j = true := by
  unfold rngOk
  have hb : j.natAbs < 2 ^ 61 := by omega
  refine decide_eq_true ?_
  by_cases h0 : j.natAbs = 0
  · rw [h0]; decide
  · exact (Nat.log2_lt h0).mpr hb
theorem rng2 {i j : Int} (h1 : -(2 ^ 60) ≤ i) (h2 : i < 2 ^ 60) (h3 : -(2 ^ 60) ≤ j) (h4 : j < 2 ^ 60) : rngV [.int i, .int j] = some ((List.range (j - i).toNat).map fun (k : Nat) => .int (i + (k : Int))) := if_pos (by rw [rngOk_of h1 h2, rngOk_of h3 h4]; rfl)
theorem rng1 {j : Int} (h3 : -(2 ^ 60) ≤ j) (h4 : j < 2 ^ 60) : rngV [.int j] = some ((List.range j.toNat).map fun (k : Nat) => .int (k : Int)) := if_pos (rngOk_of h3 h4)
def rngL (i : Int) (m : Nat) : List GV := (List.range m).map fun (k : Nat) => .int (i + (k : Int))
theorem it_rng2 {c : Gm.Ctx} {ea eb : E} {σ : List Sl} {G : Cells} {i j : Int} (ha : evalE c ea σ G = .ok (.int i) G) (hb : evalE c eb σ G = .ok (.int j) G) (h1 : -(2 ^ 60) ≤ i) (h2 : i < 2 ^ 60) (h3 : -(2 ^ 60) ≤ j) (h4 : j < 2 ^ 60) : iterE c (.rng [ea, eb]) σ G = .ok (rngL i (j - i).toNat) G := by
  have h := rng2 h1 h2 h3 h4
  have e : evalL c [ea, eb] σ G = .ok [.int i, .int j] G := by simp only [evalL, ha, hb, Res.bind]
  have e2 : iterE c (.rng [ea, eb]) σ G = (evalL c [ea, eb] σ G).bind fun xs G => Res.of (rngV xs) G := by simp only [iterE]
  rw [e2, e]
  show Res.of (rngV [.int i, .int j]) G = _
  rw [h]
  rfl
theorem it_rng1 {c : Gm.Ctx} {eb : E} {σ : List Sl} {G : Cells} {j : Int} (hb : evalE c eb σ G = .ok (.int j) G) (h3 : -(2 ^ 60) ≤ j) (h4 : j < 2 ^ 60) : iterE c (.rng [eb]) σ G = .ok ((List.range j.toNat).map fun (k : Nat) => .int (k : Int)) G := by
  have h := rng1 h3 h4
  have e : evalL c [eb] σ G = .ok [.int j] G := by simp only [evalL, hb, Res.bind]
  have e2 : iterE c (.rng [eb]) σ G = (evalL c [eb] σ G).bind fun xs G => Res.of (rngV xs) G := by simp only [iterE]
  rw [e2, e]
  show Res.of (rngV [.int j]) G = _
  rw [h]
  rfl
theorem rngL_len (i : Int) (m : Nat) : (rngL i m).length = m := by simp [rngL]
theorem word_ok (hM : T.fn "_law_mixed" = some dMixed) (hT : T.fn "_law_take" = some dTake) (hW : T.fn "_law_word" = some dWord) {cells : List Int} {a : Nat} {b c : Int} (h : HI cells a b c) {n : Nat} (hn : 1 ≤ n) (hn2 : n ≤ 100) :
    ∃ (w : List Int) (a' : Nat) (b' c' : Int), callK T wf (k + 3) "_law_word" [.cel 0, .int n] (HG cells a b c) = .ok (.tup (w.map .int)) (HG cells a' b' c') ∧ IsW n w ∧ HI cells a' b' c' := by
  rw [callK_step hW rfl]
  obtain ⟨L, hL⟩ : ∃ L, L = rngL 1 ((n : Int) - 1).toNat := ⟨_, rfl⟩
  have hLl : L.length = n - 1 := by rw [hL, rngL_len]; omega
  obtain ⟨v, s3', a2, b2, c2, p1, p2, p3, p4⟩ := word_loop (wf := wf) (k := k) hM hT (s1 := .val (.int n)) L [1] .no h (fun z hz => by rw [List.mem_singleton] at hz; exact .inl hz) (by rw [hLl]; simp; omega)
  refine ⟨1 :: v, a2, b2, c2, ?_, ⟨by rw [List.length_cons, p3, hLl]; omega, fun z hz => ?_, rfl⟩, p4⟩
  · have z1 : szOk (0 + 1) = true := sz_ok (by decide)
    have p1' : loopF (.name 3) (execL ⟨T, callK T wf (k + 2), wf, none⟩ bWordL) L [.val (.cel 0), .val (.int n), .own [.int 1], .no] (HG cells a b c) = .nx [.val (.cel 0), .val (.int n), .own (.int 1 :: v.map .int), s3'] (HG cells a2 b2 c2) := p1
    have hit : iterE ⟨T, callK T wf (k + 2), wf, none⟩ (.rng [.con (.int 1), .var 1]) [.val (.cel 0), .val (.int n), .own [.int 1], .no] (HG cells a b c) = .ok L (HG cells a b c) := by
      rw [hL]
      exact it_rng2 (by simp only [evalE]) (by simp only [evalE, rd, Res.of, List.getElem?_cons_succ, List.getElem?_cons_zero]) (by omega) (by omega) (by omega) (by omega)
    have h1 : execS ⟨T, callK T wf (k + 2), wf, none⟩ (.seto 2 (.lst [(.con (.int 1))])) [.val (.cel 0), .val (.int n), .no, .no] (HG cells a b c) = .nx [.val (.cel 0), .val (.int n), .own [.int 1], .no] (HG cells a b c) := by
      simp only [execS, evalE, evalL, Res.bind, Res.thn, gOwn, List.length_cons, List.length_nil, z1, if_true, List.set_cons_zero, List.set_cons_succ]
    have h3 : execS ⟨T, callK T wf (k + 2), wf, none⟩ (.ret (.blt .tupl [(.var 2)])) [.val (.cel 0), .val (.int n), .own (.int 1 :: v.map .int), s3'] (HG cells a2 b2 c2) = .rt (.tup (.int 1 :: v.map .int)) (HG cells a2 b2 c2) := rfl
    show finR (execL _ bWord [.val (.cel 0), .val (.int n), .no, .no] (HG cells a b c)) = _
    unfold bWord
    rw [exl_nx h1, exl_nx ((ex_forr hit).trans p1'), exl_rt h3]
    rfl
  · rcases List.mem_cons.mp hz with h | h
    · exact .inl h
    · exact p2 z h
def bCount : List S := [(.ite (.cmp .eq (.call "_law_take" [(.var 0), (.con (.int 8))] []) (.con (.int 0))) [(.ret (.bin .add (.con (.int 9)) (.call "_law_take" [(.var 0), (.con (.int 16))] [])))] []), (.ret (.bin .add (.con (.int 1)) (.call "_law_take" [(.var 0), (.con (.int 8))] [])))]
def dCount : Fn := ⟨1, 1, [], [], bCount⟩
theorem count_ok (hM : T.fn "_law_mixed" = some dMixed) (hT : T.fn "_law_take" = some dTake) (hC : T.fn "_law_count" = some dCount) {cells : List Int} {a : Nat} {b c : Int} (h : HI cells a b c) :
    ∃ (n : Nat) (a' : Nat) (b' c' : Int), callK T wf (k + 3) "_law_count" [.cel 0] (HG cells a b c) = .ok (.int n) (HG cells a' b' c') ∧ 1 ≤ n ∧ n ≤ 24 ∧ HI cells a' b' c' := by
  rw [callK_step hC rfl]
  obtain ⟨r, a1, b1, c1, q1, q2, q3, q4⟩ := take_ok (wf := wf) (k := k) hM hT h (many := 8) (by decide) (by decide)
  by_cases hr : r = 0
  · subst hr
    obtain ⟨r2, a2, b2, c2, q5, q6, q7, q8⟩ := take_ok (wf := wf) (k := k) hM hT q4 (many := 16) (by decide) (by decide)
    refine ⟨9 + r2.toNat, a2, b2, c2, ?_, by omega, by omega, q8⟩
    have e : ((9 + r2.toNat : Nat) : Int) = 9 + r2 := by omega
    rw [e]
    simp only [dCount, bCount, execL, execS, evalE, evalL, evalLB, bor, Res.bind, Res.of, Res.thn, Rs.seq, Gm.start, rd, rdB, tstE, tru_bl, lstAt, gSubS, int_int, ix0, ix1, ix2, ix3, eq_int, lt_int, gt_int, ge_int, len_lst, add_ok, sub_ok, finR, List.map_cons, List.map_nil, List.replicate, List.cons_append, List.nil_append, List.append_nil, List.set_cons_zero, List.set_cons_succ, List.getElem?_cons_zero, List.getElem?_cons_succ, List.length_cons, List.length_nil, Option.map_some, beq_self_eq_true, if_true, if_false, decide_true, Bool.false_eq_true, setTg, ownAt, gApp, gOwn, iterE, itmV, loopF, frzG, q1, q5]
  · have c0 : (r == 0) = false := by rw [beq_eq_false_iff_ne]; exact hr
    obtain ⟨r2, a2, b2, c2, q5, q6, q7, q8⟩ := take_ok (wf := wf) (k := k) hM hT q4 (many := 8) (by decide) (by decide)
    refine ⟨1 + r2.toNat, a2, b2, c2, ?_, by omega, by omega, q8⟩
    have e : ((1 + r2.toNat : Nat) : Int) = 1 + r2 := by omega
    rw [e]
    simp only [dCount, bCount, execL, execS, evalE, evalL, evalLB, bor, Res.bind, Res.of, Res.thn, Rs.seq, Gm.start, rd, rdB, tstE, tru_bl, lstAt, gSubS, int_int, ix0, ix1, ix2, ix3, eq_int, lt_int, gt_int, ge_int, len_lst, add_ok, sub_ok, finR, List.map_cons, List.map_nil, List.replicate, List.cons_append, List.nil_append, List.append_nil, List.set_cons_zero, List.set_cons_succ, List.getElem?_cons_zero, List.getElem?_cons_succ, List.length_cons, List.length_nil, Option.map_some, beq_self_eq_true, if_true, if_false, decide_true, Bool.false_eq_true, setTg, ownAt, gApp, gOwn, iterE, itmV, loopF, frzG, q1, q5, c0]
end
end Cm
end

section
namespace Cm
open PySem Gm
/-! ### loops, comprehensions -/
theorem loopF_ex {tg : Tg} {f : List Sl → Cells → Rs} {x : GV} {xs : List GV} {σ σ2 σ3 : List Sl} {G G3 : Cells} {C : Str} {fs : List GV} (h1 : setTg tg x σ = some σ2) (h2 : f σ2 G = .ex C fs σ3 G3) : loopF tg f (x :: xs) σ G = .ex C fs σ3 G3 := by
  show (match setTg tg x σ with | none => Rs.no | some σ2 => match f σ2 G with | .nx σ G => loopF tg f xs σ G | .ct σ G => loopF tg f xs σ G | .bk σ G => .nx σ G | r => r) = _
  rw [h1]
  show (match f σ2 G with | .nx σ G => loopF tg f xs σ G | .ct σ G => loopF tg f xs σ G | .bk σ G => .nx σ G | r => r) = _
  rw [h2]
theorem exl_ex {c : Gm.Ctx} {s : S} {ss : List S} {σ σ1 : List Sl} {G G1 : Cells} {C : Str} {fs : List GV} (h : execS c s σ G = .ex C fs σ1 G1) : execL c (s :: ss) σ G = .ex C fs σ1 G1 := by simp only [execL, h, Rs.seq]
theorem turn_c {tg : Tg} {own : List Nat} {cnd elt : List Sl → Cells → Res GV} {σ σ2 : List Sl} {x y : GV} {acc : List GV} {G G1 G2 : Cells} {b : Bool} (h1 : setTg tg x (wipeG σ own) = some σ2) (h2 : cnd σ2 G = .ok (.bl b) G1) (h3 : b = true → elt σ2 G1 = .ok y G2) :
    turnC tg own cnd elt σ x acc G = if b = true then .ok (acc ++ [y]) G2 else .ok acc G1 := by
  unfold turnC
  rw [h1]
  show (noX ((cnd σ2 G).bind fun t G => Res.of (truV t) G)).bind _ = _
  rw [h2]
  cases b with
  | false => rfl
  | true =>
    show (if true = true then (noX (elt σ2 G1)).bind fun y G => Res.ok (acc ++ [y]) G else Res.ok acc G1) = _
    rw [if_pos rfl, if_pos rfl, h3 rfl]; rfl
theorem turn_t {c : Gm.Ctx} {tg : Tg} {own : List Nat} {elt : List Sl → Cells → Res GV} {σ σ2 : List Sl} {x y : GV} {acc : List GV} {G G2 : Cells} (h1 : setTg tg x (wipeG σ own) = some σ2) (h3 : elt σ2 G = .ok y G2) :
    turnC tg own (evalE c (.con (.bl true))) elt σ x acc G = .ok (acc ++ [y]) G2 := (turn_c (b := true) (G1 := G) h1 (by simp only [evalE]) fun _ => h3).trans (if_pos rfl)
theorem loopC_cons {f : GV → List GV → Cells → Res (List GV)} {x : GV} {xs acc acc' : List GV} {G G' : Cells} (h : f x acc G = .ok acc' G') : loopC f (x :: xs) acc G = loopC f xs acc' G' := by
  show (f x acc G).bind _ = _
  rw [h]; rfl
theorem loopC_map {f : GV → List GV → Cells → Res (List GV)} {G : Cells} (g : GV → GV) : ∀ (xs acc : List GV), (∀ x ∈ xs, ∀ acc, f x acc G = .ok (acc ++ [g x]) G) → loopC f xs acc G = .ok (acc ++ xs.map g) G
  | [], acc, _ => by simp [loopC]
  | x :: xs, acc, h => by
    rw [loopC_cons (h x List.mem_cons_self acc), loopC_map g xs _ fun y hy => h y (List.mem_cons_of_mem _ hy)]
    simp
theorem loopC_filter {f : GV → List GV → Cells → Res (List GV)} {G : Cells} (g : GV → Option GV) : ∀ (xs acc : List GV), (∀ x ∈ xs, ∀ acc, f x acc G = .ok (acc ++ (g x).toList) G) → loopC f xs acc G = .ok (acc ++ xs.filterMap g) G
  | [], acc, _ => by simp [loopC]
  | x :: xs, acc, h => by
    rw [loopC_cons (h x List.mem_cons_self acc), loopC_filter g xs _ fun y hy => h y (List.mem_cons_of_mem _ hy)]
    cases e : g x with
    | none => simp [e]
    | some y => simp [e]
theorem ev_cmpr {c : Gm.Ctx} {elt cnd : E} {tg : Tg} {own : List Nat} {it : It} {σ : List Sl} {G G1 G2 : Cells} {xs ys : List GV} (h1 : iterE c it σ G = .ok xs G1) (hz : xs.length ≤ 100000) (h2 : loopC (turnC tg own (evalE c cnd) (evalE c elt) σ) xs [] G1 = .ok ys G2) : evalE c (.cmpr elt tg own it cnd) σ G = .ok (.lst ys) G2 := by
  simp only [evalE, h1, Res.bind, sz_ok hz, if_true, h2]
/-! ### the words' module -/
def bWhole : List S := [(.ite (.or (.blt .isi [(.var 0), (.bty "bool")]) (.not (.blt .isi [(.var 0), (.bty "int")]))) [(.ret (.con (.bl false)))] []), (.ite (.and (.cmp .isN (.var 1) (.con .non)) (.cmp .lt (.var 0) (.var 1))) [(.ret (.con (.bl false)))] []), (.ret (.or (.cmp .isI (.var 2) (.con .non)) (.cmp .le (.var 0) (.var 2))))]
def dWhole : Fn := ⟨3, 3, [.non, .non], [], bWhole⟩
def bRowL : List S := [(.ite (.or (.not (.call "is_whole" [(.idx (.var 0) (.var 1)), (.neg (.con (.int 1))), (.con (.int 1))] [])) (.cmp .eq (.idx (.var 0) (.var 1)) (.con (.int 0)))) [(.rse "BadWord" [(.var 1), (.con (.str "sign"))])] [])]
def bRow0 : S := (.ite (.or (.not (.blt .isi [(.var 0), (.tup [(.bty "list"), (.bty "tuple")])])) (.not (.chn .le .le (.con (.int 1)) (.blt .len [(.var 0)]) (.glb "MOST_SECTIONS")))) [(.rse "BadWord" [(.con (.int 0)), (.con (.str "many"))])] [])
def bRow2 : S := (.ret (.blt .tupl [(.var 0)]))
def bRow : List S := [bRow0, .forr (.name 1) (.rng [.blt .len [.var 0]]) bRowL, bRow2]
def dRow : Fn := ⟨1, 2, [], [], bRow⟩
/-- an entry of a row, as the program meets it -/
def plainG : GV → Bool
  | .int _ => true
  | .bl _ => true
  | .non => true
  | .str _ => true
  | .tup _ => true
  | _ => false
def wholeG : GV → Bool
  | .int i => decide (-1 ≤ i) && decide (i ≤ 1)
  | _ => false
section
variable {T : Tb} {wf k : Nat} {G : Cells}
theorem whole_ok (hW : T.fn "is_whole" = some dWhole) {v : GV} (h : plainG v = true) : callK T wf (k + 1) "is_whole" [v, .int (-1), .int 1] G = .ok (.bl (wholeG v)) G := by
  rw [callK_step hW rfl]
  show finR (execL _ bWhole [.val v, .val (.int (-1)), .val (.int 1)] G) = _
  cases v with
  | int i =>
    have e1 : bltV .isi [.int i, .ty "bool"] = some (.bl false) := rfl
    have e2 : bltV .isi [.int i, .ty "int"] = some (.bl true) := rfl
    have n1 : cmpV .isN (.int (-1)) .non = some true := rfl
    have n2 : cmpV .isI (.int 1) .non = some false := rfl
    by_cases c1 : i < -1
    · have d1 : decide (i < -1) = true := decide_eq_true c1
      have r : wholeG (.int i) = false := by show (decide (-1 ≤ i) && decide (i ≤ 1)) = false; rw [decide_eq_false (by omega)]; rfl
      rw [r]
      simp only [bWhole, execL, Rs.seq, finR, execS, evalE, evalL, evalLB, bor, Res.bind, Res.of, Res.thn, rd, rdB, tstE, tru_bl, int_int, eq_int, lt_int, le_int, gt_int, ge_int, ne_int, add_ok, sub_ok, List.set_cons_zero, List.set_cons_succ, List.getElem?_cons_zero, List.getElem?_cons_succ, Option.map_some, if_true, if_false, Bool.false_eq_true, e1, e2, n1, n2, d1, Bool.not_true, Bool.not_false]
    · have d1 : decide (i < -1) = false := decide_eq_false c1
      have r : wholeG (.int i) = decide (i ≤ 1) := by show (decide (-1 ≤ i) && decide (i ≤ 1)) = _; rw [decide_eq_true (by omega)]; rfl
      rw [r]
      simp only [bWhole, execL, Rs.seq, finR, execS, evalE, evalL, evalLB, bor, Res.bind, Res.of, Res.thn, rd, rdB, tstE, tru_bl, int_int, eq_int, lt_int, le_int, gt_int, ge_int, ne_int, add_ok, sub_ok, List.set_cons_zero, List.set_cons_succ, List.getElem?_cons_zero, List.getElem?_cons_succ, Option.map_some, if_true, if_false, Bool.false_eq_true, e1, e2, n1, n2, d1, Bool.not_true, Bool.not_false]
  | bl b =>
    have e1 : bltV .isi [.bl b, .ty "bool"] = some (.bl true) := rfl
    simp only [bWhole, execL, Rs.seq, finR, execS, evalE, evalL, evalLB, bor, Res.bind, Res.of, Res.thn, rd, rdB, tstE, tru_bl, int_int, eq_int, lt_int, le_int, gt_int, ge_int, ne_int, add_ok, sub_ok, List.set_cons_zero, List.set_cons_succ, List.getElem?_cons_zero, List.getElem?_cons_succ, Option.map_some, if_true, if_false, Bool.false_eq_true, e1, wholeG]
  | non =>
    have e1 : bltV .isi [.non, .ty "bool"] = some (.bl false) := rfl
    have e2 : bltV .isi [.non, .ty "int"] = some (.bl false) := rfl
    simp only [bWhole, execL, Rs.seq, finR, execS, evalE, evalL, evalLB, bor, Res.bind, Res.of, Res.thn, rd, rdB, tstE, tru_bl, int_int, eq_int, lt_int, le_int, gt_int, ge_int, ne_int, add_ok, sub_ok, List.set_cons_zero, List.set_cons_succ, List.getElem?_cons_zero, List.getElem?_cons_succ, Option.map_some, if_true, if_false, Bool.false_eq_true, e1, e2, wholeG, Bool.not_false]
  | str x =>
    have e1 : bltV .isi [.str x, .ty "bool"] = some (.bl false) := rfl
    have e2 : bltV .isi [.str x, .ty "int"] = some (.bl false) := rfl
    simp only [bWhole, execL, Rs.seq, finR, execS, evalE, evalL, evalLB, bor, Res.bind, Res.of, Res.thn, rd, rdB, tstE, tru_bl, int_int, eq_int, lt_int, le_int, gt_int, ge_int, ne_int, add_ok, sub_ok, List.set_cons_zero, List.set_cons_succ, List.getElem?_cons_zero, List.getElem?_cons_succ, Option.map_some, if_true, if_false, Bool.false_eq_true, e1, e2, wholeG, Bool.not_false]
  | tup x =>
    have e1 : bltV .isi [.tup x, .ty "bool"] = some (.bl false) := rfl
    have e2 : bltV .isi [.tup x, .ty "int"] = some (.bl false) := rfl
    simp only [bWhole, execL, Rs.seq, finR, execS, evalE, evalL, evalLB, bor, Res.bind, Res.of, Res.thn, rd, rdB, tstE, tru_bl, int_int, eq_int, lt_int, le_int, gt_int, ge_int, ne_int, add_ok, sub_ok, List.set_cons_zero, List.set_cons_succ, List.getElem?_cons_zero, List.getElem?_cons_succ, Option.map_some, if_true, if_false, Bool.false_eq_true, e1, e2, wholeG, Bool.not_false]
  | _ => cases h
/-- a list or a tuple -/
def Sq (v : GV) (xs : List GV) : Prop := v = .tup xs ∨ v = .lst xs
theorem Sq.len {v : GV} {xs : List GV} (h : Sq v xs) : bltV .len [v] = some (.int xs.length) := by rcases h with rfl | rfl <;> rfl
theorem Sq.ix {v : GV} {xs : List GV} (h : Sq v xs) {i : Nat} {y : GV} (e : xs[i]? = some y) : idxV v (.int i) G = some y := by
  rcases h with rfl | rfl
  · exact ixt e
  · exact ixl e
theorem Sq.isi {v : GV} {xs : List GV} (h : Sq v xs) : bltV .isi [v, .tup [.ty "list", .ty "tuple"]] = some (.bl true) := by rcases h with rfl | rfl <;> kernel_rfl
theorem Sq.tupl {v : GV} {xs : List GV} (h : Sq v xs) : bltV .tupl [v] = some (.tup xs) := by rcases h with rfl | rfl <;> rfl
def goodG (v : GV) : Bool := wholeG v && !(match v with | .int i => i == 0 | _ => false)
/-- the first entry that is no sign -/
def badAt : List GV → Nat → Option Nat
  | [], _ => none
  | v :: r, j => if goodG v = true then badAt r (j + 1) else some j
def rngN (i m : Nat) : List GV := (List.range' i m).map fun (j : Nat) => .int (j : Int)
theorem rngN_cons {i m : Nat} : rngN i (m + 1) = .int (i : Int) :: rngN (i + 1) m := by simp [rngN, List.range'_succ]
theorem row_loop (hX : T.xc "BadWord" = some ([("index" : Str), ("what" : Str)] : List Str)) (hW : T.fn "is_whole" = some dWhole) {v : GV} {xs : List GV} (hv : Sq v xs) : ∀ (suf pre : List GV) (s1 : Sl), xs = pre ++ suf → (∀ y ∈ suf, plainG y = true) →
    (badAt suf pre.length = none → ∃ s1', loopF (.name 1) (execL ⟨T, callK T wf (k + 1), wf, none⟩ bRowL) (rngN pre.length suf.length) [.val v, s1] G = .nx [.val v, s1'] G) ∧
    (∀ j, badAt suf pre.length = some j → ∃ s1', loopF (.name 1) (execL ⟨T, callK T wf (k + 1), wf, none⟩ bRowL) (rngN pre.length suf.length) [.val v, s1] G = .ex "BadWord" [.int j, .str "sign"] [.val v, s1'] G)
  | [], pre, s1, _, _ => ⟨fun _ => ⟨s1, rfl⟩, fun j h => by cases h⟩
  | y :: suf, pre, s1, he, hp => by
    have hy : xs[pre.length]? = some y := by rw [he]; simp
    have hpl := hp y List.mem_cons_self
    have ih := row_loop hX hW hv suf (pre ++ [y]) (.val (.int pre.length)) (by rw [he]; simp) (fun z hz => hp z (List.mem_cons_of_mem _ hz))
    have hl : (pre ++ [y]).length = pre.length + 1 := by simp
    rw [hl] at ih
    have hix : ∀ {G}, idxV v (.int (pre.length : Int)) G = some y := fun {G} => hv.ix hy
    have hcall := whole_ok (wf := wf) (k := k) (G := G) hW hpl
    rw [show (y :: suf).length = suf.length + 1 from rfl, rngN_cons]
    have hset : setTg (.name 1) (.int (pre.length : Int)) [.val v, s1] = some [.val v, .val (.int (pre.length : Int))] := rfl
    by_cases hg : goodG y = true
    · have hw : wholeG y = true := by unfold goodG at hg; rw [Bool.and_eq_true] at hg; exact hg.1
      obtain ⟨i, rfl⟩ : ∃ i, y = .int i := by cases y <;> first | exact ⟨_, rfl⟩ | cases hw
      have hz : (i == 0) = false := by unfold goodG at hg; rw [Bool.and_eq_true] at hg; simpa using hg.2
      rw [hw] at hcall
      have hb : execL ⟨T, callK T wf (k + 1), wf, none⟩ bRowL [.val v, .val (.int (pre.length : Int))] G = .nx [.val v, .val (.int (pre.length : Int))] G := by
        simp only [bRowL, execL, Rs.seq, execS, evalE, evalL, evalLB, bor, Res.bind, Res.of, Res.thn, rd, rdB, tstE, tru_bl, int_int, eq_int, lt_int, le_int, gt_int, ge_int, ne_int, add_ok, sub_ok, List.set_cons_zero, List.set_cons_succ, List.getElem?_cons_zero, List.getElem?_cons_succ, Option.map_some, if_true, if_false, Bool.false_eq_true, hix, hcall, hz, Bool.not_true, Int.reduceNeg, List.append_nil]
      rw [loopF_nx hset hb]
      have e : badAt (.int i :: suf) pre.length = badAt suf (pre.length + 1) := by show (if goodG (.int i) = true then _ else _) = _; rw [if_pos hg]
      rw [e]
      exact ih
    · have hg' : goodG y = false := by simpa using hg
      have e : badAt (y :: suf) pre.length = some pre.length := by show (if goodG y = true then _ else _) = _; rw [if_neg hg]
      rw [e]
      refine ⟨fun h => (by cases h), fun j h => ?_⟩
      cases h
      have hb : execL ⟨T, callK T wf (k + 1), wf, none⟩ bRowL [.val v, .val (.int (pre.length : Int))] G = .ex "BadWord" [.int pre.length, .str "sign"] [.val v, .val (.int (pre.length : Int))] G := by
        have hxl : (["index", "what"] : List Str).length = [GV.int (pre.length : Int), GV.str "sign"].length := rfl
        by_cases hw : wholeG y = true
        · obtain ⟨i, rfl⟩ : ∃ i, y = .int i := by cases y <;> first | exact ⟨_, rfl⟩ | cases hw
          have hz : (i == 0) = true := by unfold goodG at hg'; rw [hw] at hg'; simpa using hg'
          rw [hw] at hcall
          simp only [bRowL, execL, Rs.seq, execS, evalE, evalL, evalLB, bor, Res.bind, Res.of, Res.thn, rd, rdB, tstE, tru_bl, int_int, eq_int, lt_int, le_int, gt_int, ge_int, ne_int, add_ok, sub_ok, List.set_cons_zero, List.set_cons_succ, List.getElem?_cons_zero, List.getElem?_cons_succ, Option.map_some, if_true, if_false, Bool.false_eq_true, hix, hcall, hz, hX, hxl, Bool.not_true, Int.reduceNeg, List.append_nil]
        · have hw' : wholeG y = false := by simpa using hw
          rw [hw'] at hcall
          simp only [bRowL, execL, Rs.seq, execS, evalE, evalL, evalLB, bor, Res.bind, Res.of, Res.thn, rd, rdB, tstE, tru_bl, int_int, eq_int, lt_int, le_int, gt_int, ge_int, ne_int, add_ok, sub_ok, List.set_cons_zero, List.set_cons_succ, List.getElem?_cons_zero, List.getElem?_cons_succ, Option.map_some, if_true, if_false, Bool.false_eq_true, hix, hcall, hX, hxl, Bool.not_false, Int.reduceNeg, List.append_nil]
      exact ⟨_, loopF_ex hset hb⟩
/-- check_row -/
theorem row_ok (hX : T.xc "BadWord" = some ([("index" : Str), ("what" : Str)] : List Str)) (hMS : T.gv "MOST_SECTIONS" = some (.int 24)) (hW : T.fn "is_whole" = some dWhole) (hR : T.fn "check_row" = some dRow) {v : GV} {xs : List GV} (hv : Sq v xs) (h1 : 1 ≤ xs.length) (h2 : xs.length ≤ 24) (hp : ∀ y ∈ xs, plainG y = true) :
    (badAt xs 0 = none → callK T wf (k + 2) "check_row" [v] G = .ok (.tup xs) G) ∧ (∀ j, badAt xs 0 = some j → callK T wf (k + 2) "check_row" [v] G = .ex "BadWord" [.int j, .str "sign"] G) := by
  rw [callK_step hR rfl]
  obtain ⟨l1, l2⟩ := row_loop (wf := wf) (k := k) (G := G) hX hW hv xs [] .no rfl hp
  have s1 : execS ⟨T, callK T wf (k + 1), wf, none⟩ bRow0 [.val v, .no] G = .nx [.val v, .no] G := by
    have d1 : decide ((1 : Int) ≤ (xs.length : Int)) = true := decide_eq_true (by omega)
    have d2 : decide ((xs.length : Int) ≤ 24) = true := decide_eq_true (by omega)
    have zt : szOk [GV.ty "list", GV.ty "tuple"].length = true := sz_ok (by decide)
    simp only [bRow0, execL, execS, evalE, evalL, evalLB, bor, Res.bind, Res.of, Res.thn, rd, rdB, tstE, tru_bl, int_int, eq_int, lt_int, le_int, gt_int, ge_int, ne_int, add_ok, sub_ok, List.set_cons_zero, List.set_cons_succ, List.getElem?_cons_zero, List.getElem?_cons_succ, Option.map_some, if_true, if_false, Bool.false_eq_true, zt, hv.isi, hv.len, hMS, d1, d2, Bool.not_true]
  have hit : iterE ⟨T, callK T wf (k + 1), wf, none⟩ (.rng [.blt .len [.var 0]]) [.val v, .no] G = .ok (rngN 0 xs.length) G := by
    have := it_rng1 (c := ⟨T, callK T wf (k + 1), wf, none⟩) (eb := .blt .len [.var 0]) (σ := [.val v, .no]) (G := G) (j := (xs.length : Int)) (by simp only [execS, evalE, evalL, evalLB, bor, Res.bind, Res.of, Res.thn, rd, rdB, tstE, tru_bl, int_int, eq_int, lt_int, le_int, gt_int, ge_int, ne_int, add_ok, sub_ok, List.set_cons_zero, List.set_cons_succ, List.getElem?_cons_zero, List.getElem?_cons_succ, Option.map_some, if_true, if_false, Bool.false_eq_true, hv.len]) (by omega) (by omega)
    rw [this]
    simp [rngN, List.range_eq_range']
  constructor
  · intro hb
    obtain ⟨s1', e⟩ := l1 hb
    have h3 : execS ⟨T, callK T wf (k + 1), wf, none⟩ bRow2 [.val v, s1'] G = .rt (.tup xs) G := by
      simp only [bRow2, execS, evalE, evalL, evalLB, bor, Res.bind, Res.of, Res.thn, rd, rdB, tstE, tru_bl, int_int, eq_int, lt_int, le_int, gt_int, ge_int, ne_int, add_ok, sub_ok, List.set_cons_zero, List.set_cons_succ, List.getElem?_cons_zero, List.getElem?_cons_succ, Option.map_some, if_true, if_false, Bool.false_eq_true, hv.tupl]
    show finR (execL _ [bRow0, .forr (.name 1) (.rng [.blt .len [.var 0]]) bRowL, bRow2] [.val v, .no] G) = _
    rw [exl_nx s1, exl_nx ((ex_forr hit).trans e), exl_rt h3]
    rfl
  · intro j hb
    obtain ⟨s1', e⟩ := l2 j hb
    show finR (execL _ [bRow0, .forr (.name 1) (.rng [.blt .len [.var 0]]) bRowL, bRow2] [.val v, .no] G) = _
    rw [exl_nx s1, exl_ex ((ex_forr hit).trans e)]
    rfl
end
end Cm
end

section
namespace Cm
open PySem Gm
def bSg0 : S := (.set 1 (.call "check_row" [(.var 0)] []))
def bSg1 : S := (.ite (.cmp .eq (.idx (.var 1) (.con (.int 0))) (.neg (.con (.int 1)))) [(.rse "BadWord" [(.con (.int 0)), (.con (.str "first"))])] [])
def bSg2 : S := (.ret (.var 1))
def dSg : Fn := ⟨1, 2, [], [], [bSg0, bSg1, bSg2]⟩
theorem ev_blt1 {c : Gm.Ctx} {f : Blt} {e : E} {σ : List Sl} {G G1 : Cells} {v w : GV} (h : evB c e σ G = .ok v G1) (hf : bltV f [v] = some w) : evalE c (.blt f [e]) σ G = .ok w G1 := by
  have e1 : evalLB c [e] σ G = .ok [v] G1 := by
    have q : evalLB c [e] σ G = (evB c e σ G).bind fun x G => (evalLB c [] σ G).bind fun xs G => .ok (x :: xs) G := by simp only [evalLB, evB]
    rw [q, h]; rfl
  simp only [evalE, e1, Res.bind, Res.of, hf]
theorem exl_nil {c : Gm.Ctx} {σ : List Sl} {G : Cells} : execL c [] σ G = .nx σ G := rfl
/-- the errors' module is told -/
structure Tr (T : Tb) : Prop where
  x : T.xc "BadWord" = some ([("index" : Str), ("what" : Str)] : List Str)
  ms : T.gv "MOST_SECTIONS" = some (.int 24)
  sub : T.xsub "BadWord" "BadWord" = true
  w : T.fn "is_whole" = some dWhole
  r : T.fn "check_row" = some dRow
  s : T.fn "check_signs" = some dSg
theorem bad_none : ∀ {w : List Int} (j : Nat), Sgn w → badAt (w.map .int) j = none
  | [], j, _ => rfl
  | z :: w, j, h => by
    have hz : goodG (.int z) = true := by
      rcases h z List.mem_cons_self with rfl | rfl <;> decide
    show (if goodG (.int z) = true then badAt (w.map .int) (j + 1) else some j) = none
    rw [if_pos hz]
    exact bad_none (j + 1) fun y hy => h y (List.mem_cons_of_mem _ hy)
theorem plain_ints {w : List Int} : ∀ y ∈ w.map GV.int, plainG y = true := fun y hy => by
  obtain ⟨z, _, rfl⟩ := List.mem_map.mp hy
  rfl
section
variable {T : Tb} {wf k : Nat} {G : Cells}
theorem row_w (t : Tr T) {v : GV} {w : List Int} (hv : Sq v (w.map .int)) (h1 : 1 ≤ w.length) (h2 : w.length ≤ 24) (hs : Sgn w) : callK T wf (k + 2) "check_row" [v] G = .ok (.tup (w.map .int)) G :=
  (row_ok t.x t.ms t.w t.r hv (by simpa using h1) (by simpa using h2) plain_ints).1 (bad_none 0 hs)
theorem row_non (t : Tr T) : callK T wf (k + 2) "check_row" [.non] G = .ex "BadWord" [.int 0, .str "many"] G := by
  rw [callK_step t.r rfl]
  have zt : szOk [GV.ty "list", GV.ty "tuple"].length = true := sz_ok (by decide)
  have e1 : bltV .isi [.non, .tup [.ty "list", .ty "tuple"]] = some (.bl false) := by kernel_rfl
  have hxl : (["index", "what"] : List Str).length = [GV.int 0, GV.str "many"].length := rfl
  have h1 : execS ⟨T, callK T wf (k + 1), wf, none⟩ bRow0 [.val .non, .no] G = .ex "BadWord" [.int 0, .str "many"] [.val .non, .no] G := by
    simp only [bRow0, execL, Rs.seq, execS, evalE, evalL, evalLB, bor, Res.bind, Res.of, Res.thn, rd, rdB, tstE, tru_bl, int_int, eq_int, lt_int, le_int, gt_int, ge_int, ne_int, add_ok, sub_ok, List.set_cons_zero, List.set_cons_succ, List.getElem?_cons_zero, List.getElem?_cons_succ, Option.map_some, if_true, if_false, Bool.false_eq_true, zt, e1, t.x, hxl, Bool.not_false]
  show finR (execL _ [bRow0, .forr (.name 1) (.rng [.blt .len [.var 0]]) bRowL, bRow2] [.val .non, .no] G) = _
  rw [exl_ex h1]
  rfl
theorem signs_ex (t : Tr T) {v : GV} {fs : List GV} (h : callK T wf (k + 2) "check_row" [v] G = .ex "BadWord" fs G) : callK T wf (k + 3) "check_signs" [v] G = .ex "BadWord" fs G := by
  rw [callK_step t.s rfl]
  have h1 : execS ⟨T, callK T wf (k + 2), wf, none⟩ bSg0 [.val v, .no] G = .ex "BadWord" fs [.val v, .no] G := by
    simp only [bSg0, execS, evalE, evalL, evalLB, bor, Res.bind, Res.of, Res.thn, rd, rdB, tstE, tru_bl, int_int, eq_int, lt_int, le_int, gt_int, ge_int, ne_int, add_ok, sub_ok, List.set_cons_zero, List.set_cons_succ, List.getElem?_cons_zero, List.getElem?_cons_succ, Option.map_some, if_true, if_false, Bool.false_eq_true, List.nil_append, List.append_nil, h]
  show finR (execL _ [bSg0, bSg1, bSg2] [.val v, .no] G) = _
  rw [exl_ex h1]
  rfl
theorem signs_w (t : Tr T) {v : GV} {w : List Int} {z : Int} (hv : Sq v (w.map .int)) (h2 : w.length ≤ 24) (hs : Sgn w) (h0 : w[0]? = some z) :
    callK T wf (k + 3) "check_signs" [v] G = if z = -1 then .ex "BadWord" [.int 0, .str "first"] G else .ok (.tup (w.map .int)) G := by
  have h1 : 1 ≤ w.length := by have := (List.getElem?_eq_some_iff.mp h0).1; omega
  have hr := row_w (wf := wf) (k := k) (G := G) t hv h1 h2 hs
  rw [callK_step t.s rfl]
  have hix : idxV (.tup (w.map .int)) (.int 0) G = some (.int z) := ixt (a := 0) (by simp [h0])
  have e0 : execS ⟨T, callK T wf (k + 2), wf, none⟩ bSg0 [.val v, .no] G = .nx [.val v, .val (.tup (w.map .int))] G := by
    simp only [bSg0, execS, evalE, evalL, evalLB, bor, Res.bind, Res.of, Res.thn, rd, rdB, tstE, tru_bl, int_int, eq_int, lt_int, le_int, gt_int, ge_int, ne_int, add_ok, sub_ok, List.set_cons_zero, List.set_cons_succ, List.getElem?_cons_zero, List.getElem?_cons_succ, Option.map_some, if_true, if_false, Bool.false_eq_true, List.append_nil, hr]
  show finR (execL _ [bSg0, bSg1, bSg2] [.val v, .no] G) = _
  rw [exl_nx e0]
  by_cases hz : z = -1
  · subst hz
    have hxl : (["index", "what"] : List Str).length = [GV.int 0, GV.str "first"].length := rfl
    have e1 : execS ⟨T, callK T wf (k + 2), wf, none⟩ bSg1 [.val v, .val (.tup (w.map .int))] G = .ex "BadWord" [.int 0, .str "first"] [.val v, .val (.tup (w.map .int))] G := by
      simp only [bSg1, execL, Rs.seq, execS, evalE, evalL, evalLB, bor, Res.bind, Res.of, Res.thn, rd, rdB, tstE, tru_bl, int_int, eq_int, lt_int, le_int, gt_int, ge_int, ne_int, add_ok, sub_ok, List.set_cons_zero, List.set_cons_succ, List.getElem?_cons_zero, List.getElem?_cons_succ, Option.map_some, if_true, if_false, Bool.false_eq_true, hix, t.x, hxl, Int.reduceNeg, beq_self_eq_true]
    rw [exl_ex e1, if_pos rfl]
    rfl
  · have hb : (z == -1) = false := by rw [beq_eq_false_iff_ne]; exact hz
    have e1 : execS ⟨T, callK T wf (k + 2), wf, none⟩ bSg1 [.val v, .val (.tup (w.map .int))] G = .nx [.val v, .val (.tup (w.map .int))] G := by
      simp only [bSg1, execL, execS, evalE, evalL, evalLB, bor, Res.bind, Res.of, Res.thn, rd, rdB, tstE, tru_bl, int_int, eq_int, lt_int, le_int, gt_int, ge_int, ne_int, add_ok, sub_ok, List.set_cons_zero, List.set_cons_succ, List.getElem?_cons_zero, List.getElem?_cons_succ, Option.map_some, if_true, if_false, Bool.false_eq_true, hix, Int.reduceNeg, hb]
    have e2 : execS ⟨T, callK T wf (k + 2), wf, none⟩ bSg2 [.val v, .val (.tup (w.map .int))] G = .rt (.tup (w.map .int)) G := by
      simp only [bSg2, execS, evalE, evalL, evalLB, bor, Res.bind, Res.of, Res.thn, rd, rdB, tstE, tru_bl, int_int, eq_int, lt_int, le_int, gt_int, ge_int, ne_int, add_ok, sub_ok, List.set_cons_zero, List.set_cons_succ, List.getElem?_cons_zero, List.getElem?_cons_succ, Option.map_some, if_true, if_false, Bool.false_eq_true]
    rw [exl_nx e1, exl_rt e2, if_neg hz]
    rfl
/-! ### the law's callers -/
end
end Cm
end

section
namespace Cm
open PySem Gm
def bCo0 : S := (.set 1 (.call "check_signs" [(.var 0)] []))
def bCo1 : S := (.ret (.blt .tupl [(.cmpr (.var 2) (.name 2) [2] (.rng [(.con (.int 1)), (.blt .len [(.var 1)])]) (.cmp .ne (.idx (.var 1) (.var 2)) (.idx (.var 1) (.bin .sub (.var 2) (.con (.int 1))))))]))
def dCo : Fn := ⟨1, 3, [], [], [bCo0, bCo1]⟩
def bPl0 : S := (.ret (.blt .tupl [(.cmpr (.var 1) (.name 1) [1] (.rng [(.con (.int 1)), (.blt .len [(.var 0)])]) (.cmp .ne (.idx (.var 0) (.var 1)) (.idx (.var 0) (.bin .sub (.var 1) (.con (.int 1))))))]))
def dPl : Fn := ⟨1, 2, [], [], [bPl0]⟩
def bIw0 : S := (.ite (.or (.not (.blt .isi [(.var 0), (.bty "tuple")])) (.or (.cmp .ne (.blt .len [(.var 0)]) (.var 1)) (.cmp .ne (.idx (.var 0) (.con (.int 0))) (.con (.int 1))))) [(.ret (.con (.bl false)))] [])
def bIw1 : S := (.ret (.not (.cmpr (.con (.int 1)) (.name 2) [2] (.seq (.var 0)) (.or (.blt .isi [(.var 2), (.bty "bool")]) (.or (.not (.blt .isi [(.var 2), (.bty "int")])) (.cmp .nin (.var 2) (.tup [(.con (.int 1)), (.neg (.con (.int 1)))])))))))
def dIw : Fn := ⟨2, 3, [], [], [bIw0, bIw1]⟩
def cutP (w : List Int) (i : Nat) : Bool := w.getD i 0 != w.getD (i - 1) 0
def gP (p : Nat → Bool) : GV → Option GV
  | .int i => if p i.toNat = true then some (.int i) else none
  | _ => none
def polesG (n : Nat) (p : Nat → Bool) : List GV := (rngL 1 ((n : Int) - 1).toNat).filterMap (gP p)
theorem mem_rngL {i : Int} {m : Nat} {v : GV} (h : v ∈ rngL i m) : ∃ j : Nat, j < m ∧ v = .int (i + j) := by
  obtain ⟨j, hj, rfl⟩ := List.mem_map.mp h
  exact ⟨j, by simpa using hj, rfl⟩
section
variable {T : Tb} {wf k : Nat} {G : Cells}
theorem pole_comp {c : Gm.Ctx} {r t : Nat} {σ : List Sl} {σ2 : GV → List Sl} {row : GV} {w : List Int} (hv : Sq row (w.map .int)) (h1 : 1 ≤ w.length) (h2 : w.length ≤ 24) (hset : ∀ v, setTg (.name t) v (wipeG σ [t]) = some (σ2 v)) (hrow : ∀ v, rdB (σ2 v) r = some row) (ht : ∀ v, rd (σ2 v) t = some v) (hr0 : rdB σ r = some row) :
    evalE c (.cmpr (.var t) (.name t) [t] (.rng [(.con (.int 1)), (.blt .len [(.var r)])]) (.cmp .ne (.idx (.var r) (.var t)) (.idx (.var r) (.bin .sub (.var t) (.con (.int 1)))))) σ G = .ok (.lst (polesG w.length (cutP w))) G := by
  have hlen : bltV .len [row] = some (.int w.length) := by rw [hv.len, List.length_map]
  have hit := it_rng2 (c := c) (ea := .con (.int 1)) (eb := .blt .len [.var r]) (σ := σ) (G := G) (i := 1) (j := (w.length : Int)) (by simp only [evalE]) (by simp only [evalE, evalLB, bor, hr0, Res.of, Res.bind, hlen]) (by omega) (by omega) (by omega) (by omega)
  refine ev_cmpr hit (by rw [rngL_len]; omega) ?_
  rw [loopC_filter (gP (cutP w))]
  · rfl
  · intro v hm acc
    obtain ⟨j, hj, rfl⟩ := mem_rngL hm
    have e1 : idxV row (.int (1 + (j : Int))) G = some (.int (w.getD (1 + j) 0)) := by
      have hx : (w.map GV.int)[1 + j]? = some (.int (w.getD (1 + j) 0)) := by
        have : 1 + j < w.length := by omega
        simp [this, List.getD]
      exact hv.ix (i := 1 + j) hx
    have e2 : idxV row (.int (1 + (j : Int) - 1)) G = some (.int (w.getD j 0)) := by
      have hx : (w.map GV.int)[j]? = some (.int (w.getD j 0)) := by
        have : j < w.length := by omega
        simp [this, List.getD]
      have e : (1 + (j : Int) - 1) = (j : Int) := by omega
      rw [e]
      exact hv.ix hx
    have hc : evalE c (.cmp .ne (.idx (.var r) (.var t)) (.idx (.var r) (.bin .sub (.var t) (.con (.int 1))))) (σ2 (.int (1 + (j : Int)))) G = .ok (.bl (!(w.getD (1 + j) 0 == w.getD j 0))) G := by
      have hrd : rdB (σ2 (.int (1 + (j : Int)))) t = some (.int (1 + (j : Int))) := rd_rdB (ht _)
      simp only [evalE, bor, hrow, ht, hrd, Res.of, Res.bind, e1, e2, sub_ok, ne_int, Option.map_some]
    have he : evalE c (.var t) (σ2 (.int (1 + (j : Int)))) G = .ok (.int (1 + (j : Int))) G := by simp only [evalE, ht, Res.of]
    rw [turn_c (hset _) hc fun _ => he]
    have hn : (1 + (j : Int)).toNat = 1 + j := by omega
    have hp : cutP w (1 + j) = !(w.getD (1 + j) 0 == w.getD j 0) := by unfold cutP; rw [show 1 + j - 1 = j by omega]; rfl
    show _ = Res.ok (acc ++ (if cutP w (1 + (j : Int)).toNat = true then some (GV.int (1 + (j : Int))) else none).toList) G
    rw [hn, hp]
    cases (!(w.getD (1 + j) 0 == w.getD j 0)) <;> simp
theorem poles_ok (hP : T.fn "_law_poles" = some dPl) {v : GV} {w : List Int} (hv : Sq v (w.map .int)) (h1 : 1 ≤ w.length) (h2 : w.length ≤ 24) : callK T wf (k + 1) "_law_poles" [v] G = .ok (.tup (polesG w.length (cutP w))) G := by
  rw [callK_step hP rfl]
  have hc := pole_comp (c := ⟨T, callK T wf k, wf, none⟩) (G := G) (r := 0) (t := 1) (σ := [.val v, .no]) (σ2 := fun x => [.val v, .val x]) hv h1 h2 (fun _ => rfl) (fun _ => rfl) (fun _ => rfl) rfl
  have h3 : execS ⟨T, callK T wf k, wf, none⟩ bPl0 [.val v, .no] G = .rt (.tup (polesG w.length (cutP w))) G := ex_ret (ev_blt1 (by rw [evB_no _ rfl]; exact hc) rfl)
  show finR (execL _ [bPl0] [.val v, .no] G) = _
  rw [exl_rt h3]
  rfl
theorem cross_ok (t : Tr T) (hC : T.fn "crossings_of" = some dCo) {v : GV} {w : List Int} (hv : Sq v (w.map .int)) (h2 : w.length ≤ 24) (hs : Sgn w) (h0 : w[0]? = some 1) : callK T wf (k + 4) "crossings_of" [v] G = .ok (.tup (polesG w.length (cutP w))) G := by
  have h1 : 1 ≤ w.length := by have := (List.getElem?_eq_some_iff.mp h0).1; omega
  have hr := (signs_w (wf := wf) (k := k) (G := G) t hv h2 hs h0).trans (if_neg (by decide))
  rw [callK_step hC rfl]
  have e0 : execS ⟨T, callK T wf (k + 3), wf, none⟩ bCo0 [.val v, .no, .no] G = .nx [.val v, .val (.tup (w.map .int)), .no] G := by
    simp only [bCo0, execS, evalE, evalL, evalLB, bor, Res.bind, Res.of, Res.thn, rd, rdB, tstE, tru_bl, int_int, eq_int, lt_int, le_int, gt_int, ge_int, ne_int, add_ok, sub_ok, List.set_cons_zero, List.set_cons_succ, List.getElem?_cons_zero, List.getElem?_cons_succ, Option.map_some, if_true, if_false, Bool.false_eq_true, List.append_nil, hr]
  have hc := pole_comp (c := ⟨T, callK T wf (k + 3), wf, none⟩) (G := G) (r := 1) (t := 2) (σ := [.val v, .val (.tup (w.map .int)), .no]) (σ2 := fun x => [.val v, .val (.tup (w.map .int)), .val x]) (.inl rfl) h1 h2 (fun _ => rfl) (fun _ => rfl) (fun _ => rfl) rfl
  have h3 : execS ⟨T, callK T wf (k + 3), wf, none⟩ bCo1 [.val v, .val (.tup (w.map .int)), .no] G = .rt (.tup (polesG w.length (cutP w))) G := ex_ret (ev_blt1 (by rw [evB_no _ rfl]; exact hc) rfl)
  show finR (execL _ [bCo0, bCo1] [.val v, .no, .no] G) = _
  rw [exl_nx e0, exl_rt h3]
  rfl
theorem isw_ok (hI : T.fn "_law_is_word" = some dIw) {w : List Int} (hs : Sgn w) (h0 : w[0]? = some 1) (h2 : w.length ≤ 24) : callK T wf (k + 1) "_law_is_word" [.tup (w.map .int), .int w.length] G = .ok (.bl true) G := by
  rw [callK_step hI rfl]
  have e1 : bltV .isi [.tup (w.map .int), .ty "tuple"] = some (.bl true) := rfl
  have e2 : bltV .len [.tup (w.map .int)] = some (.int w.length) := by show some (GV.int ((w.map GV.int).length : Nat)) = _; rw [List.length_map]
  have e3 : idxV (.tup (w.map .int)) (.int 0) G = some (.int 1) := ixt (a := 0) (by simp [h0])
  have h1 : execS ⟨T, callK T wf k, wf, none⟩ bIw0 [.val (.tup (w.map .int)), .val (.int w.length), .no] G = .nx [.val (.tup (w.map .int)), .val (.int w.length), .no] G := by
    simp only [bIw0, execL, execS, evalE, evalL, evalLB, bor, Res.bind, Res.of, Res.thn, rd, rdB, tstE, tru_bl, int_int, eq_int, lt_int, le_int, gt_int, ge_int, ne_int, add_ok, sub_ok, List.set_cons_zero, List.set_cons_succ, List.getElem?_cons_zero, List.getElem?_cons_succ, Option.map_some, if_true, if_false, Bool.false_eq_true, e1, e2, e3, beq_self_eq_true, Bool.not_true]
  have hc : evalE ⟨T, callK T wf k, wf, none⟩ (.cmpr (.con (.int 1)) (.name 2) [2] (.seq (.var 0)) (.or (.blt .isi [(.var 2), (.bty "bool")]) (.or (.not (.blt .isi [(.var 2), (.bty "int")])) (.cmp .nin (.var 2) (.tup [(.con (.int 1)), (.neg (.con (.int 1)))]))))) [.val (.tup (w.map .int)), .val (.int w.length), .no] G = .ok (.lst []) G := by
    refine ev_cmpr (xs := w.map .int) (G1 := G) rfl (by simp; omega) ?_
    rw [loopC_filter (fun _ => none)]
    · simp
    · intro v hv acc
      obtain ⟨z, hz, rfl⟩ := List.mem_map.mp hv
      have f1 : bltV .isi [.int z, .ty "bool"] = some (.bl false) := rfl
      have f2 : bltV .isi [.int z, .ty "int"] = some (.bl true) := rfl
      have f3 : cmpV .nin (.int z) (.tup [.int 1, .int (-1)]) = some false := by
        rcases hs z hz with rfl | rfl <;> kernel_rfl
      have zt : szOk [GV.int 1, GV.int (-1)].length = true := sz_ok (by show 2 ≤ 100000; decide)
      rw [turn_c (σ2 := [.val (.tup (w.map .int)), .val (.int w.length), .val (.int z)]) (b := false) (G1 := G) (y := .non) (G2 := G) rfl (by simp only [execS, evalE, evalL, evalLB, bor, Res.bind, Res.of, Res.thn, rd, rdB, tstE, tru_bl, int_int, eq_int, lt_int, le_int, gt_int, ge_int, ne_int, add_ok, sub_ok, List.set_cons_zero, List.set_cons_succ, List.getElem?_cons_zero, List.getElem?_cons_succ, Option.map_some, if_true, if_false, Bool.false_eq_true, f1, f2, f3, zt, Bool.not_true, Int.reduceNeg]) (fun h => by cases h)]
      simp
  have h3 : execS ⟨T, callK T wf k, wf, none⟩ bIw1 [.val (.tup (w.map .int)), .val (.int w.length), .no] G = .rt (.bl true) G := by
    refine ex_ret ?_
    have q : evalE ⟨T, callK T wf k, wf, none⟩ (.not (.cmpr (.con (.int 1)) (.name 2) [2] (.seq (.var 0)) (.or (.blt .isi [(.var 2), (.bty "bool")]) (.or (.not (.blt .isi [(.var 2), (.bty "int")])) (.cmp .nin (.var 2) (.tup [(.con (.int 1)), (.neg (.con (.int 1)))])))))) [.val (.tup (w.map .int)), .val (.int w.length), .no] G = notE (evB ⟨T, callK T wf k, wf, none⟩ (.cmpr (.con (.int 1)) (.name 2) [2] (.seq (.var 0)) (.or (.blt .isi [(.var 2), (.bty "bool")]) (.or (.not (.blt .isi [(.var 2), (.bty "int")])) (.cmp .nin (.var 2) (.tup [(.con (.int 1)), (.neg (.con (.int 1)))])))))) [.val (.tup (w.map .int)), .val (.int w.length), .no] G := rfl
    rw [q, evB_no _ rfl]
    unfold notE
    rw [hc]
    rfl
  show finR (execL _ [bIw0, bIw1] [.val (.tup (w.map .int)), .val (.int w.length), .no] G) = _
  rw [exl_nx h1, exl_rt h3]
  rfl
end
end Cm
end

section
namespace Cm
open PySem Gm
/-! ### rows compared -/
theorem toDs_ints : ∀ w : List Int, GV.toDs (w.map .int) = some (w.map PyData.int)
  | [] => rfl
  | z :: w => by
    show (match GV.toD (.int z) with | none => none | some d => match GV.toDs (w.map .int) with | none => none | some ds => some (d :: ds)) = _
    rw [toDs_ints w]; rfl
theorem lay_ints : ∀ w : List Int, PyData.canLayAll0 (w.map PyData.int) = true
  | [] => by simp [PyData.canLayAll0]
  | z :: w => by simp [PyData.canLayAll0, PyData.canLay0, lay_ints w]
theorem dep_ints : ∀ w : List Int, PyData.depthAll (w.map PyData.int) = 0
  | [] => by simp [PyData.depthAll]
  | z :: w => by simp [PyData.depthAll, PyData.depth, dep_ints w]
theorem shp_tup (w : List Int) : (GV.tup (w.map .int)).shp = some (.tuple (w.map PyData.int)) := by
  have h : (GV.tup (w.map .int)).toD = some (.tuple (w.map PyData.int)) := by
    show (match GV.toDs (w.map .int) with | some ds => some (PyData.tuple ds) | none => none) = _
    rw [toDs_ints]
  have hs : SeqAt.shaped (.tuple (w.map PyData.int)) = true := by
    unfold SeqAt.shaped
    rw [Bool.and_eq_true]
    exact ⟨by simp [PyData.canLay0, lay_ints], decide_eq_true (by simp [PyData.depth, dep_ints])⟩
  unfold GV.shp
  rw [h]
  exact if_pos hs
theorem eqv_ints : ∀ a b : List Int, PyData.eqvAll (a.map PyData.int) (b.map PyData.int) = decide (a = b)
  | [], [] => by simp [PyData.eqvAll]
  | [], _ :: _ => by simp [PyData.eqvAll]
  | _ :: _, [] => by simp [PyData.eqvAll]
  | x :: a, y :: b => by
    rw [List.map_cons, List.map_cons]
    simp only [PyData.eqvAll, PyData.eqv, eqv_ints a b, List.cons.injEq, Bool.decide_and]
    congr 1
theorem eq_row (a b : List Int) : eqG (.tup (a.map .int)) (.tup (b.map .int)) = some (decide (a = b)) := by
  unfold eqG
  rw [shp_tup, shp_tup]
  show some (PyData.eqv (.tuple (a.map PyData.int)) (.tuple (b.map PyData.int))) = _
  simp only [PyData.eqv, eqv_ints]
theorem eqc_row (a b : List Int) : cmpV .eq (.tup (a.map .int)) (.tup (b.map .int)) = some (decide (a = b)) := eq_row a b
theorem nec_row (a b : List Int) : cmpV .ne (.tup (a.map .int)) (.tup (b.map .int)) = some (!decide (a = b)) := by
  show (eqG _ _).map (!·) = _
  rw [eq_row]; rfl
theorem ne_bl {a b : Bool} : cmpV .ne (.bl a) (.bl b) = some (!(a == b)) := by cases a <;> cases b <;> kernel_rfl
/-! ### poles told -/
theorem polesG_ints (n : Nat) (p : Nat → Bool) : ∃ l : List Int, polesG n p = l.map .int := by
  have key : ∀ xs : List GV, (∀ x ∈ xs, ∃ i : Int, x = .int i) → ∃ l : List Int, xs.filterMap (gP p) = l.map .int := by
    intro xs
    induction xs with
    | nil => intro _; exact ⟨[], rfl⟩
    | cons x xs ih =>
      intro h
      obtain ⟨l, hl⟩ := ih fun y hy => h y (List.mem_cons_of_mem _ hy)
      obtain ⟨i, rfl⟩ := h x List.mem_cons_self
      by_cases c : p i.toNat = true
      · exact ⟨i :: l, by rw [List.filterMap_cons_some (b := .int i) (by show (if p i.toNat = true then _ else _) = _; rw [if_pos c]), hl]; rfl⟩
      · exact ⟨l, by rw [List.filterMap_cons_none (by show (if p i.toNat = true then some (GV.int i) else none) = _; rw [if_neg c]), hl]⟩
  exact key _ fun x hx => by obtain ⟨j, _, rfl⟩ := mem_rngL hx; exact ⟨_, rfl⟩
theorem flat_ints : ∀ w : List Int, (w.map GV.int).all flatG = true
  | [] => rfl
  | z :: w => by rw [List.map_cons, List.all_cons, flat_ints w]; rfl
theorem in_poles {n : Nat} {p : Nat → Bool} {j : Nat} (hj : j < n - 1) : cmpV .inn (.int (1 + (j : Int))) (.tup (polesG n p)) = some (p (1 + j)) := by
  obtain ⟨l, hl⟩ := polesG_ints n p
  show inT (.int (1 + (j : Int))) (polesG n p) = _
  unfold inT
  have hf : (flatG (.int (1 + (j : Int))) && (polesG n p).all flatG) = true := by rw [hl, flat_ints]; rfl
  rw [if_pos hf]
  congr 1
  have hiff : ((polesG n p).any fun y => fEq y (.int (1 + (j : Int)))) = true ↔ p (1 + j) = true := by
    rw [List.any_eq_true]
    constructor
    · rintro ⟨y, hy, he⟩
      obtain ⟨x, hx, hg⟩ := List.mem_filterMap.mp hy
      obtain ⟨i, hi, rfl⟩ := mem_rngL hx
      have hg' : (if p (1 + (i : Int)).toNat = true then some (GV.int (1 + (i : Int))) else none) = some y := hg
      split at hg'
      · rename_i c
        cases hg'
        have e : (1 + (i : Int)) = (1 + (j : Int)) := by
          have he' : ((1 + (i : Int)) == (1 + (j : Int))) = true := he
          exact beq_iff_eq.mp he'
        have e2 : i = j := by omega
        subst e2
        rw [show (1 + (i : Int)).toNat = 1 + i by omega] at c
        exact c
      · cases hg'
    · intro hp
      refine ⟨.int (1 + (j : Int)), List.mem_filterMap.mpr ⟨.int (1 + (j : Int)), List.mem_map.mpr ⟨j, by simp; omega, rfl⟩, ?_⟩, ?_⟩
      · show (if p (1 + (j : Int)).toNat = true then some (GV.int (1 + (j : Int))) else none) = _
        rw [show (1 + (j : Int)).toNat = 1 + j by omega, if_pos hp]
      · show ((1 + (j : Int)) == (1 + (j : Int))) = true
        exact beq_self_eq_true _
  exact Bool.eq_iff_iff.mpr hiff
theorem filterMap_congr' {f g : GV → Option GV} : ∀ {xs : List GV}, (∀ x ∈ xs, f x = g x) → xs.filterMap f = xs.filterMap g
  | [], _ => rfl
  | x :: xs, h => by
    have h1 := h x List.mem_cons_self
    have h2 := filterMap_congr' (xs := xs) fun y hy => h y (List.mem_cons_of_mem _ hy)
    cases e : f x with
    | none => rw [List.filterMap_cons_none e, List.filterMap_cons_none (h1 ▸ e), h2]
    | some y => rw [List.filterMap_cons_some e, List.filterMap_cons_some (h1 ▸ e), h2]
theorem poles_congr {n : Nat} {p q : Nat → Bool} (h : ∀ j, j < n - 1 → p (1 + j) = q (1 + j)) : polesG n p = polesG n q := by
  unfold polesG
  refine filterMap_congr' fun x hx => ?_
  obtain ⟨j, hj, rfl⟩ := mem_rngL hx
  show (if p (1 + (j : Int)).toNat = true then _ else _) = (if q (1 + (j : Int)).toNat = true then _ else _)
  rw [show (1 + (j : Int)).toNat = 1 + j by omega, h j (by omega)]
/-! ### products of words -/
theorem sgn_get {w : List Int} (h : Sgn w) {i : Nat} (hi : i < w.length) : w.getD i 0 = 1 ∨ w.getD i 0 = -1 := by
  have : w.getD i 0 = w[i] := by simp [List.getD, hi]
  rw [this]; exact h _ (List.getElem_mem hi)
theorem ext_getD {a b : List Int} (hl : a.length = b.length) (h : ∀ i, i < a.length → a.getD i 0 = b.getD i 0) : a = b := by
  apply List.ext_getElem hl
  intro i h1 h2
  have := h i h1
  simpa [List.getD, h1, h2] using this
section
variable {T : Tb} {wf k : Nat} {G : Cells}
theorem ex_sett {c : Gm.Ctx} {ts : List Nat} {e : E} {σ : List Sl} {G G1 : Cells} {xs : List GV} (h : evalE c e σ G = .ok (.tup xs) G1) (hl : xs.length = ts.length) : execS c (.sett ts e) σ G = .nx (setAll ts xs σ) G1 := by
  have q : execS c (.sett ts e) σ G = (evalE c e σ G).thn σ (gSett ts σ) := by simp only [execS]
  rw [q, h]
  exact if_pos hl
theorem IsW.sq1 {n : Nat} {w : List Int} (h : IsW n w) (hn : n ≤ 24) (t : Tr T) {v : GV} (hv : Sq v (w.map .int)) : callK T wf (k + 3) "check_signs" [v] G = .ok (.tup (w.map .int)) G :=
  (signs_w t hv (by rw [h.len]; exact hn) h.sg h.hd).trans (if_neg (by decide))
end
end Cm
end

section
namespace Cm
open PySem Gm
def bBt0 : S := (.ite (.or (.cmp .lt (.var 1) (.con (.int 2))) (.or (.bin .mod (.blt .intt [(.var 1)]) (.con (.int 2))) (.call "_law_take" [(.var 0), (.con (.int 2))] []))) [(.ret (.call "_law_word" [(.var 0), (.var 1)] []))] [])
def bBt1 : S := (.set 2 (.call "_law_word" [(.var 0), (.bin .fdiv (.var 1) (.con (.int 2)))] []))
def bBt2 : S := (.ite (.cmp .eq (.bin .mod (.blt .intt [(.var 1)]) (.con (.int 4))) (.con (.int 0))) [(.set 4 (.call "_law_word" [(.var 0), (.bin .fdiv (.var 1) (.con (.int 4)))] [])), (.set 2 (.bin .add (.var 4) (.blt .tupl [(.cmpr (.neg (.var 6)) (.name 6) [6] (.seq (.var 4)) (.con (.bl true)))])))] [])
def bBt3 : S := (.set 3 (.call "_law_take" [(.var 0), (.con (.int 3))] []))
def bBt4 : S := (.ite (.cmp .eq (.var 3) (.con (.int 0))) [(.ret (.bin .add (.var 2) (.blt .tupl [(.cmpr (.neg (.var 6)) (.name 6) [6] (.seq (.var 2)) (.con (.bl true)))])))] [])
def bBt5 : S := (.ite (.cmp .eq (.var 3) (.con (.int 1))) [(.ret (.blt .tupl [(.cmpr (.bin .mul (.idx (.var 2) (.bin .fdiv (.var 5) (.con (.int 2)))) (.bin .sub (.con (.int 1)) (.bin .mul (.con (.int 2)) (.bin .mod (.blt .intt [(.var 5)]) (.con (.int 2)))))) (.name 5) [5] (.rng [(.var 1)]) (.con (.bl true)))]))] [])
def bBt6 : S := (.ret (.bin .add (.var 2) (.blt .tupl [(.cmpr (.bin .mul (.bin .mul (.idx (.var 2) (.bin .sub (.bin .sub (.blt .len [(.var 2)]) (.con (.int 1))) (.var 5))) (.bin .sub (.con (.int 1)) (.bin .mul (.con (.int 2)) (.call "_law_take" [(.var 0), (.con (.int 2))] [])))) (.idx (.var 2) (.con (.int 0)))) (.name 5) [5] (.rng [(.blt .len [(.var 2)])]) (.con (.bl true)))])))
def dBt : Fn := ⟨2, 7, [], [], [bBt0, bBt1, bBt2, bBt3, bBt4, bBt5, bBt6]⟩
theorem Sgn.neg {w : List Int} (h : Sgn w) : Sgn (w.map (- ·)) := fun z hz => by
  obtain ⟨y, hy, rfl⟩ := List.mem_map.mp hz
  rcases h y hy with rfl | rfl <;> decide
theorem IsW.half {n m : Nat} {w v : List Int} (h : IsW n w) (hv : Sgn v) (hl : v.length = m) (h1 : 1 ≤ n) : IsW (n + m) (w ++ v) where
  len := by rw [List.length_append, h.len, hl]
  sg := h.sg.app hv
  hd := by rw [List.getElem?_append_left (by rw [h.len]; exact h1)]; exact h.hd
theorem tup_app {a b : List Int} (h : a.length + b.length ≤ 100000) : binV .add (.tup (a.map .int)) (.tup (b.map .int)) = some (.tup ((a ++ b).map .int)) := by
  show (if szOk ((a.map GV.int).length + (b.map GV.int).length) = true then some (GV.tup (a.map GV.int ++ b.map GV.int)) else none) = _
  rw [if_pos (sz_ok (by simpa using h)), List.map_append]
section
variable {T : Tb} {wf k : Nat} {G : Cells}
theorem neg_comp {c : Gm.Ctx} {r t : Nat} {σ : List Sl} {σ2 : GV → List Sl} {w : List Int} (hz : w.length ≤ 1000) (hset : ∀ v, setTg (.name t) v (wipeG σ [t]) = some (σ2 v)) (ht : ∀ v, rd (σ2 v) t = some v) (hr0 : rdB σ r = some (.tup (w.map .int))) :
    evalE c (.cmpr (.neg (.var t)) (.name t) [t] (.seq (.var r)) (.con (.bl true))) σ G = .ok (.lst ((w.map (- ·)).map .int)) G := by
  have hit : iterE c (.seq (.var r)) σ G = .ok (w.map .int) G := by
    have q : iterE c (.seq (.var r)) σ G = (bor (.var r) σ G (evalE c (.var r) σ G)).bind fun x G => Res.of (itmV x) G := by simp only [iterE]
    rw [q]
    show (Res.of (rdB σ r) G).bind _ = _
    rw [hr0]; rfl
  refine ev_cmpr hit (by simp; omega) ?_
  rw [loopC_map (fun v => match v with | .int i => .int (-i) | _ => .non)]
  · simp
  · intro v hv acc
    obtain ⟨z, hz, rfl⟩ := List.mem_map.mp hv
    exact turn_t (hset _) (by simp only [evalE, ht, Res.of, Res.bind])
theorem fm_nat (n d : Nat) : (n : Int).fmod (d : Int) = ((n % d : Nat) : Int) := by rw [Int.fmod_eq_emod_of_nonneg _ (by omega)]; rfl
theorem fd_nat (n d : Nat) : (n : Int).fdiv (d : Int) = ((n / d : Nat) : Int) := by rw [Int.fdiv_eq_ediv_of_nonneg _ (by omega)]; rfl
structure Th (T : Tb) : Prop where
  mx : T.fn "_law_mixed" = some dMixed
  tk : T.fn "_law_take" = some dTake
  wd : T.fn "_law_word" = some dWord
  ct : T.fn "_law_count" = some dCount
  bt : T.fn "_law_built" = some dBt
  hd : T.fn "_law_hand" = some dHand
theorem built0 (t : Th T) {cells : List Int} {a : Nat} {b c : Int} (h : HI cells a b c) {n : Nat} (hn : 1 ≤ n) (hn2 : n ≤ 100) :
    (∃ (w : List Int) (a' : Nat) (b' c' : Int) (σ : List Sl), execS ⟨T, callK T wf (k + 3), wf, none⟩ bBt0 [.val (.cel 0), .val (.int n), .no, .no, .no, .no, .no] (HG cells a b c) = .rt (.tup (w.map .int)) (HG cells a' b' c') ∧ IsW n w ∧ HI cells a' b' c') ∨
    (∃ (m a' : Nat) (b' c' : Int), n = 2 * m ∧ 1 ≤ m ∧ execS ⟨T, callK T wf (k + 3), wf, none⟩ bBt0 [.val (.cel 0), .val (.int n), .no, .no, .no, .no, .no] (HG cells a b c) = .nx [.val (.cel 0), .val (.int n), .no, .no, .no, .no, .no] (HG cells a' b' c') ∧ HI cells a' b' c') := by
  have e1 := mod_ok (i := (n : Int)) (j := 2) (by decide)
  rw [show ((2 : Int)) = ((2 : Nat) : Int) from rfl, fm_nat] at e1
  by_cases c1 : n < 2
  · obtain ⟨w, a', b', c', q1, q2, q3⟩ := word_ok (wf := wf) (k := k) t.mx t.tk t.wd h hn hn2
    refine .inl ⟨w, a', b', c', [], ?_, q2, q3⟩
    have d1 : decide ((n : Int) < 2) = true := decide_eq_true (by omega)
    simp only [bBt0, execL, Rs.seq, execS, evalE, evalL, evalLB, bor, Res.bind, Res.of, Res.thn, rd, rdB, tstE, tru_bl, tru_int, int_int, eq_int, lt_int, le_int, gt_int, ge_int, ne_int, add_ok, sub_ok, List.set_cons_zero, List.set_cons_succ, List.getElem?_cons_zero, List.getElem?_cons_succ, Option.map_some, if_true, if_false, Bool.false_eq_true, d1, List.append_nil, q1]
  · have d1 : decide ((n : Int) < 2) = false := decide_eq_false (by omega)
    by_cases c2 : n % 2 = 1
    · obtain ⟨w, a', b', c', q1, q2, q3⟩ := word_ok (wf := wf) (k := k) t.mx t.tk t.wd h hn hn2
      refine .inl ⟨w, a', b', c', [], ?_, q2, q3⟩
      have e1' : binV .mod (.int (n : Int)) (.int 2) = some (.int 1) := by rw [c2] at e1; exact e1
      have b1 : ((1 : Int) != 0) = true := rfl
      simp only [bBt0, execL, Rs.seq, execS, evalE, evalL, evalLB, bor, Res.bind, Res.of, Res.thn, rd, rdB, tstE, tru_bl, tru_int, int_int, eq_int, lt_int, le_int, gt_int, ge_int, ne_int, add_ok, sub_ok, List.set_cons_zero, List.set_cons_succ, List.getElem?_cons_zero, List.getElem?_cons_succ, Option.map_some, if_true, if_false, Bool.false_eq_true, d1, e1', b1, List.append_nil, q1]
    · have c3 : n % 2 = 0 := by omega
      have e1' : binV .mod (.int (n : Int)) (.int 2) = some (.int 0) := by rw [c3] at e1; exact e1
      have b0 : ((0 : Int) != 0) = false := rfl
      obtain ⟨r, a1, b1, c1', p1, p2, p3, p4⟩ := take_ok (wf := wf) (k := k + 1) t.mx t.tk h (many := 2) (by decide) (by decide)
      by_cases c4 : r = 0
      · subst c4
        refine .inr ⟨n / 2, a1, b1, c1', by omega, by omega, ?_, p4⟩
        simp only [bBt0, execL, Rs.seq, execS, evalE, evalL, evalLB, bor, Res.bind, Res.of, Res.thn, rd, rdB, tstE, tru_bl, tru_int, int_int, eq_int, lt_int, le_int, gt_int, ge_int, ne_int, add_ok, sub_ok, List.set_cons_zero, List.set_cons_succ, List.getElem?_cons_zero, List.getElem?_cons_succ, Option.map_some, if_true, if_false, Bool.false_eq_true, d1, e1', b0, List.append_nil, p1]
      · obtain ⟨w, a', b', c', q1, q2, q3⟩ := word_ok (wf := wf) (k := k) t.mx t.tk t.wd p4 hn hn2
        refine .inl ⟨w, a', b', c', [], ?_, q2, q3⟩
        have br : (r != 0) = true := by rw [bne_iff_ne]; exact c4
        simp only [bBt0, execL, Rs.seq, execS, evalE, evalL, evalLB, bor, Res.bind, Res.of, Res.thn, rd, rdB, tstE, tru_bl, tru_int, int_int, eq_int, lt_int, le_int, gt_int, ge_int, ne_int, add_ok, sub_ok, List.set_cons_zero, List.set_cons_succ, List.getElem?_cons_zero, List.getElem?_cons_succ, Option.map_some, if_true, if_false, Bool.false_eq_true, d1, e1', b0, br, List.append_nil, p1, q1]
theorem ex_ite {c : Gm.Ctx} {t : E} {x y : List S} {σ : List Sl} {G G1 : Cells} {b : Bool} (h : tstE c t σ G = .ok b G1) : execS c (.ite t x y) σ G = if b = true then execL c x σ G1 else execL c y σ G1 := by simp only [execS, h, Res.thn]
theorem built12 (t : Th T) {cells : List Int} {a : Nat} {b c : Int} (h : HI cells a b c) {n m : Nat} (hn2 : n ≤ 100) (hm : n = 2 * m) (hm1 : 1 ≤ m) {rest : List S} :
    ∃ (w : List Int) (s4 : Sl) (a' : Nat) (b' c' : Int), execL ⟨T, callK T wf (k + 3), wf, none⟩ (bBt1 :: bBt2 :: rest) [.val (.cel 0), .val (.int n), .no, .no, .no, .no, .no] (HG cells a b c) = execL ⟨T, callK T wf (k + 3), wf, none⟩ rest [.val (.cel 0), .val (.int n), .val (.tup (w.map .int)), .no, s4, .no, .no] (HG cells a' b' c') ∧ IsW m w ∧ HI cells a' b' c' := by
  obtain ⟨w, a1, b1, c1, q1, q2, q3⟩ := word_ok (wf := wf) (k := k) t.mx t.tk t.wd h hm1 (by omega : m ≤ 100)
  have e1 := div_ok (i := (n : Int)) (j := 2) (by decide) (by decide)
  rw [show ((2 : Int)) = ((2 : Nat) : Int) from rfl, fd_nat, show n / 2 = m by omega] at e1
  have e1' : binV .fdiv (.int (n : Int)) (.int 2) = some (.int (m : Int)) := e1
  have h1 : execS ⟨T, callK T wf (k + 3), wf, none⟩ bBt1 [.val (.cel 0), .val (.int n), .no, .no, .no, .no, .no] (HG cells a b c) = .nx [.val (.cel 0), .val (.int n), .val (.tup (w.map .int)), .no, .no, .no, .no] (HG cells a1 b1 c1) := by
    simp only [bBt1, execS, evalE, evalL, evalLB, bor, Res.bind, Res.of, Res.thn, rd, rdB, tstE, tru_bl, tru_int, int_int, eq_int, lt_int, le_int, gt_int, ge_int, ne_int, add_ok, sub_ok, List.set_cons_zero, List.set_cons_succ, List.getElem?_cons_zero, List.getElem?_cons_succ, Option.map_some, if_true, if_false, Bool.false_eq_true, e1', List.append_nil, q1]
  have e4 := mod_ok (i := (n : Int)) (j := 4) (by decide)
  rw [show ((4 : Int)) = ((4 : Nat) : Int) from rfl, fm_nat] at e4
  by_cases c4 : n % 4 = 0
  · have e4' : binV .mod (.int (n : Int)) (.int 4) = some (.int 0) := by rw [c4] at e4; exact e4
    obtain ⟨u, a2, b2, c2, p1, p2, p3⟩ := word_ok (wf := wf) (k := k) t.mx t.tk t.wd q3 (n := n / 4) (by omega) (by omega)
    have e5 := div_ok (i := (n : Int)) (j := 4) (by decide) (by decide)
    rw [show ((4 : Int)) = ((4 : Nat) : Int) from rfl, fd_nat] at e5
    have e5' : binV .fdiv (.int (n : Int)) (.int 4) = some (.int ((n / 4 : Nat) : Int)) := e5
    have hz : u.length = n / 4 := p2.len
    have nc := neg_comp (c := ⟨T, callK T wf (k + 3), wf, none⟩) (G := HG cells a2 b2 c2) (r := 4) (t := 6) (σ := [.val (.cel 0), .val (.int n), .val (.tup (w.map .int)), .no, .val (.tup (u.map .int)), .no, .no]) (σ2 := fun x => [.val (.cel 0), .val (.int n), .val (.tup (w.map .int)), .no, .val (.tup (u.map .int)), .no, .val x]) (w := u) (by omega) (fun _ => rfl) (fun _ => rfl) rfl
    have ta := tup_app (a := u) (b := u.map (- ·)) (by simp; omega)
    have tl : evalE ⟨T, callK T wf (k + 3), wf, none⟩ (.blt .tupl [(.cmpr (.neg (.var 6)) (.name 6) [6] (.seq (.var 4)) (.con (.bl true)))]) [.val (.cel 0), .val (.int n), .val (.tup (w.map .int)), .no, .val (.tup (u.map .int)), .no, .no] (HG cells a2 b2 c2) = .ok (.tup ((u.map (- ·)).map .int)) (HG cells a2 b2 c2) := ev_blt1 (by rw [evB_no _ rfl]; exact nc) rfl
    refine ⟨u ++ u.map (- ·), .val (.tup (u.map .int)), a2, b2, c2, ?_, ?_, p3⟩
    · rw [exl_nx h1]
      refine exl_nx ?_
      have hs1 : execS ⟨T, callK T wf (k + 3), wf, none⟩ (.set 4 (.call "_law_word" [(.var 0), (.bin .fdiv (.var 1) (.con (.int 4)))] [])) [.val (.cel 0), .val (.int n), .val (.tup (w.map .int)), .no, .no, .no, .no] (HG cells a1 b1 c1) = .nx [.val (.cel 0), .val (.int n), .val (.tup (w.map .int)), .no, .val (.tup (u.map .int)), .no, .no] (HG cells a2 b2 c2) := by
        simp only [execS, evalE, evalL, evalLB, bor, Res.bind, Res.of, Res.thn, rd, rdB, tstE, tru_bl, tru_int, int_int, eq_int, lt_int, le_int, gt_int, ge_int, ne_int, add_ok, sub_ok, List.set_cons_zero, List.set_cons_succ, List.getElem?_cons_zero, List.getElem?_cons_succ, Option.map_some, if_true, if_false, Bool.false_eq_true, e5', List.append_nil, p1]
      have hs2 : execS ⟨T, callK T wf (k + 3), wf, none⟩ (.set 2 (.bin .add (.var 4) (.blt .tupl [(.cmpr (.neg (.var 6)) (.name 6) [6] (.seq (.var 4)) (.con (.bl true)))]))) [.val (.cel 0), .val (.int n), .val (.tup (w.map .int)), .no, .val (.tup (u.map .int)), .no, .no] (HG cells a2 b2 c2) = .nx [.val (.cel 0), .val (.int n), .val (.tup ((u ++ u.map (- ·)).map .int)), .no, .val (.tup (u.map .int)), .no, .no] (HG cells a2 b2 c2) := by
        refine (ex_set (v := .tup ((u ++ u.map (- ·)).map .int)) (G1 := HG cells a2 b2 c2) ?_).trans rfl
        have q : ∀ (cc : Gm.Ctx) (ea eb : E) (σ : List Sl) (G : Cells), evalE cc (.bin .add ea eb) σ G = (evB cc ea σ G).bind fun x G => (evB cc eb σ G).bind fun y G => Res.of (binV .add x y) G := fun cc ea eb σ G => by simp only [evalE, evB]
        rw [q, evB_no (e := .blt .tupl _) _ rfl]
        show (evalE _ (.blt .tupl _) _ _).bind _ = _
        rw [tl]
        show Res.of (binV .add (.tup (u.map .int)) (.tup ((u.map (- ·)).map .int))) _ = _
        rw [ta]; rfl
      have ht : tstE ⟨T, callK T wf (k + 3), wf, none⟩ (.cmp .eq (.bin .mod (.blt .intt [(.var 1)]) (.con (.int 4))) (.con (.int 0))) [.val (.cel 0), .val (.int n), .val (.tup (w.map .int)), .no, .no, .no, .no] (HG cells a1 b1 c1) = .ok true (HG cells a1 b1 c1) := by
        simp only [execS, evalE, evalL, evalLB, bor, Res.bind, Res.of, Res.thn, rd, rdB, tstE, tru_bl, tru_int, int_int, eq_int, lt_int, le_int, gt_int, ge_int, ne_int, add_ok, sub_ok, List.set_cons_zero, List.set_cons_succ, List.getElem?_cons_zero, List.getElem?_cons_succ, Option.map_some, if_true, if_false, Bool.false_eq_true, e4', beq_self_eq_true]
      refine (ex_ite ht).trans ?_
      rw [if_pos rfl, exl_nx hs1, exl_nx hs2]
      rfl
    · have := p2.half (m := n / 4) p2.sg.neg (by rw [List.length_map, hz]) (by omega)
      rw [show n / 4 + n / 4 = m by omega] at this
      exact this
  · refine ⟨w, .no, a1, b1, c1, ?_, q2, q3⟩
    have d4 : (((n % 4 : Nat) : Int) == 0) = false := by rw [beq_eq_false_iff_ne]; omega
    have e4' : binV .mod (.int (n : Int)) (.int 4) = some (.int ((n % 4 : Nat) : Int)) := e4
    have ht : tstE ⟨T, callK T wf (k + 3), wf, none⟩ (.cmp .eq (.bin .mod (.blt .intt [(.var 1)]) (.con (.int 4))) (.con (.int 0))) [.val (.cel 0), .val (.int n), .val (.tup (w.map .int)), .no, .no, .no, .no] (HG cells a1 b1 c1) = .ok false (HG cells a1 b1 c1) := by
      simp only [execS, evalE, evalL, evalLB, bor, Res.bind, Res.of, Res.thn, rd, rdB, tstE, tru_bl, tru_int, int_int, eq_int, lt_int, le_int, gt_int, ge_int, ne_int, add_ok, sub_ok, List.set_cons_zero, List.set_cons_succ, List.getElem?_cons_zero, List.getElem?_cons_succ, Option.map_some, if_true, if_false, Bool.false_eq_true, e4', d4]
    rw [exl_nx h1]
    exact exl_nx ((ex_ite ht).trans (if_neg (by simp)))
end
end Cm
end

section
namespace Cm
open PySem Gm
section
variable {T : Tb} {wf k : Nat} {G : Cells}
def eltB : E := (.bin .mul (.bin .mul (.idx (.var 2) (.bin .sub (.bin .sub (.blt .len [(.var 2)]) (.con (.int 1))) (.var 5))) (.bin .sub (.con (.int 1)) (.bin .mul (.con (.int 2)) (.call "_law_take" [(.var 0), (.con (.int 2))] [])))) (.idx (.var 2) (.con (.int 0))))
theorem s6_loop (t : Th T) {n m : Nat} {w : List Int} (hw : IsW m w) (hm : m ≤ 50) {s3 s4 s6 : Sl} {cells : List Int} : ∀ (l : List Nat) (acc : List Int) {a : Nat} {b c : Int}, HI cells a b c → (∀ i ∈ l, i < m) →
    ∃ (v : List Int) (a' : Nat) (b' c' : Int), loopC (turnC (.name 5) [5] (evalE ⟨T, callK T wf (k + 3), wf, none⟩ (.con (.bl true))) (evalE ⟨T, callK T wf (k + 3), wf, none⟩ eltB) [.val (.cel 0), .val (.int n), .val (.tup (w.map .int)), s3, s4, .no, s6]) (l.map fun (i : Nat) => GV.int (i : Int)) (acc.map .int) (HG cells a b c) = .ok ((acc ++ v).map .int) (HG cells a' b' c') ∧ Sgn v ∧ v.length = l.length ∧ HI cells a' b' c'
  | [], acc, a, b, c, h, _ => ⟨[], a, b, c, by simp [loopC], fun z hz => (by cases hz), rfl, h⟩
  | i :: l, acc, a, b, c, h, hi => by
    have him := hi i List.mem_cons_self
    obtain ⟨r, a1, b1, c1, p1, p2, p3, p4⟩ := take_ok (wf := wf) (k := k + 1) t.mx t.tk h (many := 2) (by decide) (by decide)
    have sg := sgn_take p2 p3
    have hx : w.getD (m - 1 - i) 0 = 1 ∨ w.getD (m - 1 - i) 0 = -1 := sgn_get hw.sg (by rw [hw.len]; omega)
    obtain ⟨z, hz⟩ : ∃ z, z = w.getD (m - 1 - i) 0 * (1 - 2 * r) * 1 := ⟨_, rfl⟩
    have hzs : z = 1 ∨ z = -1 := by rw [hz]; rcases hx with x | x <;> rcases sg with y | y <;> rw [x, y] <;> decide
    obtain ⟨v, a2, b2, c2, q1, q2, q3, q4⟩ := s6_loop t hw hm (s3 := s3) (s4 := s4) (s6 := s6) (n := n) l (acc ++ [z]) p4 fun j hj => hi j (List.mem_cons_of_mem _ hj)
    refine ⟨z :: v, a2, b2, c2, ?_, ?_, by simp [q3], q4⟩
    · have e : acc ++ z :: v = acc ++ [z] ++ v := by simp
      rw [e, ← q1, List.map_cons]
      refine loopC_cons ?_
      have el : bltV .len [.tup (w.map .int)] = some (.int m) := by show some (GV.int ((w.map GV.int).length : Nat)) = _; rw [List.length_map, hw.len]
      have ei : ((m : Int) - 1 - (i : Int)) = ((m - 1 - i : Nat) : Int) := by omega
      have x1 : ∀ {G}, idxV (.tup (w.map .int)) (.int ((m - 1 - i : Nat) : Int)) G = some (.int (w.getD (m - 1 - i) 0)) := fun {G} => ixt (by
        have hlt : m - 1 - i < w.length := by rw [hw.len]; omega
        simp [List.getD, hlt])
      have x0 : ∀ {G}, idxV (.tup (w.map .int)) (.int 0) G = some (.int 1) := fun {G} => ixt (a := 0) (by simp [hw.hd])
      have m1 := mul_ok (i := 2) (j := r) (by decide) (by omega)
      have m2 := mul_ok (i := w.getD (m - 1 - i) 0) (j := 1 - 2 * r) (by omega) (by omega)
      have m3 := mul_ok (i := w.getD (m - 1 - i) 0 * (1 - 2 * r)) (j := 1) (by rcases hx with x | x <;> rcases sg with y | y <;> rw [x, y] <;> decide) (by decide)
      rw [← hz] at m3
      have et : evalE ⟨T, callK T wf (k + 3), wf, none⟩ eltB [.val (.cel 0), .val (.int n), .val (.tup (w.map .int)), s3, s4, .val (.int (i : Int)), s6] (HG cells a b c) = .ok (.int z) (HG cells a1 b1 c1) := by
        simp only [eltB, execS, evalE, evalL, evalLB, bor, Res.bind, Res.of, Res.thn, rd, rdB, tstE, tru_bl, tru_int, int_int, eq_int, lt_int, le_int, gt_int, ge_int, ne_int, add_ok, sub_ok, List.set_cons_zero, List.set_cons_succ, List.getElem?_cons_zero, List.getElem?_cons_succ, Option.map_some, if_true, if_false, Bool.false_eq_true, el, ei, x1, x0, List.append_nil, p1, m1, m2, m3]
      refine (turn_t (σ2 := [.val (.cel 0), .val (.int n), .val (.tup (w.map .int)), s3, s4, .val (.int (i : Int)), s6]) rfl et).trans ?_
      simp
    · intro y hy
      rcases List.mem_cons.mp hy with e | e
      · rw [e]; exact hzs
      · exact q2 y e
theorem built_ok (t : Th T) {cells : List Int} {a : Nat} {b c : Int} (h : HI cells a b c) {n : Nat} (hn : 1 ≤ n) (hn2 : n ≤ 100) :
    ∃ (w : List Int) (a' : Nat) (b' c' : Int), callK T wf (k + 4) "_law_built" [.cel 0, .int n] (HG cells a b c) = .ok (.tup (w.map .int)) (HG cells a' b' c') ∧ IsW n w ∧ HI cells a' b' c' := by
  rw [callK_step t.bt rfl]
  rcases built0 (wf := wf) (k := k) t h hn hn2 with ⟨w, a1, b1, c1, _, q1, q2, q3⟩ | ⟨m, a1, b1, c1, hm, hm1, q1, q2⟩
  · refine ⟨w, a1, b1, c1, ?_, q2, q3⟩
    show finR (execL _ [bBt0, bBt1, bBt2, bBt3, bBt4, bBt5, bBt6] [.val (.cel 0), .val (.int n), .no, .no, .no, .no, .no] (HG cells a b c)) = _
    rw [exl_rt q1]; rfl
  · obtain ⟨w, s4, a2, b2, c2, r1, r2, r3⟩ := built12 (wf := wf) (k := k) t q2 hn2 hm hm1 (rest := [bBt3, bBt4, bBt5, bBt6])
    have hwl := r2.len
    obtain ⟨r, a3, b3, c3, u1, u2, u3, u4⟩ := take_ok (wf := wf) (k := k + 1) t.mx t.tk r3 (many := 3) (by decide) (by decide)
    have h3 : execS ⟨T, callK T wf (k + 3), wf, none⟩ bBt3 [.val (.cel 0), .val (.int n), .val (.tup (w.map .int)), .no, s4, .no, .no] (HG cells a2 b2 c2) = .nx [.val (.cel 0), .val (.int n), .val (.tup (w.map .int)), .val (.int r), s4, .no, .no] (HG cells a3 b3 c3) := by
      simp only [bBt3, execS, evalE, evalL, evalLB, bor, Res.bind, Res.of, Res.thn, rd, rdB, tstE, tru_bl, tru_int, int_int, eq_int, lt_int, le_int, gt_int, ge_int, ne_int, add_ok, sub_ok, List.set_cons_zero, List.set_cons_succ, List.getElem?_cons_zero, List.getElem?_cons_succ, Option.map_some, if_true, if_false, Bool.false_eq_true, List.append_nil, u1]
    have qadd : ∀ (cc : Gm.Ctx) (ea eb : E) (σ : List Sl) (G : Cells), evalE cc (.bin .add ea eb) σ G = (evB cc ea σ G).bind fun x G => (evB cc eb σ G).bind fun y G => Res.of (binV .add x y) G := fun cc ea eb σ G => by simp only [evalE, evB]
    have start : finR (execL ⟨T, callK T wf (k + 3), wf, none⟩ [bBt0, bBt1, bBt2, bBt3, bBt4, bBt5, bBt6] [.val (.cel 0), .val (.int n), .no, .no, .no, .no, .no] (HG cells a b c)) = finR (execL ⟨T, callK T wf (k + 3), wf, none⟩ [bBt4, bBt5, bBt6] [.val (.cel 0), .val (.int n), .val (.tup (w.map .int)), .val (.int r), s4, .no, .no] (HG cells a3 b3 c3)) := by
      rw [exl_nx q1, r1, exl_nx h3]
    by_cases hr0 : r = 0
    · subst hr0
      have nc := neg_comp (c := ⟨T, callK T wf (k + 3), wf, none⟩) (G := HG cells a3 b3 c3) (r := 2) (t := 6) (σ := [.val (.cel 0), .val (.int n), .val (.tup (w.map .int)), .val (.int 0), s4, .no, .no]) (σ2 := fun x => [.val (.cel 0), .val (.int n), .val (.tup (w.map .int)), .val (.int 0), s4, .no, .val x]) (w := w) (by omega) (fun _ => rfl) (fun _ => rfl) rfl
      have ta := tup_app (a := w) (b := w.map (- ·)) (by simp; omega)
      have tl : evalE ⟨T, callK T wf (k + 3), wf, none⟩ (.blt .tupl [(.cmpr (.neg (.var 6)) (.name 6) [6] (.seq (.var 2)) (.con (.bl true)))]) [.val (.cel 0), .val (.int n), .val (.tup (w.map .int)), .val (.int 0), s4, .no, .no] (HG cells a3 b3 c3) = .ok (.tup ((w.map (- ·)).map .int)) (HG cells a3 b3 c3) := ev_blt1 (by rw [evB_no _ rfl]; exact nc) rfl
      have he : evalE ⟨T, callK T wf (k + 3), wf, none⟩ (.bin .add (.var 2) (.blt .tupl [(.cmpr (.neg (.var 6)) (.name 6) [6] (.seq (.var 2)) (.con (.bl true)))])) [.val (.cel 0), .val (.int n), .val (.tup (w.map .int)), .val (.int 0), s4, .no, .no] (HG cells a3 b3 c3) = .ok (.tup ((w ++ w.map (- ·)).map .int)) (HG cells a3 b3 c3) := by
        rw [qadd, evB_no (e := .blt .tupl _) _ rfl]
        show (evalE _ (.blt .tupl _) _ _).bind _ = _
        rw [tl]
        show Res.of (binV .add (.tup (w.map .int)) (.tup ((w.map (- ·)).map .int))) _ = _
        rw [ta]; rfl
      have ht : tstE ⟨T, callK T wf (k + 3), wf, none⟩ (.cmp .eq (.var 3) (.con (.int 0))) [.val (.cel 0), .val (.int n), .val (.tup (w.map .int)), .val (.int 0), s4, .no, .no] (HG cells a3 b3 c3) = .ok true (HG cells a3 b3 c3) := by
        simp only [execS, evalE, evalL, evalLB, bor, Res.bind, Res.of, Res.thn, rd, rdB, tstE, tru_bl, tru_int, int_int, eq_int, lt_int, le_int, gt_int, ge_int, ne_int, add_ok, sub_ok, List.set_cons_zero, List.set_cons_succ, List.getElem?_cons_zero, List.getElem?_cons_succ, Option.map_some, if_true, if_false, Bool.false_eq_true, beq_self_eq_true]
      refine ⟨w ++ w.map (- ·), a3, b3, c3, start.trans ?_, ?_, u4⟩
      · have s4r : execS ⟨T, callK T wf (k + 3), wf, none⟩ bBt4 [.val (.cel 0), .val (.int n), .val (.tup (w.map .int)), .val (.int 0), s4, .no, .no] (HG cells a3 b3 c3) = .rt (.tup ((w ++ w.map (- ·)).map .int)) (HG cells a3 b3 c3) := (ex_ite ht).trans ((if_pos rfl).trans (exl_rt (ex_ret he)))
        rw [exl_rt s4r]
        rfl
      · have := r2.half (m := m) r2.sg.neg (by rw [List.length_map, hwl]) hm1
        rw [show m + m = n by omega] at this
        exact this
    · have d0 : (r == 0) = false := by rw [beq_eq_false_iff_ne]; exact hr0
      have ht : tstE ⟨T, callK T wf (k + 3), wf, none⟩ (.cmp .eq (.var 3) (.con (.int 0))) [.val (.cel 0), .val (.int n), .val (.tup (w.map .int)), .val (.int r), s4, .no, .no] (HG cells a3 b3 c3) = .ok false (HG cells a3 b3 c3) := by
        simp only [execS, evalE, evalL, evalLB, bor, Res.bind, Res.of, Res.thn, rd, rdB, tstE, tru_bl, tru_int, int_int, eq_int, lt_int, le_int, gt_int, ge_int, ne_int, add_ok, sub_ok, List.set_cons_zero, List.set_cons_succ, List.getElem?_cons_zero, List.getElem?_cons_succ, Option.map_some, if_true, if_false, Bool.false_eq_true, d0]
      have s4e : execS ⟨T, callK T wf (k + 3), wf, none⟩ bBt4 [.val (.cel 0), .val (.int n), .val (.tup (w.map .int)), .val (.int r), s4, .no, .no] (HG cells a3 b3 c3) = .nx [.val (.cel 0), .val (.int n), .val (.tup (w.map .int)), .val (.int r), s4, .no, .no] (HG cells a3 b3 c3) := (ex_ite ht).trans (if_neg (by simp))
      by_cases hr1 : r = 1
      · subst hr1
        have ht1 : tstE ⟨T, callK T wf (k + 3), wf, none⟩ (.cmp .eq (.var 3) (.con (.int 1))) [.val (.cel 0), .val (.int n), .val (.tup (w.map .int)), .val (.int 1), s4, .no, .no] (HG cells a3 b3 c3) = .ok true (HG cells a3 b3 c3) := by
          simp only [execS, evalE, evalL, evalLB, bor, Res.bind, Res.of, Res.thn, rd, rdB, tstE, tru_bl, tru_int, int_int, eq_int, lt_int, le_int, gt_int, ge_int, ne_int, add_ok, sub_ok, List.set_cons_zero, List.set_cons_succ, List.getElem?_cons_zero, List.getElem?_cons_succ, Option.map_some, if_true, if_false, Bool.false_eq_true, beq_self_eq_true]
        obtain ⟨g, hg⟩ : ∃ g : Nat → Int, g = fun i => w.getD (i / 2) 0 * (1 - 2 * ((i % 2 : Nat) : Int)) := ⟨_, rfl⟩
        have gs : ∀ i, i < n → g i = 1 ∨ g i = -1 := fun i hi => by
          rw [hg]
          show w.getD (i / 2) 0 * (1 - 2 * ((i % 2 : Nat) : Int)) = 1 ∨ w.getD (i / 2) 0 * (1 - 2 * ((i % 2 : Nat) : Int)) = -1
          have hx := sgn_get r2.sg (i := i / 2) (by rw [hwl]; omega)
          have hy : ((i % 2 : Nat) : Int) = 0 ∨ ((i % 2 : Nat) : Int) = 1 := by omega
          rcases hx with x | x <;> rcases hy with y | y <;> rw [x, y] <;> decide
        have hc : evalE ⟨T, callK T wf (k + 3), wf, none⟩ (.cmpr (.bin .mul (.idx (.var 2) (.bin .fdiv (.var 5) (.con (.int 2)))) (.bin .sub (.con (.int 1)) (.bin .mul (.con (.int 2)) (.bin .mod (.blt .intt [(.var 5)]) (.con (.int 2)))))) (.name 5) [5] (.rng [(.var 1)]) (.con (.bl true))) [.val (.cel 0), .val (.int n), .val (.tup (w.map .int)), .val (.int 1), s4, .no, .no] (HG cells a3 b3 c3) = .ok (.lst (((List.range n).map g).map .int)) (HG cells a3 b3 c3) := by
          have hit := it_rng1 (c := ⟨T, callK T wf (k + 3), wf, none⟩) (eb := .var 1) (σ := [.val (.cel 0), .val (.int n), .val (.tup (w.map .int)), .val (.int 1), s4, .no, .no]) (G := HG cells a3 b3 c3) (j := (n : Int)) (by simp only [execS, evalE, evalL, evalLB, bor, Res.bind, Res.of, Res.thn, rd, rdB, tstE, tru_bl, tru_int, int_int, eq_int, lt_int, le_int, gt_int, ge_int, ne_int, add_ok, sub_ok, List.set_cons_zero, List.set_cons_succ, List.getElem?_cons_zero, List.getElem?_cons_succ, Option.map_some, if_true, if_false, Bool.false_eq_true]) (by omega) (by omega)
          refine ev_cmpr hit (by simp; omega) ?_
          rw [loopC_map (fun v => match v with | .int i => .int (g i.toNat) | _ => .non)]
          · simp
          · intro v hv acc
            obtain ⟨i, hi, rfl⟩ := List.mem_map.mp hv
            have hin : i < n := by simpa using hi
            have f1 := div_ok (i := (i : Int)) (j := 2) (by decide) (by decide)
            rw [show ((2 : Int)) = ((2 : Nat) : Int) from rfl, fd_nat] at f1
            have f1' : binV .fdiv (.int (i : Int)) (.int 2) = some (.int ((i / 2 : Nat) : Int)) := f1
            have f2 := mod_ok (i := (i : Int)) (j := 2) (by decide)
            rw [show ((2 : Int)) = ((2 : Nat) : Int) from rfl, fm_nat] at f2
            have f2' : binV .mod (.int (i : Int)) (.int 2) = some (.int ((i % 2 : Nat) : Int)) := f2
            have x1 : ∀ {G}, idxV (.tup (w.map .int)) (.int ((i / 2 : Nat) : Int)) G = some (.int (w.getD (i / 2) 0)) := fun {G} => ixt (by
              have : i / 2 < w.length := by rw [hwl]; omega
              simp [List.getD, this])
            have m1 := mul_ok (i := 2) (j := ((i % 2 : Nat) : Int)) (by decide) (by omega)
            have hx := sgn_get r2.sg (i := i / 2) (by rw [hwl]; omega)
            have m2 := mul_ok (i := w.getD (i / 2) 0) (j := 1 - 2 * ((i % 2 : Nat) : Int)) (by omega) (by omega)
            have ge : w.getD (i / 2) 0 * (1 - 2 * ((i % 2 : Nat) : Int)) = g i := by rw [hg]
            rw [ge] at m2
            refine turn_t (σ2 := [.val (.cel 0), .val (.int n), .val (.tup (w.map .int)), .val (.int 1), s4, .val (.int (i : Int)), .no]) rfl ?_
            simp only [execS, evalE, evalL, evalLB, bor, Res.bind, Res.of, Res.thn, rd, rdB, tstE, tru_bl, tru_int, int_int, eq_int, lt_int, le_int, gt_int, ge_int, ne_int, add_ok, sub_ok, List.set_cons_zero, List.set_cons_succ, List.getElem?_cons_zero, List.getElem?_cons_succ, Option.map_some, if_true, if_false, Bool.false_eq_true, f1', f2', x1, m1, m2, Int.toNat_natCast]
        have tl : evalE ⟨T, callK T wf (k + 3), wf, none⟩ (.blt .tupl [(.cmpr (.bin .mul (.idx (.var 2) (.bin .fdiv (.var 5) (.con (.int 2)))) (.bin .sub (.con (.int 1)) (.bin .mul (.con (.int 2)) (.bin .mod (.blt .intt [(.var 5)]) (.con (.int 2)))))) (.name 5) [5] (.rng [(.var 1)]) (.con (.bl true)))]) [.val (.cel 0), .val (.int n), .val (.tup (w.map .int)), .val (.int 1), s4, .no, .no] (HG cells a3 b3 c3) = .ok (.tup (((List.range n).map g).map .int)) (HG cells a3 b3 c3) := ev_blt1 (by rw [evB_no _ rfl]; exact hc) rfl
        refine ⟨(List.range n).map g, a3, b3, c3, start.trans ?_, ⟨by simp, fun z hz => ?_, ?_⟩, u4⟩
        · have s5r : execS ⟨T, callK T wf (k + 3), wf, none⟩ bBt5 [.val (.cel 0), .val (.int n), .val (.tup (w.map .int)), .val (.int 1), s4, .no, .no] (HG cells a3 b3 c3) = .rt (.tup (((List.range n).map g).map .int)) (HG cells a3 b3 c3) := (ex_ite ht1).trans ((if_pos rfl).trans (exl_rt (ex_ret tl)))
          rw [exl_nx s4e, exl_rt s5r]
          rfl
        · obtain ⟨i, hi, rfl⟩ := List.mem_map.mp hz
          exact gs i (by simpa using hi)
        · have : g 0 = 1 := by
            rw [hg]
            show w.getD (0 / 2) 0 * (1 - 2 * ((0 % 2 : Nat) : Int)) = 1
            have hd := r2.hd
            have : w.getD 0 0 = 1 := by simp [List.getD, hd]
            rw [show 0 / 2 = 0 from rfl, this]; decide
          simp [this, show 0 < n by omega]
      · have d1 : (r == 1) = false := by rw [beq_eq_false_iff_ne]; exact hr1
        have ht1 : tstE ⟨T, callK T wf (k + 3), wf, none⟩ (.cmp .eq (.var 3) (.con (.int 1))) [.val (.cel 0), .val (.int n), .val (.tup (w.map .int)), .val (.int r), s4, .no, .no] (HG cells a3 b3 c3) = .ok false (HG cells a3 b3 c3) := by
          simp only [execS, evalE, evalL, evalLB, bor, Res.bind, Res.of, Res.thn, rd, rdB, tstE, tru_bl, tru_int, int_int, eq_int, lt_int, le_int, gt_int, ge_int, ne_int, add_ok, sub_ok, List.set_cons_zero, List.set_cons_succ, List.getElem?_cons_zero, List.getElem?_cons_succ, Option.map_some, if_true, if_false, Bool.false_eq_true, d1]
        have s5e : execS ⟨T, callK T wf (k + 3), wf, none⟩ bBt5 [.val (.cel 0), .val (.int n), .val (.tup (w.map .int)), .val (.int r), s4, .no, .no] (HG cells a3 b3 c3) = .nx [.val (.cel 0), .val (.int n), .val (.tup (w.map .int)), .val (.int r), s4, .no, .no] (HG cells a3 b3 c3) := (ex_ite ht1).trans (if_neg (by simp))
        obtain ⟨v, a4, b4, c4, l1, l2, l3, l4⟩ := s6_loop (wf := wf) (k := k) t r2 (by omega) (n := n) (s3 := .val (.int r)) (s4 := s4) (s6 := .no) (List.range m) [] u4 (fun i hi => by simpa using hi)
        have el : bltV .len [.tup (w.map .int)] = some (.int m) := by show some (GV.int ((w.map GV.int).length : Nat)) = _; rw [List.length_map, hwl]
        have hit := it_rng1 (c := ⟨T, callK T wf (k + 3), wf, none⟩) (eb := .blt .len [.var 2]) (σ := [.val (.cel 0), .val (.int n), .val (.tup (w.map .int)), .val (.int r), s4, .no, .no]) (G := HG cells a3 b3 c3) (j := (m : Int)) (by simp only [execS, evalE, evalL, evalLB, bor, Res.bind, Res.of, Res.thn, rd, rdB, tstE, tru_bl, tru_int, int_int, eq_int, lt_int, le_int, gt_int, ge_int, ne_int, add_ok, sub_ok, List.set_cons_zero, List.set_cons_succ, List.getElem?_cons_zero, List.getElem?_cons_succ, Option.map_some, if_true, if_false, Bool.false_eq_true, el]) (by omega) (by omega)
        have hc : evalE ⟨T, callK T wf (k + 3), wf, none⟩ (.cmpr eltB (.name 5) [5] (.rng [(.blt .len [(.var 2)])]) (.con (.bl true))) [.val (.cel 0), .val (.int n), .val (.tup (w.map .int)), .val (.int r), s4, .no, .no] (HG cells a3 b3 c3) = .ok (.lst (v.map .int)) (HG cells a4 b4 c4) := ev_cmpr hit (by simp; omega) l1
        have tl : evalE ⟨T, callK T wf (k + 3), wf, none⟩ (.blt .tupl [(.cmpr eltB (.name 5) [5] (.rng [(.blt .len [(.var 2)])]) (.con (.bl true)))]) [.val (.cel 0), .val (.int n), .val (.tup (w.map .int)), .val (.int r), s4, .no, .no] (HG cells a3 b3 c3) = .ok (.tup (v.map .int)) (HG cells a4 b4 c4) := ev_blt1 (by rw [evB_no _ rfl]; exact hc) rfl
        have ta := tup_app (a := w) (b := v) (by rw [l3]; simp; omega)
        have he : evalE ⟨T, callK T wf (k + 3), wf, none⟩ (.bin .add (.var 2) (.blt .tupl [(.cmpr eltB (.name 5) [5] (.rng [(.blt .len [(.var 2)])]) (.con (.bl true)))])) [.val (.cel 0), .val (.int n), .val (.tup (w.map .int)), .val (.int r), s4, .no, .no] (HG cells a3 b3 c3) = .ok (.tup ((w ++ v).map .int)) (HG cells a4 b4 c4) := by
          rw [qadd, evB_no (e := .blt .tupl _) _ rfl]
          show (evalE _ (.blt .tupl _) _ _).bind _ = _
          rw [tl]
          show Res.of (binV .add (.tup (w.map .int)) (.tup (v.map .int))) _ = _
          rw [ta]; rfl
        refine ⟨w ++ v, a4, b4, c4, start.trans ?_, ?_, l4⟩
        · rw [exl_nx s4e, exl_nx s5e, exl_rt (show execS ⟨T, callK T wf (k + 3), wf, none⟩ bBt6 _ _ = _ from ex_ret he)]
          rfl
        · have := r2.half (m := m) l2 (by rw [l3, List.length_range]) hm1
          rw [show m + m = n by omega] at this
          exact this
end
end Cm
end

section
namespace Cm
open PySem Gm
theorem exl_cons {c : Gm.Ctx} {s : S} {ss : List S} {σ : List Sl} {G : Cells} : execL c (s :: ss) σ G = (execS c s σ G).seq fun σ G => execL c ss σ G := by simp only [execL]
/-! ### ranges, comprehensions -/
def rI (i : Int) (m : Nat) : List Int := (List.range m).map fun (k : Nat) => i + (k : Int)
theorem rngL_rI (i : Int) (m : Nat) : rngL i m = (rI i m).map .int := by simp [rngL, rI, Function.comp_def]
theorem mem_rI {i x : Int} {m : Nat} : x ∈ rI i m ↔ i ≤ x ∧ x < i + m := by
  unfold rI
  rw [List.mem_map]
  constructor
  · rintro ⟨k, hk, rfl⟩
    have := List.mem_range.mp hk
    omega
  · rintro ⟨h1, h2⟩
    exact ⟨(x - i).toNat, List.mem_range.mpr (by omega), by omega⟩
theorem rI_len (i : Int) (m : Nat) : (rI i m).length = m := by simp [rI]
theorem rI_asc (i : Int) (m : Nat) : (rI i m).Pairwise (· < ·) := by
  unfold rI
  rw [List.pairwise_map]
  exact List.pairwise_lt_range.imp fun h => by omega
theorem rI_get {i : Int} {m k : Nat} (h : k < m) : (rI i m)[k]? = some (i + (k : Int)) := by
  unfold rI
  rw [List.getElem?_map, List.getElem?_range h]; rfl
theorem it_r1 {c : Gm.Ctx} {eb : E} {σ : List Sl} {G : Cells} {n : Nat} (hb : evalE c eb σ G = .ok (.int n) G) (hn : n ≤ 100000) : iterE c (.rng [eb]) σ G = .ok ((rI 0 n).map .int) G := by
  rw [it_rng1 hb (by omega) (by omega)]
  have : ((List.range ((n : Int)).toNat).map fun (k : Nat) => GV.int (k : Int)) = (rI 0 n).map .int := by simp [rI, Function.comp_def]
  rw [this]
theorem it_r2 {c : Gm.Ctx} {ea eb : E} {σ : List Sl} {G : Cells} {i j : Int} (ha : evalE c ea σ G = .ok (.int i) G) (hb : evalE c eb σ G = .ok (.int j) G) (h1 : -100000 ≤ i) (h2 : i ≤ 100000) (h3 : -100000 ≤ j) (h4 : j ≤ 100000) : iterE c (.rng [ea, eb]) σ G = .ok ((rI i (j - i).toNat).map .int) G := by
  rw [it_rng2 ha hb (by omega) (by omega) (by omega) (by omega), rngL_rI]
theorem it_sq {c : Gm.Ctx} {i : Nat} {σ : List Sl} {G : Cells} {v : GV} {xs : List GV} (h : rdB σ i = some v) (hv : itmV v = some xs) : iterE c (.seq (.var i)) σ G = .ok xs G := by
  simp only [iterE, bor, h, Res.of, Res.bind, hv]
theorem cm_flt {c : Gm.Ctx} {elt cnd : E} {t : Nat} {own : List Nat} {it : It} {σ : List Sl} {G : Cells} {xs : List GV} (f : GV → GV) (p : GV → Bool) (hit : iterE c it σ G = .ok xs G) (hz : xs.length ≤ 100000)
    (hc : ∀ x ∈ xs, evalE c cnd ((wipeG σ own).set t (.val x)) G = .ok (.bl (p x)) G) (he : ∀ x ∈ xs, p x = true → evalE c elt ((wipeG σ own).set t (.val x)) G = .ok (f x) G) :
    evalE c (.cmpr elt (.name t) own it cnd) σ G = .ok (.lst ((xs.filter p).map f)) G := by
  refine ev_cmpr hit hz ?_
  rw [loopC_filter (f := turnC (.name t) own (evalE c cnd) (evalE c elt) σ) (G := G) (fun x => if p x = true then some (f x) else none) xs [] (fun x hx acc => ?_)]
  · rw [List.nil_append]
    congr 1
    clear hit hz hc he
    induction xs with
    | nil => rfl
    | cons x xs ih =>
      rw [List.filterMap_cons, List.filter_cons]
      cases p x with
      | true => simp [ih]
      | false => simpa using ih
  · rw [turn_c (σ2 := (wipeG σ own).set t (.val x)) rfl (hc x hx) (he x hx)]
    cases p x <;> simp
/-- over whole numbers -/
theorem cm_I {c : Gm.Ctx} {elt cnd : E} {t : Nat} {own : List Nat} {it : It} {σ : List Sl} {G : Cells} {ns : List Int} (f : Int → Int) (p : Int → Bool) (hit : iterE c it σ G = .ok (ns.map .int) G) (hz : ns.length ≤ 100000)
    (hc : ∀ i ∈ ns, evalE c cnd ((wipeG σ own).set t (.val (.int i))) G = .ok (.bl (p i)) G) (he : ∀ i ∈ ns, p i = true → evalE c elt ((wipeG σ own).set t (.val (.int i))) G = .ok (.int (f i)) G) :
    evalE c (.cmpr elt (.name t) own it cnd) σ G = .ok (.lst (((ns.filter p).map f).map .int)) G := by
  have := cm_flt (c := c) (elt := elt) (cnd := cnd) (t := t) (own := own) (it := it) (σ := σ) (G := G) (fun v => match v with | .int i => .int (f i) | v => v) (fun v => match v with | .int i => p i | _ => false) hit (by simpa using hz)
    (fun x hx => by obtain ⟨i, hi, rfl⟩ := List.mem_map.mp hx; exact hc i hi) (fun x hx hp => by obtain ⟨i, hi, rfl⟩ := List.mem_map.mp hx; exact he i hi hp)
  rw [this, List.filter_map, List.map_map, List.map_map]
  rfl
theorem cm_I1 {c : Gm.Ctx} {elt : E} {t : Nat} {own : List Nat} {it : It} {σ : List Sl} {G : Cells} {ns : List Int} (f : Int → Int) (hit : iterE c it σ G = .ok (ns.map .int) G) (hz : ns.length ≤ 100000)
    (he : ∀ i ∈ ns, evalE c elt ((wipeG σ own).set t (.val (.int i))) G = .ok (.int (f i)) G) :
    evalE c (.cmpr elt (.name t) own it (.con (.bl true))) σ G = .ok (.lst ((ns.map f).map .int)) G := by
  rw [cm_I f (fun _ => true) hit hz (fun i _ => by simp only [evalE]) fun i hi _ => he i hi]
  have : ns.filter (fun _ => true) = ns := List.filter_eq_self.mpr fun _ _ => rfl
  rw [this]
/-! ### ascending lists -/
theorem asc_ext : ∀ {a b : List Int}, a.Pairwise (· < ·) → b.Pairwise (· < ·) → (∀ x, x ∈ a ↔ x ∈ b) → a = b
  | [], [], _, _, _ => rfl
  | [], y :: b, _, _, h => absurd ((h y).mpr List.mem_cons_self) (by simp)
  | x :: a, [], _, _, h => absurd ((h x).mp List.mem_cons_self) (by simp)
  | x :: a, y :: b, ha, hb, h => by
    obtain ⟨ha1, ha2⟩ := List.pairwise_cons.mp ha
    obtain ⟨hb1, hb2⟩ := List.pairwise_cons.mp hb
    have e : x = y := by
      rcases List.mem_cons.mp ((h x).mp List.mem_cons_self) with e | e
      · exact e
      · rcases List.mem_cons.mp ((h y).mpr List.mem_cons_self) with e2 | e2
        · exact e2.symm
        · have := hb1 x e; have := ha1 y e2; omega
    subst e
    refine congrArg _ (asc_ext ha2 hb2 fun z => ⟨fun hz => ?_, fun hz => ?_⟩)
    · rcases List.mem_cons.mp ((h z).mp (List.mem_cons_of_mem _ hz)) with e | e
      · have := ha1 z hz; omega
      · exact e
    · rcases List.mem_cons.mp ((h z).mpr (List.mem_cons_of_mem _ hz)) with e | e
      · have := hb1 z hz; omega
      · exact e
theorem asc_of : ∀ {a : List Int}, a.Pairwise (· ≤ ·) → a.Nodup → a.Pairwise (· < ·)
  | [], _, _ => .nil
  | x :: a, h, n => by
    obtain ⟨h1, h2⟩ := List.pairwise_cons.mp h
    obtain ⟨n1, n2⟩ := List.nodup_cons.mp n
    refine List.pairwise_cons.mpr ⟨fun y hy => ?_, asc_of h2 n2⟩
    have := h1 y hy
    have : x ≠ y := fun e => n1 (e ▸ hy)
    omega
theorem asc_nd {a : List Int} (h : a.Pairwise (· < ·)) : a.Nodup := h.imp fun h e => by omega
theorem srt_mem {a : List Int} {x : Int} : x ∈ srtI a ↔ x ∈ a := (srtI_perm a).mem_iff
theorem srt_asc {a : List Int} (h : a.Nodup) : (srtI a).Pairwise (· < ·) := asc_of (srtI_up a) ((srtI_perm a).nodup_iff.mpr h)
theorem srt_is {a b : List Int} (h : a.Nodup) (hb : b.Pairwise (· < ·)) (hm : ∀ x, x ∈ a ↔ x ∈ b) : srtI a = b := asc_ext (srt_asc h) hb fun x => srt_mem.trans (hm x)
theorem flt_asc {a : List Int} {p : Int → Bool} (h : a.Pairwise (· < ·)) : (a.filter p).Pairwise (· < ·) := h.sublist List.filter_sublist
/-! ### in -/
theorem any_mem {l : List Int} {j : Int} : ((l.map GV.int).any fun y => fEq y (.int j)) = decide (j ∈ l) := by
  induction l with
  | nil => rfl
  | cons z l ih =>
    rw [List.map_cons, List.any_cons, ih]
    show ((z == j) || decide (j ∈ l)) = decide (j ∈ z :: l)
    by_cases e : z = j
    · subst e; simp
    · have h1 : (z == j) = false := by simpa using e
      have h2 : ¬ j = z := fun q => e q.symm
      rw [h1]; simp [h2]
theorem in_tup {l : List Int} {j : Int} : cmpV .inn (.int j) (.tup (l.map .int)) = some (decide (j ∈ l)) := by
  show inT (.int j) (l.map .int) = _
  unfold inT
  rw [flat_ints, any_mem]; rfl
theorem shp_lst (w : List Int) : (GV.lst (w.map .int)).shp = some (.list (w.map PyData.int)) := by
  have h : (GV.lst (w.map .int)).toD = some (.list (w.map PyData.int)) := by
    show (match GV.toDs (w.map .int) with | some ds => some (PyData.list ds) | none => none) = _
    rw [toDs_ints]
  have hs : SeqAt.shaped (.list (w.map PyData.int)) = true := by
    unfold SeqAt.shaped
    rw [Bool.and_eq_true]
    exact ⟨by simp [PyData.canLay0, lay_ints], decide_eq_true (by simp [PyData.depth, dep_ints])⟩
  unfold GV.shp
  rw [h]
  exact if_pos hs
theorem shp_int (i : Int) : (GV.int i).shp = some (.int i) := by
  have hs : SeqAt.shaped (.int i) = true := by
    unfold SeqAt.shaped
    rw [Bool.and_eq_true]
    exact ⟨by simp [PyData.canLay0], decide_eq_true (by simp [PyData.depth])⟩
  show (if SeqAt.shaped (.int i) = true then some (PyData.int i) else none) = _
  rw [if_pos hs]
theorem in_lst {l : List Int} {j : Int} : cmpV .inn (.int j) (.lst (l.map .int)) = some (decide (j ∈ l)) := by
  show inD (.int j) (l.map .int) = _
  unfold inD
  rw [shp_int, shp_lst]
  show some ((l.map PyData.int).any fun z => PyData.eqv z (.int j)) = _
  congr 1
  induction l with
  | nil => rfl
  | cons z l ih =>
    rw [List.map_cons, List.any_cons, ih]
    have e0 : PyData.eqv (.int z) (.int j) = (z == j) := by simp only [PyData.eqv]
    rw [e0]
    by_cases e : z = j
    · subst e; simp
    · have h1 : (z == j) = false := by simpa using e
      have h2 : ¬ j = z := fun q => e q.symm
      rw [h1]; simp [h2]
/-! ### the same is the same -/
mutual
theorem eqv_self : ∀ d : PyData, d.canLay0 = true → PyData.eqv d d = true
  | .none, _ => by simp only [PyData.eqv]
  | .bool b, _ => by simp [PyData.eqv]
  | .int i, _ => by simp [PyData.eqv]
  | .str x, _ => by simp [PyData.eqv]
  | .list xs, h => by
    simp only [PyData.eqv]
    exact eqvAll_self xs (by simpa [PyData.canLay0] using h)
  | .tuple xs, h => by
    simp only [PyData.eqv]
    exact eqvAll_self xs (by simpa [PyData.canLay0] using h)
  | .dict _, h => by simp [PyData.canLay0] at h
theorem eqvAll_self : ∀ ds : List PyData, PyData.canLayAll0 ds = true → PyData.eqvAll ds ds = true
  | [], _ => by simp only [PyData.eqvAll]
  | d :: ds, h => by
    have h' : d.canLay0 = true ∧ PyData.canLayAll0 ds = true := by simpa [PyData.canLayAll0] using h
    simp only [PyData.eqvAll, eqv_self d h'.1, eqvAll_self ds h'.2, Bool.and_self]
end
/-- plain data, told by depth -/
def Nice (k : Nat) (x : GV) : Prop := ∃ d, x.toD = some d ∧ d.canLay0 = true ∧ d.depth ≤ k
theorem Nice.int {k : Nat} (i : Int) : Nice k (.int i) := ⟨.int i, rfl, by simp [PyData.canLay0], by simp [PyData.depth]⟩
theorem Nice.bl {k : Nat} (b : Bool) : Nice k (.bl b) := ⟨.bool b, rfl, by simp [PyData.canLay0], by simp [PyData.depth]⟩
theorem Nice.non {k : Nat} : Nice k .non := ⟨.none, rfl, by simp [PyData.canLay0], by simp [PyData.depth]⟩
theorem Nice.str {k : Nat} {x : Str} (h : (PyData.str x).canLay0 = true) : Nice k (.str x) := ⟨.str x, rfl, h, by simp [PyData.depth]⟩
theorem nices {k : Nat} : ∀ {xs : List GV}, (∀ x ∈ xs, Nice k x) → ∃ ds, GV.toDs xs = some ds ∧ PyData.canLayAll0 ds = true ∧ PyData.depthAll ds ≤ k
  | [], _ => ⟨[], rfl, by simp [PyData.canLayAll0], by simp [PyData.depthAll]⟩
  | x :: xs, h => by
    obtain ⟨d, h1, h2, h3⟩ := h x List.mem_cons_self
    obtain ⟨ds, g1, g2, g3⟩ := nices fun y hy => h y (List.mem_cons_of_mem _ hy)
    refine ⟨d :: ds, ?_, by simp [PyData.canLayAll0, h2, g2], by simp only [PyData.depthAll]; omega⟩
    show (match GV.toD x with | none => none | some d => match GV.toDs xs with | none => none | some ds => some (d :: ds)) = _
    rw [h1, g1]
theorem Nice.tup {k : Nat} {xs : List GV} (h : ∀ x ∈ xs, Nice k x) : Nice (k + 1) (.tup xs) := by
  obtain ⟨ds, h1, h2, h3⟩ := nices h
  refine ⟨.tuple ds, ?_, by simpa [PyData.canLay0] using h2, by simp only [PyData.depth]; omega⟩
  show (match GV.toDs xs with | some ds => some (PyData.tuple ds) | none => none) = _
  rw [h1]
theorem Nice.lst {k : Nat} {xs : List GV} (h : ∀ x ∈ xs, Nice k x) : Nice (k + 1) (.lst xs) := by
  obtain ⟨ds, h1, h2, h3⟩ := nices h
  refine ⟨.list ds, ?_, by simpa [PyData.canLay0] using h2, by simp only [PyData.depth]; omega⟩
  show (match GV.toDs xs with | some ds => some (PyData.list ds) | none => none) = _
  rw [h1]
theorem Nice.shp {k : Nat} {x : GV} (h : Nice k x) (hk : k ≤ 64) : ∃ d, x.shp = some d ∧ PyData.eqv d d = true := by
  obtain ⟨d, h1, h2, h3⟩ := h
  refine ⟨d, ?_, eqv_self d h2⟩
  unfold GV.shp
  rw [h1]
  have hs : SeqAt.shaped d = true := by
    unfold SeqAt.shaped
    rw [Bool.and_eq_true]
    exact ⟨h2, decide_eq_true (by omega)⟩
  exact if_pos hs
theorem eq_self {k : Nat} {x : GV} (h : Nice k x) (hk : k ≤ 64 := by decide) : cmpV .eq x x = some true := by
  obtain ⟨d, h1, h2⟩ := h.shp hk
  show eqG x x = _
  unfold eqG
  rw [h1]
  exact congrArg some h2
theorem ne_self {k : Nat} {x : GV} (h : Nice k x) (hk : k ≤ 64 := by decide) : cmpV .ne x x = some false := by
  have := eq_self h hk
  show (eqG x x).map (!·) = _
  rw [show eqG x x = some true from this]; rfl
theorem nice_ints {k : Nat} (w : List Int) : ∀ x ∈ w.map GV.int, Nice k x := fun x hx => by
  obtain ⟨i, _, rfl⟩ := List.mem_map.mp hx
  exact .int i
theorem nice_row (w : List Int) : Nice 1 (.tup (w.map .int)) := .tup (nice_ints w)
end Cm
end

section
namespace Cm
open PySem Gm
def bIs0 : S := (.ret (.call "is_whole" [(.var 1), (.con (.int 0)), (.bin .sub (.var 0) (.con (.int 1)))] []))
def dIs : Fn := ⟨2, 2, [], [], [bIs0]⟩
def bCc0 : S := (.ite (.not (.call "is_whole" [(.var 0), (.con (.int 1)), (.var 1)] [])) [(.rse "BadCount" [])] [])
def bCc1 : S := (.ret (.var 0))
def dCc : Fn := ⟨2, 2, [.int (24)], [], [bCc0, bCc1]⟩
def bCp0 : S := (.ite (.not (.blt .isi [(.var 1), (.tup [(.bty "list"), (.bty "tuple")])])) [(.rse "BadPoles" [])] [])
def bCp1 : S := (.seto 2 (.lst []))
def bCp2 : S := (.forr (.name 3) (.seqs (.var 1)) [(.ite (.or (.not (.call "is_whole" [(.var 3), (.con (.int 1)), (.bin .sub (.var 0) (.con (.int 1)))] [])) (.cmp .inn (.var 3) (.var 2))) [(.rse "BadPoles" [])] []), (.app 2 (.var 3))])
def bCp3 : S := (.ret (.blt .tupl [(.blt .sorted [(.var 2)])]))
def dCp : Fn := ⟨2, 4, [], [], [bCp0, bCp1, bCp2, bCp3]⟩
def bWw0 : S := (.exp (.call "check_count" [(.var 0)] [(.int 24)]))
def bWw1 : S := (.set 2 (.call "check_poles" [(.var 0), (.var 1)] []))
def bWw2 : S := (.seto 3 (.lst []))
def bWw3 : S := (.set 4 (.con (.int 1)))
def bWw4 : S := (.forr (.name 5) (.rng [(.var 0)]) [(.ite (.cmp .inn (.var 5) (.var 2)) [(.set 4 (.neg (.var 4)))] []), (.app 3 (.var 4))])
def bWw5 : S := (.ret (.blt .tupl [(.var 3)]))
def dWw : Fn := ⟨2, 6, [], [], [bWw0, bWw1, bWw2, bWw3, bWw4, bWw5]⟩
def bTw0 : S := (.set 1 (.call "check_row" [(.var 0)] []))
def bTw1 : S := (.ret (.blt .tupl [(.cmpr (.bin .mul (.idx (.var 1) (.con (.int 0))) (.var 2)) (.name 2) [2] (.seq (.var 1)) (.con (.bl true)))]))
def dTw : Fn := ⟨1, 3, [], [], [bTw0, bTw1]⟩
def bCa0 : S := (.set 2 (.call "check_signs" [(.var 0)] []))
def bCa1 : S := (.ite (.not (.call "is_whole" [(.var 1), (.con (.int 1)), (.bin .sub (.blt .len [(.var 2)]) (.con (.int 1)))] [])) [(.rse "NoPole" [(.var 1)])] [])
def bCa2 : S := (.ret (.bin .add (.slc (.var 2) [] [(.var 1)]) (.blt .tupl [(.cmpr (.neg (.var 3)) (.name 3) [3] (.seq (.slc (.var 2) [(.var 1)] [])) (.con (.bl true)))])))
def dCa : Fn := ⟨2, 4, [], [], [bCa0, bCa1, bCa2]⟩
def bBw0 : S := (.ret (.call "turned_word" [(.blt .rev [(.call "check_signs" [(.var 0)] [])])] []))
def dBw : Fn := ⟨1, 1, [], [], [bBw0]⟩
def bCw0 : S := (.set 2 (.call "check_signs" [(.var 0)] []))
def bCw1 : S := (.ite (.not (.call "is_section" [(.blt .len [(.var 2)]), (.var 1)] [])) [(.rse "NoSection" [(.var 1)])] [])
def bCw2 : S := (.ite (.cmp .eq (.blt .len [(.var 2)]) (.glb "MOST_SECTIONS")) [(.rse "BadWord" [(.con (.int 0)), (.con (.str "many"))])] [])
def bCw3 : S := (.set 3 (.bin .add (.var 1) (.con (.int 1))))
def bCw4 : S := (.ret (.bin .add (.slc (.var 2) [] [(.var 3)]) (.slc (.var 2) [(.var 1)] [])))
def dCw : Fn := ⟨2, 4, [], [], [bCw0, bCw1, bCw2, bCw3, bCw4]⟩
def bCpL : List S := [(.ite (.or (.not (.call "is_whole" [(.var 3), (.con (.int 1)), (.bin .sub (.var 0) (.con (.int 1)))] [])) (.cmp .inn (.var 3) (.var 2))) [(.rse "BadPoles" [])] []), (.app 2 (.var 3))]
def bWwL : List S := [(.ite (.cmp .inn (.var 5) (.var 2)) [(.set 4 (.neg (.var 4)))] []), (.app 3 (.var 4))]
/-- the module's table -/
structure Tw (T : Tb) : Prop extends Tr T where
  xn : T.xc "NoPole" = some ([("pole" : Str)] : List Str)
  xs : T.xc "NoSection" = some ([("section" : Str)] : List Str)
  xb : T.xc "BadCount" = some ([] : List Str)
  xp : T.xc "BadPoles" = some ([] : List Str)
  is : T.fn "is_section" = some dIs
  cc : T.fn "check_count" = some dCc
  cp : T.fn "check_poles" = some dCp
  co : T.fn "crossings_of" = some dCo
  ww : T.fn "word_with" = some dWw
  tw : T.fn "turned_word" = some dTw
  ca : T.fn "crossed_at" = some dCa
  bw : T.fn "backward_word" = some dBw
  cw : T.fn "cut_word" = some dCw
def inR (lo hi : Int) : GV → Bool
  | .int i => decide (lo ≤ i) && decide (i ≤ hi)
  | _ => false
section
variable {T : Tb} {wf k : Nat} {G : Cells}
theorem whole_r (hW : T.fn "is_whole" = some dWhole) {v : GV} (h : plainG v = true) (lo hi : Int) : callK T wf (k + 1) "is_whole" [v, .int lo, .int hi] G = .ok (.bl (inR lo hi v)) G := by
  rw [callK_step hW rfl]
  show finR (execL _ bWhole [.val v, .val (.int lo), .val (.int hi)] G) = _
  cases v with
  | int i =>
    have e1 : bltV .isi [.int i, .ty "bool"] = some (.bl false) := rfl
    have e2 : bltV .isi [.int i, .ty "int"] = some (.bl true) := rfl
    have n1 : cmpV .isN (.int lo) .non = some true := rfl
    have n2 : cmpV .isI (.int hi) .non = some false := rfl
    by_cases c1 : i < lo
    · have d1 : decide (i < lo) = true := decide_eq_true c1
      have r : inR lo hi (.int i) = false := by show (decide (lo ≤ i) && decide (i ≤ hi)) = false; rw [decide_eq_false (by omega)]; rfl
      rw [r]
      simp only [bWhole, execL, finR, execS, evalE, evalL, evalLB, bor, Res.bind, Res.of, Res.thn, rd, rdB, tstE, tru_bl, int_int, eq_int, lt_int, le_int, gt_int, ge_int, ne_int, add_ok, sub_ok, List.set_cons_zero, List.set_cons_succ, List.getElem?_cons_zero, List.getElem?_cons_succ, Option.map_some, if_true, if_false, Bool.false_eq_true, Bool.not_true, Bool.not_false, Rs.seq, exl_nil, List.append_nil, e1, e2, n1, n2, d1]
    · have d1 : decide (i < lo) = false := decide_eq_false c1
      have r : inR lo hi (.int i) = decide (i ≤ hi) := by show (decide (lo ≤ i) && decide (i ≤ hi)) = _; rw [decide_eq_true (by omega)]; rfl
      rw [r]
      simp only [bWhole, execL, finR, execS, evalE, evalL, evalLB, bor, Res.bind, Res.of, Res.thn, rd, rdB, tstE, tru_bl, int_int, eq_int, lt_int, le_int, gt_int, ge_int, ne_int, add_ok, sub_ok, List.set_cons_zero, List.set_cons_succ, List.getElem?_cons_zero, List.getElem?_cons_succ, Option.map_some, if_true, if_false, Bool.false_eq_true, Bool.not_true, Bool.not_false, Rs.seq, exl_nil, List.append_nil, e1, e2, n1, n2, d1]
  | bl b =>
    have e1 : bltV .isi [.bl b, .ty "bool"] = some (.bl true) := rfl
    simp only [bWhole, execL, finR, execS, evalE, evalL, evalLB, bor, Res.bind, Res.of, Res.thn, rd, rdB, tstE, tru_bl, int_int, eq_int, lt_int, le_int, gt_int, ge_int, ne_int, add_ok, sub_ok, List.set_cons_zero, List.set_cons_succ, List.getElem?_cons_zero, List.getElem?_cons_succ, Option.map_some, if_true, if_false, Bool.false_eq_true, Bool.not_true, Bool.not_false, Rs.seq, exl_nil, List.append_nil, e1, inR]
  | non =>
    have e1 : bltV .isi [.non, .ty "bool"] = some (.bl false) := rfl
    have e2 : bltV .isi [.non, .ty "int"] = some (.bl false) := rfl
    simp only [bWhole, execL, finR, execS, evalE, evalL, evalLB, bor, Res.bind, Res.of, Res.thn, rd, rdB, tstE, tru_bl, int_int, eq_int, lt_int, le_int, gt_int, ge_int, ne_int, add_ok, sub_ok, List.set_cons_zero, List.set_cons_succ, List.getElem?_cons_zero, List.getElem?_cons_succ, Option.map_some, if_true, if_false, Bool.false_eq_true, Bool.not_true, Bool.not_false, Rs.seq, exl_nil, List.append_nil, e1, e2, inR]
  | str x =>
    have e1 : bltV .isi [.str x, .ty "bool"] = some (.bl false) := rfl
    have e2 : bltV .isi [.str x, .ty "int"] = some (.bl false) := rfl
    simp only [bWhole, execL, finR, execS, evalE, evalL, evalLB, bor, Res.bind, Res.of, Res.thn, rd, rdB, tstE, tru_bl, int_int, eq_int, lt_int, le_int, gt_int, ge_int, ne_int, add_ok, sub_ok, List.set_cons_zero, List.set_cons_succ, List.getElem?_cons_zero, List.getElem?_cons_succ, Option.map_some, if_true, if_false, Bool.false_eq_true, Bool.not_true, Bool.not_false, Rs.seq, exl_nil, List.append_nil, e1, e2, inR]
  | tup x =>
    have e1 : bltV .isi [.tup x, .ty "bool"] = some (.bl false) := rfl
    have e2 : bltV .isi [.tup x, .ty "int"] = some (.bl false) := rfl
    simp only [bWhole, execL, finR, execS, evalE, evalL, evalLB, bor, Res.bind, Res.of, Res.thn, rd, rdB, tstE, tru_bl, int_int, eq_int, lt_int, le_int, gt_int, ge_int, ne_int, add_ok, sub_ok, List.set_cons_zero, List.set_cons_succ, List.getElem?_cons_zero, List.getElem?_cons_succ, Option.map_some, if_true, if_false, Bool.false_eq_true, Bool.not_true, Bool.not_false, Rs.seq, exl_nil, List.append_nil, e1, e2, inR]
  | _ => cases h
theorem section_ok (t : Tw T) {v : GV} (h : plainG v = true) (n : Nat) : callK T wf (k + 2) "is_section" [.int n, v] G = .ok (.bl (inR 0 ((n : Int) - 1) v)) G := by
  have hw := whole_r (wf := wf) (k := k) (G := G) t.w h 0 ((n : Int) - 1)
  rw [callK_step t.is rfl]
  show finR (execL _ [bIs0] [.val (.int n), .val v] G) = _
  rw [exl_cons]
  simp only [bIs0, execS, evalE, evalL, evalLB, bor, Res.bind, Res.of, Res.thn, rd, rdB, tstE, tru_bl, int_int, eq_int, lt_int, le_int, gt_int, ge_int, ne_int, add_ok, sub_ok, List.set_cons_zero, List.set_cons_succ, List.getElem?_cons_zero, List.getElem?_cons_succ, Option.map_some, if_true, if_false, Bool.false_eq_true, Bool.not_true, Bool.not_false, Rs.seq, exl_nil, List.append_nil, hw, finR]
theorem count_good (t : Tw T) {n : Nat} (h1 : 1 ≤ n) (h2 : n ≤ 24) : callK T wf (k + 2) "check_count" [.int n, .int 24] G = .ok (.int n) G := by
  have hw := whole_r (wf := wf) (k := k) (G := G) t.w (v := .int n) rfl 1 24
  have hr : inR 1 24 (.int n) = true := by show (decide (1 ≤ (n : Int)) && decide ((n : Int) ≤ 24)) = true; rw [decide_eq_true (by omega), decide_eq_true (by omega)]; rfl
  rw [hr] at hw
  rw [callK_step t.cc rfl]
  show finR (execL _ [bCc0, bCc1] [.val (.int n), .val (.int 24)] G) = _
  rw [exl_cons]
  simp only [bCc0, execS, evalE, evalL, evalLB, bor, Res.bind, Res.of, Res.thn, rd, rdB, tstE, tru_bl, int_int, eq_int, lt_int, le_int, gt_int, ge_int, ne_int, add_ok, sub_ok, List.set_cons_zero, List.set_cons_succ, List.getElem?_cons_zero, List.getElem?_cons_succ, Option.map_some, if_true, if_false, Bool.false_eq_true, Bool.not_true, Bool.not_false, Rs.seq, exl_nil, List.append_nil, hw]
  rw [exl_cons]
  simp only [bCc1, execS, evalE, evalL, evalLB, bor, Res.bind, Res.of, Res.thn, rd, rdB, tstE, tru_bl, int_int, eq_int, lt_int, le_int, gt_int, ge_int, ne_int, add_ok, sub_ok, List.set_cons_zero, List.set_cons_succ, List.getElem?_cons_zero, List.getElem?_cons_succ, Option.map_some, if_true, if_false, Bool.false_eq_true, Bool.not_true, Bool.not_false, Rs.seq, exl_nil, List.append_nil, finR]
theorem count_bad (t : Tw T) {v : GV} (h : plainG v = true) (hr : inR 1 24 v = false) : callK T wf (k + 2) "check_count" [v, .int 24] G = .ex "BadCount" [] G := by
  have hw := whole_r (wf := wf) (k := k) (G := G) t.w h 1 24
  rw [hr] at hw
  have hxl : ([] : List Str).length = ([] : List GV).length := rfl
  rw [callK_step t.cc rfl]
  show finR (execL _ [bCc0, bCc1] [.val v, .val (.int 24)] G) = _
  rw [exl_cons]
  simp only [bCc0, execS, evalE, evalL, evalLB, bor, Res.bind, Res.of, Res.thn, rd, rdB, tstE, tru_bl, int_int, eq_int, lt_int, le_int, gt_int, ge_int, ne_int, add_ok, sub_ok, List.set_cons_zero, List.set_cons_succ, List.getElem?_cons_zero, List.getElem?_cons_succ, Option.map_some, if_true, if_false, Bool.false_eq_true, Bool.not_true, Bool.not_false, Rs.seq, exl_nil, List.append_nil, hw, execL, t.xb, hxl, finR]
/-! check_poles -/
theorem poles_loop (t : Tw T) {n : Nat} {v : GV} : ∀ (suf pre : List Int) (s3 : Sl), (pre ++ suf).Nodup → (∀ x ∈ suf, 1 ≤ x ∧ x < n) → pre.length + suf.length ≤ 1000 →
    ∃ s3', loopF (.name 3) (execL ⟨T, callK T wf (k + 1), wf, none⟩ bCpL) (suf.map .int) [.val (.int n), .val v, .own (pre.map .int), s3] G = .nx [.val (.int n), .val v, .own ((pre ++ suf).map .int), s3'] G
  | [], pre, s3, _, _, _ => ⟨s3, by rw [List.append_nil]; rfl⟩
  | x :: suf, pre, s3, hn, hb, hz => by
    obtain ⟨b1, b2⟩ := hb x List.mem_cons_self
    have hx : x ∉ pre := fun hm => by
      have := (List.nodup_append.mp hn).2.2 x hm x List.mem_cons_self
      exact this rfl
    have hw := whole_r (wf := wf) (k := k) (G := G) t.w (v := .int x) rfl 1 ((n : Int) - 1)
    have hr : inR 1 ((n : Int) - 1) (.int x) = true := by show (decide (1 ≤ x) && decide (x ≤ (n : Int) - 1)) = true; rw [decide_eq_true b1, decide_eq_true (by omega)]; rfl
    rw [hr] at hw
    have hin : cmpV .inn (.int x) (.lst (pre.map .int)) = some false := by rw [in_lst, decide_eq_false hx]
    have hset : setTg (.name 3) (.int x) [.val (.int n), .val v, .own (pre.map .int), s3] = some [.val (.int n), .val v, .own (pre.map .int), .val (.int x)] := rfl
    have hlen : (pre.map GV.int).length < sizeLine := small_sz (by rw [List.length_map]; simp at hz; omega)
    have hstep : execL ⟨T, callK T wf (k + 1), wf, none⟩ bCpL [.val (.int n), .val v, .own (pre.map .int), .val (.int x)] G = .nx [.val (.int n), .val v, .own ((pre ++ [x]).map .int), .val (.int x)] G := by
      have eo : ownAt [.val (.int n), .val v, .own (pre.map .int), .val (.int x)] 2 = true := rfl
      have eg : gApp 2 [.val (.int n), .val v, .own (pre.map .int), .val (.int x)] (.int x) G = .nx [.val (.int n), .val v, .own ((pre ++ [x]).map .int), .val (.int x)] G := by
        show (if (pre.map GV.int).length < sizeLine then Rs.nx _ G else .no) = _
        rw [if_pos hlen, List.map_append]; rfl
      show execL _ [_, _] _ G = _
      rw [exl_cons]
      simp only [execS, evalE, evalL, evalLB, bor, Res.bind, Res.of, Res.thn, rd, rdB, tstE, tru_bl, int_int, eq_int, lt_int, le_int, gt_int, ge_int, ne_int, add_ok, sub_ok, List.set_cons_zero, List.set_cons_succ, List.getElem?_cons_zero, List.getElem?_cons_succ, Option.map_some, if_true, if_false, Bool.false_eq_true, Bool.not_true, Bool.not_false, Rs.seq, exl_nil, List.append_nil, hw, hin]
      rw [exl_cons]
      simp only [execS, evalE, evalL, evalLB, bor, Res.bind, Res.of, Res.thn, rd, rdB, tstE, tru_bl, int_int, eq_int, lt_int, le_int, gt_int, ge_int, ne_int, add_ok, sub_ok, List.set_cons_zero, List.set_cons_succ, List.getElem?_cons_zero, List.getElem?_cons_succ, Option.map_some, if_true, if_false, Bool.false_eq_true, Bool.not_true, Bool.not_false, Rs.seq, exl_nil, List.append_nil, eo, eg]
    rw [List.map_cons, loopF_nx hset hstep]
    obtain ⟨s3', e⟩ := poles_loop t (n := n) (v := v) suf (pre ++ [x]) (.val (.int x)) (by simpa using hn) (fun y hy => hb y (List.mem_cons_of_mem _ hy)) (by simp at hz ⊢; omega)
    exact ⟨s3', by rw [e]; simp⟩
theorem intsG_map : ∀ l : List Int, intsG (l.map .int) = some l
  | [] => rfl
  | x :: l => by
    show (intsG (l.map .int)).map (x :: ·) = _
    rw [intsG_map l]; rfl
theorem srt_ok (l : List Int) : bltV .sorted [.lst (l.map .int)] = some (.lst ((srtI l).map .int)) := by
  show (intsG (l.map .int)).map (fun ns => GV.lst ((srtI ns).map .int)) = _
  rw [intsG_map]; rfl
theorem poles_good (t : Tw T) {n : Nat} {v : GV} {l : List Int} (hv : Sq v (l.map .int)) (hn : l.Nodup) (hb : ∀ x ∈ l, 1 ≤ x ∧ x < n) (hz : l.length ≤ 1000) : callK T wf (k + 2) "check_poles" [.int n, v] G = .ok (.tup ((srtI l).map .int)) G := by
  have zt : szOk [GV.ty "list", GV.ty "tuple"].length = true := sz_ok (by decide)
  have zt0 : szOk ([] : List GV).length = true := sz_ok (by decide)
  have hitm : itmV v = some (l.map .int) := by rcases hv with rfl | rfl <;> rfl
  have hit : iterE ⟨T, callK T wf (k + 1), wf, none⟩ (.seqs (.var 1)) [.val (.int n), .val v, .own [], .no] G = .ok (l.map .int) G := by
    simp only [iterE, execS, evalE, evalL, evalLB, bor, Res.bind, Res.of, Res.thn, rd, rdB, tstE, tru_bl, int_int, eq_int, lt_int, le_int, gt_int, ge_int, ne_int, add_ok, sub_ok, List.set_cons_zero, List.set_cons_succ, List.getElem?_cons_zero, List.getElem?_cons_succ, Option.map_some, if_true, if_false, Bool.false_eq_true, Bool.not_true, Bool.not_false, Rs.seq, exl_nil, List.append_nil, hitm]
  obtain ⟨s3', hl⟩ := poles_loop (wf := wf) (k := k) (G := G) t (n := n) (v := v) l [] .no (by simpa using hn) hb (by simpa using hz)
  have e2 : execS ⟨T, callK T wf (k + 1), wf, none⟩ bCp2 [.val (.int n), .val v, .own [], .no] G = .nx [.val (.int n), .val v, .own (l.map .int), s3'] G := (ex_forr hit).trans hl
  have ht : ∀ {xs : List GV}, bltV .tupl [.lst xs] = some (.tup xs) := rfl
  rw [callK_step t.cp rfl]
  show finR (execL _ [bCp0, bCp1, bCp2, bCp3] [.val (.int n), .val v, .no, .no] G) = _
  rw [exl_cons]
  simp only [bCp0, execS, evalE, evalL, evalLB, bor, Res.bind, Res.of, Res.thn, rd, rdB, tstE, tru_bl, int_int, eq_int, lt_int, le_int, gt_int, ge_int, ne_int, add_ok, sub_ok, List.set_cons_zero, List.set_cons_succ, List.getElem?_cons_zero, List.getElem?_cons_succ, Option.map_some, if_true, if_false, Bool.false_eq_true, Bool.not_true, Bool.not_false, Rs.seq, exl_nil, List.append_nil, zt, hv.isi]
  rw [exl_cons]
  simp only [bCp1, execS, evalE, evalL, evalLB, bor, Res.bind, Res.of, Res.thn, rd, rdB, tstE, tru_bl, int_int, eq_int, lt_int, le_int, gt_int, ge_int, ne_int, add_ok, sub_ok, List.set_cons_zero, List.set_cons_succ, List.getElem?_cons_zero, List.getElem?_cons_succ, Option.map_some, if_true, if_false, Bool.false_eq_true, Bool.not_true, Bool.not_false, Rs.seq, exl_nil, List.append_nil, zt0, gOwn]
  rw [exl_nx e2, exl_cons]
  simp only [bCp3, execS, evalE, evalL, evalLB, bor, Res.bind, Res.of, Res.thn, rd, rdB, tstE, tru_bl, int_int, eq_int, lt_int, le_int, gt_int, ge_int, ne_int, add_ok, sub_ok, List.set_cons_zero, List.set_cons_succ, List.getElem?_cons_zero, List.getElem?_cons_succ, Option.map_some, if_true, if_false, Bool.false_eq_true, Bool.not_true, Bool.not_false, Rs.seq, exl_nil, List.append_nil, srt_ok, ht, finR]
theorem poles_no (t : Tw T) {n v : GV} (hv : bltV .isi [v, .tup [.ty "list", .ty "tuple"]] = some (.bl false)) : callK T wf (k + 2) "check_poles" [n, v] G = .ex "BadPoles" [] G := by
  have zt : szOk [GV.ty "list", GV.ty "tuple"].length = true := sz_ok (by decide)
  have hxl : ([] : List Str).length = ([] : List GV).length := rfl
  rw [callK_step t.cp rfl]
  show finR (execL _ [bCp0, bCp1, bCp2, bCp3] [.val n, .val v, .no, .no] G) = _
  rw [exl_cons]
  simp only [bCp0, execS, evalE, evalL, evalLB, bor, Res.bind, Res.of, Res.thn, rd, rdB, tstE, tru_bl, int_int, eq_int, lt_int, le_int, gt_int, ge_int, ne_int, add_ok, sub_ok, List.set_cons_zero, List.set_cons_succ, List.getElem?_cons_zero, List.getElem?_cons_succ, Option.map_some, if_true, if_false, Bool.false_eq_true, Bool.not_true, Bool.not_false, Rs.seq, exl_nil, List.append_nil, zt, hv, execL, t.xp, hxl, finR]
theorem poles_bad (t : Tw T) {n : Nat} {x : GV} {xs : List GV} (hx : plainG x = true) (hr : inR 1 ((n : Int) - 1) x = false) : callK T wf (k + 2) "check_poles" [.int n, .lst (x :: xs)] G = .ex "BadPoles" [] G := by
  have zt : szOk [GV.ty "list", GV.ty "tuple"].length = true := sz_ok (by decide)
  have zt0 : szOk ([] : List GV).length = true := sz_ok (by decide)
  have hv : bltV .isi [.lst (x :: xs), .tup [.ty "list", .ty "tuple"]] = some (.bl true) := by kernel_rfl
  have hxl : ([] : List Str).length = ([] : List GV).length := rfl
  have hw := whole_r (wf := wf) (k := k) (G := G) t.w hx 1 ((n : Int) - 1)
  rw [hr] at hw
  have hit : iterE ⟨T, callK T wf (k + 1), wf, none⟩ (.seqs (.var 1)) [.val (.int n), .val (.lst (x :: xs)), .own [], .no] G = .ok (x :: xs) G := by
    simp only [iterE, execS, evalE, evalL, evalLB, bor, Res.bind, Res.of, Res.thn, rd, rdB, tstE, tru_bl, int_int, eq_int, lt_int, le_int, gt_int, ge_int, ne_int, add_ok, sub_ok, List.set_cons_zero, List.set_cons_succ, List.getElem?_cons_zero, List.getElem?_cons_succ, Option.map_some, if_true, if_false, Bool.false_eq_true, Bool.not_true, Bool.not_false, Rs.seq, exl_nil, List.append_nil, itmV]
  have hset : setTg (.name 3) x [.val (.int n), .val (.lst (x :: xs)), .own [], .no] = some [.val (.int n), .val (.lst (x :: xs)), .own [], .val x] := rfl
  have hstep : execL ⟨T, callK T wf (k + 1), wf, none⟩ bCpL [.val (.int n), .val (.lst (x :: xs)), .own [], .val x] G = .ex "BadPoles" [] [.val (.int n), .val (.lst (x :: xs)), .own [], .val x] G := by
    show execL _ [_, _] _ G = _
    rw [exl_cons]
    simp only [execS, evalE, evalL, evalLB, bor, Res.bind, Res.of, Res.thn, rd, rdB, tstE, tru_bl, int_int, eq_int, lt_int, le_int, gt_int, ge_int, ne_int, add_ok, sub_ok, List.set_cons_zero, List.set_cons_succ, List.getElem?_cons_zero, List.getElem?_cons_succ, Option.map_some, if_true, if_false, Bool.false_eq_true, Bool.not_true, Bool.not_false, Rs.seq, exl_nil, List.append_nil, hw, execL, t.xp, hxl]
  have e2 : execS ⟨T, callK T wf (k + 1), wf, none⟩ bCp2 [.val (.int n), .val (.lst (x :: xs)), .own [], .no] G = .ex "BadPoles" [] [.val (.int n), .val (.lst (x :: xs)), .own [], .val x] G := (ex_forr hit).trans (loopF_ex hset hstep)
  rw [callK_step t.cp rfl]
  show finR (execL _ [bCp0, bCp1, bCp2, bCp3] [.val (.int n), .val (.lst (x :: xs)), .no, .no] G) = _
  rw [exl_cons]
  simp only [bCp0, execS, evalE, evalL, evalLB, bor, Res.bind, Res.of, Res.thn, rd, rdB, tstE, tru_bl, int_int, eq_int, lt_int, le_int, gt_int, ge_int, ne_int, add_ok, sub_ok, List.set_cons_zero, List.set_cons_succ, List.getElem?_cons_zero, List.getElem?_cons_succ, Option.map_some, if_true, if_false, Bool.false_eq_true, Bool.not_true, Bool.not_false, Rs.seq, exl_nil, List.append_nil, zt, hv]
  rw [exl_cons]
  simp only [bCp1, execS, evalE, evalL, evalLB, bor, Res.bind, Res.of, Res.thn, rd, rdB, tstE, tru_bl, int_int, eq_int, lt_int, le_int, gt_int, ge_int, ne_int, add_ok, sub_ok, List.set_cons_zero, List.set_cons_succ, List.getElem?_cons_zero, List.getElem?_cons_succ, Option.map_some, if_true, if_false, Bool.false_eq_true, Bool.not_true, Bool.not_false, Rs.seq, exl_nil, List.append_nil, zt0, gOwn]
  rw [exl_ex e2]
  rfl
theorem poles_dup (t : Tw T) {n : Nat} {x : Int} (h1 : 1 ≤ x) (h2 : x < n) : callK T wf (k + 2) "check_poles" [.int n, .lst [.int x, .int x]] G = .ex "BadPoles" [] G := by
  have zt : szOk [GV.ty "list", GV.ty "tuple"].length = true := sz_ok (by decide)
  have zt0 : szOk ([] : List GV).length = true := sz_ok (by decide)
  have hv : bltV .isi [.lst [.int x, .int x], .tup [.ty "list", .ty "tuple"]] = some (.bl true) := by kernel_rfl
  have hxl : ([] : List Str).length = ([] : List GV).length := rfl
  have hw := whole_r (wf := wf) (k := k) (G := G) t.w (v := .int x) rfl 1 ((n : Int) - 1)
  have hr : inR 1 ((n : Int) - 1) (.int x) = true := by show (decide (1 ≤ x) && decide (x ≤ (n : Int) - 1)) = true; rw [decide_eq_true h1, decide_eq_true (by omega)]; rfl
  rw [hr] at hw
  obtain ⟨s3', hl⟩ := poles_loop (wf := wf) (k := k) (G := G) t (n := n) (v := .lst [.int x, .int x]) [x] [] .no (by simp) (by simp [h1, h2]) (by simp)
  have hit : iterE ⟨T, callK T wf (k + 1), wf, none⟩ (.seqs (.var 1)) [.val (.int n), .val (.lst [.int x, .int x]), .own [], .no] G = .ok [.int x, .int x] G := by
    simp only [iterE, execS, evalE, evalL, evalLB, bor, Res.bind, Res.of, Res.thn, rd, rdB, tstE, tru_bl, int_int, eq_int, lt_int, le_int, gt_int, ge_int, ne_int, add_ok, sub_ok, List.set_cons_zero, List.set_cons_succ, List.getElem?_cons_zero, List.getElem?_cons_succ, Option.map_some, if_true, if_false, Bool.false_eq_true, Bool.not_true, Bool.not_false, Rs.seq, exl_nil, List.append_nil, itmV]
  have hin : cmpV .inn (.int x) (.lst [.int x]) = some true := by
    have := in_lst (l := [x]) (j := x)
    rw [decide_eq_true (by simp)] at this
    exact this
  have hin0 : cmpV .inn (.int x) (.lst []) = some false := by
    have := in_lst (l := []) (j := x)
    rw [decide_eq_false (by simp)] at this
    exact this
  have s1 : execL ⟨T, callK T wf (k + 1), wf, none⟩ bCpL [.val (.int n), .val (.lst [.int x, .int x]), .own [], .val (.int x)] G = .nx [.val (.int n), .val (.lst [.int x, .int x]), .own [.int x], .val (.int x)] G := by
    have eo : ownAt [.val (.int n), .val (.lst [.int x, .int x]), .own [], .val (.int x)] 2 = true := rfl
    have eg : gApp 2 [.val (.int n), .val (.lst [.int x, .int x]), .own [], .val (.int x)] (.int x) G = .nx [.val (.int n), .val (.lst [.int x, .int x]), .own [.int x], .val (.int x)] G := by
      show (if ([] : List GV).length < sizeLine then Rs.nx _ G else .no) = _
      rw [if_pos (small_sz (by decide))]; rfl
    show execL _ [_, _] _ G = _
    rw [exl_cons]
    simp only [execS, evalE, evalL, evalLB, bor, Res.bind, Res.of, Res.thn, rd, rdB, tstE, tru_bl, int_int, eq_int, lt_int, le_int, gt_int, ge_int, ne_int, add_ok, sub_ok, List.set_cons_zero, List.set_cons_succ, List.getElem?_cons_zero, List.getElem?_cons_succ, Option.map_some, if_true, if_false, Bool.false_eq_true, Bool.not_true, Bool.not_false, Rs.seq, exl_nil, List.append_nil, hw, hin0]
    rw [exl_cons]
    simp only [execS, evalE, evalL, evalLB, bor, Res.bind, Res.of, Res.thn, rd, rdB, tstE, tru_bl, int_int, eq_int, lt_int, le_int, gt_int, ge_int, ne_int, add_ok, sub_ok, List.set_cons_zero, List.set_cons_succ, List.getElem?_cons_zero, List.getElem?_cons_succ, Option.map_some, if_true, if_false, Bool.false_eq_true, Bool.not_true, Bool.not_false, Rs.seq, exl_nil, List.append_nil, eo, eg]
  have s2 : execL ⟨T, callK T wf (k + 1), wf, none⟩ bCpL [.val (.int n), .val (.lst [.int x, .int x]), .own [.int x], .val (.int x)] G = .ex "BadPoles" [] [.val (.int n), .val (.lst [.int x, .int x]), .own [.int x], .val (.int x)] G := by
    show execL _ [_, _] _ G = _
    rw [exl_cons]
    simp only [execS, evalE, evalL, evalLB, bor, Res.bind, Res.of, Res.thn, rd, rdB, tstE, tru_bl, int_int, eq_int, lt_int, le_int, gt_int, ge_int, ne_int, add_ok, sub_ok, List.set_cons_zero, List.set_cons_succ, List.getElem?_cons_zero, List.getElem?_cons_succ, Option.map_some, if_true, if_false, Bool.false_eq_true, Bool.not_true, Bool.not_false, Rs.seq, exl_nil, List.append_nil, hw, hin, execL, t.xp, hxl]
  have e2 : execS ⟨T, callK T wf (k + 1), wf, none⟩ bCp2 [.val (.int n), .val (.lst [.int x, .int x]), .own [], .no] G = .ex "BadPoles" [] [.val (.int n), .val (.lst [.int x, .int x]), .own [.int x], .val (.int x)] G := (ex_forr hit).trans ((loopF_nx rfl s1).trans (loopF_ex rfl s2))
  rw [callK_step t.cp rfl]
  show finR (execL _ [bCp0, bCp1, bCp2, bCp3] [.val (.int n), .val (.lst [.int x, .int x]), .no, .no] G) = _
  rw [exl_cons]
  simp only [bCp0, execS, evalE, evalL, evalLB, bor, Res.bind, Res.of, Res.thn, rd, rdB, tstE, tru_bl, int_int, eq_int, lt_int, le_int, gt_int, ge_int, ne_int, add_ok, sub_ok, List.set_cons_zero, List.set_cons_succ, List.getElem?_cons_zero, List.getElem?_cons_succ, Option.map_some, if_true, if_false, Bool.false_eq_true, Bool.not_true, Bool.not_false, Rs.seq, exl_nil, List.append_nil, zt, hv]
  rw [exl_cons]
  simp only [bCp1, execS, evalE, evalL, evalLB, bor, Res.bind, Res.of, Res.thn, rd, rdB, tstE, tru_bl, int_int, eq_int, lt_int, le_int, gt_int, ge_int, ne_int, add_ok, sub_ok, List.set_cons_zero, List.set_cons_succ, List.getElem?_cons_zero, List.getElem?_cons_succ, Option.map_some, if_true, if_false, Bool.false_eq_true, Bool.not_true, Bool.not_false, Rs.seq, exl_nil, List.append_nil, zt0, gOwn]
  rw [exl_ex e2]
  rfl
end
end Cm
end

section
namespace Cm
open PySem Gm
/-! ### crossings, as whole numbers -/
def cP (w : List Int) (i : Int) : Bool := !(w.getD i.toNat 0 == w.getD (i - 1).toNat 0)
def pl (n : Nat) (p : Int → Bool) : List Int := (rI 1 (n - 1)).filter p
theorem mem_pl {n : Nat} {p : Int → Bool} {x : Int} : x ∈ pl n p ↔ 1 ≤ x ∧ x < n ∧ p x = true := by
  unfold pl
  rw [List.mem_filter, mem_rI]
  constructor
  · rintro ⟨⟨a, b⟩, c⟩; exact ⟨a, by omega, c⟩
  · rintro ⟨a, b, c⟩; exact ⟨⟨a, by omega⟩, c⟩
theorem pl_asc {n : Nat} {p : Int → Bool} : (pl n p).Pairwise (· < ·) := flt_asc (rI_asc _ _)
theorem pl_nd {n : Nat} {p : Int → Bool} : (pl n p).Nodup := asc_nd pl_asc
theorem pl_len {n : Nat} {p : Int → Bool} (h : n ≤ 1000) : (pl n p).length ≤ 1000 := Nat.le_trans (List.length_filter_le _ _) (by rw [rI_len]; omega)
theorem pl_is {n : Nat} {p : Int → Bool} {a : List Int} (ha : a.Pairwise (· < ·)) (h : ∀ x, x ∈ a ↔ 1 ≤ x ∧ x < n ∧ p x = true) : a = pl n p := asc_ext ha pl_asc fun x => (h x).trans mem_pl.symm
theorem pl_congr {n : Nat} {p q : Int → Bool} (h : ∀ x : Int, 1 ≤ x → x < n → p x = q x) : pl n p = pl n q := pl_is pl_asc fun x => by
  rw [mem_pl]
  constructor
  · rintro ⟨a, b, c⟩; exact ⟨a, b, by rw [← h x a b]; exact c⟩
  · rintro ⟨a, b, c⟩; exact ⟨a, b, by rw [h x a b]; exact c⟩
theorem pole_fm {p : Nat → Bool} {q : Int → Bool} : ∀ {ns : List Int}, (∀ x ∈ ns, p x.toNat = q x) → (ns.map GV.int).filterMap (gP p) = (ns.filter q).map .int
  | [], _ => rfl
  | x :: ns, h => by
    have e := h x List.mem_cons_self
    have ih := pole_fm fun y hy => h y (List.mem_cons_of_mem _ hy)
    have eg : gP p (.int x) = if p x.toNat = true then some (.int x) else none := rfl
    rw [List.map_cons, List.filterMap_cons, eg, e, ih, List.filter_cons]
    cases q x <;> simp
theorem polesG_pl (n : Nat) (w : List Int) : polesG n (cutP w) = (pl n (cP w)).map .int := by
  unfold polesG
  rw [rngL_rI, show (((n : Int) - 1).toNat) = n - 1 by omega]
  refine pole_fm fun x hx => ?_
  have := mem_rI.mp hx
  show (!(w.getD x.toNat 0 == w.getD (x.toNat - 1) 0)) = !(w.getD x.toNat 0 == w.getD (x - 1).toNat 0)
  rw [show (x - 1).toNat = x.toNat - 1 by omega]
/-! ### the word with given crossings -/
def sgp (m : Int → Bool) : Nat → Int
  | 0 => 1
  | j + 1 => if m (j : Int) = true then -(sgp m j) else sgp m j
def wof (n : Nat) (m : Int → Bool) : List Int := (List.range n).map fun j => sgp m (j + 1)
theorem sgp_pm (m : Int → Bool) : ∀ j, sgp m j = 1 ∨ sgp m j = -1
  | 0 => .inl rfl
  | j + 1 => by
    show (if m (j : Int) = true then -(sgp m j) else sgp m j) = 1 ∨ (if m (j : Int) = true then -(sgp m j) else sgp m j) = -1
    rcases sgp_pm m j with e | e <;> rw [e] <;> split <;> simp
theorem wof_len (n : Nat) (m : Int → Bool) : (wof n m).length = n := by simp [wof]
theorem wof_succ (n : Nat) (m : Int → Bool) : wof (n + 1) m = wof n m ++ [sgp m (n + 1)] := by simp [wof, List.range_succ]
theorem wof_get {n : Nat} {m : Int → Bool} {i : Nat} (h : i < n) : (wof n m).getD i 0 = sgp m (i + 1) := by simp [wof, List.getD, h]
theorem wof_isW {n : Nat} {m : Int → Bool} (h1 : 1 ≤ n) (h0 : m 0 = false) : IsW n (wof n m) where
  len := wof_len n m
  sg := fun z hz => by
    obtain ⟨j, _, rfl⟩ := List.mem_map.mp hz
    exact sgp_pm m _
  hd := by
    have e : sgp m 1 = 1 := by show (if m ((0 : Nat) : Int) = true then -(sgp m 0) else sgp m 0) = 1; rw [show m ((0 : Nat) : Int) = false from h0]; rfl
    simp [wof, e, show 0 < n by omega]
theorem wof_cut {n : Nat} {m : Int → Bool} {x : Int} (h1 : 1 ≤ x) (h2 : x < n) : cP (wof n m) x = m x := by
  unfold cP
  rw [wof_get (by omega), wof_get (by omega)]
  have e1 : (x - 1).toNat + 1 = x.toNat := by omega
  have e2 : sgp m (x.toNat + 1) = if m x = true then -(sgp m x.toNat) else sgp m x.toNat := by
    show (if m ((x.toNat : Nat) : Int) = true then _ else _) = _
    rw [show ((x.toNat : Nat) : Int) = x by omega]
  rw [e1, e2]
  rcases sgp_pm m x.toNat with e | e <;> rw [e] <;> cases m x <;> simp
theorem wof_pl {n : Nat} {m : Int → Bool} : pl n (cP (wof n m)) = pl n m := pl_congr fun x h1 h2 => wof_cut h1 h2
theorem wof_of {n : Nat} {w : List Int} {m : Int → Bool} (hw : IsW n w) (h0 : m 0 = false) (h : ∀ x : Int, 1 ≤ x → x < n → m x = cP w x) : wof n m = w := by
  have key : ∀ i, i < n → sgp m (i + 1) = w.getD i 0 := by
    intro i
    induction i with
    | zero =>
      intro _
      have e : w.getD 0 0 = 1 := by simp [List.getD, hw.hd]
      rw [e]
      show (if m ((0 : Nat) : Int) = true then -(sgp m 0) else sgp m 0) = 1
      rw [show m ((0 : Nat) : Int) = false from h0]; rfl
    | succ i ih =>
      intro hi
      have hm := h ((i + 1 : Nat) : Int) (by omega) (by omega)
      have e1 := ih (by omega)
      have g1 := sgn_get hw.sg (i := i) (by rw [hw.len]; omega)
      have g2 := sgn_get hw.sg (i := i + 1) (by rw [hw.len]; omega)
      show (if m ((i + 1 : Nat) : Int) = true then -(sgp m (i + 1)) else sgp m (i + 1)) = _
      rw [hm, e1]
      have ec : cP w ((i + 1 : Nat) : Int) = !(w.getD (i + 1) 0 == w.getD i 0) := by
        unfold cP
        rw [show (((i + 1 : Nat) : Int)).toNat = i + 1 by omega, show (((i + 1 : Nat) : Int) - 1).toNat = i by omega]
      rw [ec]
      rcases g1 with a | a <;> rcases g2 with b | b <;> rw [a, b] <;> rfl
  refine ext_getD (by rw [wof_len, hw.len]) fun i hi => ?_
  rw [wof_len] at hi
  rw [wof_get hi, key i hi]
theorem rI_cons (i : Int) (m : Nat) : rI i (m + 1) = i :: rI (i + 1) m := by
  unfold rI
  rw [List.range_succ_eq_map]
  simp [Function.comp_def]
  intro a _; omega
section
variable {T : Tb} {wf k : Nat} {G : Cells}
theorem with_loop {c : Gm.Ctx} {n : Nat} {v : GV} {l : List Int} {M : Int → Bool} (hM : ∀ j : Int, M j = decide (j ∈ l)) : ∀ (r i : Nat) (s5 : Sl), i + r ≤ 1000 →
    ∃ s5', loopF (.name 5) (execL c bWwL) ((rI i r).map .int) [.val (.int n), .val v, .val (.tup (l.map .int)), .own ((wof i M).map .int), .val (.int (sgp M i)), s5] G = .nx [.val (.int n), .val v, .val (.tup (l.map .int)), .own ((wof (i + r) M).map .int), .val (.int (sgp M (i + r))), s5'] G
  | 0, i, s5, _ => ⟨s5, rfl⟩
  | r + 1, i, s5, hz => by
    have hin : cmpV .inn (.int (i : Int)) (.tup (l.map .int)) = some (M (i : Int)) := by rw [in_tup, hM]
    have hset : setTg (.name 5) (.int (i : Int)) [.val (.int n), .val v, .val (.tup (l.map .int)), .own ((wof i M).map .int), .val (.int (sgp M i)), s5] = some [.val (.int n), .val v, .val (.tup (l.map .int)), .own ((wof i M).map .int), .val (.int (sgp M i)), .val (.int (i : Int))] := rfl
    have hlen : ((wof i M).map GV.int).length < sizeLine := small_sz (by rw [List.length_map, wof_len]; omega)
    have hs : execL c bWwL [.val (.int n), .val v, .val (.tup (l.map .int)), .own ((wof i M).map .int), .val (.int (sgp M i)), .val (.int (i : Int))] G = .nx [.val (.int n), .val v, .val (.tup (l.map .int)), .own ((wof (i + 1) M).map .int), .val (.int (sgp M (i + 1))), .val (.int (i : Int))] G := by
      have eo : ∀ z, ownAt [.val (.int n), .val v, .val (.tup (l.map .int)), .own ((wof i M).map .int), .val (.int z), .val (.int (i : Int))] 3 = true := fun _ => rfl
      have eg : gApp 3 [.val (.int n), .val v, .val (.tup (l.map .int)), .own ((wof i M).map .int), .val (.int (sgp M (i + 1))), .val (.int (i : Int))] (.int (sgp M (i + 1))) G = .nx [.val (.int n), .val v, .val (.tup (l.map .int)), .own ((wof (i + 1) M).map .int), .val (.int (sgp M (i + 1))), .val (.int (i : Int))] G := by
        show (if ((wof i M).map GV.int).length < sizeLine then Rs.nx _ G else .no) = _
        rw [if_pos hlen, wof_succ, List.map_append]; rfl
      have es : sgp M (i + 1) = if M (i : Int) = true then -(sgp M i) else sgp M i := rfl
      show execL _ [_, _] _ G = _
      rw [exl_cons]
      cases hm : M (i : Int) with
      | true =>
        rw [hm] at hin es
        rw [if_pos rfl] at es
        simp only [execS, evalE, evalL, evalLB, bor, Res.bind, Res.of, Res.thn, rd, rdB, tstE, tru_bl, int_int, eq_int, lt_int, le_int, gt_int, ge_int, ne_int, add_ok, sub_ok, List.set_cons_zero, List.set_cons_succ, List.getElem?_cons_zero, List.getElem?_cons_succ, Option.map_some, if_true, if_false, Bool.false_eq_true, Bool.not_true, Bool.not_false, Rs.seq, exl_nil, List.append_nil, hin, exl_cons, ← es, eo, eg]
      | false =>
        rw [hm] at hin es
        rw [if_neg (by simp)] at es
        simp only [execS, evalE, evalL, evalLB, bor, Res.bind, Res.of, Res.thn, rd, rdB, tstE, tru_bl, int_int, eq_int, lt_int, le_int, gt_int, ge_int, ne_int, add_ok, sub_ok, List.set_cons_zero, List.set_cons_succ, List.getElem?_cons_zero, List.getElem?_cons_succ, Option.map_some, if_true, if_false, Bool.false_eq_true, Bool.not_true, Bool.not_false, Rs.seq, exl_nil, List.append_nil, hin, exl_cons, ← es, eo, eg]
    rw [rI_cons, List.map_cons, loopF_nx hset hs]
    obtain ⟨s5', e⟩ := with_loop (c := c) (n := n) (v := v) hM r (i + 1) (.val (.int (i : Int))) (by omega)
    refine ⟨s5', ?_⟩
    rw [show ((i : Int) + 1) = ((i + 1 : Nat) : Int) by omega, e, show i + 1 + r = i + (r + 1) by omega]
theorem with_w (t : Tw T) {n : Nat} (h1 : 1 ≤ n) (h2 : n ≤ 24) {v : GV} {l : List Int} (hv : Sq v (l.map .int)) (hn : l.Nodup) (hb : ∀ x ∈ l, 1 ≤ x ∧ x < n) (hz : l.length ≤ 1000) :
    callK T wf (k + 3) "word_with" [.int n, v] G = .ok (.tup ((wof n fun x => decide (x ∈ l)).map .int)) G := by
  have q1 := count_good (wf := wf) (k := k) (G := G) t h1 h2
  have q2 := poles_good (wf := wf) (k := k) (G := G) t (n := n) hv hn hb hz
  have zt0 : szOk ([] : List GV).length = true := sz_ok (by decide)
  obtain ⟨s5', e⟩ := with_loop (c := ⟨T, callK T wf (k + 2), wf, none⟩) (G := G) (n := n) (v := v) (l := srtI l) (M := fun x => decide (x ∈ l)) (fun j => by rw [decide_eq_decide]; exact srt_mem.symm) n 0 .no (by omega)
  have hit : iterE ⟨T, callK T wf (k + 2), wf, none⟩ (.rng [.var 0]) [.val (.int n), .val v, .val (.tup ((srtI l).map .int)), .own [], .val (.int 1), .no] G = .ok ((rI (0 : Nat) n).map .int) G := it_r1 (by simp only [execS, evalE, evalL, evalLB, bor, Res.bind, Res.of, Res.thn, rd, rdB, tstE, tru_bl, int_int, eq_int, lt_int, le_int, gt_int, ge_int, ne_int, add_ok, sub_ok, List.set_cons_zero, List.set_cons_succ, List.getElem?_cons_zero, List.getElem?_cons_succ, Option.map_some, if_true, if_false, Bool.false_eq_true, Bool.not_true, Bool.not_false, Rs.seq, exl_nil, List.append_nil]) (by omega)
  have e4 : execS ⟨T, callK T wf (k + 2), wf, none⟩ bWw4 [.val (.int n), .val v, .val (.tup ((srtI l).map .int)), .own [], .val (.int 1), .no] G = _ := (ex_forr hit).trans e
  rw [Nat.zero_add] at e4
  have ht : ∀ {xs : List GV}, bltV .tupl [.lst xs] = some (.tup xs) := rfl
  rw [callK_step t.ww rfl]
  show finR (execL _ [bWw0, bWw1, bWw2, bWw3, bWw4, bWw5] [.val (.int n), .val v, .no, .no, .no, .no] G) = _
  rw [exl_cons]
  simp only [bWw0, execS, evalE, evalL, evalLB, bor, Res.bind, Res.of, Res.thn, rd, rdB, tstE, tru_bl, int_int, eq_int, lt_int, le_int, gt_int, ge_int, ne_int, add_ok, sub_ok, List.set_cons_zero, List.set_cons_succ, List.getElem?_cons_zero, List.getElem?_cons_succ, Option.map_some, if_true, if_false, Bool.false_eq_true, Bool.not_true, Bool.not_false, Rs.seq, exl_nil, List.append_nil, List.nil_append, List.cons_append, q1]
  rw [exl_cons]
  simp only [bWw1, execS, evalE, evalL, evalLB, bor, Res.bind, Res.of, Res.thn, rd, rdB, tstE, tru_bl, int_int, eq_int, lt_int, le_int, gt_int, ge_int, ne_int, add_ok, sub_ok, List.set_cons_zero, List.set_cons_succ, List.getElem?_cons_zero, List.getElem?_cons_succ, Option.map_some, if_true, if_false, Bool.false_eq_true, Bool.not_true, Bool.not_false, Rs.seq, exl_nil, List.append_nil, q2]
  rw [exl_cons]
  simp only [bWw2, execS, evalE, evalL, evalLB, bor, Res.bind, Res.of, Res.thn, rd, rdB, tstE, tru_bl, int_int, eq_int, lt_int, le_int, gt_int, ge_int, ne_int, add_ok, sub_ok, List.set_cons_zero, List.set_cons_succ, List.getElem?_cons_zero, List.getElem?_cons_succ, Option.map_some, if_true, if_false, Bool.false_eq_true, Bool.not_true, Bool.not_false, Rs.seq, exl_nil, List.append_nil, zt0, gOwn]
  rw [exl_cons]
  simp only [bWw3, execS, evalE, evalL, evalLB, bor, Res.bind, Res.of, Res.thn, rd, rdB, tstE, tru_bl, int_int, eq_int, lt_int, le_int, gt_int, ge_int, ne_int, add_ok, sub_ok, List.set_cons_zero, List.set_cons_succ, List.getElem?_cons_zero, List.getElem?_cons_succ, Option.map_some, if_true, if_false, Bool.false_eq_true, Bool.not_true, Bool.not_false, Rs.seq, exl_nil, List.append_nil]
  rw [exl_nx e4, exl_cons]
  simp only [bWw5, execS, evalE, evalL, evalLB, bor, Res.bind, Res.of, Res.thn, rd, rdB, tstE, tru_bl, int_int, eq_int, lt_int, le_int, gt_int, ge_int, ne_int, add_ok, sub_ok, List.set_cons_zero, List.set_cons_succ, List.getElem?_cons_zero, List.getElem?_cons_succ, Option.map_some, if_true, if_false, Bool.false_eq_true, Bool.not_true, Bool.not_false, Rs.seq, exl_nil, List.append_nil, ht, finR]
theorem with_count (t : Tw T) {v p : GV} (h : plainG v = true) (hr : inR 1 24 v = false) : callK T wf (k + 3) "word_with" [v, p] G = .ex "BadCount" [] G := by
  have q1 := count_bad (wf := wf) (k := k) (G := G) t h hr
  rw [callK_step t.ww rfl]
  show finR (execL _ [bWw0, bWw1, bWw2, bWw3, bWw4, bWw5] [.val v, .val p, .no, .no, .no, .no] G) = _
  rw [exl_cons]
  simp only [bWw0, execS, evalE, evalL, evalLB, bor, Res.bind, Res.of, Res.thn, rd, rdB, tstE, tru_bl, int_int, eq_int, lt_int, le_int, gt_int, ge_int, ne_int, add_ok, sub_ok, List.set_cons_zero, List.set_cons_succ, List.getElem?_cons_zero, List.getElem?_cons_succ, Option.map_some, if_true, if_false, Bool.false_eq_true, Bool.not_true, Bool.not_false, Rs.seq, exl_nil, List.append_nil, List.nil_append, List.cons_append, q1, finR]
theorem with_poles (t : Tw T) {n : Nat} {p : GV} (h1 : 1 ≤ n) (h2 : n ≤ 24) (h : callK T wf (k + 2) "check_poles" [.int n, p] G = .ex "BadPoles" [] G) : callK T wf (k + 3) "word_with" [.int n, p] G = .ex "BadPoles" [] G := by
  have q1 := count_good (wf := wf) (k := k) (G := G) t h1 h2
  rw [callK_step t.ww rfl]
  show finR (execL _ [bWw0, bWw1, bWw2, bWw3, bWw4, bWw5] [.val (.int n), .val p, .no, .no, .no, .no] G) = _
  rw [exl_cons]
  simp only [bWw0, execS, evalE, evalL, evalLB, bor, Res.bind, Res.of, Res.thn, rd, rdB, tstE, tru_bl, int_int, eq_int, lt_int, le_int, gt_int, ge_int, ne_int, add_ok, sub_ok, List.set_cons_zero, List.set_cons_succ, List.getElem?_cons_zero, List.getElem?_cons_succ, Option.map_some, if_true, if_false, Bool.false_eq_true, Bool.not_true, Bool.not_false, Rs.seq, exl_nil, List.append_nil, List.nil_append, List.cons_append, q1]
  rw [exl_cons]
  simp only [bWw1, execS, evalE, evalL, evalLB, bor, Res.bind, Res.of, Res.thn, rd, rdB, tstE, tru_bl, int_int, eq_int, lt_int, le_int, gt_int, ge_int, ne_int, add_ok, sub_ok, List.set_cons_zero, List.set_cons_succ, List.getElem?_cons_zero, List.getElem?_cons_succ, Option.map_some, if_true, if_false, Bool.false_eq_true, Bool.not_true, Bool.not_false, Rs.seq, exl_nil, List.append_nil, h, finR]
/-! ### turned, backward -/
theorem tup_cm {c : Gm.Ctx} {elt cnd : E} {tg : Tg} {own : List Nat} {it : It} {σ : List Sl} {G G1 : Cells} {xs : List GV} (h : evalE c (.cmpr elt tg own it cnd) σ G = .ok (.lst xs) G1) : evalE c (.blt .tupl [.cmpr elt tg own it cnd]) σ G = .ok (.tup xs) G1 :=
  ev_blt1 (e := .cmpr elt tg own it cnd) (v := .lst xs) (show evB c (.cmpr elt tg own it cnd) σ G = _ from h) rfl
theorem mul_sg {a b : Int} (ha : a = 1 ∨ a = -1) (hb : b = 1 ∨ b = -1) : binV .mul (.int a) (.int b) = some (.int (a * b)) := mul_ok (by rcases ha with rfl | rfl <;> decide) (by rcases hb with rfl | rfl <;> decide)
theorem turned_ok (t : Tw T) {v : GV} {w : List Int} {z : Int} (hv : Sq v (w.map .int)) (h1 : 1 ≤ w.length) (h2 : w.length ≤ 24) (hs : Sgn w) (h0 : w[0]? = some z) : callK T wf (k + 3) "turned_word" [v] G = .ok (.tup ((w.map (z * ·)).map .int)) G := by
  have q := row_w (wf := wf) (k := k) (G := G) t.toTr hv h1 h2 hs
  have hz : z = 1 ∨ z = -1 := hs z (List.mem_of_getElem? h0)
  have hix : idxV (.tup (w.map .int)) (.int 0) G = some (.int z) := ixt (a := 0) (by simp [h0])
  have hc := cm_I1 (c := ⟨T, callK T wf (k + 2), wf, none⟩) (elt := (.bin .mul (.idx (.var 1) (.con (.int 0))) (.var 2))) (t := 2) (own := [2]) (it := .seq (.var 1)) (σ := [.val v, .val (.tup (w.map .int)), .no]) (G := G) (ns := w) (z * ·) (it_sq rfl rfl) (by omega) (fun i hi => by
    have hm := mul_sg hz (hs i hi)
    simp only [wipeG, execS, evalE, evalL, evalLB, bor, Res.bind, Res.of, Res.thn, rd, rdB, tstE, tru_bl, int_int, eq_int, lt_int, le_int, gt_int, ge_int, ne_int, add_ok, sub_ok, List.set_cons_zero, List.set_cons_succ, List.getElem?_cons_zero, List.getElem?_cons_succ, Option.map_some, if_true, if_false, Bool.false_eq_true, Bool.not_true, Bool.not_false, Rs.seq, exl_nil, List.append_nil, hix, hm])
  have ht : ∀ {xs : List GV}, bltV .tupl [.lst xs] = some (.tup xs) := rfl
  rw [callK_step t.tw rfl]
  show finR (execL _ [bTw0, bTw1] [.val v, .no, .no] G) = _
  rw [exl_cons]
  simp only [bTw0, execS, evalE, evalL, evalLB, bor, Res.bind, Res.of, Res.thn, rd, rdB, tstE, tru_bl, int_int, eq_int, lt_int, le_int, gt_int, ge_int, ne_int, add_ok, sub_ok, List.set_cons_zero, List.set_cons_succ, List.getElem?_cons_zero, List.getElem?_cons_succ, Option.map_some, if_true, if_false, Bool.false_eq_true, Bool.not_true, Bool.not_false, Rs.seq, exl_nil, List.append_nil, q]
  rw [exl_cons]
  simp only [bTw1, execS, Res.thn, tup_cm hc, Rs.seq, finR]
/-- the word from its other end -/
def bwd (w : List Int) : List Int := w.reverse.map (w.reverse.getD 0 0 * ·)
theorem backward_ok (t : Tw T) {n : Nat} {v : GV} {w : List Int} (hw : IsW n w) (hn1 : 1 ≤ n) (hn : n ≤ 24) (hv : Sq v (w.map .int)) : callK T wf (k + 4) "backward_word" [v] G = .ok (.tup ((bwd w).map .int)) G := by
  have q := hw.sq1 (wf := wf) (k := k) (G := G) hn t.toTr hv
  have hl : w.length = n := hw.len
  have hr : bltV .rev [.tup (w.map .int)] = some (.tup (w.reverse.map .int)) := by
    show (if (w.map GV.int).isEmpty then none else some (GV.tup (w.map GV.int).reverse)) = _
    have : (w.map GV.int).isEmpty = false := by
      cases w with
      | nil => rw [List.length_nil] at hl; omega
      | cons _ _ => rfl
    rw [this, List.map_reverse]; rfl
  have h0 : w.reverse[0]? = some (w.reverse.getD 0 0) := by
    have : 0 < w.reverse.length := by rw [List.length_reverse]; omega
    show _ = some ((w.reverse[0]?).getD 0)
    rw [List.getElem?_eq_getElem this]; rfl
  have q2 := turned_ok (wf := wf) (k := k) (G := G) t (v := .tup (w.reverse.map .int)) (.inl rfl) (by rw [List.length_reverse]; omega) (by rw [List.length_reverse]; omega) (fun z hz => hw.sg z (List.mem_reverse.mp hz)) h0
  rw [callK_step t.bw rfl]
  show finR (execL _ [bBw0] [.val v] G) = _
  rw [exl_cons]
  simp only [bBw0, execS, evalE, evalL, evalLB, bor, Res.bind, Res.of, Res.thn, rd, rdB, tstE, tru_bl, int_int, eq_int, lt_int, le_int, gt_int, ge_int, ne_int, add_ok, sub_ok, List.set_cons_zero, List.set_cons_succ, List.getElem?_cons_zero, List.getElem?_cons_succ, Option.map_some, if_true, if_false, Bool.false_eq_true, Bool.not_true, Bool.not_false, Rs.seq, exl_nil, List.append_nil, q, hr, q2, finR]
  rfl
theorem backward_ex (t : Tw T) {v : GV} {fs : List GV} (h : callK T wf (k + 3) "check_signs" [v] G = .ex "BadWord" fs G) : callK T wf (k + 4) "backward_word" [v] G = .ex "BadWord" fs G := by
  rw [callK_step t.bw rfl]
  show finR (execL _ [bBw0] [.val v] G) = _
  rw [exl_cons]
  simp only [bBw0, execS, evalE, evalL, evalLB, bor, Res.bind, Res.of, Res.thn, rd, rdB, tstE, tru_bl, int_int, eq_int, lt_int, le_int, gt_int, ge_int, ne_int, add_ok, sub_ok, List.set_cons_zero, List.set_cons_succ, List.getElem?_cons_zero, List.getElem?_cons_succ, Option.map_some, if_true, if_false, Bool.false_eq_true, Bool.not_true, Bool.not_false, Rs.seq, exl_nil, List.append_nil, h, finR]
theorem crossings_ex (t : Tw T) {v : GV} {fs : List GV} (h : callK T wf (k + 3) "check_signs" [v] G = .ex "BadWord" fs G) : callK T wf (k + 4) "crossings_of" [v] G = .ex "BadWord" fs G := by
  rw [callK_step t.co rfl]
  show finR (execL _ [bCo0, bCo1] [.val v, .no, .no] G) = _
  rw [exl_cons]
  simp only [bCo0, execS, evalE, evalL, evalLB, bor, Res.bind, Res.of, Res.thn, rd, rdB, tstE, tru_bl, int_int, eq_int, lt_int, le_int, gt_int, ge_int, ne_int, add_ok, sub_ok, List.set_cons_zero, List.set_cons_succ, List.getElem?_cons_zero, List.getElem?_cons_succ, Option.map_some, if_true, if_false, Bool.false_eq_true, Bool.not_true, Bool.not_false, Rs.seq, exl_nil, List.append_nil, h, finR]
theorem crossings_ok (t : Tw T) {n : Nat} {v : GV} {w : List Int} (hw : IsW n w) (hn : n ≤ 24) (hv : Sq v (w.map .int)) : callK T wf (k + 4) "crossings_of" [v] G = .ok (.tup ((pl n (cP w)).map .int)) G := by
  have := cross_ok (wf := wf) (k := k) (G := G) t.toTr t.co hv (by rw [hw.len]; exact hn) hw.sg hw.hd
  rw [this, hw.len, polesG_pl]
end
end Cm
end

section
namespace Cm
open PySem Gm
def bLwi0 : S := (.tryy [(.set 2 (.call "word_with" [(.var 0), (.var 1)] []))] [("BadCount", none, [(.ret (.lst [(.con (.str "count"))]))]), ("BadPoles", none, [(.ret (.lst [(.con (.str "poles"))]))])])
def bLwi1 : S := (.ret (.var 2))
def dLwi : Fn := ⟨2, 3, [], [], [bLwi0, bLwi1]⟩
def bLcr0 : S := (.tryy [(.set 3 (.call "crossed_at" [(.var 0), (.var 1)] []))] [("BadWord", some 2, [(.ret (.lst [(.xfl 2 "index"), (.xfl 2 "what")]))]), ("NoPole", some 2, [(.ret (.lst [(.con (.str "pole")), (.xfl 2 "pole")]))])])
def bLcr1 : S := (.ret (.var 3))
def dLcr : Fn := ⟨2, 4, [], [], [bLcr0, bLcr1]⟩
def bLcu0 : S := (.tryy [(.set 3 (.call "cut_word" [(.var 0), (.var 1)] []))] [("NoSection", some 2, [(.ret (.lst [(.con (.str "section")), (.xfl 2 "section")]))]), ("BadWord", some 2, [(.ret (.lst [(.xfl 2 "index"), (.xfl 2 "what")]))])])
def bLcu1 : S := (.ret (.var 3))
def dLcu : Fn := ⟨2, 4, [], [], [bLcu0, bLcu1]⟩
def bLdo0 : S := (.seto 1 (.lst []))
def bLdo1 : S := (.tryy [(.exp (.call "crossings_of" [(.var 0)] []))] [("BadWord", some 2, [(.app 1 (.lst [(.xfl 2 "index"), (.xfl 2 "what")]))])])
def bLdo2 : S := (.tryy [(.exp (.call "backward_word" [(.var 0)] []))] [("BadWord", some 2, [(.app 1 (.lst [(.xfl 2 "index"), (.xfl 2 "what")]))])])
def bLdo3 : S := (.frz [1] (.ret (.var 1)))
def dLdo : Fn := ⟨1, 3, [], [], [bLdo0, bLdo1, bLdo2, bLdo3]⟩
def bLtu0 : S := (.ret (.blt .tupl [(.cmpr (.bin .mul (.idx (.var 0) (.con (.int 0))) (.var 1)) (.name 1) [1] (.seq (.var 0)) (.con (.bl true)))]))
def dLtu : Fn := ⟨1, 2, [], [], [bLtu0]⟩
def bLba0 : S := (.ret (.call "_law_turned" [(.cmpr (.idx (.var 0) (.bin .sub (.bin .sub (.blt .len [(.var 0)]) (.con (.int 1))) (.var 1))) (.name 1) [1] (.rng [(.blt .len [(.var 0)])]) (.con (.bl true)))] []))
def dLba : Fn := ⟨1, 2, [], [], [bLba0]⟩
/-- the law's own callers -/
structure T5 (T : Tb) : Prop extends Tw T, Th T where
  sA : T.xsub "BadCount" "BadCount" = true
  sB : T.xsub "BadPoles" "BadCount" = false
  sC : T.xsub "BadPoles" "BadPoles" = true
  sD : T.xsub "NoPole" "BadWord" = false
  sE : T.xsub "NoPole" "NoPole" = true
  sF : T.xsub "NoSection" "NoSection" = true
  sG : T.xsub "BadWord" "NoSection" = false
  lw : T.fn "_law_with" = some dLwi
  lc : T.fn "_law_crossed" = some dLcr
  lu : T.fn "_law_cut" = some dLcu
  ld : T.fn "_law_doors" = some dLdo
  lt : T.fn "_law_turned" = some dLtu
  lb : T.fn "_law_back" = some dLba
  lp : T.fn "_law_poles" = some dPl
  li : T.fn "_law_is_word" = some dIw
theorem ev_bin2 {c : Gm.Ctx} {op : Bop} {a b : E} {σ : List Sl} {G G1 G2 : Cells} {x y z : GV} (ha : evB c a σ G = .ok x G1) (hb : evB c b σ G1 = .ok y G2) (h : binV op x y = some z) : evalE c (.bin op a b) σ G = .ok z G2 := by
  have e : evalE c (.bin op a b) σ G = (evB c a σ G).bind fun x G => (evB c b σ G).bind fun y G => Res.of (binV op x y) G := by simp only [evalE, evB]
  rw [e, ha]
  show (evB c b σ G1).bind (fun y G => Res.of (binV op x y) G) = _
  rw [hb]
  show Res.of (binV op x y) G2 = _
  rw [h]; rfl
theorem slc_take {xs : List GV} {p : Nat} : slcV (.tup xs) none (some (p : Int)) = some (.tup (xs.take p)) := by
  show some (GV.tup (cutG xs none (some (p : Int)))) = _
  unfold cutG
  rw [HT.sIx_none, HT.sIx_nat, List.drop_zero, Nat.sub_zero]
  congr 2
  by_cases h : p ≤ xs.length
  · rw [Nat.min_eq_left h]
  · rw [Nat.min_eq_right (by omega), List.take_length, List.take_of_length_le (by omega)]
theorem slc_drop {xs : List GV} {p : Nat} : slcV (.tup xs) (some (p : Int)) none = some (.tup (xs.drop p)) := by
  show some (GV.tup (cutG xs (some (p : Int)) none)) = _
  unfold cutG
  rw [HT.sIx_none, HT.sIx_nat]
  congr 2
  by_cases h : p ≤ xs.length
  · rw [Nat.min_eq_left h, List.take_of_length_le (by rw [List.length_drop]; omega)]
  · rw [Nat.min_eq_right (by omega), Nat.sub_self, List.take_zero, List.drop_eq_nil_of_le (by omega)]
/-- all signs from the pole on turned -/
def fl (w : List Int) (p : Nat) : List Int := w.take p ++ (w.drop p).map (- ·)
/-- the sign of a section twice -/
def ct (w : List Int) (s : Nat) : List Int := w.take (s + 1) ++ w.drop s
section
variable {T : Tb} {wf k : Nat} {G : Cells}
theorem crossed_good (t : Tw T) {n : Nat} {v : GV} {w : List Int} (hw : IsW n w) (hn : n ≤ 24) (hv : Sq v (w.map .int)) {p : Nat} (h1 : 1 ≤ p) (h2 : p < n) : callK T wf (k + 4) "crossed_at" [v, .int p] G = .ok (.tup ((fl w p).map .int)) G := by
  have q := hw.sq1 (wf := wf) (k := k) (G := G) hn t.toTr hv
  have hwl := whole_r (wf := wf) (k := k + 2) (G := G) t.w (v := .int p) rfl 1 ((n : Int) - 1)
  have hr : inR 1 ((n : Int) - 1) (.int p) = true := by show (decide (1 ≤ (p : Int)) && decide ((p : Int) ≤ (n : Int) - 1)) = true; rw [decide_eq_true (by omega), decide_eq_true (by omega)]; rfl
  rw [hr] at hwl
  have hlen : bltV .len [.tup (w.map .int)] = some (.int n) := by show some (GV.int ((w.map GV.int).length : Nat)) = _; rw [List.length_map, hw.len]
  have hl := hw.len
  have hc := cm_I1 (c := ⟨T, callK T wf (k + 3), wf, none⟩) (elt := (.neg (.var 3))) (t := 3) (own := [3]) (it := .seq (.slc (.var 2) [.var 1] [])) (σ := [.val v, .val (.int p), .val (.tup (w.map .int)), .no]) (G := G) (ns := w.drop p) (- ·)
    (by simp only [iterE, execS, evalE, evalL, evalLB, bor, Res.bind, Res.of, Res.thn, rd, rdB, tstE, tru_bl, int_int, eq_int, lt_int, le_int, gt_int, ge_int, ne_int, add_ok, sub_ok, List.set_cons_zero, List.set_cons_succ, List.getElem?_cons_zero, List.getElem?_cons_succ, Option.map_some, if_true, if_false, Bool.false_eq_true, Bool.not_true, Bool.not_false, Rs.seq, exl_nil, List.append_nil, prtL, slc_drop, itmV, List.map_drop]) (by rw [List.length_drop]; omega) (fun i hi => by simp only [wipeG, execS, evalE, evalL, evalLB, bor, Res.bind, Res.of, Res.thn, rd, rdB, tstE, tru_bl, int_int, eq_int, lt_int, le_int, gt_int, ge_int, ne_int, add_ok, sub_ok, List.set_cons_zero, List.set_cons_succ, List.getElem?_cons_zero, List.getElem?_cons_succ, Option.map_some, if_true, if_false, Bool.false_eq_true, Bool.not_true, Bool.not_false, Rs.seq, exl_nil, List.append_nil])
  have ha := tup_app (a := w.take p) (b := (w.drop p).map (- ·)) (by rw [List.length_take, List.length_map, List.length_drop]; omega)
  rw [callK_step t.ca rfl]
  show finR (execL _ [bCa0, bCa1, bCa2] [.val v, .val (.int p), .no, .no] G) = _
  rw [exl_cons]
  simp only [bCa0, execS, evalE, evalL, evalLB, bor, Res.bind, Res.of, Res.thn, rd, rdB, tstE, tru_bl, int_int, eq_int, lt_int, le_int, gt_int, ge_int, ne_int, add_ok, sub_ok, List.set_cons_zero, List.set_cons_succ, List.getElem?_cons_zero, List.getElem?_cons_succ, Option.map_some, if_true, if_false, Bool.false_eq_true, Bool.not_true, Bool.not_false, Rs.seq, exl_nil, List.append_nil, q]
  rw [exl_cons]
  simp only [bCa1, execS, evalE, evalL, evalLB, bor, Res.bind, Res.of, Res.thn, rd, rdB, tstE, tru_bl, int_int, eq_int, lt_int, le_int, gt_int, ge_int, ne_int, add_ok, sub_ok, List.set_cons_zero, List.set_cons_succ, List.getElem?_cons_zero, List.getElem?_cons_succ, Option.map_some, if_true, if_false, Bool.false_eq_true, Bool.not_true, Bool.not_false, Rs.seq, exl_nil, List.append_nil, hlen, hwl]
  rw [exl_cons]
  have hc' := tup_cm hc
  have hs : evalE ⟨T, callK T wf (k + 3), wf, none⟩ (.slc (.var 2) [] [.var 1]) [.val v, .val (.int p), .val (.tup (w.map .int)), .no] G = .ok (.tup ((w.take p).map .int)) G := by
    simp only [execS, evalE, evalL, evalLB, bor, Res.bind, Res.of, Res.thn, rd, rdB, tstE, tru_bl, int_int, eq_int, lt_int, le_int, gt_int, ge_int, ne_int, add_ok, sub_ok, List.set_cons_zero, List.set_cons_succ, List.getElem?_cons_zero, List.getElem?_cons_succ, Option.map_some, if_true, if_false, Bool.false_eq_true, Bool.not_true, Bool.not_false, Rs.seq, exl_nil, List.append_nil, prtL, slc_take, List.map_take]
  have he : evalE ⟨T, callK T wf (k + 3), wf, none⟩ (.bin .add (.slc (.var 2) [] [.var 1]) (.blt .tupl [.cmpr (.neg (.var 3)) (.name 3) [3] (.seq (.slc (.var 2) [.var 1] [])) (.con (.bl true))])) [.val v, .val (.int p), .val (.tup (w.map .int)), .no] G = .ok (.tup ((fl w p).map .int)) G := by
    exact ev_bin2 (show evB ⟨T, callK T wf (k + 3), wf, none⟩ (.slc (.var 2) [] [.var 1]) _ G = _ from hs) (show evB ⟨T, callK T wf (k + 3), wf, none⟩ (.blt .tupl [.cmpr (.neg (.var 3)) (.name 3) [3] (.seq (.slc (.var 2) [.var 1] [])) (.con (.bl true))]) _ G = _ from hc') ha
  simp only [bCa2, execS, he, Res.thn, Rs.seq, finR]
theorem crossed_ex (t : Tw T) {v p : GV} {fs : List GV} (h : callK T wf (k + 3) "check_signs" [v] G = .ex "BadWord" fs G) : callK T wf (k + 4) "crossed_at" [v, p] G = .ex "BadWord" fs G := by
  rw [callK_step t.ca rfl]
  show finR (execL _ [bCa0, bCa1, bCa2] [.val v, .val p, .no, .no] G) = _
  rw [exl_cons]
  simp only [bCa0, execS, evalE, evalL, evalLB, bor, Res.bind, Res.of, Res.thn, rd, rdB, tstE, tru_bl, int_int, eq_int, lt_int, le_int, gt_int, ge_int, ne_int, add_ok, sub_ok, List.set_cons_zero, List.set_cons_succ, List.getElem?_cons_zero, List.getElem?_cons_succ, Option.map_some, if_true, if_false, Bool.false_eq_true, Bool.not_true, Bool.not_false, Rs.seq, exl_nil, List.append_nil, h, finR]
theorem crossed_no (t : Tw T) {n : Nat} {v p : GV} {w : List Int} (hw : IsW n w) (hn : n ≤ 24) (hv : Sq v (w.map .int)) (hp : plainG p = true) (hr : inR 1 ((n : Int) - 1) p = false) : callK T wf (k + 4) "crossed_at" [v, p] G = .ex "NoPole" [p] G := by
  have q := hw.sq1 (wf := wf) (k := k) (G := G) hn t.toTr hv
  have hwl := whole_r (wf := wf) (k := k + 2) (G := G) t.w hp 1 ((n : Int) - 1)
  rw [hr] at hwl
  have hlen : bltV .len [.tup (w.map .int)] = some (.int n) := by show some (GV.int ((w.map GV.int).length : Nat)) = _; rw [List.length_map, hw.len]
  have hxl : ([("pole" : Str)] : List Str).length = [p].length := rfl
  rw [callK_step t.ca rfl]
  show finR (execL _ [bCa0, bCa1, bCa2] [.val v, .val p, .no, .no] G) = _
  rw [exl_cons]
  simp only [bCa0, execS, evalE, evalL, evalLB, bor, Res.bind, Res.of, Res.thn, rd, rdB, tstE, tru_bl, int_int, eq_int, lt_int, le_int, gt_int, ge_int, ne_int, add_ok, sub_ok, List.set_cons_zero, List.set_cons_succ, List.getElem?_cons_zero, List.getElem?_cons_succ, Option.map_some, if_true, if_false, Bool.false_eq_true, Bool.not_true, Bool.not_false, Rs.seq, exl_nil, List.append_nil, q]
  rw [exl_cons]
  simp only [bCa1, execS, evalE, evalL, evalLB, bor, Res.bind, Res.of, Res.thn, rd, rdB, tstE, tru_bl, int_int, eq_int, lt_int, le_int, gt_int, ge_int, ne_int, add_ok, sub_ok, List.set_cons_zero, List.set_cons_succ, List.getElem?_cons_zero, List.getElem?_cons_succ, Option.map_some, if_true, if_false, Bool.false_eq_true, Bool.not_true, Bool.not_false, Rs.seq, exl_nil, List.append_nil, hlen, hwl, execL, t.xn, hxl, finR]
theorem cut_good (t : Tw T) {n : Nat} {v : GV} {w : List Int} (hw : IsW n w) (hn : n < 24) (hv : Sq v (w.map .int)) {s : Nat} (h2 : s < n) : callK T wf (k + 4) "cut_word" [v, .int s] G = .ok (.tup ((ct w s).map .int)) G := by
  have q := hw.sq1 (wf := wf) (k := k) (G := G) (by omega) t.toTr hv
  have hwl := section_ok (wf := wf) (k := k + 1) (G := G) t (v := .int s) rfl n
  have hr : inR 0 ((n : Int) - 1) (.int s) = true := by show (decide (0 ≤ (s : Int)) && decide ((s : Int) ≤ (n : Int) - 1)) = true; rw [decide_eq_true (by omega), decide_eq_true (by omega)]; rfl
  rw [hr] at hwl
  have hlen : bltV .len [.tup (w.map .int)] = some (.int n) := by show some (GV.int ((w.map GV.int).length : Nat)) = _; rw [List.length_map, hw.len]
  have hl := hw.len
  have hne : ((n : Int) == 24) = false := by rw [beq_eq_false_iff_ne]; omega
  have ha := tup_app (a := w.take (s + 1)) (b := w.drop s) (by rw [List.length_take, List.length_drop]; omega)
  have ec : ((s : Int) + 1) = ((s + 1 : Nat) : Int) := by omega
  rw [callK_step t.cw rfl]
  show finR (execL _ [bCw0, bCw1, bCw2, bCw3, bCw4] [.val v, .val (.int s), .no, .no] G) = _
  rw [exl_cons]
  simp only [bCw0, execS, evalE, evalL, evalLB, bor, Res.bind, Res.of, Res.thn, rd, rdB, tstE, tru_bl, int_int, eq_int, lt_int, le_int, gt_int, ge_int, ne_int, add_ok, sub_ok, List.set_cons_zero, List.set_cons_succ, List.getElem?_cons_zero, List.getElem?_cons_succ, Option.map_some, if_true, if_false, Bool.false_eq_true, Bool.not_true, Bool.not_false, Rs.seq, exl_nil, List.append_nil, q]
  rw [exl_cons]
  simp only [bCw1, execS, evalE, evalL, evalLB, bor, Res.bind, Res.of, Res.thn, rd, rdB, tstE, tru_bl, int_int, eq_int, lt_int, le_int, gt_int, ge_int, ne_int, add_ok, sub_ok, List.set_cons_zero, List.set_cons_succ, List.getElem?_cons_zero, List.getElem?_cons_succ, Option.map_some, if_true, if_false, Bool.false_eq_true, Bool.not_true, Bool.not_false, Rs.seq, exl_nil, List.append_nil, hlen, hwl]
  rw [exl_cons]
  simp only [bCw2, execS, evalE, evalL, evalLB, bor, Res.bind, Res.of, Res.thn, rd, rdB, tstE, tru_bl, int_int, eq_int, lt_int, le_int, gt_int, ge_int, ne_int, add_ok, sub_ok, List.set_cons_zero, List.set_cons_succ, List.getElem?_cons_zero, List.getElem?_cons_succ, Option.map_some, if_true, if_false, Bool.false_eq_true, Bool.not_true, Bool.not_false, Rs.seq, exl_nil, List.append_nil, hlen, t.ms, hne]
  rw [exl_cons]
  simp only [bCw3, execS, evalE, evalL, evalLB, bor, Res.bind, Res.of, Res.thn, rd, rdB, tstE, tru_bl, int_int, eq_int, lt_int, le_int, gt_int, ge_int, ne_int, add_ok, sub_ok, List.set_cons_zero, List.set_cons_succ, List.getElem?_cons_zero, List.getElem?_cons_succ, Option.map_some, if_true, if_false, Bool.false_eq_true, Bool.not_true, Bool.not_false, Rs.seq, exl_nil, List.append_nil, ec]
  rw [exl_cons]
  simp only [bCw4, execS, evalE, evalL, evalLB, bor, Res.bind, Res.of, Res.thn, rd, rdB, tstE, tru_bl, int_int, eq_int, lt_int, le_int, gt_int, ge_int, ne_int, add_ok, sub_ok, List.set_cons_zero, List.set_cons_succ, List.getElem?_cons_zero, List.getElem?_cons_succ, Option.map_some, if_true, if_false, Bool.false_eq_true, Bool.not_true, Bool.not_false, Rs.seq, exl_nil, List.append_nil, prtL, slc_take, slc_drop, ← List.map_take, ← List.map_drop, ha, finR]
  rfl
theorem cut_ex (t : Tw T) {v p : GV} {fs : List GV} (h : callK T wf (k + 3) "check_signs" [v] G = .ex "BadWord" fs G) : callK T wf (k + 4) "cut_word" [v, p] G = .ex "BadWord" fs G := by
  rw [callK_step t.cw rfl]
  show finR (execL _ [bCw0, bCw1, bCw2, bCw3, bCw4] [.val v, .val p, .no, .no] G) = _
  rw [exl_cons]
  simp only [bCw0, execS, evalE, evalL, evalLB, bor, Res.bind, Res.of, Res.thn, rd, rdB, tstE, tru_bl, int_int, eq_int, lt_int, le_int, gt_int, ge_int, ne_int, add_ok, sub_ok, List.set_cons_zero, List.set_cons_succ, List.getElem?_cons_zero, List.getElem?_cons_succ, Option.map_some, if_true, if_false, Bool.false_eq_true, Bool.not_true, Bool.not_false, Rs.seq, exl_nil, List.append_nil, h, finR]
theorem cut_no (t : Tw T) {n : Nat} {v p : GV} {w : List Int} (hw : IsW n w) (hn : n ≤ 24) (hv : Sq v (w.map .int)) (hp : plainG p = true) (hr : inR 0 ((n : Int) - 1) p = false) : callK T wf (k + 4) "cut_word" [v, p] G = .ex "NoSection" [p] G := by
  have q := hw.sq1 (wf := wf) (k := k) (G := G) hn t.toTr hv
  have hwl := section_ok (wf := wf) (k := k + 1) (G := G) t hp n
  rw [hr] at hwl
  have hlen : bltV .len [.tup (w.map .int)] = some (.int n) := by show some (GV.int ((w.map GV.int).length : Nat)) = _; rw [List.length_map, hw.len]
  have hxl : ([("section" : Str)] : List Str).length = [p].length := rfl
  rw [callK_step t.cw rfl]
  show finR (execL _ [bCw0, bCw1, bCw2, bCw3, bCw4] [.val v, .val p, .no, .no] G) = _
  rw [exl_cons]
  simp only [bCw0, execS, evalE, evalL, evalLB, bor, Res.bind, Res.of, Res.thn, rd, rdB, tstE, tru_bl, int_int, eq_int, lt_int, le_int, gt_int, ge_int, ne_int, add_ok, sub_ok, List.set_cons_zero, List.set_cons_succ, List.getElem?_cons_zero, List.getElem?_cons_succ, Option.map_some, if_true, if_false, Bool.false_eq_true, Bool.not_true, Bool.not_false, Rs.seq, exl_nil, List.append_nil, q]
  rw [exl_cons]
  simp only [bCw1, execS, evalE, evalL, evalLB, bor, Res.bind, Res.of, Res.thn, rd, rdB, tstE, tru_bl, int_int, eq_int, lt_int, le_int, gt_int, ge_int, ne_int, add_ok, sub_ok, List.set_cons_zero, List.set_cons_succ, List.getElem?_cons_zero, List.getElem?_cons_succ, Option.map_some, if_true, if_false, Bool.false_eq_true, Bool.not_true, Bool.not_false, Rs.seq, exl_nil, List.append_nil, hlen, hwl, execL, t.xs, hxl, finR]
theorem cut_many (t : Tw T) {v : GV} {w : List Int} (hw : IsW 24 w) (hv : Sq v (w.map .int)) {s : Nat} (h2 : s < 24) : callK T wf (k + 4) "cut_word" [v, .int s] G = .ex "BadWord" [.int 0, .str "many"] G := by
  have q := hw.sq1 (wf := wf) (k := k) (G := G) (by omega) t.toTr hv
  have hwl := section_ok (wf := wf) (k := k + 1) (G := G) t (v := .int s) rfl 24
  have hr : inR 0 ((24 : Nat) - 1 : Int) (.int s) = true := by show (decide (0 ≤ (s : Int)) && decide ((s : Int) ≤ ((24 : Nat) : Int) - 1)) = true; rw [decide_eq_true (by omega), decide_eq_true (by omega)]; rfl
  rw [hr] at hwl
  have hlen : bltV .len [.tup (w.map .int)] = some (.int ((24 : Nat) : Int)) := by show some (GV.int ((w.map GV.int).length : Nat)) = _; rw [List.length_map, hw.len]
  have hne : (((24 : Nat) : Int) == 24) = true := by decide
  have hxl : ([("index" : Str), ("what" : Str)] : List Str).length = [GV.int 0, GV.str "many"].length := rfl
  rw [callK_step t.cw rfl]
  show finR (execL _ [bCw0, bCw1, bCw2, bCw3, bCw4] [.val v, .val (.int s), .no, .no] G) = _
  rw [exl_cons]
  simp only [bCw0, execS, evalE, evalL, evalLB, bor, Res.bind, Res.of, Res.thn, rd, rdB, tstE, tru_bl, int_int, eq_int, lt_int, le_int, gt_int, ge_int, ne_int, add_ok, sub_ok, List.set_cons_zero, List.set_cons_succ, List.getElem?_cons_zero, List.getElem?_cons_succ, Option.map_some, if_true, if_false, Bool.false_eq_true, Bool.not_true, Bool.not_false, Rs.seq, exl_nil, List.append_nil, q]
  rw [exl_cons]
  simp only [bCw1, execS, evalE, evalL, evalLB, bor, Res.bind, Res.of, Res.thn, rd, rdB, tstE, tru_bl, int_int, eq_int, lt_int, le_int, gt_int, ge_int, ne_int, add_ok, sub_ok, List.set_cons_zero, List.set_cons_succ, List.getElem?_cons_zero, List.getElem?_cons_succ, Option.map_some, if_true, if_false, Bool.false_eq_true, Bool.not_true, Bool.not_false, Rs.seq, exl_nil, List.append_nil, hlen, hwl]
  rw [exl_cons]
  simp only [bCw2, execS, evalE, evalL, evalLB, bor, Res.bind, Res.of, Res.thn, rd, rdB, tstE, tru_bl, int_int, eq_int, lt_int, le_int, gt_int, ge_int, ne_int, add_ok, sub_ok, List.set_cons_zero, List.set_cons_succ, List.getElem?_cons_zero, List.getElem?_cons_succ, Option.map_some, if_true, if_false, Bool.false_eq_true, Bool.not_true, Bool.not_false, Rs.seq, exl_nil, List.append_nil, hlen, t.ms, hne, execL, t.x, hxl, finR]
/-! ### the law's callers -/
theorem lwi_ok (t : T5 T) {x y v : GV} (h : callK T wf (k + 3) "word_with" [x, y] G = .ok v G) : callK T wf (k + 4) "_law_with" [x, y] G = .ok v G := by
  rw [callK_step t.lw rfl]
  show finR (execL _ [bLwi0, bLwi1] [.val x, .val y, .no] G) = _
  rw [exl_cons]
  simp only [bLwi0, execL, execS, evalE, evalL, evalLB, bor, Res.bind, Res.of, Res.thn, rd, rdB, tstE, tru_bl, int_int, eq_int, lt_int, le_int, gt_int, ge_int, ne_int, add_ok, sub_ok, List.set_cons_zero, List.set_cons_succ, List.getElem?_cons_zero, List.getElem?_cons_succ, Option.map_some, if_true, if_false, Bool.false_eq_true, Bool.not_true, Bool.not_false, Rs.seq, exl_nil, List.append_nil, h]
  simp only [bLwi1, execS, evalE, evalL, evalLB, bor, Res.bind, Res.of, Res.thn, rd, rdB, tstE, tru_bl, int_int, eq_int, lt_int, le_int, gt_int, ge_int, ne_int, add_ok, sub_ok, List.set_cons_zero, List.set_cons_succ, List.getElem?_cons_zero, List.getElem?_cons_succ, Option.map_some, if_true, if_false, Bool.false_eq_true, Bool.not_true, Bool.not_false, Rs.seq, exl_nil, List.append_nil, finR]
theorem lwi_c (t : T5 T) {x y : GV} (h : callK T wf (k + 3) "word_with" [x, y] G = .ex "BadCount" [] G) : callK T wf (k + 4) "_law_with" [x, y] G = .ok (.lst [.str "count"]) G := by
  have zt : szOk [GV.str "count"].length = true := sz_ok (by decide)
  rw [callK_step t.lw rfl]
  show finR (execL _ [bLwi0, bLwi1] [.val x, .val y, .no] G) = _
  rw [exl_cons]
  simp only [bLwi0, execL, execH, outX, putX, clrX, noExc, execS, evalE, evalL, evalLB, bor, Res.bind, Res.of, Res.thn, rd, rdB, tstE, tru_bl, int_int, eq_int, lt_int, le_int, gt_int, ge_int, ne_int, add_ok, sub_ok, List.set_cons_zero, List.set_cons_succ, List.getElem?_cons_zero, List.getElem?_cons_succ, Option.map_some, if_true, if_false, Bool.false_eq_true, Bool.not_true, Bool.not_false, Rs.seq, exl_nil, List.append_nil, h, t.sA, zt, finR]
theorem lwi_p (t : T5 T) {x y : GV} (h : callK T wf (k + 3) "word_with" [x, y] G = .ex "BadPoles" [] G) : callK T wf (k + 4) "_law_with" [x, y] G = .ok (.lst [.str "poles"]) G := by
  have zt : szOk [GV.str "poles"].length = true := sz_ok (by decide)
  rw [callK_step t.lw rfl]
  show finR (execL _ [bLwi0, bLwi1] [.val x, .val y, .no] G) = _
  rw [exl_cons]
  simp only [bLwi0, execL, execH, outX, putX, clrX, noExc, execS, evalE, evalL, evalLB, bor, Res.bind, Res.of, Res.thn, rd, rdB, tstE, tru_bl, int_int, eq_int, lt_int, le_int, gt_int, ge_int, ne_int, add_ok, sub_ok, List.set_cons_zero, List.set_cons_succ, List.getElem?_cons_zero, List.getElem?_cons_succ, Option.map_some, if_true, if_false, Bool.false_eq_true, Bool.not_true, Bool.not_false, Rs.seq, exl_nil, List.append_nil, h, t.sB, t.sC, zt, finR]
theorem lcr_ok (t : T5 T) {x y v : GV} (h : callK T wf (k + 4) "crossed_at" [x, y] G = .ok v G) : callK T wf (k + 5) "_law_crossed" [x, y] G = .ok v G := by
  rw [callK_step t.lc rfl]
  show finR (execL _ [bLcr0, bLcr1] [.val x, .val y, .no, .no] G) = _
  rw [exl_cons]
  simp only [bLcr0, execL, execS, evalE, evalL, evalLB, bor, Res.bind, Res.of, Res.thn, rd, rdB, tstE, tru_bl, int_int, eq_int, lt_int, le_int, gt_int, ge_int, ne_int, add_ok, sub_ok, List.set_cons_zero, List.set_cons_succ, List.getElem?_cons_zero, List.getElem?_cons_succ, Option.map_some, if_true, if_false, Bool.false_eq_true, Bool.not_true, Bool.not_false, Rs.seq, exl_nil, List.append_nil, h]
  simp only [bLcr1, execS, evalE, evalL, evalLB, bor, Res.bind, Res.of, Res.thn, rd, rdB, tstE, tru_bl, int_int, eq_int, lt_int, le_int, gt_int, ge_int, ne_int, add_ok, sub_ok, List.set_cons_zero, List.set_cons_succ, List.getElem?_cons_zero, List.getElem?_cons_succ, Option.map_some, if_true, if_false, Bool.false_eq_true, Bool.not_true, Bool.not_false, Rs.seq, exl_nil, List.append_nil, finR]
theorem lcr_w (t : T5 T) {x y a b : GV} (h : callK T wf (k + 4) "crossed_at" [x, y] G = .ex "BadWord" [a, b] G) : callK T wf (k + 5) "_law_crossed" [x, y] G = .ok (.lst [a, b]) G := by
  have l1 : (([("index" : Str), ("what" : Str)] : List Str).zip [a, b]).lookup ("index" : Str) = some a := by kernel_rfl
  have l2 : (([("index" : Str), ("what" : Str)] : List Str).zip [a, b]).lookup ("what" : Str) = some b := by kernel_rfl
  have zt : szOk [a, b].length = true := sz_ok (by show 2 ≤ 100000; decide)
  rw [callK_step t.lc rfl]
  show finR (execL _ [bLcr0, bLcr1] [.val x, .val y, .no, .no] G) = _
  rw [exl_cons]
  simp only [bLcr0, execL, execH, outX, putX, clrX, noExc, xfld, execS, evalE, evalL, evalLB, bor, Res.bind, Res.of, Res.thn, rd, rdB, tstE, tru_bl, int_int, eq_int, lt_int, le_int, gt_int, ge_int, ne_int, add_ok, sub_ok, List.set_cons_zero, List.set_cons_succ, List.getElem?_cons_zero, List.getElem?_cons_succ, Option.map_some, if_true, if_false, Bool.false_eq_true, Bool.not_true, Bool.not_false, Rs.seq, exl_nil, List.append_nil, h, t.sub, t.x, l1, l2, zt, finR]
theorem lcr_p (t : T5 T) {x y a : GV} (h : callK T wf (k + 4) "crossed_at" [x, y] G = .ex "NoPole" [a] G) : callK T wf (k + 5) "_law_crossed" [x, y] G = .ok (.lst [.str "pole", a]) G := by
  have l1 : (([("pole" : Str)] : List Str).zip [a]).lookup ("pole" : Str) = some a := by kernel_rfl
  have zt : szOk [GV.str "pole", a].length = true := sz_ok (by show 2 ≤ 100000; decide)
  rw [callK_step t.lc rfl]
  show finR (execL _ [bLcr0, bLcr1] [.val x, .val y, .no, .no] G) = _
  rw [exl_cons]
  simp only [bLcr0, execL, execH, outX, putX, clrX, noExc, xfld, execS, evalE, evalL, evalLB, bor, Res.bind, Res.of, Res.thn, rd, rdB, tstE, tru_bl, int_int, eq_int, lt_int, le_int, gt_int, ge_int, ne_int, add_ok, sub_ok, List.set_cons_zero, List.set_cons_succ, List.getElem?_cons_zero, List.getElem?_cons_succ, Option.map_some, if_true, if_false, Bool.false_eq_true, Bool.not_true, Bool.not_false, Rs.seq, exl_nil, List.append_nil, h, t.sD, t.sE, t.xn, l1, zt, finR]
theorem lcu_ok (t : T5 T) {x y v : GV} (h : callK T wf (k + 4) "cut_word" [x, y] G = .ok v G) : callK T wf (k + 5) "_law_cut" [x, y] G = .ok v G := by
  rw [callK_step t.lu rfl]
  show finR (execL _ [bLcu0, bLcu1] [.val x, .val y, .no, .no] G) = _
  rw [exl_cons]
  simp only [bLcu0, execL, execS, evalE, evalL, evalLB, bor, Res.bind, Res.of, Res.thn, rd, rdB, tstE, tru_bl, int_int, eq_int, lt_int, le_int, gt_int, ge_int, ne_int, add_ok, sub_ok, List.set_cons_zero, List.set_cons_succ, List.getElem?_cons_zero, List.getElem?_cons_succ, Option.map_some, if_true, if_false, Bool.false_eq_true, Bool.not_true, Bool.not_false, Rs.seq, exl_nil, List.append_nil, h]
  simp only [bLcu1, execS, evalE, evalL, evalLB, bor, Res.bind, Res.of, Res.thn, rd, rdB, tstE, tru_bl, int_int, eq_int, lt_int, le_int, gt_int, ge_int, ne_int, add_ok, sub_ok, List.set_cons_zero, List.set_cons_succ, List.getElem?_cons_zero, List.getElem?_cons_succ, Option.map_some, if_true, if_false, Bool.false_eq_true, Bool.not_true, Bool.not_false, Rs.seq, exl_nil, List.append_nil, finR]
theorem lcu_w (t : T5 T) {x y a b : GV} (h : callK T wf (k + 4) "cut_word" [x, y] G = .ex "BadWord" [a, b] G) : callK T wf (k + 5) "_law_cut" [x, y] G = .ok (.lst [a, b]) G := by
  have l1 : (([("index" : Str), ("what" : Str)] : List Str).zip [a, b]).lookup ("index" : Str) = some a := by kernel_rfl
  have l2 : (([("index" : Str), ("what" : Str)] : List Str).zip [a, b]).lookup ("what" : Str) = some b := by kernel_rfl
  have zt : szOk [a, b].length = true := sz_ok (by show 2 ≤ 100000; decide)
  rw [callK_step t.lu rfl]
  show finR (execL _ [bLcu0, bLcu1] [.val x, .val y, .no, .no] G) = _
  rw [exl_cons]
  simp only [bLcu0, execL, execH, outX, putX, clrX, noExc, xfld, execS, evalE, evalL, evalLB, bor, Res.bind, Res.of, Res.thn, rd, rdB, tstE, tru_bl, int_int, eq_int, lt_int, le_int, gt_int, ge_int, ne_int, add_ok, sub_ok, List.set_cons_zero, List.set_cons_succ, List.getElem?_cons_zero, List.getElem?_cons_succ, Option.map_some, if_true, if_false, Bool.false_eq_true, Bool.not_true, Bool.not_false, Rs.seq, exl_nil, List.append_nil, h, t.sG, t.sub, t.x, l1, l2, zt, finR]
theorem lcu_s (t : T5 T) {x y a : GV} (h : callK T wf (k + 4) "cut_word" [x, y] G = .ex "NoSection" [a] G) : callK T wf (k + 5) "_law_cut" [x, y] G = .ok (.lst [.str "section", a]) G := by
  have l1 : (([("section" : Str)] : List Str).zip [a]).lookup ("section" : Str) = some a := by kernel_rfl
  have zt : szOk [GV.str "section", a].length = true := sz_ok (by show 2 ≤ 100000; decide)
  rw [callK_step t.lu rfl]
  show finR (execL _ [bLcu0, bLcu1] [.val x, .val y, .no, .no] G) = _
  rw [exl_cons]
  simp only [bLcu0, execL, execH, outX, putX, clrX, noExc, xfld, execS, evalE, evalL, evalLB, bor, Res.bind, Res.of, Res.thn, rd, rdB, tstE, tru_bl, int_int, eq_int, lt_int, le_int, gt_int, ge_int, ne_int, add_ok, sub_ok, List.set_cons_zero, List.set_cons_succ, List.getElem?_cons_zero, List.getElem?_cons_succ, Option.map_some, if_true, if_false, Bool.false_eq_true, Bool.not_true, Bool.not_false, Rs.seq, exl_nil, List.append_nil, h, t.sF, t.xs, l1, zt, finR]
theorem doors_ok (t : T5 T) {x a b : GV} (h : callK T wf (k + 3) "check_signs" [x] G = .ex "BadWord" [a, b] G) : callK T wf (k + 5) "_law_doors" [x] G = .ok (.lst [.lst [a, b], .lst [a, b]]) G := by
  have h1 := crossings_ex t.toTw h
  have h2 := backward_ex t.toTw h
  have l1 : (([("index" : Str), ("what" : Str)] : List Str).zip [a, b]).lookup ("index" : Str) = some a := by kernel_rfl
  have l2 : (([("index" : Str), ("what" : Str)] : List Str).zip [a, b]).lookup ("what" : Str) = some b := by kernel_rfl
  have zt : szOk [a, b].length = true := sz_ok (by show 2 ≤ 100000; decide)
  have zt0 : szOk ([] : List GV).length = true := sz_ok (by decide)
  have o1 : ∀ s, ownAt [.val x, .own [], s] 1 = true := fun _ => rfl
  have o2 : ∀ s y, ownAt [.val x, .own [y], s] 1 = true := fun _ _ => rfl
  have g1 : ∀ s y, gApp 1 [.val x, .own [], s] y G = .nx [.val x, .own [y], s] G := fun s y => by
    show (if ([] : List GV).length < sizeLine then Rs.nx _ G else .no) = _
    rw [if_pos (small_sz (by decide))]; rfl
  have g2 : ∀ s y z, gApp 1 [.val x, .own [y], s] z G = .nx [.val x, .own [y, z], s] G := fun s y z => by
    show (if [y].length < sizeLine then Rs.nx _ G else .no) = _
    rw [if_pos (small_sz (by show 1 ≤ 100000; decide))]; rfl
  rw [callK_step t.ld rfl]
  show finR (execL _ [bLdo0, bLdo1, bLdo2, bLdo3] [.val x, .no, .no] G) = _
  rw [exl_cons]
  simp only [bLdo0, execS, evalE, evalL, evalLB, bor, Res.bind, Res.of, Res.thn, rd, rdB, tstE, tru_bl, int_int, eq_int, lt_int, le_int, gt_int, ge_int, ne_int, add_ok, sub_ok, List.set_cons_zero, List.set_cons_succ, List.getElem?_cons_zero, List.getElem?_cons_succ, Option.map_some, if_true, if_false, Bool.false_eq_true, Bool.not_true, Bool.not_false, Rs.seq, exl_nil, List.append_nil, zt0, gOwn]
  rw [exl_cons]
  simp only [bLdo1, execL, execH, outX, putX, clrX, noExc, xfld, execS, evalE, evalL, evalLB, bor, Res.bind, Res.of, Res.thn, rd, rdB, tstE, tru_bl, int_int, eq_int, lt_int, le_int, gt_int, ge_int, ne_int, add_ok, sub_ok, List.set_cons_zero, List.set_cons_succ, List.getElem?_cons_zero, List.getElem?_cons_succ, Option.map_some, if_true, if_false, Bool.false_eq_true, Bool.not_true, Bool.not_false, Rs.seq, exl_nil, List.append_nil, h1, t.sub, t.x, l1, l2, zt, o1, g1]
  simp only [bLdo2, execL, execH, outX, putX, clrX, noExc, xfld, execS, evalE, evalL, evalLB, bor, Res.bind, Res.of, Res.thn, rd, rdB, tstE, tru_bl, int_int, eq_int, lt_int, le_int, gt_int, ge_int, ne_int, add_ok, sub_ok, List.set_cons_zero, List.set_cons_succ, List.getElem?_cons_zero, List.getElem?_cons_succ, Option.map_some, if_true, if_false, Bool.false_eq_true, Bool.not_true, Bool.not_false, Rs.seq, exl_nil, List.append_nil, h2, t.sub, t.x, l1, l2, zt, o2, g2]
  simp only [bLdo3, frzG, execS, evalE, evalL, evalLB, bor, Res.bind, Res.of, Res.thn, rd, rdB, tstE, tru_bl, int_int, eq_int, lt_int, le_int, gt_int, ge_int, ne_int, add_ok, sub_ok, List.set_cons_zero, List.set_cons_succ, List.getElem?_cons_zero, List.getElem?_cons_succ, Option.map_some, if_true, if_false, Bool.false_eq_true, Bool.not_true, Bool.not_false, Rs.seq, exl_nil, List.append_nil, finR]
end
end Cm
end

section
namespace Cm
open PySem Gm

theorem cP_def {w : List Int} {x : Int} (h1 : 1 ≤ x) : cP w x = !(w.getD x.toNat 0 == w.getD (x.toNat - 1) 0) := by
  unfold cP
  rw [show (x - 1).toNat = x.toNat - 1 by omega]
theorem getD_lt {w : List Int} {i : Nat} (h : i < w.length) : w.getD i 0 = w[i] := by simp [List.getD, h]
theorem getD_rev {w : List Int} {n i : Nat} (hl : w.length = n) (h : i < n) : w.reverse.getD i 0 = w.getD (n - 1 - i) 0 := by
  have h1 : i < w.reverse.length := by rw [List.length_reverse]; omega
  rw [getD_lt h1, getD_lt (by omega), List.getElem_reverse]
  congr 1
  omega
theorem rev_map {w : List Int} {n : Nat} (hl : w.length = n) : ((rI 0 n).map fun i => w.getD ((n : Int) - 1 - i).toNat 0) = w.reverse := by
  refine ext_getD (by rw [List.length_map, rI_len, List.length_reverse, hl]) fun i hi => ?_
  rw [List.length_map, rI_len] at hi
  rw [getD_rev hl hi]
  have e : ((rI 0 n).map fun i => w.getD ((n : Int) - 1 - i).toNat 0)[i]? = some (w.getD (n - 1 - i) 0) := by
    rw [List.getElem?_map, rI_get hi]
    show some (w.getD ((n : Int) - 1 - (0 + (i : Int))).toNat 0) = _
    rw [show ((n : Int) - 1 - (0 + (i : Int))).toNat = n - 1 - i by omega]
  show (((rI 0 n).map fun i => w.getD ((n : Int) - 1 - i).toNat 0)[i]?).getD 0 = _
  rw [e]; rfl
theorem map_getD {w : List Int} {f : Int → Int} {i : Nat} (h : i < w.length) : (w.map f).getD i 0 = f (w.getD i 0) := by simp [List.getD, h]
/-! ### backward -/
theorem bwd_z {n : Nat} {w : List Int} (hw : IsW n w) (h1 : 1 ≤ n) : w.reverse.getD 0 0 = 1 ∨ w.reverse.getD 0 0 = -1 := by
  rw [getD_rev hw.len (by omega)]
  exact sgn_get hw.sg (by rw [hw.len]; omega)
theorem bwd_get {n : Nat} {w : List Int} (hw : IsW n w) {i : Nat} (h : i < n) : (bwd w).getD i 0 = w.reverse.getD 0 0 * w.getD (n - 1 - i) 0 := by
  unfold bwd
  rw [map_getD (by rw [List.length_reverse, hw.len]; exact h), getD_rev hw.len h]
theorem bwd_isW {n : Nat} {w : List Int} (hw : IsW n w) (h1 : 1 ≤ n) : IsW n (bwd w) where
  len := by unfold bwd; rw [List.length_map, List.length_reverse, hw.len]
  sg := fun z hz => by
    obtain ⟨y, hy, rfl⟩ := List.mem_map.mp hz
    rcases bwd_z hw h1 with a | a <;> rcases hw.sg y (List.mem_reverse.mp hy) with b | b <;> rw [a, b] <;> simp
  hd := by
    have hl : 0 < (bwd w).length := by unfold bwd; rw [List.length_map, List.length_reverse, hw.len]; omega
    have e := bwd_get hw (i := 0) (by omega)
    have e2 := getD_rev hw.len (i := 0) (by omega)
    rw [getD_lt hl, ← e2] at e
    rw [List.getElem?_eq_getElem hl, e]
    rcases bwd_z hw h1 with a | a <;> rw [a] <;> rfl
theorem eq_mul {z a b : Int} (hz : z = 1 ∨ z = -1) : (z * a == z * b) = (a == b) := by
  rcases hz with rfl | rfl
  · simp
  · by_cases e : a = b
    · subst e; simp
    · have : ¬ (-1 * a = -1 * b) := by omega
      rw [beq_eq_false_iff_ne.mpr e, beq_eq_false_iff_ne.mpr this]
theorem beq_comm' (a b : Int) : (a == b) = (b == a) := by
  by_cases e : a = b
  · subst e; rfl
  · rw [beq_eq_false_iff_ne.mpr e, beq_eq_false_iff_ne.mpr (Ne.symm e)]
theorem bwd_cut {n : Nat} {w : List Int} (hw : IsW n w) {x : Int} (h1 : 1 ≤ x) (h2 : x < n) : cP (bwd w) x = cP w ((n : Int) - x) := by
  rw [cP_def h1, cP_def (by omega : 1 ≤ (n : Int) - x), bwd_get hw (by omega), bwd_get hw (by omega), eq_mul (bwd_z hw (by omega)), beq_comm']
  have e1 : n - 1 - (x.toNat - 1) = ((n : Int) - x).toNat := by omega
  have e2 : n - 1 - x.toNat = ((n : Int) - x).toNat - 1 := by omega
  rw [e1, e2]
theorem bwd_pl {n : Nat} {w : List Int} (hw : IsW n w) : (pl n (cP w)).reverse.map (fun q => (n : Int) - q) = pl n (cP (bwd w)) := by
  refine pl_is ?_ fun x => ?_
  · rw [List.pairwise_map, List.pairwise_reverse]
    exact pl_asc.imp fun h => by omega
  · rw [List.mem_map]
    constructor
    · rintro ⟨y, hy, rfl⟩
      obtain ⟨a, b, c⟩ := mem_pl.mp (List.mem_reverse.mp hy)
      refine ⟨by omega, by omega, ?_⟩
      rw [bwd_cut hw (by omega) (by omega), show (n : Int) - (n - y) = y by omega]
      exact c
    · rintro ⟨a, b, c⟩
      refine ⟨(n : Int) - x, List.mem_reverse.mpr (mem_pl.mpr ⟨by omega, by omega, ?_⟩), by omega⟩
      rw [bwd_cut hw a b] at c
      exact c
/-! ### one crossing changed -/
theorem fl_len {n : Nat} {w : List Int} (hw : IsW n w) (p : Nat) : (fl w p).length = n := by
  have := hw.len
  unfold fl
  rw [List.length_append, List.length_take, List.length_map, List.length_drop]
  omega
theorem fl_get {n : Nat} {w : List Int} (hw : IsW n w) {p i : Nat} (h : i < n) : (fl w p).getD i 0 = if i < p then w.getD i 0 else - w.getD i 0 := by
  have hl := hw.len
  show ((fl w p)[i]?).getD 0 = _
  unfold fl
  by_cases hp : i < p
  · rw [List.getElem?_append_left (by rw [List.length_take]; omega), List.getElem?_take_of_lt hp, if_pos hp]; rfl
  · rw [List.getElem?_append_right (by rw [List.length_take]; omega), if_neg hp, List.getElem?_map, List.getElem?_drop, List.length_take]
    have e : p + (i - min p w.length) = i := by omega
    have hi : i < w.length := by omega
    rw [e, List.getElem?_eq_getElem hi, getD_lt hi]; rfl
theorem fl_isW {n : Nat} {w : List Int} (hw : IsW n w) {p : Nat} (h1 : 1 ≤ p) (hn : 1 ≤ n) : IsW n (fl w p) where
  len := fl_len hw p
  sg := fun z hz => by
    unfold fl at hz
    rcases List.mem_append.mp hz with h | h
    · exact hw.sg z (List.mem_of_mem_take h)
    · obtain ⟨y, hy, rfl⟩ := List.mem_map.mp h
      rcases hw.sg y (List.mem_of_mem_drop hy) with rfl | rfl <;> simp
  hd := by
    have hl : 0 < (fl w p).length := by rw [fl_len hw]; omega
    have e := fl_get hw (p := p) (i := 0) (by omega)
    have hw0 : w.getD 0 0 = 1 := by simp [List.getD, hw.hd]
    rw [getD_lt hl, if_pos (by omega), hw0] at e
    rw [List.getElem?_eq_getElem hl, e]
theorem fl_cut {n : Nat} {w : List Int} (hw : IsW n w) {p : Nat} {x : Int} (h1 : 1 ≤ x) (h2 : x < n) : cP (fl w p) x = if x = p then !(cP w x) else cP w x := by
  have g1 := sgn_get hw.sg (i := x.toNat) (by rw [hw.len]; omega)
  have g2 := sgn_get hw.sg (i := x.toNat - 1) (by rw [hw.len]; omega)
  rw [cP_def h1, cP_def h1, fl_get hw (by omega), fl_get hw (by omega)]
  by_cases e : x = p
  · rw [if_neg (by omega : ¬ x.toNat < p), if_pos (by omega : x.toNat - 1 < p), if_pos e]
    rcases g1 with a | a <;> rcases g2 with b | b <;> rw [a, b] <;> rfl
  · rw [if_neg e]
    by_cases h : x < p
    · rw [if_pos (by omega : x.toNat < p), if_pos (by omega : x.toNat - 1 < p)]
    · rw [if_neg (by omega : ¬ x.toNat < p), if_neg (by omega : ¬ x.toNat - 1 < p)]
      rcases g1 with a | a <;> rcases g2 with b | b <;> rw [a, b] <;> rfl
theorem fl_pl {n : Nat} {w : List Int} (hw : IsW n w) {p : Nat} (h1 : 1 ≤ p) (h2 : p < n) : srtI (((pl n (cP w)).filter fun x => !(x == (p : Int))) ++ if decide ((p : Int) ∈ pl n (cP w)) = true then [] else [(p : Int)]) = pl n (cP (fl w p)) := by
  by_cases hm : (p : Int) ∈ pl n (cP w)
  · rw [if_pos (decide_eq_true hm), List.append_nil]
    refine srt_is (asc_nd (flt_asc pl_asc)) pl_asc fun x => ?_
    rw [List.mem_filter, mem_pl, mem_pl]
    have hp := (mem_pl.mp hm).2.2
    constructor
    · rintro ⟨⟨a, b, c⟩, d⟩
      have d' : x ≠ p := by simpa using d
      exact ⟨a, b, by rw [fl_cut hw a b, if_neg d']; exact c⟩
    · rintro ⟨a, b, c⟩
      rw [fl_cut hw a b] at c
      by_cases e : x = p
      · rw [if_pos e, e, hp] at c; cases c
      · rw [if_neg e] at c; exact ⟨⟨a, b, c⟩, by simpa using e⟩
  · rw [if_neg (by simpa using hm)]
    have hp : cP w p = false := by
      cases hc : cP w p with
      | false => rfl
      | true => exact absurd (mem_pl.mpr ⟨by omega, by omega, hc⟩) hm
    refine srt_is ?_ pl_asc fun x => ?_
    · refine List.nodup_append.mpr ⟨asc_nd (flt_asc pl_asc), by simp, fun a ha b hb => ?_⟩
      rw [List.mem_singleton.mp hb]
      have := (List.mem_filter.mp ha).2
      simpa using this
    · rw [List.mem_append, List.mem_filter, mem_pl, mem_pl, List.mem_singleton]
      constructor
      · rintro (⟨⟨a, b, c⟩, d⟩ | rfl)
        · have d' : x ≠ p := by simpa using d
          exact ⟨a, b, by rw [fl_cut hw a b, if_neg d']; exact c⟩
        · exact ⟨by omega, by omega, by rw [fl_cut hw (by omega) (by omega), if_pos rfl, hp]; rfl⟩
      · rintro ⟨a, b, c⟩
        rw [fl_cut hw a b] at c
        by_cases e : x = p
        · exact .inr e
        · rw [if_neg e] at c; exact .inl ⟨⟨a, b, c⟩, by simpa using e⟩
theorem fl_map {n : Nat} {w : List Int} (hw : IsW n w) {p : Nat} : ((rI 0 n).map fun i => if i < (p : Int) then w.getD i.toNat 0 else - w.getD i.toNat 0) = fl w p := by
  refine ext_getD (by rw [List.length_map, rI_len, fl_len hw]) fun i hi => ?_
  rw [List.length_map, rI_len] at hi
  rw [fl_get hw hi]
  show (((rI 0 n).map fun i => if i < (p : Int) then w.getD i.toNat 0 else - w.getD i.toNat 0)[i]?).getD 0 = _
  rw [List.getElem?_map, rI_get hi]
  show (if (0 + (i : Int)) < (p : Int) then w.getD (0 + (i : Int)).toNat 0 else - w.getD (0 + (i : Int)).toNat 0) = _
  rw [show (0 + (i : Int)).toNat = i by omega]
  by_cases h : i < p
  · rw [if_pos h, if_pos (by omega)]
  · rw [if_neg h, if_neg (by omega)]
/-! ### a section cut -/
theorem ct_len {n : Nat} {w : List Int} (hw : IsW n w) {s : Nat} (h : s < n) : (ct w s).length = n + 1 := by
  have := hw.len
  unfold ct
  rw [List.length_append, List.length_take, List.length_drop]
  omega
theorem ct_get {n : Nat} {w : List Int} (hw : IsW n w) {s i : Nat} (hs : s < n) (h : i < n + 1) : (ct w s).getD i 0 = if i ≤ s then w.getD i 0 else w.getD (i - 1) 0 := by
  have hl := hw.len
  show ((ct w s)[i]?).getD 0 = _
  unfold ct
  by_cases hp : i ≤ s
  · rw [List.getElem?_append_left (by rw [List.length_take]; omega), List.getElem?_take_of_lt (by omega), if_pos hp]; rfl
  · rw [List.getElem?_append_right (by rw [List.length_take]; omega), if_neg hp, List.getElem?_drop, List.length_take]
    have e : s + (i - min (s + 1) w.length) = i - 1 := by omega
    rw [e]; rfl
theorem ct_isW {n : Nat} {w : List Int} (hw : IsW n w) {s : Nat} (hs : s < n) : IsW (n + 1) (ct w s) where
  len := ct_len hw hs
  sg := fun z hz => by
    unfold ct at hz
    rcases List.mem_append.mp hz with h | h
    · exact hw.sg z (List.mem_of_mem_take h)
    · exact hw.sg z (List.mem_of_mem_drop h)
  hd := by
    have hl : 0 < (ct w s).length := by rw [ct_len hw hs]; omega
    have e := ct_get hw hs (i := 0) (by omega)
    have hw0 : w.getD 0 0 = 1 := by simp [List.getD, hw.hd]
    rw [getD_lt hl, if_pos (by omega), hw0] at e
    rw [List.getElem?_eq_getElem hl, e]
theorem ct_cut {n : Nat} {w : List Int} (hw : IsW n w) {s : Nat} (hs : s < n) {x : Int} (h1 : 1 ≤ x) (h2 : x < n + 1) : cP (ct w s) x = if x ≤ s then cP w x else if x = s + 1 then false else cP w (x - 1) := by
  rw [cP_def h1, ct_get hw hs (by omega), ct_get hw hs (by omega)]
  by_cases a : x ≤ s
  · rw [if_pos a, if_pos (by omega : x.toNat ≤ s), if_pos (by omega : x.toNat - 1 ≤ s), cP_def h1]
  · rw [if_neg a, if_neg (by omega : ¬ x.toNat ≤ s)]
    by_cases b : x = s + 1
    · rw [if_pos b, if_pos (by omega : x.toNat - 1 ≤ s)]; simp
    · rw [if_neg b, if_neg (by omega : ¬ x.toNat - 1 ≤ s), cP_def (by omega : 1 ≤ x - 1), show (x - 1).toNat = x.toNat - 1 by omega]
theorem ct_pl {n : Nat} {w : List Int} (hw : IsW n w) {s : Nat} (hs : s < n) : ((pl n (cP w)).map fun q => if q ≤ (s : Int) then q else q + 1) = pl (n + 1) (cP (ct w s)) := by
  refine pl_is ?_ fun x => ?_
  · rw [List.pairwise_map]
    refine pl_asc.imp fun {a b} h => ?_
    show (if a ≤ (s : Int) then a else a + 1) < (if b ≤ (s : Int) then b else b + 1)
    split <;> split <;> omega
  · rw [List.mem_map]
    constructor
    · rintro ⟨y, hy, rfl⟩
      obtain ⟨a, b, c⟩ := mem_pl.mp hy
      by_cases h : y ≤ (s : Int)
      · rw [if_pos h]
        exact ⟨a, by omega, by rw [ct_cut hw hs a (by omega), if_pos h]; exact c⟩
      · rw [if_neg h]
        refine ⟨by omega, by omega, ?_⟩
        rw [ct_cut hw hs (by omega) (by omega), if_neg (by omega), if_neg (by omega), show y + 1 - 1 = y by omega]
        exact c
    · rintro ⟨a, b, c⟩
      rw [ct_cut hw hs a (by omega)] at c
      by_cases h : x ≤ (s : Int)
      · rw [if_pos h] at c
        exact ⟨x, mem_pl.mpr ⟨a, by omega, c⟩, by rw [if_pos h]⟩
      · rw [if_neg h] at c
        by_cases e : x = (s : Int) + 1
        · rw [if_pos e] at c; cases c
        · rw [if_neg e] at c
          exact ⟨x - 1, mem_pl.mpr ⟨by omega, by omega, c⟩, by rw [if_neg (by omega)]; omega⟩
section
variable {T : Tb} {wf k : Nat} {G : Cells}
theorem ltu_ok (t : T5 T) {v : GV} {w : List Int} {z : Int} (hv : Sq v (w.map .int)) (h2 : w.length ≤ 24) (hs : Sgn w) (h0 : w[0]? = some z) : callK T wf (k + 1) "_law_turned" [v] G = .ok (.tup ((w.map (z * ·)).map .int)) G := by
  have hz : z = 1 ∨ z = -1 := hs z (List.mem_of_getElem? h0)
  have hix : idxV v (.int 0) G = some (.int z) := hv.ix (i := 0) (by simp [h0])
  have hitm : itmV v = some (w.map .int) := by rcases hv with rfl | rfl <;> rfl
  have hc := cm_I1 (c := ⟨T, callK T wf k, wf, none⟩) (elt := (.bin .mul (.idx (.var 0) (.con (.int 0))) (.var 1))) (t := 1) (own := [1]) (it := .seq (.var 0)) (σ := [.val v, .no]) (G := G) (ns := w) (z * ·) (it_sq rfl hitm) (by omega) (fun i hi => by
    have hm := mul_sg hz (hs i hi)
    simp only [wipeG, execS, evalE, evalL, evalLB, bor, Res.bind, Res.of, Res.thn, rd, rdB, tstE, tru_bl, int_int, eq_int, lt_int, le_int, gt_int, ge_int, ne_int, add_ok, sub_ok, List.set_cons_zero, List.set_cons_succ, List.getElem?_cons_zero, List.getElem?_cons_succ, Option.map_some, if_true, if_false, Bool.false_eq_true, Bool.not_true, Bool.not_false, Rs.seq, exl_nil, List.append_nil, hix, hm])
  rw [callK_step t.lt rfl]
  show finR (execL _ [bLtu0] [.val v, .no] G) = _
  rw [exl_cons]
  simp only [bLtu0, execS, Res.thn, tup_cm hc, Rs.seq, finR]
theorem lba_ok (t : T5 T) {n : Nat} {w : List Int} (hw : IsW n w) (h1 : 1 ≤ n) (hn : n ≤ 24) : callK T wf (k + 2) "_law_back" [.tup (w.map .int)] G = .ok (.tup ((bwd w).map .int)) G := by
  have hlen : bltV .len [.tup (w.map .int)] = some (.int n) := by show some (GV.int ((w.map GV.int).length : Nat)) = _; rw [List.length_map, hw.len]
  have hl := hw.len
  have h0 : w.reverse[0]? = some (w.reverse.getD 0 0) := by
    have : 0 < w.reverse.length := by rw [List.length_reverse]; omega
    show _ = some ((w.reverse[0]?).getD 0)
    rw [List.getElem?_eq_getElem this]; rfl
  have q := ltu_ok (wf := wf) (k := k) (G := G) t (v := .lst (w.reverse.map .int)) (.inr rfl) (by rw [List.length_reverse]; omega) (fun z hz => hw.sg z (List.mem_reverse.mp hz)) h0
  have hc := cm_I1 (c := ⟨T, callK T wf (k + 1), wf, none⟩) (elt := (.idx (.var 0) (.bin .sub (.bin .sub (.blt .len [(.var 0)]) (.con (.int 1))) (.var 1)))) (t := 1) (own := [1]) (it := .rng [(.blt .len [(.var 0)])]) (σ := [.val (.tup (w.map .int)), .no]) (G := G) (ns := rI 0 n) (fun i => w.getD ((n : Int) - 1 - i).toNat 0)
    (it_r1 (by simp only [execS, evalE, evalL, evalLB, bor, Res.bind, Res.of, Res.thn, rd, rdB, tstE, tru_bl, int_int, eq_int, lt_int, le_int, gt_int, ge_int, ne_int, add_ok, sub_ok, List.set_cons_zero, List.set_cons_succ, List.getElem?_cons_zero, List.getElem?_cons_succ, Option.map_some, if_true, if_false, Bool.false_eq_true, Bool.not_true, Bool.not_false, Rs.seq, exl_nil, List.append_nil, hlen]) (by omega)) (by rw [rI_len]; omega) (fun i hi => by
      have hm := mem_rI.mp hi
      have hx : idxV (.tup (w.map .int)) (.int ((n : Int) - 1 - i)) G = some (.int (w.getD ((n : Int) - 1 - i).toNat 0)) := by
        have e : ((n : Int) - 1 - i) = ((((n : Int) - 1 - i).toNat : Nat) : Int) := by omega
        rw [e]
        refine ixt ?_
        have hlt : ((n : Int) - 1 - i).toNat < w.length := by omega
        rw [List.getElem?_map, Int.toNat_natCast, List.getElem?_eq_getElem hlt, getD_lt hlt]; rfl
      simp only [wipeG, execS, evalE, evalL, evalLB, bor, Res.bind, Res.of, Res.thn, rd, rdB, tstE, tru_bl, int_int, eq_int, lt_int, le_int, gt_int, ge_int, ne_int, add_ok, sub_ok, List.set_cons_zero, List.set_cons_succ, List.getElem?_cons_zero, List.getElem?_cons_succ, Option.map_some, if_true, if_false, Bool.false_eq_true, Bool.not_true, Bool.not_false, Rs.seq, exl_nil, List.append_nil, hlen, hx])
  rw [rev_map hl] at hc
  rw [callK_step t.lb rfl]
  show finR (execL _ [bLba0] [.val (.tup (w.map .int)), .no] G) = _
  rw [exl_cons]
  have hcall : evalE ⟨T, callK T wf (k + 1), wf, none⟩ (.call "_law_turned" [(.cmpr (.idx (.var 0) (.bin .sub (.bin .sub (.blt .len [(.var 0)]) (.con (.int 1))) (.var 1))) (.name 1) [1] (.rng [(.blt .len [(.var 0)])]) (.con (.bl true)))] []) [.val (.tup (w.map .int)), .no] G = .ok (.tup ((bwd w).map .int)) G := by
    rw [evalE, evalL, hc]
    simp only [evalL, Res.bind, List.append_nil, q]
    rfl
  simp only [bLba0, execS, hcall, Res.thn, Rs.seq, finR]
theorem lpl_ok (t : T5 T) {n : Nat} {v : GV} {w : List Int} (hw : IsW n w) (h1 : 1 ≤ n) (hn : n ≤ 24) (hv : Sq v (w.map .int)) : callK T wf (k + 1) "_law_poles" [v] G = .ok (.tup ((pl n (cP w)).map .int)) G := by
  rw [poles_ok t.lp hv (by rw [hw.len]; exact h1) (by rw [hw.len]; exact hn), hw.len, polesG_pl]
end
end Cm
end

section
namespace Cm
open PySem Gm
def bAb0 : S := (.set 2 (.blt .len [(.var 0)]))
def bAb1 : S := (.ite (.or (.cmp .ne (.call "crossings_of" [(.blt .listt [(.var 0)])] []) (.var 1)) (.or (.cmp .ne (.call "_law_with" [(.var 2), (.blt .listt [(.var 1)])] []) (.var 0)) (.cmp .ne (.call "_law_with" [(.var 2), (.blt .tupl [(.cmpr (.idx (.var 1) (.bin .sub (.bin .sub (.blt .len [(.var 1)]) (.con (.int 1))) (.var 8))) (.name 8) [8] (.rng [(.blt .len [(.var 1)])]) (.con (.bl true)))])] []) (.var 0)))) [(.ret (.con (.bl false)))] [])
def bAb2 : S := (.set 3 (.blt .tupl [(.cmpr (.bin .sub (.var 2) (.idx (.var 1) (.bin .sub (.bin .sub (.blt .len [(.var 1)]) (.con (.int 1))) (.var 8)))) (.name 8) [8] (.rng [(.blt .len [(.var 1)])]) (.con (.bl true)))]))
def bAb3 : S := (.ite (.or (.cmp .ne (.call "backward_word" [(.var 0)] []) (.call "_law_back" [(.var 0)] [])) (.cmp .ne (.call "crossings_of" [(.call "backward_word" [(.blt .listt [(.var 0)])] [])] []) (.var 3))) [(.ret (.con (.bl false)))] [])
def bAb4 : S := (.forr (.name 4) (.rng [(.con (.int 1)), (.var 2)]) [(.set 6 (.blt .tupl [(.cmpr (.ite (.cmp .lt (.var 8) (.var 4)) (.idx (.var 0) (.var 8)) (.neg (.idx (.var 0) (.var 8)))) (.name 8) [8] (.rng [(.var 2)]) (.con (.bl true)))])), (.set 7 (.blt .tupl [(.blt .sorted [(.bin .add (.cmpr (.var 9) (.name 9) [9] (.seq (.var 1)) (.cmp .ne (.var 9) (.var 4))) (.ite (.cmp .inn (.var 4) (.var 1)) (.lst []) (.lst [(.var 4)])))])])), (.ite (.or (.cmp .ne (.call "_law_crossed" [(.var 0), (.var 4)] []) (.var 6)) (.cmp .ne (.call "crossings_of" [(.var 6)] []) (.var 7))) [(.ret (.con (.bl false)))] [])])
def bAb5 : S := (.forr (.name 5) (.rng [(.var 2)]) [(.set 6 (.ite (.cmp .lt (.var 2) (.con (.int 24))) (.bin .add (.slc (.var 0) [] [(.bin .add (.var 5) (.con (.int 1)))]) (.slc (.var 0) [(.var 5)] [])) (.lst [(.con (.int 0)), (.con (.str "many"))]))), (.ite (.cmp .ne (.call "_law_cut" [(.blt .listt [(.var 0)]), (.var 5)] []) (.var 6)) [(.ret (.con (.bl false)))] []), (.ite (.and (.cmp .lt (.var 2) (.con (.int 24))) (.cmp .ne (.call "crossings_of" [(.var 6)] []) (.blt .tupl [(.cmpr (.ite (.cmp .le (.var 4) (.var 5)) (.var 4) (.bin .add (.var 4) (.con (.int 1)))) (.name 4) [4] (.seq (.var 1)) (.con (.bl true)))]))) [(.ret (.con (.bl false)))] [])])
def bAb6 : S := (.ret (.con (.bl true)))
def dAb : Fn := ⟨2, 10, [], [], [bAb0, bAb1, bAb2, bAb3, bAb4, bAb5, bAb6]⟩
def bAp0 : S := (.set 6 (.blt .tupl [(.cmpr (.ite (.cmp .lt (.var 8) (.var 4)) (.idx (.var 0) (.var 8)) (.neg (.idx (.var 0) (.var 8)))) (.name 8) [8] (.rng [(.var 2)]) (.con (.bl true)))]))
def bAp1 : S := (.set 7 (.blt .tupl [(.blt .sorted [(.bin .add (.cmpr (.var 9) (.name 9) [9] (.seq (.var 1)) (.cmp .ne (.var 9) (.var 4))) (.ite (.cmp .inn (.var 4) (.var 1)) (.lst []) (.lst [(.var 4)])))])]))
def bAp2 : S := (.ite (.or (.cmp .ne (.call "_law_crossed" [(.var 0), (.var 4)] []) (.var 6)) (.cmp .ne (.call "crossings_of" [(.var 6)] []) (.var 7))) [(.ret (.con (.bl false)))] [])
def bAs0 : S := (.set 6 (.ite (.cmp .lt (.var 2) (.con (.int 24))) (.bin .add (.slc (.var 0) [] [(.bin .add (.var 5) (.con (.int 1)))]) (.slc (.var 0) [(.var 5)] [])) (.lst [(.con (.int 0)), (.con (.str "many"))])))
def bAs1 : S := (.ite (.cmp .ne (.call "_law_cut" [(.blt .listt [(.var 0)]), (.var 5)] []) (.var 6)) [(.ret (.con (.bl false)))] [])
def bAs2 : S := (.ite (.and (.cmp .lt (.var 2) (.con (.int 24))) (.cmp .ne (.call "crossings_of" [(.var 6)] []) (.blt .tupl [(.cmpr (.ite (.cmp .le (.var 4) (.var 5)) (.var 4) (.bin .add (.var 4) (.con (.int 1)))) (.name 4) [4] (.seq (.var 1)) (.con (.bl true)))]))) [(.ret (.con (.bl false)))] [])
def revE : E := (.cmpr (.idx (.var 1) (.bin .sub (.bin .sub (.blt .len [(.var 1)]) (.con (.int 1))) (.var 8))) (.name 8) [8] (.rng [(.blt .len [(.var 1)])]) (.con (.bl true)))
theorem loop_inv {tg : Tg} {f : List Sl → Cells → Rs} {I : List Sl → Prop} {G : Cells} : ∀ (xs : List GV), (∀ x ∈ xs, ∀ σ, I σ → ∃ σ2, setTg tg x σ = some σ2 ∧ ∃ σ3, f σ2 G = .nx σ3 G ∧ I σ3) → ∀ σ, I σ → ∃ σ', loopF tg f xs σ G = .nx σ' G ∧ I σ'
  | [], _, σ, h => ⟨σ, rfl, h⟩
  | x :: xs, hf, σ, h => by
    obtain ⟨σ2, h1, σ3, h2, h3⟩ := hf x List.mem_cons_self σ h
    obtain ⟨σ', h4, h5⟩ := loop_inv xs (fun y hy => hf y (List.mem_cons_of_mem _ hy)) σ3 h3
    exact ⟨σ', (loopF_nx h1 h2).trans h4, h5⟩
theorem evb {c : Gm.Ctx} {e : E} {σ : List Sl} {G : Cells} {r : Res GV} (h : evalE c e σ G = r) (hv : isVarE e = false := by rfl) : evB c e σ G = r := by rw [evB_no c hv]; exact h
theorem ev_ne {c : Gm.Ctx} {a b : E} {σ : List Sl} {G : Cells} {x : GV} {k : Nat} (ha : evB c a σ G = .ok x G) (hb : evB c b σ G = .ok x G) (hx : Nice k x) (hk : k ≤ 64 := by decide) : evalE c (.cmp .ne a b) σ G = .ok (.bl false) G := by
  have e : evalE c (.cmp .ne a b) σ G = (evB c a σ G).bind fun x G => (evB c b σ G).bind fun y G => Res.of ((cmpV .ne x y).map GV.bl) G := by simp only [evalE, evB]
  rw [e, ha]
  show (evB c b σ G).bind (fun y G => Res.of ((cmpV .ne x y).map GV.bl) G) = _
  rw [hb]
  show Res.of ((cmpV .ne x x).map GV.bl) G = _
  rw [ne_self hx hk]; rfl
theorem ev_call2 {c : Gm.Ctx} {f : Str} {a b : E} {σ : List Sl} {G : Cells} {x y : GV} {r : Res GV} (ha : evalE c a σ G = .ok x G) (hb : evalE c b σ G = .ok y G) (h : c.cf f [x, y] G = r) : evalE c (.call f [a, b] []) σ G = r := by
  simp only [evalE, evalL, ha, hb, Res.bind, List.append_nil, h]
theorem ev_or_f {c : Gm.Ctx} {a b : E} {σ : List Sl} {G : Cells} (ha : evalE c a σ G = .ok (.bl false) G) : evalE c (.or a b) σ G = evalE c b σ G := by
  simp only [evalE, ha, Res.bind, Res.of, tru_bl, if_false, Bool.false_eq_true]
theorem ite_f {c : Gm.Ctx} {t : E} {a : List S} {σ : List Sl} {G : Cells} (ht : evB c t σ G = .ok (.bl false) G) : execS c (.ite t a []) σ G = .nx σ G := by
  have : tstE c t σ G = .ok false G := by
    have e : tstE c t σ G = (evB c t σ G).bind fun x G => Res.of (truV x) G := by simp only [tstE, evB]
    rw [e, ht]; rfl
  rw [ex_ite this, if_neg (by simp)]; rfl
theorem lst_app {a b : List Int} (h : a.length + b.length ≤ 100000) : binV .add (.lst (a.map .int)) (.lst (b.map .int)) = some (.lst ((a ++ b).map .int)) := by
  show (if szOk ((a.map GV.int).length + (b.map GV.int).length) = true then some (GV.lst (a.map .int ++ b.map .int)) else none) = _
  rw [if_pos (sz_ok (by simpa using h)), List.map_append]
section
variable {T : Tb} {wf k : Nat} {G : Cells}
theorem rev_P {c : Gm.Ctx} {w : GV} {P : List Int} {s2 s3 s4 s5 s6 s7 s8 s9 : Sl} (hz : P.length ≤ 1000) : evalE c revE [.val w, .val (.tup (P.map .int)), s2, s3, s4, s5, s6, s7, s8, s9] G = .ok (.lst (P.reverse.map .int)) G := by
  have hlen : bltV .len [.tup (P.map .int)] = some (.int P.length) := by show some (GV.int ((P.map GV.int).length : Nat)) = _; rw [List.length_map]
  have hc := cm_I1 (c := c) (elt := (.idx (.var 1) (.bin .sub (.bin .sub (.blt .len [(.var 1)]) (.con (.int 1))) (.var 8)))) (t := 8) (own := [8]) (it := .rng [(.blt .len [(.var 1)])]) (σ := [.val w, .val (.tup (P.map .int)), s2, s3, s4, s5, s6, s7, s8, s9]) (G := G) (ns := rI 0 P.length) (fun i => P.getD ((P.length : Int) - 1 - i).toNat 0)
    (it_r1 (by simp only [execS, evalE, evalL, evalLB, bor, Res.bind, Res.of, Res.thn, rd, rdB, tstE, tru_bl, int_int, eq_int, lt_int, le_int, gt_int, ge_int, ne_int, add_ok, sub_ok, List.set_cons_zero, List.set_cons_succ, List.getElem?_cons_zero, List.getElem?_cons_succ, Option.map_some, if_true, if_false, Bool.false_eq_true, Bool.not_true, Bool.not_false, Rs.seq, exl_nil, List.append_nil, hlen]) (by omega)) (by rw [rI_len]; omega) (fun i hi => by
      have hm := mem_rI.mp hi
      have hx : idxV (.tup (P.map .int)) (.int ((P.length : Int) - 1 - i)) G = some (.int (P.getD ((P.length : Int) - 1 - i).toNat 0)) := by
        have e : ((P.length : Int) - 1 - i) = ((((P.length : Int) - 1 - i).toNat : Nat) : Int) := by omega
        rw [e]
        refine ixt ?_
        have hlt : ((P.length : Int) - 1 - i).toNat < P.length := by omega
        rw [List.getElem?_map, Int.toNat_natCast, List.getElem?_eq_getElem hlt, getD_lt hlt]; rfl
      simp only [wipeG, execS, evalE, evalL, evalLB, bor, Res.bind, Res.of, Res.thn, rd, rdB, tstE, tru_bl, int_int, eq_int, lt_int, le_int, gt_int, ge_int, ne_int, add_ok, sub_ok, List.set_cons_zero, List.set_cons_succ, List.getElem?_cons_zero, List.getElem?_cons_succ, Option.map_some, if_true, if_false, Bool.false_eq_true, Bool.not_true, Bool.not_false, Rs.seq, exl_nil, List.append_nil, hlen, hx])
  rw [rev_map rfl] at hc
  exact hc
theorem sub_P {c : Gm.Ctx} {w : GV} {n : Int} {P : List Int} {s3 s4 s5 s6 s7 s8 s9 : Sl} (hz : P.length ≤ 1000) : evalE c (.cmpr (.bin .sub (.var 2) (.idx (.var 1) (.bin .sub (.bin .sub (.blt .len [(.var 1)]) (.con (.int 1))) (.var 8)))) (.name 8) [8] (.rng [(.blt .len [(.var 1)])]) (.con (.bl true))) [.val w, .val (.tup (P.map .int)), .val (.int n), s3, s4, s5, s6, s7, s8, s9] G = .ok (.lst ((P.reverse.map fun q => n - q).map .int)) G := by
  have hlen : bltV .len [.tup (P.map .int)] = some (.int P.length) := by show some (GV.int ((P.map GV.int).length : Nat)) = _; rw [List.length_map]
  have hc := cm_I1 (c := c) (elt := (.bin .sub (.var 2) (.idx (.var 1) (.bin .sub (.bin .sub (.blt .len [(.var 1)]) (.con (.int 1))) (.var 8))))) (t := 8) (own := [8]) (it := .rng [(.blt .len [(.var 1)])]) (σ := [.val w, .val (.tup (P.map .int)), .val (.int n), s3, s4, s5, s6, s7, s8, s9]) (G := G) (ns := rI 0 P.length) (fun i => n - P.getD ((P.length : Int) - 1 - i).toNat 0)
    (it_r1 (by simp only [execS, evalE, evalL, evalLB, bor, Res.bind, Res.of, Res.thn, rd, rdB, tstE, tru_bl, int_int, eq_int, lt_int, le_int, gt_int, ge_int, ne_int, add_ok, sub_ok, List.set_cons_zero, List.set_cons_succ, List.getElem?_cons_zero, List.getElem?_cons_succ, Option.map_some, if_true, if_false, Bool.false_eq_true, Bool.not_true, Bool.not_false, Rs.seq, exl_nil, List.append_nil, hlen]) (by omega)) (by rw [rI_len]; omega) (fun i hi => by
      have hm := mem_rI.mp hi
      have hx : idxV (.tup (P.map .int)) (.int ((P.length : Int) - 1 - i)) G = some (.int (P.getD ((P.length : Int) - 1 - i).toNat 0)) := by
        have e : ((P.length : Int) - 1 - i) = ((((P.length : Int) - 1 - i).toNat : Nat) : Int) := by omega
        rw [e]
        refine ixt ?_
        have hlt : ((P.length : Int) - 1 - i).toNat < P.length := by omega
        rw [List.getElem?_map, Int.toNat_natCast, List.getElem?_eq_getElem hlt, getD_lt hlt]; rfl
      simp only [wipeG, execS, evalE, evalL, evalLB, bor, Res.bind, Res.of, Res.thn, rd, rdB, tstE, tru_bl, int_int, eq_int, lt_int, le_int, gt_int, ge_int, ne_int, add_ok, sub_ok, List.set_cons_zero, List.set_cons_succ, List.getElem?_cons_zero, List.getElem?_cons_succ, Option.map_some, if_true, if_false, Bool.false_eq_true, Bool.not_true, Bool.not_false, Rs.seq, exl_nil, List.append_nil, hlen, hx])
  have e : ((rI 0 P.length).map fun i => n - P.getD ((P.length : Int) - 1 - i).toNat 0) = P.reverse.map fun q => n - q := by
    rw [← rev_map (w := P) rfl, List.map_map]; rfl
  rw [e] at hc
  exact hc
theorem wof_P {n : Nat} {w : List Int} (hw : IsW n w) : wof n (fun x => decide (x ∈ pl n (cP w))) = w := wof_of hw (decide_eq_false fun h => by have := (mem_pl.mp h).1; omega) fun x h1 h2 => by
  cases hc : cP w x with
  | true => exact decide_eq_true (mem_pl.mpr ⟨h1, h2, hc⟩)
  | false => exact decide_eq_false fun h => by rw [(mem_pl.mp h).2.2] at hc; cases hc
theorem with_P (t : T5 T) {n : Nat} {w : List Int} (hw : IsW n w) (h1 : 1 ≤ n) (hn : n ≤ 24) {v : GV} (hv : Sq v ((pl n (cP w)).map .int)) : callK T wf (k + 4) "_law_with" [.int n, v] G = .ok (.tup (w.map .int)) G := by
  have := with_w (wf := wf) (k := k) (G := G) t.toTw h1 hn hv pl_nd (fun x hx => ⟨(mem_pl.mp hx).1, (mem_pl.mp hx).2.1⟩) (pl_len (by omega))
  rw [wof_P hw] at this
  exact lwi_ok t this
theorem with_R (t : T5 T) {n : Nat} {w : List Int} (hw : IsW n w) (h1 : 1 ≤ n) (hn : n ≤ 24) : callK T wf (k + 4) "_law_with" [.int n, .tup ((pl n (cP w)).reverse.map .int)] G = .ok (.tup (w.map .int)) G := by
  have := with_w (wf := wf) (k := k) (G := G) t.toTw h1 hn (v := .tup ((pl n (cP w)).reverse.map .int)) (l := (pl n (cP w)).reverse) (.inl rfl) (by first | exact List.nodup_reverse.mpr pl_nd | exact (List.reverse_perm _).nodup_iff.mpr pl_nd) (fun x hx => by have hx := List.mem_reverse.mp hx; exact ⟨(mem_pl.mp hx).1, (mem_pl.mp hx).2.1⟩) (by rw [List.length_reverse]; exact pl_len (by omega))
  have e : (fun x => decide (x ∈ (pl n (cP w)).reverse)) = fun x => decide (x ∈ pl n (cP w)) := by
    funext x
    rw [decide_eq_decide]; exact List.mem_reverse
  rw [e, wof_P hw] at this
  exact lwi_ok t this
/-- one pole in turn -/
theorem ap_step (t : T5 T) {n : Nat} {w : List Int} (hw : IsW n w) (h1 : 1 ≤ n) (hn : n ≤ 24) {B : GV} {p : Nat} (p1 : 1 ≤ p) (p2 : p < n) (s6 s7 : Sl) :
    ∃ s6' s7', execL ⟨T, callK T wf (k + 5), wf, none⟩ [bAp0, bAp1, bAp2] [.val (.tup (w.map .int)), .val (.tup ((pl n (cP w)).map .int)), .val (.int n), .val B, .val (.int p), .no, s6, s7, .no, .no] G = .nx [.val (.tup (w.map .int)), .val (.tup ((pl n (cP w)).map .int)), .val (.int n), .val B, .val (.int p), .no, s6', s7', .no, .no] G := by
  have hl := hw.len
  have hc := cm_I1 (c := ⟨T, callK T wf (k + 5), wf, none⟩) (elt := (.ite (.cmp .lt (.var 8) (.var 4)) (.idx (.var 0) (.var 8)) (.neg (.idx (.var 0) (.var 8))))) (t := 8) (own := [8]) (it := .rng [.var 2]) (σ := [.val (.tup (w.map .int)), .val (.tup ((pl n (cP w)).map .int)), .val (.int n), .val B, .val (.int p), .no, s6, s7, .no, .no]) (G := G) (ns := rI 0 n) (fun i => if i < (p : Int) then w.getD i.toNat 0 else - w.getD i.toNat 0)
    (it_r1 (by simp only [execS, evalE, evalL, evalLB, bor, Res.bind, Res.of, Res.thn, rd, rdB, tstE, tru_bl, int_int, eq_int, lt_int, le_int, gt_int, ge_int, ne_int, add_ok, sub_ok, List.set_cons_zero, List.set_cons_succ, List.getElem?_cons_zero, List.getElem?_cons_succ, Option.map_some, if_true, if_false, Bool.false_eq_true, Bool.not_true, Bool.not_false, Rs.seq, exl_nil, List.append_nil]) (by omega)) (by rw [rI_len]; omega) (fun i hi => by
      have hm := mem_rI.mp hi
      have hx : idxV (.tup (w.map .int)) (.int i) G = some (.int (w.getD i.toNat 0)) := by
        have e : i = ((i.toNat : Nat) : Int) := by omega
        rw [e]
        refine ixt ?_
        have hlt : i.toNat < w.length := by omega
        rw [List.getElem?_map, Int.toNat_natCast, List.getElem?_eq_getElem hlt, getD_lt hlt]; rfl
      by_cases h : i < (p : Int)
      · have hd : decide (i < (p : Int)) = true := decide_eq_true h
        rw [if_pos h]
        simp only [wipeG, execS, evalE, evalL, evalLB, bor, Res.bind, Res.of, Res.thn, rd, rdB, tstE, tru_bl, int_int, eq_int, lt_int, le_int, gt_int, ge_int, ne_int, add_ok, sub_ok, List.set_cons_zero, List.set_cons_succ, List.getElem?_cons_zero, List.getElem?_cons_succ, Option.map_some, if_true, if_false, Bool.false_eq_true, Bool.not_true, Bool.not_false, Rs.seq, exl_nil, List.append_nil, hx, hd]
      · have hd : decide (i < (p : Int)) = false := decide_eq_false h
        rw [if_neg h]
        simp only [wipeG, execS, evalE, evalL, evalLB, bor, Res.bind, Res.of, Res.thn, rd, rdB, tstE, tru_bl, int_int, eq_int, lt_int, le_int, gt_int, ge_int, ne_int, add_ok, sub_ok, List.set_cons_zero, List.set_cons_succ, List.getElem?_cons_zero, List.getElem?_cons_succ, Option.map_some, if_true, if_false, Bool.false_eq_true, Bool.not_true, Bool.not_false, Rs.seq, exl_nil, List.append_nil, hx, hd])
  rw [fl_map hw] at hc
  have e0 : execS ⟨T, callK T wf (k + 5), wf, none⟩ bAp0 [.val (.tup (w.map .int)), .val (.tup ((pl n (cP w)).map .int)), .val (.int n), .val B, .val (.int p), .no, s6, s7, .no, .no] G = .nx [.val (.tup (w.map .int)), .val (.tup ((pl n (cP w)).map .int)), .val (.int n), .val B, .val (.int p), .no, .val (.tup ((fl w p).map .int)), s7, .no, .no] G := by
    rw [bAp0, ex_set (tup_cm hc)]; rfl
  have hf := cm_I (c := ⟨T, callK T wf (k + 5), wf, none⟩) (elt := .var 9) (cnd := .cmp .ne (.var 9) (.var 4)) (t := 9) (own := [9]) (it := .seq (.var 1)) (σ := [.val (.tup (w.map .int)), .val (.tup ((pl n (cP w)).map .int)), .val (.int n), .val B, .val (.int p), .no, .val (.tup ((fl w p).map .int)), s7, .no, .no]) (G := G) (ns := pl n (cP w)) (fun i => i) (fun i => !(i == (p : Int))) (it_sq rfl rfl) (Nat.le_trans (pl_len (by omega)) (by decide)) (fun i hi => by simp only [wipeG, execS, evalE, evalL, evalLB, bor, Res.bind, Res.of, Res.thn, rd, rdB, tstE, tru_bl, int_int, eq_int, lt_int, le_int, gt_int, ge_int, ne_int, add_ok, sub_ok, List.set_cons_zero, List.set_cons_succ, List.getElem?_cons_zero, List.getElem?_cons_succ, Option.map_some, if_true, if_false, Bool.false_eq_true, Bool.not_true, Bool.not_false, Rs.seq, exl_nil, List.append_nil]) (fun i hi _ => by simp only [wipeG, execS, evalE, evalL, evalLB, bor, Res.bind, Res.of, Res.thn, rd, rdB, tstE, tru_bl, int_int, eq_int, lt_int, le_int, gt_int, ge_int, ne_int, add_ok, sub_ok, List.set_cons_zero, List.set_cons_succ, List.getElem?_cons_zero, List.getElem?_cons_succ, Option.map_some, if_true, if_false, Bool.false_eq_true, Bool.not_true, Bool.not_false, Rs.seq, exl_nil, List.append_nil])
  rw [List.map_id'] at hf
  have zt0 : szOk ([] : List GV).length = true := sz_ok (by decide)
  have zt1 : szOk [GV.int (p : Int)].length = true := sz_ok (by show 1 ≤ 100000; decide)
  have hi : evalE ⟨T, callK T wf (k + 5), wf, none⟩ (.ite (.cmp .inn (.var 4) (.var 1)) (.lst []) (.lst [(.var 4)])) [.val (.tup (w.map .int)), .val (.tup ((pl n (cP w)).map .int)), .val (.int n), .val B, .val (.int p), .no, .val (.tup ((fl w p).map .int)), s7, .no, .no] G = .ok (.lst ((if decide ((p : Int) ∈ pl n (cP w)) = true then [] else [(p : Int)]).map .int)) G := by
    have hin := in_tup (l := pl n (cP w)) (j := (p : Int))
    cases hd : decide ((p : Int) ∈ pl n (cP w)) with
    | true => rw [hd] at hin; simp only [execS, evalE, evalL, evalLB, bor, Res.bind, Res.of, Res.thn, rd, rdB, tstE, tru_bl, int_int, eq_int, lt_int, le_int, gt_int, ge_int, ne_int, add_ok, sub_ok, List.set_cons_zero, List.set_cons_succ, List.getElem?_cons_zero, List.getElem?_cons_succ, Option.map_some, if_true, if_false, Bool.false_eq_true, Bool.not_true, Bool.not_false, Rs.seq, exl_nil, List.append_nil, hin, zt0, List.map_nil]
    | false => rw [hd] at hin; simp only [execS, evalE, evalL, evalLB, bor, Res.bind, Res.of, Res.thn, rd, rdB, tstE, tru_bl, int_int, eq_int, lt_int, le_int, gt_int, ge_int, ne_int, add_ok, sub_ok, List.set_cons_zero, List.set_cons_succ, List.getElem?_cons_zero, List.getElem?_cons_succ, Option.map_some, if_true, if_false, Bool.false_eq_true, Bool.not_true, Bool.not_false, Rs.seq, exl_nil, List.append_nil, hin, zt1, List.map_cons, List.map_nil]
  have hle : ((pl n (cP w)).filter fun i => !(i == (p : Int))).length + (if decide ((p : Int) ∈ pl n (cP w)) = true then [] else [(p : Int)]).length ≤ 100000 := by
    have a1 := List.length_filter_le (fun i => !(i == (p : Int))) (pl n (cP w))
    have a2 := pl_len (n := n) (p := cP w) (by omega)
    split <;> simp <;> omega
  have hb := ev_bin2 (op := .add) (evb (hf)) (evb (hi)) (lst_app hle)
  have hs := ev_blt1 (f := .sorted) (evb (hb)) (srt_ok _)
  rw [fl_pl hw p1 p2] at hs
  have ht := ev_blt1 (f := .tupl) (evb (hs)) (show bltV .tupl [.lst _] = some (.tup _) from rfl)
  have e1 : execS ⟨T, callK T wf (k + 5), wf, none⟩ bAp1 [.val (.tup (w.map .int)), .val (.tup ((pl n (cP w)).map .int)), .val (.int n), .val B, .val (.int p), .no, .val (.tup ((fl w p).map .int)), s7, .no, .no] G = .nx [.val (.tup (w.map .int)), .val (.tup ((pl n (cP w)).map .int)), .val (.int n), .val B, .val (.int p), .no, .val (.tup ((fl w p).map .int)), .val (.tup ((pl n (cP (fl w p))).map .int)), .no, .no] G := by
    rw [bAp1, ex_set ht]; rfl
  have c1 : callK T wf (k + 5) "_law_crossed" [.tup (w.map .int), .int p] G = .ok (.tup ((fl w p).map .int)) G := lcr_ok t (crossed_good t.toTw hw hn (.inl rfl) p1 p2)
  have c2 : callK T wf (k + 5) "crossings_of" [.tup ((fl w p).map .int)] G = .ok (.tup ((pl n (cP (fl w p))).map .int)) G := crossings_ok (k := k + 1) t.toTw (fl_isW hw p1 h1) hn (.inl rfl)
  have n1 := ne_self (nice_row (fl w p))
  have n2 := ne_self (nice_row (pl n (cP (fl w p))))
  refine ⟨.val (.tup ((fl w p).map .int)), .val (.tup ((pl n (cP (fl w p))).map .int)), ?_⟩
  rw [exl_nx e0, exl_nx e1, exl_cons]
  simp only [bAp2, execS, evalE, evalL, evalLB, bor, Res.bind, Res.of, Res.thn, rd, rdB, tstE, tru_bl, int_int, eq_int, lt_int, le_int, gt_int, ge_int, ne_int, add_ok, sub_ok, List.set_cons_zero, List.set_cons_succ, List.getElem?_cons_zero, List.getElem?_cons_succ, Option.map_some, if_true, if_false, Bool.false_eq_true, Bool.not_true, Bool.not_false, Rs.seq, exl_nil, List.append_nil, c1, c2, n1, n2]
theorem as_step (t : T5 T) {n : Nat} {w : List Int} (hw : IsW n w) (h1 : 1 ≤ n) (hn : n ≤ 24) {B : GV} {s : Nat} (p2 : s < n) (s4 s6 s7 : Sl) :
    ∃ s4' s6' s7', execL ⟨T, callK T wf (k + 5), wf, none⟩ [bAs0, bAs1, bAs2] [.val (.tup (w.map .int)), .val (.tup ((pl n (cP w)).map .int)), .val (.int n), .val B, s4, .val (.int s), s6, s7, .no, .no] G = .nx [.val (.tup (w.map .int)), .val (.tup ((pl n (cP w)).map .int)), .val (.int n), .val B, s4', .val (.int s), s6', s7', .no, .no] G := by
  have hl := hw.len
  have hls : ∀ {xs : List GV}, bltV .listt [.tup xs] = some (.lst xs) := rfl
  have zt2 : szOk [GV.int 0, GV.str "many"].length = true := sz_ok (by decide)
  by_cases h : n < 24
  · have hd : decide ((n : Int) < 24) = true := decide_eq_true (by omega)
    have ec : ((s : Int) + 1) = ((s + 1 : Nat) : Int) := by omega
    have ha := tup_app (a := w.take (s + 1)) (b := w.drop s) (by rw [List.length_take, List.length_drop]; omega)
    have c1 : callK T wf (k + 5) "_law_cut" [.lst (w.map .int), .int s] G = .ok (.tup ((ct w s).map .int)) G := lcu_ok t (cut_good t.toTw hw h (.inr rfl) p2)
    have c2 : callK T wf (k + 5) "crossings_of" [.tup ((ct w s).map .int)] G = .ok (.tup ((pl (n + 1) (cP (ct w s))).map .int)) G := crossings_ok (k := k + 1) t.toTw (ct_isW hw p2) (by omega) (.inl rfl)
    have n1 := ne_self (nice_row (ct w s))
    have n2 := ne_self (nice_row (pl (n + 1) (cP (ct w s))))
    have hc := cm_I1 (c := ⟨T, callK T wf (k + 5), wf, none⟩) (elt := (.ite (.cmp .le (.var 4) (.var 5)) (.var 4) (.bin .add (.var 4) (.con (.int 1))))) (t := 4) (own := [4]) (it := .seq (.var 1)) (σ := [.val (.tup (w.map .int)), .val (.tup ((pl n (cP w)).map .int)), .val (.int n), .val B, s4, .val (.int s), .val (.tup ((ct w s).map .int)), s7, .no, .no]) (G := G) (ns := pl n (cP w)) (fun q => if q ≤ (s : Int) then q else q + 1) (it_sq rfl rfl) (Nat.le_trans (pl_len (by omega)) (by decide)) (fun i hi => by
      by_cases hq : i ≤ (s : Int)
      · have hdq : decide (i ≤ (s : Int)) = true := decide_eq_true hq
        rw [if_pos hq]
        simp only [wipeG, execS, evalE, evalL, evalLB, bor, Res.bind, Res.of, Res.thn, rd, rdB, tstE, tru_bl, int_int, eq_int, lt_int, le_int, gt_int, ge_int, ne_int, add_ok, sub_ok, List.set_cons_zero, List.set_cons_succ, List.getElem?_cons_zero, List.getElem?_cons_succ, Option.map_some, if_true, if_false, Bool.false_eq_true, Bool.not_true, Bool.not_false, Rs.seq, exl_nil, List.append_nil, hdq]
      · have hdq : decide (i ≤ (s : Int)) = false := decide_eq_false hq
        rw [if_neg hq]
        simp only [wipeG, execS, evalE, evalL, evalLB, bor, Res.bind, Res.of, Res.thn, rd, rdB, tstE, tru_bl, int_int, eq_int, lt_int, le_int, gt_int, ge_int, ne_int, add_ok, sub_ok, List.set_cons_zero, List.set_cons_succ, List.getElem?_cons_zero, List.getElem?_cons_succ, Option.map_some, if_true, if_false, Bool.false_eq_true, Bool.not_true, Bool.not_false, Rs.seq, exl_nil, List.append_nil, hdq])
    rw [ct_pl hw p2] at hc
    refine ⟨s4, .val (.tup ((ct w s).map .int)), s7, ?_⟩
    rw [exl_cons]
    simp only [bAs0, execS, evalE, evalL, evalLB, bor, Res.bind, Res.of, Res.thn, rd, rdB, tstE, tru_bl, int_int, eq_int, lt_int, le_int, gt_int, ge_int, ne_int, add_ok, sub_ok, List.set_cons_zero, List.set_cons_succ, List.getElem?_cons_zero, List.getElem?_cons_succ, Option.map_some, if_true, if_false, Bool.false_eq_true, Bool.not_true, Bool.not_false, Rs.seq, exl_nil, List.append_nil, hd, ec, prtL, slc_take, slc_drop, ← List.map_take, ← List.map_drop, ha]
    rw [show w.take (s + 1) ++ w.drop s = ct w s from rfl, exl_cons]
    simp only [bAs1, execS, evalE, evalL, evalLB, bor, Res.bind, Res.of, Res.thn, rd, rdB, tstE, tru_bl, int_int, eq_int, lt_int, le_int, gt_int, ge_int, ne_int, add_ok, sub_ok, List.set_cons_zero, List.set_cons_succ, List.getElem?_cons_zero, List.getElem?_cons_succ, Option.map_some, if_true, if_false, Bool.false_eq_true, Bool.not_true, Bool.not_false, Rs.seq, exl_nil, List.append_nil, hls, c1, n1]
    rw [exl_cons]
    have e2 : evalE ⟨T, callK T wf (k + 5), wf, none⟩ (.and (.cmp .lt (.var 2) (.con (.int 24))) (.cmp .ne (.call "crossings_of" [(.var 6)] []) (.blt .tupl [(.cmpr (.ite (.cmp .le (.var 4) (.var 5)) (.var 4) (.bin .add (.var 4) (.con (.int 1)))) (.name 4) [4] (.seq (.var 1)) (.con (.bl true)))]))) [.val (.tup (w.map .int)), .val (.tup ((pl n (cP w)).map .int)), .val (.int n), .val B, s4, .val (.int s), .val (.tup ((ct w s).map .int)), s7, .no, .no] G = .ok (.bl false) G := by
      have q1 : evalE ⟨T, callK T wf (k + 5), wf, none⟩ (.call "crossings_of" [(.var 6)] []) [.val (.tup (w.map .int)), .val (.tup ((pl n (cP w)).map .int)), .val (.int n), .val B, s4, .val (.int s), .val (.tup ((ct w s).map .int)), s7, .no, .no] G = .ok (.tup ((pl (n + 1) (cP (ct w s))).map .int)) G := by simp only [execS, evalE, evalL, evalLB, bor, Res.bind, Res.of, Res.thn, rd, rdB, tstE, tru_bl, int_int, eq_int, lt_int, le_int, gt_int, ge_int, ne_int, add_ok, sub_ok, List.set_cons_zero, List.set_cons_succ, List.getElem?_cons_zero, List.getElem?_cons_succ, Option.map_some, if_true, if_false, Bool.false_eq_true, Bool.not_true, Bool.not_false, Rs.seq, exl_nil, List.append_nil, c2]
      have q := ev_ne (evb (q1)) (evb (tup_cm hc)) (nice_row _)
      rw [evalE]
      have q0 : evalE ⟨T, callK T wf (k + 5), wf, none⟩ (.cmp .lt (.var 2) (.con (.int 24))) [.val (.tup (w.map .int)), .val (.tup ((pl n (cP w)).map .int)), .val (.int n), .val B, s4, .val (.int s), .val (.tup ((ct w s).map .int)), s7, .no, .no] G = .ok (.bl true) G := by simp only [execS, evalE, evalL, evalLB, bor, Res.bind, Res.of, Res.thn, rd, rdB, tstE, tru_bl, int_int, eq_int, lt_int, le_int, gt_int, ge_int, ne_int, add_ok, sub_ok, List.set_cons_zero, List.set_cons_succ, List.getElem?_cons_zero, List.getElem?_cons_succ, Option.map_some, if_true, if_false, Bool.false_eq_true, Bool.not_true, Bool.not_false, Rs.seq, exl_nil, List.append_nil, hd]
      rw [q0]
      simp only [Res.bind, Res.of, tru_bl, if_true]
      exact q
    rw [bAs2, ite_f (evb (e2))]
    rfl
  · have hn24 : n = 24 := by omega
    subst hn24
    have hd : decide (((24 : Nat) : Int) < 24) = false := by decide
    have c1 : callK T wf (k + 5) "_law_cut" [.lst (w.map .int), .int s] G = .ok (.lst [.int 0, .str "many"]) G := lcu_w t (cut_many t.toTw hw (.inr rfl) p2)
    have n1 : cmpV .ne (.lst [.int 0, .str "many"]) (.lst [.int 0, .str "many"]) = some false := by kernel_rfl
    refine ⟨s4, .val (.lst [.int 0, .str "many"]), s7, ?_⟩
    rw [exl_cons]
    simp only [bAs0, execS, evalE, evalL, evalLB, bor, Res.bind, Res.of, Res.thn, rd, rdB, tstE, tru_bl, int_int, eq_int, lt_int, le_int, gt_int, ge_int, ne_int, add_ok, sub_ok, List.set_cons_zero, List.set_cons_succ, List.getElem?_cons_zero, List.getElem?_cons_succ, Option.map_some, if_true, if_false, Bool.false_eq_true, Bool.not_true, Bool.not_false, Rs.seq, exl_nil, List.append_nil, hd, zt2]
    rw [exl_cons]
    simp only [bAs1, execS, evalE, evalL, evalLB, bor, Res.bind, Res.of, Res.thn, rd, rdB, tstE, tru_bl, int_int, eq_int, lt_int, le_int, gt_int, ge_int, ne_int, add_ok, sub_ok, List.set_cons_zero, List.set_cons_succ, List.getElem?_cons_zero, List.getElem?_cons_succ, Option.map_some, if_true, if_false, Bool.false_eq_true, Bool.not_true, Bool.not_false, Rs.seq, exl_nil, List.append_nil, hls, c1, n1]
    rw [exl_cons]
    simp only [bAs2, execS, evalE, evalL, evalLB, bor, Res.bind, Res.of, Res.thn, rd, rdB, tstE, tru_bl, int_int, eq_int, lt_int, le_int, gt_int, ge_int, ne_int, add_ok, sub_ok, List.set_cons_zero, List.set_cons_succ, List.getElem?_cons_zero, List.getElem?_cons_succ, Option.map_some, if_true, if_false, Bool.false_eq_true, Bool.not_true, Bool.not_false, Rs.seq, exl_nil, List.append_nil, hd]
theorem about_ok (t : T5 T) (hA : T.fn "_law_about" = some dAb) {n : Nat} {w : List Int} (hw : IsW n w) (h1 : 1 ≤ n) (hn : n ≤ 24) : callK T wf (k + 6) "_law_about" [.tup (w.map .int), .tup ((pl n (cP w)).map .int)] G = .ok (.bl true) G := by
  have hl := hw.len
  have hlen : bltV .len [.tup (w.map .int)] = some (.int n) := by show some (GV.int ((w.map GV.int).length : Nat)) = _; rw [List.length_map, hw.len]
  have hls : ∀ {xs : List GV}, bltV .listt [.tup xs] = some (.lst xs) := rfl
  have hz : (pl n (cP w)).length ≤ 1000 := pl_len (by omega)
  have c1 : callK T wf (k + 5) "crossings_of" [.lst (w.map .int)] G = .ok (.tup ((pl n (cP w)).map .int)) G := crossings_ok (k := k + 1) t.toTw hw hn (.inr rfl)
  have c2 : callK T wf (k + 5) "_law_with" [.int n, .lst ((pl n (cP w)).map .int)] G = .ok (.tup (w.map .int)) G := with_P (k := k + 1) t hw h1 hn (.inr rfl)
  have c3 : callK T wf (k + 5) "_law_with" [.int n, .tup ((pl n (cP w)).reverse.map .int)] G = .ok (.tup (w.map .int)) G := with_R (k := k + 1) t hw h1 hn
  have c4 : callK T wf (k + 5) "backward_word" [.tup (w.map .int)] G = .ok (.tup ((bwd w).map .int)) G := backward_ok (k := k + 1) t.toTw hw h1 hn (.inl rfl)
  have c5 : callK T wf (k + 5) "_law_back" [.tup (w.map .int)] G = .ok (.tup ((bwd w).map .int)) G := lba_ok (k := k + 3) t hw h1 hn
  have c6 : callK T wf (k + 5) "backward_word" [.lst (w.map .int)] G = .ok (.tup ((bwd w).map .int)) G := backward_ok (k := k + 1) t.toTw hw h1 hn (.inr rfl)
  have c7 : callK T wf (k + 5) "crossings_of" [.tup ((bwd w).map .int)] G = .ok (.tup ((pl n (cP (bwd w))).map .int)) G := crossings_ok (k := k + 1) t.toTw (bwd_isW hw h1) hn (.inl rfl)
  have n1 := ne_self (nice_row (pl n (cP w)))
  have n2 := ne_self (nice_row w)
  have n3 := ne_self (nice_row (bwd w))
  have n4 := ne_self (nice_row (pl n (cP (bwd w))))
  rw [callK_step hA rfl]
  show finR (execL _ [bAb0, bAb1, bAb2, bAb3, bAb4, bAb5, bAb6] [.val (.tup (w.map .int)), .val (.tup ((pl n (cP w)).map .int)), .no, .no, .no, .no, .no, .no, .no, .no] G) = _
  rw [exl_cons]
  simp only [bAb0, execS, evalE, evalL, evalLB, bor, Res.bind, Res.of, Res.thn, rd, rdB, tstE, tru_bl, int_int, eq_int, lt_int, le_int, gt_int, ge_int, ne_int, add_ok, sub_ok, List.set_cons_zero, List.set_cons_succ, List.getElem?_cons_zero, List.getElem?_cons_succ, Option.map_some, if_true, if_false, Bool.false_eq_true, Bool.not_true, Bool.not_false, Rs.seq, exl_nil, List.append_nil, hlen]
  have e1 : evalE ⟨T, callK T wf (k + 5), wf, none⟩ (.call "_law_with" [(.var 2), (.blt .tupl [revE])] []) [.val (.tup (w.map .int)), .val (.tup ((pl n (cP w)).map .int)), .val (.int n), .no, .no, .no, .no, .no, .no, .no] G = .ok (.tup (w.map .int)) G := by
    have hr := tup_cm (rev_P (c := ⟨T, callK T wf (k + 5), wf, none⟩) (G := G) (w := .tup (w.map .int)) (P := pl n (cP w)) (s2 := .val (.int n)) (s3 := .no) (s4 := .no) (s5 := .no) (s6 := .no) (s7 := .no) (s8 := .no) (s9 := .no) hz)
    exact ev_call2 (by simp only [execS, evalE, evalL, evalLB, bor, Res.bind, Res.of, Res.thn, rd, rdB, tstE, tru_bl, int_int, eq_int, lt_int, le_int, gt_int, ge_int, ne_int, add_ok, sub_ok, List.set_cons_zero, List.set_cons_succ, List.getElem?_cons_zero, List.getElem?_cons_succ, Option.map_some, if_true, if_false, Bool.false_eq_true, Bool.not_true, Bool.not_false, Rs.seq, exl_nil, List.append_nil]) hr c3
  have e1' : evalE ⟨T, callK T wf (k + 5), wf, none⟩ (.cmp .ne (.call "_law_with" [(.var 2), (.blt .tupl [revE])] []) (.var 0)) [.val (.tup (w.map .int)), .val (.tup ((pl n (cP w)).map .int)), .val (.int n), .no, .no, .no, .no, .no, .no, .no] G = .ok (.bl false) G :=
    ev_ne (evb (e1)) (by simp only [evB, bor, rdB, List.getElem?_cons_zero, Res.of]) (nice_row w)
  have e2 : evalE ⟨T, callK T wf (k + 5), wf, none⟩ (.or (.cmp .ne (.call "crossings_of" [(.blt .listt [(.var 0)])] []) (.var 1)) (.or (.cmp .ne (.call "_law_with" [(.var 2), (.blt .listt [(.var 1)])] []) (.var 0)) (.cmp .ne (.call "_law_with" [(.var 2), (.blt .tupl [revE])] []) (.var 0)))) [.val (.tup (w.map .int)), .val (.tup ((pl n (cP w)).map .int)), .val (.int n), .no, .no, .no, .no, .no, .no, .no] G = .ok (.bl false) G := by
    rw [ev_or_f (by simp only [execS, evalE, evalL, evalLB, bor, Res.bind, Res.of, Res.thn, rd, rdB, tstE, tru_bl, int_int, eq_int, lt_int, le_int, gt_int, ge_int, ne_int, add_ok, sub_ok, List.set_cons_zero, List.set_cons_succ, List.getElem?_cons_zero, List.getElem?_cons_succ, Option.map_some, if_true, if_false, Bool.false_eq_true, Bool.not_true, Bool.not_false, Rs.seq, exl_nil, List.append_nil, hls, c1, n1]), ev_or_f (by simp only [execS, evalE, evalL, evalLB, bor, Res.bind, Res.of, Res.thn, rd, rdB, tstE, tru_bl, int_int, eq_int, lt_int, le_int, gt_int, ge_int, ne_int, add_ok, sub_ok, List.set_cons_zero, List.set_cons_succ, List.getElem?_cons_zero, List.getElem?_cons_succ, Option.map_some, if_true, if_false, Bool.false_eq_true, Bool.not_true, Bool.not_false, Rs.seq, exl_nil, List.append_nil, hls, c2, n2])]
    exact e1'
  have s1 : execS ⟨T, callK T wf (k + 5), wf, none⟩ bAb1 [.val (.tup (w.map .int)), .val (.tup ((pl n (cP w)).map .int)), .val (.int n), .no, .no, .no, .no, .no, .no, .no] G = .nx [.val (.tup (w.map .int)), .val (.tup ((pl n (cP w)).map .int)), .val (.int n), .no, .no, .no, .no, .no, .no, .no] G := ite_f (evb e2)
  rw [exl_nx s1]
  have hs := tup_cm (sub_P (c := ⟨T, callK T wf (k + 5), wf, none⟩) (G := G) (w := .tup (w.map .int)) (n := (n : Int)) (P := pl n (cP w)) (s3 := .no) (s4 := .no) (s5 := .no) (s6 := .no) (s7 := .no) (s8 := .no) (s9 := .no) hz)
  rw [bwd_pl hw] at hs
  have e3 : execS ⟨T, callK T wf (k + 5), wf, none⟩ bAb2 [.val (.tup (w.map .int)), .val (.tup ((pl n (cP w)).map .int)), .val (.int n), .no, .no, .no, .no, .no, .no, .no] G = .nx [.val (.tup (w.map .int)), .val (.tup ((pl n (cP w)).map .int)), .val (.int n), .val (.tup ((pl n (cP (bwd w))).map .int)), .no, .no, .no, .no, .no, .no] G := by
    rw [bAb2, ex_set hs]; rfl
  rw [exl_nx e3, exl_cons]
  simp only [bAb3, execS, evalE, evalL, evalLB, bor, Res.bind, Res.of, Res.thn, rd, rdB, tstE, tru_bl, int_int, eq_int, lt_int, le_int, gt_int, ge_int, ne_int, add_ok, sub_ok, List.set_cons_zero, List.set_cons_succ, List.getElem?_cons_zero, List.getElem?_cons_succ, Option.map_some, if_true, if_false, Bool.false_eq_true, Bool.not_true, Bool.not_false, Rs.seq, exl_nil, List.append_nil, hls, c4, c5, c6, c7, n3, n4]
  -- the poles
  have hit : iterE ⟨T, callK T wf (k + 5), wf, none⟩ (.rng [(.con (.int 1)), (.var 2)]) [.val (.tup (w.map .int)), .val (.tup ((pl n (cP w)).map .int)), .val (.int n), .val (.tup ((pl n (cP (bwd w))).map .int)), .no, .no, .no, .no, .no, .no] G = .ok ((rI 1 ((n : Int) - 1).toNat).map .int) G := it_r2 (by simp only [execS, evalE, evalL, evalLB, bor, Res.bind, Res.of, Res.thn, rd, rdB, tstE, tru_bl, int_int, eq_int, lt_int, le_int, gt_int, ge_int, ne_int, add_ok, sub_ok, List.set_cons_zero, List.set_cons_succ, List.getElem?_cons_zero, List.getElem?_cons_succ, Option.map_some, if_true, if_false, Bool.false_eq_true, Bool.not_true, Bool.not_false, Rs.seq, exl_nil, List.append_nil]) (by simp only [execS, evalE, evalL, evalLB, bor, Res.bind, Res.of, Res.thn, rd, rdB, tstE, tru_bl, int_int, eq_int, lt_int, le_int, gt_int, ge_int, ne_int, add_ok, sub_ok, List.set_cons_zero, List.set_cons_succ, List.getElem?_cons_zero, List.getElem?_cons_succ, Option.map_some, if_true, if_false, Bool.false_eq_true, Bool.not_true, Bool.not_false, Rs.seq, exl_nil, List.append_nil]) (by omega) (by omega) (by omega) (by omega)
  obtain ⟨σ1, q1, s4, s6, s7, rfl⟩ := loop_inv (tg := .name 4) (f := execL ⟨T, callK T wf (k + 5), wf, none⟩ [bAp0, bAp1, bAp2]) (I := fun σ => ∃ s4 s6 s7, σ = [.val (.tup (w.map .int)), .val (.tup ((pl n (cP w)).map .int)), .val (.int n), .val (.tup ((pl n (cP (bwd w))).map .int)), s4, .no, s6, s7, .no, .no]) (G := G) ((rI 1 ((n : Int) - 1).toNat).map .int) (fun x hx σ hI => by
    obtain ⟨s4, s6, s7, rfl⟩ := hI
    obtain ⟨i, hi, rfl⟩ := List.mem_map.mp hx
    have hm := mem_rI.mp hi
    obtain ⟨s6', s7', e⟩ := ap_step (wf := wf) (k := k) (G := G) t hw h1 hn (B := .tup ((pl n (cP (bwd w))).map .int)) (p := i.toNat) (by omega) (by omega) s6 s7
    have ei : ((i.toNat : Nat) : Int) = i := by omega
    rw [ei] at e
    exact ⟨_, rfl, _, e, _, _, _, rfl⟩) _ ⟨.no, .no, .no, rfl⟩
  have e4 : execS ⟨T, callK T wf (k + 5), wf, none⟩ bAb4 [.val (.tup (w.map .int)), .val (.tup ((pl n (cP w)).map .int)), .val (.int n), .val (.tup ((pl n (cP (bwd w))).map .int)), .no, .no, .no, .no, .no, .no] G = _ := (ex_forr hit).trans q1
  rw [exl_nx e4]
  -- the sections
  have hit5 : iterE ⟨T, callK T wf (k + 5), wf, none⟩ (.rng [(.var 2)]) [.val (.tup (w.map .int)), .val (.tup ((pl n (cP w)).map .int)), .val (.int n), .val (.tup ((pl n (cP (bwd w))).map .int)), s4, .no, s6, s7, .no, .no] G = .ok ((rI 0 n).map .int) G := it_r1 (by simp only [execS, evalE, evalL, evalLB, bor, Res.bind, Res.of, Res.thn, rd, rdB, tstE, tru_bl, int_int, eq_int, lt_int, le_int, gt_int, ge_int, ne_int, add_ok, sub_ok, List.set_cons_zero, List.set_cons_succ, List.getElem?_cons_zero, List.getElem?_cons_succ, Option.map_some, if_true, if_false, Bool.false_eq_true, Bool.not_true, Bool.not_false, Rs.seq, exl_nil, List.append_nil]) (by omega)
  obtain ⟨σ2, q2, s4, s5, s6, s7, rfl⟩ := loop_inv (tg := .name 5) (f := execL ⟨T, callK T wf (k + 5), wf, none⟩ [bAs0, bAs1, bAs2]) (I := fun σ => ∃ s4 s5 s6 s7, σ = [.val (.tup (w.map .int)), .val (.tup ((pl n (cP w)).map .int)), .val (.int n), .val (.tup ((pl n (cP (bwd w))).map .int)), s4, s5, s6, s7, .no, .no]) (G := G) ((rI 0 n).map .int) (fun x hx σ hI => by
    obtain ⟨s4, s5, s6, s7, rfl⟩ := hI
    obtain ⟨i, hi, rfl⟩ := List.mem_map.mp hx
    have hm := mem_rI.mp hi
    obtain ⟨s4', s6', s7', e⟩ := as_step (wf := wf) (k := k) (G := G) t hw h1 hn (B := .tup ((pl n (cP (bwd w))).map .int)) (s := i.toNat) (by omega) s4 s6 s7
    have ei : ((i.toNat : Nat) : Int) = i := by omega
    rw [ei] at e
    exact ⟨_, rfl, _, e, _, _, _, _, rfl⟩) _ ⟨s4, .no, s6, s7, rfl⟩
  have e5 : execS ⟨T, callK T wf (k + 5), wf, none⟩ bAb5 _ G = _ := (ex_forr hit5).trans q2
  rw [exl_nx e5, exl_cons]
  simp only [bAb6, execS, evalE, evalL, evalLB, bor, Res.bind, Res.of, Res.thn, rd, rdB, tstE, tru_bl, int_int, eq_int, lt_int, le_int, gt_int, ge_int, ne_int, add_ok, sub_ok, List.set_cons_zero, List.set_cons_succ, List.getElem?_cons_zero, List.getElem?_cons_succ, Option.map_some, if_true, if_false, Bool.false_eq_true, Bool.not_true, Bool.not_false, Rs.seq, exl_nil, List.append_nil, finR]
end
end Cm
end

section
namespace Cm
open PySem Gm
def bRe0 : S := (.set 2 (.blt .len [(.var 1)]))
def bRe1 : S := (.set 3 (.call "_law_take" [(.var 0), (.var 2)] []))
def bRe2 : S := (.ite (.or (.cmp .ne (.call "_law_doors" [(.bin .add (.bin .add (.slc (.var 1) [] [(.var 3)]) (.tup [(.con (.int 0))])) (.slc (.var 1) [(.bin .add (.var 3) (.con (.int 1)))] []))] []) (.bin .mul (.lst [(.lst [(.var 3), (.con (.str "sign"))])]) (.con (.int 2)))) (.cmp .ne (.call "_law_doors" [(.bin .add (.tup [(.neg (.con (.int 1)))]) (.slc (.var 1) [(.con (.int 1))] []))] []) (.bin .mul (.lst [(.lst [(.con (.int 0)), (.con (.str "first"))])]) (.con (.int 2))))) [(.ret (.con (.bl false)))] [])
def bRe3 : S := (.forr (.name 4) (.seqs (.lst [(.con (.int 0)), (.var 2), (.neg (.con (.int 1))), (.con (.bl true)), (.con .non), (.con (.str "1")), (.tup [(.con (.int 1)), (.con (.int 1))])])) [(.ite (.or (.cmp .ne (.call "_law_crossed" [(.var 1), (.var 4)] []) (.lst [(.con (.str "pole")), (.var 4)])) (.cmp .ne (.call "_law_crossed" [(.bin .add (.tup [(.neg (.con (.int 1)))]) (.slc (.var 1) [(.con (.int 1))] [])), (.var 4)] []) (.lst [(.con (.int 0)), (.con (.str "first"))]))) [(.ret (.con (.bl false)))] [])])
def bRe4 : S := (.forr (.name 5) (.seqs (.lst [(.var 2), (.neg (.con (.int 1))), (.con (.bl true)), (.con .non), (.con (.str "0"))])) [(.ite (.or (.cmp .ne (.call "_law_cut" [(.var 1), (.var 5)] []) (.lst [(.con (.str "section")), (.var 5)])) (.cmp .ne (.call "_law_cut" [(.bin .add (.var 1) (.tup [(.con (.int 3))])), (.var 5)] []) (.ite (.cmp .lt (.var 2) (.con (.int 24))) (.lst [(.var 2), (.con (.str "sign"))]) (.lst [(.con (.int 0)), (.con (.str "many"))])))) [(.ret (.con (.bl false)))] [])])
def bRe5 : S := (.forr (.name 6) (.seqs (.lst [(.con (.int 0)), (.con (.int 25)), (.con (.bl true)), (.con .non), (.con (.str "4"))])) [(.ite (.or (.cmp .ne (.call "_law_with" [(.var 6), (.lst [(.con (.int 1))])] []) (.lst [(.con (.str "count"))])) (.cmp .ne (.call "_law_with" [(.var 6), (.con .non)] []) (.lst [(.con (.str "count"))]))) [(.ret (.con (.bl false)))] [])])
def bRe6 : S := (.set 7 (.lst [(.lst [(.var 2)]), (.lst [(.con (.int 0))]), (.lst [(.con (.bl true))]), (.con .non), (.con (.str "1")), (.lst [(.con (.int 1)), (.con (.int 1))]), (.lst [(.tup [(.con (.int 1)), (.con (.int 1))])])]))
def bRe7 : S := (.ret (.not (.cmpr (.con (.int 1)) (.name 8) [8] (.seq (.var 7)) (.cmp .ne (.call "_law_with" [(.var 2), (.var 8)] []) (.lst [(.con (.str "poles"))])))))
def dRe : Fn := ⟨2, 9, [], [], [bRe0, bRe1, bRe2, bRe3, bRe4, bRe5, bRe6, bRe7]⟩
def bRp : List S := [(.ite (.or (.cmp .ne (.call "_law_crossed" [(.var 1), (.var 4)] []) (.lst [(.con (.str "pole")), (.var 4)])) (.cmp .ne (.call "_law_crossed" [(.bin .add (.tup [(.neg (.con (.int 1)))]) (.slc (.var 1) [(.con (.int 1))] [])), (.var 4)] []) (.lst [(.con (.int 0)), (.con (.str "first"))]))) [(.ret (.con (.bl false)))] [])]
def bRs : List S := [(.ite (.or (.cmp .ne (.call "_law_cut" [(.var 1), (.var 5)] []) (.lst [(.con (.str "section")), (.var 5)])) (.cmp .ne (.call "_law_cut" [(.bin .add (.var 1) (.tup [(.con (.int 3))])), (.var 5)] []) (.ite (.cmp .lt (.var 2) (.con (.int 24))) (.lst [(.var 2), (.con (.str "sign"))]) (.lst [(.con (.int 0)), (.con (.str "many"))])))) [(.ret (.con (.bl false)))] [])]
def bRc : List S := [(.ite (.or (.cmp .ne (.call "_law_with" [(.var 6), (.lst [(.con (.int 1))])] []) (.lst [(.con (.str "count"))])) (.cmp .ne (.call "_law_with" [(.var 6), (.con .non)] []) (.lst [(.con (.str "count"))]))) [(.ret (.con (.bl false)))] [])]
theorem bad_at : ∀ {pre : List Int} {z : GV} {rest : List GV} (j : Nat), Sgn pre → goodG z = false → badAt (pre.map .int ++ z :: rest) j = some (j + pre.length)
  | [], z, rest, j, _, hz => by
    show (if goodG z = true then badAt rest (j + 1) else some j) = _
    rw [hz]; rfl
  | y :: pre, z, rest, j, hs, hz => by
    have hy : goodG (.int y) = true := by rcases hs y List.mem_cons_self with rfl | rfl <;> decide
    show (if goodG (.int y) = true then badAt (pre.map .int ++ z :: rest) (j + 1) else some j) = _
    rw [if_pos hy, bad_at (j + 1) (fun x hx => hs x (List.mem_cons_of_mem _ hx)) hz, List.length_cons]
    congr 1; omega
section
variable {T : Tb} {wf k : Nat} {G : Cells}
theorem signs_bad (t : Tr T) {v : GV} {pre : List Int} {z : GV} {rest : List GV} (hv : Sq v (pre.map .int ++ z :: rest)) (hs : Sgn pre) (hz : goodG z = false) (hp : plainG z = true) (hr : ∀ y ∈ rest, plainG y = true) (hl : pre.length + rest.length < 24) :
    callK T wf (k + 3) "check_signs" [v] G = .ex "BadWord" [.int pre.length, .str "sign"] G := by
  refine signs_ex t ((row_ok t.x t.ms t.w t.r hv ?_ ?_ fun y hy => ?_).2 _ ?_)
  · rw [List.length_append, List.length_cons]; omega
  · rw [List.length_append, List.length_cons, List.length_map]; omega
  · rcases List.mem_append.mp hy with h | h
    · exact plain_ints y h
    · rcases List.mem_cons.mp h with rfl | h
      · exact hp
      · exact hr y h
  · rw [bad_at 0 hs hz, Nat.zero_add]
theorem row_many (t : Tr T) {v : GV} {xs : List GV} (hv : Sq v xs) (hl : 24 < xs.length) : callK T wf (k + 2) "check_row" [v] G = .ex "BadWord" [.int 0, .str "many"] G := by
  rw [callK_step t.r rfl]
  have zt : szOk [GV.ty "list", GV.ty "tuple"].length = true := sz_ok (by decide)
  have hxl : ([("index" : Str), ("what" : Str)] : List Str).length = [GV.int 0, GV.str "many"].length := rfl
  have d1 : decide ((1 : Int) ≤ (xs.length : Int)) = true := decide_eq_true (by omega)
  have d2 : decide ((xs.length : Int) ≤ 24) = false := decide_eq_false (by omega)
  have h1 : execS ⟨T, callK T wf (k + 1), wf, none⟩ bRow0 [.val v, .no] G = .ex "BadWord" [.int 0, .str "many"] [.val v, .no] G := by
    simp only [bRow0, execL, execS, evalE, evalL, evalLB, bor, Res.bind, Res.of, Res.thn, rd, rdB, tstE, tru_bl, int_int, eq_int, lt_int, le_int, gt_int, ge_int, ne_int, add_ok, sub_ok, List.set_cons_zero, List.set_cons_succ, List.getElem?_cons_zero, List.getElem?_cons_succ, Option.map_some, if_true, if_false, Bool.false_eq_true, Bool.not_true, Bool.not_false, Rs.seq, exl_nil, List.append_nil, zt, hv.isi, hv.len, t.ms, d1, d2, t.x, hxl]
  show finR (execL _ [bRow0, .forr (.name 1) (.rng [.blt .len [.var 0]]) bRowL, bRow2] [.val v, .no] G) = _
  rw [exl_ex h1]
  rfl
/-- the word with 0 at a spot -/
theorem zero_at (t : Tr T) {n : Nat} {w : List Int} (hw : IsW n w) (hn : n ≤ 24) {s : Nat} (hs : s < n) : callK T wf (k + 3) "check_signs" [.tup ((w.take s ++ [0] ++ w.drop (s + 1)).map .int)] G = .ex "BadWord" [.int s, .str "sign"] G := by
  have hl := hw.len
  have e : (w.take s ++ [0] ++ w.drop (s + 1)).map GV.int = (w.take s).map .int ++ .int 0 :: (w.drop (s + 1)).map .int := by simp
  have hp : (w.take s).length = s := by rw [List.length_take]; omega
  have := signs_bad (wf := wf) (k := k) (G := G) t (v := .tup ((w.take s ++ [0] ++ w.drop (s + 1)).map .int)) (pre := w.take s) (z := .int 0) (rest := (w.drop (s + 1)).map .int) (.inl (congrArg GV.tup e)) (fun z hz => hw.sg z (List.mem_of_mem_take hz)) (by decide) rfl plain_ints (by rw [List.length_map, List.length_drop, hp]; omega)
  rw [hp] at this
  exact this
theorem neg_first (t : Tr T) {n : Nat} {w : List Int} (hw : IsW n w) (h1 : 1 ≤ n) (hn : n ≤ 24) : callK T wf (k + 3) "check_signs" [.tup ((-1 :: w.drop 1).map .int)] G = .ex "BadWord" [.int 0, .str "first"] G := by
  have hl := hw.len
  have := signs_w (wf := wf) (k := k) (G := G) t (v := .tup ((-1 :: w.drop 1).map .int)) (w := -1 :: w.drop 1) (z := -1) (.inl rfl) (by rw [List.length_cons, List.length_drop]; omega) (fun z hz => by
    rcases List.mem_cons.mp hz with rfl | h
    · exact .inr rfl
    · exact hw.sg z (List.mem_of_mem_drop h)) rfl
  rw [if_pos rfl] at this
  exact this
theorem three_at (t : Tr T) {n : Nat} {w : List Int} (hw : IsW n w) (hn : n ≤ 24) : callK T wf (k + 3) "check_signs" [.tup ((w ++ [3]).map .int)] G = .ex "BadWord" (if n < 24 then [.int n, .str "sign"] else [.int 0, .str "many"]) G := by
  have hl := hw.len
  by_cases h : n < 24
  · rw [if_pos h, ← hl]
    exact signs_bad (pre := w) (z := .int 3) (rest := []) t (.inl (by simp)) hw.sg (by decide) rfl (fun y hy => by cases hy) (by rw [hl, List.length_nil]; omega)
  · rw [if_neg h]
    exact signs_ex t (row_many t (.inl rfl) (by simp; omega))
theorem ok_str {x : Str} (h : (PyData.str x).canLay0 = true) {k : Nat} : Nice k (.str x) := .str h
theorem nice2 {k : Nat} {x y : GV} (hx : Nice k x) (hy : Nice k y) : Nice (k + 1) (.lst [x, y]) := .lst fun z hz => by
  rcases List.mem_cons.mp hz with rfl | hz
  · exact hx
  · rw [List.mem_singleton.mp hz]; exact hy
theorem nice1 {k : Nat} {x : GV} (hx : Nice k x) : Nice (k + 1) (.lst [x]) := .lst fun z hz => by rw [List.mem_singleton.mp hz]; exact hx
theorem L_sign : (PyData.str "sign").canLay0 = true := by kernel_rfl
theorem L_first : (PyData.str "first").canLay0 = true := by kernel_rfl
theorem L_pole : (PyData.str "pole").canLay0 = true := by kernel_rfl
theorem L_section : (PyData.str "section").canLay0 = true := by kernel_rfl
theorem L_many : (PyData.str "many").canLay0 = true := by kernel_rfl
theorem L_count : (PyData.str "count").canLay0 = true := by kernel_rfl
theorem L_poles : (PyData.str "poles").canLay0 = true := by kernel_rfl
theorem L_0 : (PyData.str "0").canLay0 = true := by kernel_rfl
theorem L_1 : (PyData.str "1").canLay0 = true := by kernel_rfl
theorem twice (x : GV) : binV .mul (.lst [x]) (.int 2) = some (.lst [x, x]) := by
  show (if decide (-(2 ^ 63 : Int) ≤ 2) && decide ((2 : Int) < 2 ^ 63) && szOk ([x].length * (2 : Int).toNat) then some (GV.lst (List.replicate (2 : Int).toNat [x]).flatten) else none) = _
  have c : (decide (-(2 ^ 63 : Int) ≤ 2) && decide ((2 : Int) < 2 ^ 63) && szOk ([x].length * (2 : Int).toNat)) = true := by
    rw [decide_eq_true (by omega), decide_eq_true (by omega), show szOk ([x].length * (2 : Int).toNat) = true from sz_ok (by show 2 ≤ 100000; decide)]; rfl
  rw [if_pos c]; rfl
theorem cons_app {w : List Int} {z : Int} (h : w.length ≤ 1000) : binV .add (.tup [.int z]) (.tup (w.map .int)) = some (.tup ((z :: w).map .int)) := tup_app (a := [z]) (b := w) (by simp; omega)
/-- a thing that is no pole -/
theorem rp_step (t : T5 T) {n : Nat} {w : List Int} (hw : IsW n w) (h1 : 1 ≤ n) (hn : n ≤ 24) {x : GV} (hx : plainG x = true) (hr : inR 1 ((n : Int) - 1) x = false) (hN : Nice 5 x) {s0 s3 s5 s6 s7 s8 : Sl} :
    execL ⟨T, callK T wf (k + 5), wf, none⟩ bRp [s0, .val (.tup (w.map .int)), .val (.int n), s3, .val x, s5, s6, s7, s8] G = .nx [s0, .val (.tup (w.map .int)), .val (.int n), s3, .val x, s5, s6, s7, s8] G := by
  have hl := hw.len
  have c1 : callK T wf (k + 5) "_law_crossed" [.tup (w.map .int), x] G = .ok (.lst [.str "pole", x]) G := lcr_p t (crossed_no t.toTw hw hn (.inl rfl) hx hr)
  have c2 : callK T wf (k + 5) "_law_crossed" [.tup ((-1 :: w.drop 1).map .int), x] G = .ok (.lst [.int 0, .str "first"]) G := lcr_w t (crossed_ex t.toTw (neg_first t.toTr hw h1 hn))
  have zt1 : szOk [GV.int (-1)].length = true := sz_ok (by decide)
  have zt2 : ∀ y, szOk [GV.str "pole", y].length = true := fun _ => sz_ok (by show 2 ≤ 100000; decide)
  have zt3 : szOk [GV.int 0, GV.str "first"].length = true := sz_ok (by decide)
  have n1 := ne_self (nice2 (ok_str L_pole (k := 5)) hN)
  have n2 : cmpV .ne (.lst [.int 0, .str "first"]) (.lst [.int 0, .str "first"]) = some false := ne_self (k := 1) (nice2 (.int 0) (ok_str L_first))
  have ec : (1 : Int) = ((1 : Nat) : Int) := rfl
  have sd := slc_drop (xs := w.map .int) (p := 1)
  have ca := cons_app (w := w.drop 1) (z := -1) (by rw [List.length_drop]; omega)
  rw [List.map_drop] at ca
  have eN : (- 1 : Int) = -1 := rfl
  show execL _ [_] _ G = _
  rw [exl_cons]
  have hs : evalE ⟨T, callK T wf (k + 5), wf, none⟩ (.bin .add (.tup [(.neg (.con (.int 1)))]) (.slc (.var 1) [(.con (.int 1))] [])) [s0, .val (.tup (w.map .int)), .val (.int n), s3, .val x, s5, s6, s7, s8] G = .ok (.tup ((-1 :: w.drop 1).map .int)) G := by
    refine ev_bin2 (G1 := G) (x := .tup [.int (-1)]) (y := .tup ((w.map .int).drop 1)) (evb ?_) (evb ?_) ca
    · simp only [execS, evalE, evalL, evalLB, bor, Res.bind, Res.of, Res.thn, rd, rdB, tstE, tru_bl, int_int, eq_int, lt_int, le_int, gt_int, ge_int, ne_int, add_ok, sub_ok, List.set_cons_zero, List.set_cons_succ, List.getElem?_cons_zero, List.getElem?_cons_succ, Option.map_some, if_true, if_false, Bool.false_eq_true, Bool.not_true, Bool.not_false, Rs.seq, exl_nil, List.append_nil, zt1]
    · simp only [execS, evalE, evalL, evalLB, bor, Res.bind, Res.of, Res.thn, rd, rdB, tstE, tru_bl, int_int, eq_int, lt_int, le_int, gt_int, ge_int, ne_int, add_ok, sub_ok, List.set_cons_zero, List.set_cons_succ, List.getElem?_cons_zero, List.getElem?_cons_succ, Option.map_some, if_true, if_false, Bool.false_eq_true, Bool.not_true, Bool.not_false, Rs.seq, exl_nil, List.append_nil, prtL]
      rw [show slcV (.tup (w.map .int)) (some 1) none = _ from sd]
  have hcall : evalE ⟨T, callK T wf (k + 5), wf, none⟩ (.call "_law_crossed" [(.bin .add (.tup [(.neg (.con (.int 1)))]) (.slc (.var 1) [(.con (.int 1))] [])), (.var 4)] []) [s0, .val (.tup (w.map .int)), .val (.int n), s3, .val x, s5, s6, s7, s8] G = .ok (.lst [.int 0, .str "first"]) G := ev_call2 hs (by simp only [execS, evalE, evalL, evalLB, bor, Res.bind, Res.of, Res.thn, rd, rdB, tstE, tru_bl, int_int, eq_int, lt_int, le_int, gt_int, ge_int, ne_int, add_ok, sub_ok, List.set_cons_zero, List.set_cons_succ, List.getElem?_cons_zero, List.getElem?_cons_succ, Option.map_some, if_true, if_false, Bool.false_eq_true, Bool.not_true, Bool.not_false, Rs.seq, exl_nil, List.append_nil]) c2
  have hor : evalE ⟨T, callK T wf (k + 5), wf, none⟩ (.or (.cmp .ne (.call "_law_crossed" [(.var 1), (.var 4)] []) (.lst [(.con (.str "pole")), (.var 4)])) (.cmp .ne (.call "_law_crossed" [(.bin .add (.tup [(.neg (.con (.int 1)))]) (.slc (.var 1) [(.con (.int 1))] [])), (.var 4)] []) (.lst [(.con (.int 0)), (.con (.str "first"))]))) [s0, .val (.tup (w.map .int)), .val (.int n), s3, .val x, s5, s6, s7, s8] G = .ok (.bl false) G := by
    rw [ev_or_f (by simp only [execS, evalE, evalL, evalLB, bor, Res.bind, Res.of, Res.thn, rd, rdB, tstE, tru_bl, int_int, eq_int, lt_int, le_int, gt_int, ge_int, ne_int, add_ok, sub_ok, List.set_cons_zero, List.set_cons_succ, List.getElem?_cons_zero, List.getElem?_cons_succ, Option.map_some, if_true, if_false, Bool.false_eq_true, Bool.not_true, Bool.not_false, Rs.seq, exl_nil, List.append_nil, c1, zt2, n1])]
    exact ev_ne (k := 1) (evb hcall) (evb (by simp only [execS, evalE, evalL, evalLB, bor, Res.bind, Res.of, Res.thn, rd, rdB, tstE, tru_bl, int_int, eq_int, lt_int, le_int, gt_int, ge_int, ne_int, add_ok, sub_ok, List.set_cons_zero, List.set_cons_succ, List.getElem?_cons_zero, List.getElem?_cons_succ, Option.map_some, if_true, if_false, Bool.false_eq_true, Bool.not_true, Bool.not_false, Rs.seq, exl_nil, List.append_nil, zt3])) (nice2 (.int 0) (ok_str L_first))
  rw [ite_f (evb hor)]
  rfl
theorem rs_step (t : T5 T) {n : Nat} {w : List Int} (hw : IsW n w) (h1 : 1 ≤ n) (hn : n ≤ 24) {x : GV} (hx : plainG x = true) (hr : inR 0 ((n : Int) - 1) x = false) (hN : Nice 5 x) {s0 s3 s4 s6 s7 s8 : Sl} :
    execL ⟨T, callK T wf (k + 5), wf, none⟩ bRs [s0, .val (.tup (w.map .int)), .val (.int n), s3, s4, .val x, s6, s7, s8] G = .nx [s0, .val (.tup (w.map .int)), .val (.int n), s3, s4, .val x, s6, s7, s8] G := by
  have hl := hw.len
  have c1 : callK T wf (k + 5) "_law_cut" [.tup (w.map .int), x] G = .ok (.lst [.str "section", x]) G := lcu_s t (cut_no t.toTw hw hn (.inl rfl) hx hr)
  have zt1 : szOk [GV.int 3].length = true := sz_ok (by decide)
  have zt2 : ∀ y, szOk [GV.str "section", y].length = true := fun _ => sz_ok (by show 2 ≤ 100000; decide)
  have zt3 : szOk [GV.int 0, GV.str "many"].length = true := sz_ok (by decide)
  have zt4 : szOk [GV.int n, GV.str "sign"].length = true := sz_ok (by show 2 ≤ 100000; decide)
  have n1 := ne_self (nice2 (ok_str L_section (k := 5)) hN)
  have ca := tup_app (a := w) (b := [3]) (by rw [hl]; simp; omega)
  have hs : evalE ⟨T, callK T wf (k + 5), wf, none⟩ (.bin .add (.var 1) (.tup [(.con (.int 3))])) [s0, .val (.tup (w.map .int)), .val (.int n), s3, s4, .val x, s6, s7, s8] G = .ok (.tup ((w ++ [3]).map .int)) G := by
    refine ev_bin2 (G1 := G) (x := .tup (w.map .int)) (y := .tup [.int 3]) ?_ (evb ?_) ca
    · simp only [evB, execS, evalE, evalL, evalLB, bor, Res.bind, Res.of, Res.thn, rd, rdB, tstE, tru_bl, int_int, eq_int, lt_int, le_int, gt_int, ge_int, ne_int, add_ok, sub_ok, List.set_cons_zero, List.set_cons_succ, List.getElem?_cons_zero, List.getElem?_cons_succ, Option.map_some, if_true, if_false, Bool.false_eq_true, Bool.not_true, Bool.not_false, Rs.seq, exl_nil, List.append_nil]
    · simp only [execS, evalE, evalL, evalLB, bor, Res.bind, Res.of, Res.thn, rd, rdB, tstE, tru_bl, int_int, eq_int, lt_int, le_int, gt_int, ge_int, ne_int, add_ok, sub_ok, List.set_cons_zero, List.set_cons_succ, List.getElem?_cons_zero, List.getElem?_cons_succ, Option.map_some, if_true, if_false, Bool.false_eq_true, Bool.not_true, Bool.not_false, Rs.seq, exl_nil, List.append_nil, zt1]
  have main : ∀ {r : GV} {u : List GV} {ev : E}, callK T wf (k + 5) "_law_cut" [.tup ((w ++ [3]).map .int), x] G = .ok r G → Nice 1 r → evB ⟨T, callK T wf (k + 5), wf, none⟩ (.ite (.cmp .lt (.var 2) (.con (.int 24))) (.lst [(.var 2), (.con (.str "sign"))]) (.lst [(.con (.int 0)), (.con (.str "many"))])) [s0, .val (.tup (w.map .int)), .val (.int n), s3, s4, .val x, s6, s7, s8] G = .ok r G →
      execL ⟨T, callK T wf (k + 5), wf, none⟩ bRs [s0, .val (.tup (w.map .int)), .val (.int n), s3, s4, .val x, s6, s7, s8] G = .nx [s0, .val (.tup (w.map .int)), .val (.int n), s3, s4, .val x, s6, s7, s8] G := by
    intro r u ev c2 nr hb
    have hcall : evalE ⟨T, callK T wf (k + 5), wf, none⟩ (.call "_law_cut" [(.bin .add (.var 1) (.tup [(.con (.int 3))])), (.var 5)] []) [s0, .val (.tup (w.map .int)), .val (.int n), s3, s4, .val x, s6, s7, s8] G = .ok r G := ev_call2 hs (by simp only [execS, evalE, evalL, evalLB, bor, Res.bind, Res.of, Res.thn, rd, rdB, tstE, tru_bl, int_int, eq_int, lt_int, le_int, gt_int, ge_int, ne_int, add_ok, sub_ok, List.set_cons_zero, List.set_cons_succ, List.getElem?_cons_zero, List.getElem?_cons_succ, Option.map_some, if_true, if_false, Bool.false_eq_true, Bool.not_true, Bool.not_false, Rs.seq, exl_nil, List.append_nil]) c2
    have hor : evalE ⟨T, callK T wf (k + 5), wf, none⟩ (.or (.cmp .ne (.call "_law_cut" [(.var 1), (.var 5)] []) (.lst [(.con (.str "section")), (.var 5)])) (.cmp .ne (.call "_law_cut" [(.bin .add (.var 1) (.tup [(.con (.int 3))])), (.var 5)] []) (.ite (.cmp .lt (.var 2) (.con (.int 24))) (.lst [(.var 2), (.con (.str "sign"))]) (.lst [(.con (.int 0)), (.con (.str "many"))])))) [s0, .val (.tup (w.map .int)), .val (.int n), s3, s4, .val x, s6, s7, s8] G = .ok (.bl false) G := by
      rw [ev_or_f (by simp only [execS, evalE, evalL, evalLB, bor, Res.bind, Res.of, Res.thn, rd, rdB, tstE, tru_bl, int_int, eq_int, lt_int, le_int, gt_int, ge_int, ne_int, add_ok, sub_ok, List.set_cons_zero, List.set_cons_succ, List.getElem?_cons_zero, List.getElem?_cons_succ, Option.map_some, if_true, if_false, Bool.false_eq_true, Bool.not_true, Bool.not_false, Rs.seq, exl_nil, List.append_nil, c1, zt2, n1])]
      exact ev_ne (evb hcall) hb nr
    show execL _ [_] _ G = _
    rw [exl_cons, ite_f (evb hor)]
    rfl
  have c3 := three_at (wf := wf) (k := k) (G := G) t.toTr hw hn
  by_cases h : n < 24
  · rw [if_pos h] at c3
    have hd : decide ((n : Int) < 24) = true := decide_eq_true (by omega)
    exact main (u := []) (ev := .var 0) (lcu_w t (cut_ex t.toTw c3)) (nice2 (.int _) (ok_str L_sign)) (evb (by simp only [execS, evalE, evalL, evalLB, bor, Res.bind, Res.of, Res.thn, rd, rdB, tstE, tru_bl, int_int, eq_int, lt_int, le_int, gt_int, ge_int, ne_int, add_ok, sub_ok, List.set_cons_zero, List.set_cons_succ, List.getElem?_cons_zero, List.getElem?_cons_succ, Option.map_some, if_true, if_false, Bool.false_eq_true, Bool.not_true, Bool.not_false, Rs.seq, exl_nil, List.append_nil, hd, zt4]))
  · rw [if_neg h] at c3
    have hd : decide ((n : Int) < 24) = false := decide_eq_false (by omega)
    exact main (u := []) (ev := .var 0) (lcu_w t (cut_ex t.toTw c3)) (nice2 (.int _) (ok_str L_many)) (evb (by simp only [execS, evalE, evalL, evalLB, bor, Res.bind, Res.of, Res.thn, rd, rdB, tstE, tru_bl, int_int, eq_int, lt_int, le_int, gt_int, ge_int, ne_int, add_ok, sub_ok, List.set_cons_zero, List.set_cons_succ, List.getElem?_cons_zero, List.getElem?_cons_succ, Option.map_some, if_true, if_false, Bool.false_eq_true, Bool.not_true, Bool.not_false, Rs.seq, exl_nil, List.append_nil, hd, zt3]))
theorem rc_step (t : T5 T) {x : GV} (hx : plainG x = true) (hr : inR 1 24 x = false) {s0 s1 s2 s3 s4 s5 s7 s8 : Sl} :
    execL ⟨T, callK T wf (k + 5), wf, none⟩ bRc [s0, s1, s2, s3, s4, s5, .val x, s7, s8] G = .nx [s0, s1, s2, s3, s4, s5, .val x, s7, s8] G := by
  have c1 : callK T wf (k + 5) "_law_with" [x, .lst [.int 1]] G = .ok (.lst [.str "count"]) G := lwi_c (k := k + 1) t (with_count t.toTw hx hr)
  have c2 : callK T wf (k + 5) "_law_with" [x, .non] G = .ok (.lst [.str "count"]) G := lwi_c (k := k + 1) t (with_count t.toTw hx hr)
  have zt1 : szOk [GV.int 1].length = true := sz_ok (by decide)
  have zt2 : szOk [GV.str "count"].length = true := sz_ok (by decide)
  have n1 : cmpV .ne (.lst [.str "count"]) (.lst [.str "count"]) = some false := by kernel_rfl
  show execL _ [_] _ G = _
  rw [exl_cons]
  simp only [execS, evalE, evalL, evalLB, bor, Res.bind, Res.of, Res.thn, rd, rdB, tstE, tru_bl, int_int, eq_int, lt_int, le_int, gt_int, ge_int, ne_int, add_ok, sub_ok, List.set_cons_zero, List.set_cons_succ, List.getElem?_cons_zero, List.getElem?_cons_succ, Option.map_some, if_true, if_false, Bool.false_eq_true, Bool.not_true, Bool.not_false, Rs.seq, exl_nil, List.append_nil, c1, c2, zt1, zt2, n1]
end
end Cm
end

section
namespace Cm
open PySem Gm
def bSi0 : S := (.ret (.blt .tupl [(.cmpr (.ite (.bin .mod (.blt .intt [(.bin .shr (.var 1) (.bin .sub (.bin .sub (.var 0) (.con (.int 1))) (.var 2)))]) (.con (.int 2))) (.neg (.con (.int 1))) (.con (.int 1))) (.name 2) [2] (.rng [(.var 0)]) (.con (.bl true)))]))
def dSi : Fn := ⟨2, 3, [], [], [bSi0]⟩
theorem ev_call1 {c : Gm.Ctx} {f : Str} {a : E} {σ : List Sl} {G G1 : Cells} {x : GV} {r : Res GV} (ha : evalE c a σ G = .ok x G1) (h : c.cf f [x] G1 = r) : evalE c (.call f [a] []) σ G = r := by
  simp only [evalE, evalL, ha, Res.bind, List.append_nil, h]
section
variable {T : Tb} {wf k : Nat}
theorem inR_lo {lo hi i : Int} (h : i < lo) : inR lo hi (.int i) = false := by
  show (decide (lo ≤ i) && decide (i ≤ hi)) = false
  rw [decide_eq_false (by omega)]; rfl
theorem inR_hi {lo hi i : Int} (h : hi < i) : inR lo hi (.int i) = false := by
  show (decide (lo ≤ i) && decide (i ≤ hi)) = false
  rw [decide_eq_false (by omega : ¬ i ≤ hi), Bool.and_false]
theorem bads_ok (t : T5 T) {G : Cells} {n : Nat} (h1 : 1 ≤ n) (hn : n ≤ 24) : ∀ x ∈ ([.lst [.int n], .lst [.int 0], .lst [.bl true], .non, .str "1", .lst [.int 1, .int 1], .lst [.tup [.int 1, .int 1]]] : List GV), callK T wf (k + 5) "_law_with" [.int n, x] G = .ok (.lst [.str "poles"]) G := by
  intro x hx
  have go : callK T wf (k + 3) "check_poles" [.int n, x] G = .ex "BadPoles" [] G → callK T wf (k + 5) "_law_with" [.int n, x] G = .ok (.lst [.str "poles"]) G := fun h => lwi_p (k := k + 1) t (with_poles (k := k + 1) t.toTw h1 hn h)
  refine go ?_
  rcases List.mem_cons.mp hx with rfl | hx
  · exact poles_bad (k := k + 1) t.toTw rfl (inR_hi (by omega))
  rcases List.mem_cons.mp hx with rfl | hx
  · exact poles_bad (k := k + 1) t.toTw rfl (inR_lo (by omega))
  rcases List.mem_cons.mp hx with rfl | hx
  · exact poles_bad (k := k + 1) t.toTw rfl rfl
  rcases List.mem_cons.mp hx with rfl | hx
  · exact poles_no (k := k + 1) t.toTw (by kernel_rfl)
  rcases List.mem_cons.mp hx with rfl | hx
  · exact poles_no (k := k + 1) t.toTw (by kernel_rfl)
  rcases List.mem_cons.mp hx with rfl | hx
  · by_cases h : n = 1
    · exact poles_bad (k := k + 1) t.toTw rfl (inR_hi (by omega))
    · exact poles_dup (k := k + 1) t.toTw (by omega) (by omega)
  rw [List.mem_singleton.mp hx]
  exact poles_bad (k := k + 1) t.toTw rfl rfl
theorem refused_ok (t : T5 T) (hR : T.fn "_law_refused" = some dRe) {n : Nat} {w : List Int} (hw : IsW n w) (h1 : 1 ≤ n) (hn : n ≤ 24) {cells : List Int} {a : Nat} {b c : Int} (h : HI cells a b c) : ∃ G', callK T wf (k + 6) "_law_refused" [.cel 0, .tup (w.map .int)] (HG cells a b c) = .ok (.bl true) G' := by
  have hl := hw.len
  obtain ⟨r, a1, b1, c1, q1, q2, q3, q4⟩ := take_ok (wf := wf) (k := k + 3) t.mx t.tk h (many := (n : Int)) (by omega) (by omega)
  have q1' : callK T wf (k + 5) "_law_take" [.cel 0, .int n] (HG cells a b c) = .ok (.int r) (HG cells a1 b1 c1) := q1
  obtain ⟨s, rfl⟩ : ∃ s : Nat, r = (s : Int) := ⟨r.toNat, by omega⟩
  have hs : s < n := by omega
  have hlen : bltV .len [.tup (w.map .int)] = some (.int n) := by show some (GV.int ((w.map GV.int).length : Nat)) = _; rw [List.length_map, hw.len]
  refine ⟨HG cells a1 b1 c1, ?_⟩
  generalize HG cells a1 b1 c1 = G1 at q1'
  have d1 : callK T wf (k + 5) "_law_doors" [.tup ((w.take s ++ [0] ++ w.drop (s + 1)).map .int)] G1 = _ := doors_ok t (zero_at t.toTr hw hn hs)
  have d2 : callK T wf (k + 5) "_law_doors" [.tup ((-1 :: w.drop 1).map .int)] G1 = _ := doors_ok t (neg_first t.toTr hw h1 hn)
  have zt0 : szOk [GV.int 0].length = true := sz_ok (by decide)
  have ztm : szOk [GV.int (-1)].length = true := sz_ok (by decide)
  have zt1 : ∀ x : GV, szOk [x].length = true := fun _ => sz_ok (by show 1 ≤ 100000; decide)
  have zt2 : ∀ x y : GV, szOk [x, y].length = true := fun _ _ => sz_ok (by show 2 ≤ 100000; decide)
  have zt5 : ∀ x y z u v : GV, szOk [x, y, z, u, v].length = true := fun _ _ _ _ _ => sz_ok (by show 5 ≤ 100000; decide)
  have zt7 : ∀ x y z u v p q : GV, szOk [x, y, z, u, v, p, q].length = true := fun _ _ _ _ _ _ _ => sz_ok (by show 7 ≤ 100000; decide)
  rw [callK_step hR rfl]
  show finR (execL _ [bRe0, bRe1, bRe2, bRe3, bRe4, bRe5, bRe6, bRe7] [.val (.cel 0), .val (.tup (w.map .int)), .no, .no, .no, .no, .no, .no, .no] _) = _
  rw [exl_cons]
  simp only [bRe0, execS, evalE, evalL, evalLB, bor, Res.bind, Res.of, Res.thn, rd, rdB, tstE, tru_bl, int_int, eq_int, lt_int, le_int, gt_int, ge_int, ne_int, add_ok, sub_ok, List.set_cons_zero, List.set_cons_succ, List.getElem?_cons_zero, List.getElem?_cons_succ, Option.map_some, if_true, if_false, Bool.false_eq_true, Bool.not_true, Bool.not_false, Rs.seq, exl_nil, List.append_nil, hlen]
  rw [exl_cons]
  simp only [bRe1, execS, evalE, evalL, evalLB, bor, Res.bind, Res.of, Res.thn, rd, rdB, tstE, tru_bl, int_int, eq_int, lt_int, le_int, gt_int, ge_int, ne_int, add_ok, sub_ok, List.set_cons_zero, List.set_cons_succ, List.getElem?_cons_zero, List.getElem?_cons_succ, Option.map_some, if_true, if_false, Bool.false_eq_true, Bool.not_true, Bool.not_false, Rs.seq, exl_nil, List.append_nil, q1']
  -- the doors
  have r1 : evalE ⟨T, callK T wf (k + 5), wf, none⟩ (.bin .add (.bin .add (.slc (.var 1) [] [(.var 3)]) (.tup [(.con (.int 0))])) (.slc (.var 1) [(.bin .add (.var 3) (.con (.int 1)))] [])) [.val (.cel 0), .val (.tup (w.map .int)), .val (.int n), .val (.int s), .no, .no, .no, .no, .no] G1 = .ok (.tup ((w.take s ++ [0] ++ w.drop (s + 1)).map .int)) G1 := by
    have e1 := slc_take (xs := w.map .int) (p := s)
    have e2 := slc_drop (xs := w.map .int) (p := s + 1)
    have ec : ((s : Int) + 1) = ((s + 1 : Nat) : Int) := by omega
    have i1 : evalE ⟨T, callK T wf (k + 5), wf, none⟩ (.bin .add (.slc (.var 1) [] [(.var 3)]) (.tup [(.con (.int 0))])) [.val (.cel 0), .val (.tup (w.map .int)), .val (.int n), .val (.int s), .no, .no, .no, .no, .no] G1 = .ok (.tup ((w.take s ++ [0]).map .int)) G1 :=
      ev_bin2 (G1 := G1) (x := .tup ((w.take s).map .int)) (y := .tup [.int 0]) (evb (by simp only [execS, evalE, evalL, evalLB, bor, Res.bind, Res.of, Res.thn, rd, rdB, tstE, tru_bl, int_int, eq_int, lt_int, le_int, gt_int, ge_int, ne_int, add_ok, sub_ok, List.set_cons_zero, List.set_cons_succ, List.getElem?_cons_zero, List.getElem?_cons_succ, Option.map_some, if_true, if_false, Bool.false_eq_true, Bool.not_true, Bool.not_false, Rs.seq, exl_nil, List.append_nil, prtL, e1, List.map_take])) (evb (by simp only [execS, evalE, evalL, evalLB, bor, Res.bind, Res.of, Res.thn, rd, rdB, tstE, tru_bl, int_int, eq_int, lt_int, le_int, gt_int, ge_int, ne_int, add_ok, sub_ok, List.set_cons_zero, List.set_cons_succ, List.getElem?_cons_zero, List.getElem?_cons_succ, Option.map_some, if_true, if_false, Bool.false_eq_true, Bool.not_true, Bool.not_false, Rs.seq, exl_nil, List.append_nil, zt0])) (tup_app (a := w.take s) (b := [0]) (by rw [List.length_take]; simp; omega))
    exact ev_bin2 (G1 := G1) (evb i1) (y := .tup ((w.drop (s + 1)).map .int)) (evb (by simp only [execS, evalE, evalL, evalLB, bor, Res.bind, Res.of, Res.thn, rd, rdB, tstE, tru_bl, int_int, eq_int, lt_int, le_int, gt_int, ge_int, ne_int, add_ok, sub_ok, List.set_cons_zero, List.set_cons_succ, List.getElem?_cons_zero, List.getElem?_cons_succ, Option.map_some, if_true, if_false, Bool.false_eq_true, Bool.not_true, Bool.not_false, Rs.seq, exl_nil, List.append_nil, prtL, ec, e2, List.map_drop])) (tup_app (by rw [List.length_append, List.length_take, List.length_drop]; simp; omega))
  have r2 : evalE ⟨T, callK T wf (k + 5), wf, none⟩ (.bin .add (.tup [(.neg (.con (.int 1)))]) (.slc (.var 1) [(.con (.int 1))] [])) [.val (.cel 0), .val (.tup (w.map .int)), .val (.int n), .val (.int s), .no, .no, .no, .no, .no] G1 = .ok (.tup ((-1 :: w.drop 1).map .int)) G1 := by
    have sd := slc_drop (xs := w.map .int) (p := 1)
    have ca := cons_app (w := w.drop 1) (z := -1) (by rw [List.length_drop]; omega)
    rw [List.map_drop] at ca
    refine ev_bin2 (G1 := G1) (x := .tup [.int (-1)]) (y := .tup ((w.map .int).drop 1)) (evb ?_) (evb ?_) ca
    · simp only [execS, evalE, evalL, evalLB, bor, Res.bind, Res.of, Res.thn, rd, rdB, tstE, tru_bl, int_int, eq_int, lt_int, le_int, gt_int, ge_int, ne_int, add_ok, sub_ok, List.set_cons_zero, List.set_cons_succ, List.getElem?_cons_zero, List.getElem?_cons_succ, Option.map_some, if_true, if_false, Bool.false_eq_true, Bool.not_true, Bool.not_false, Rs.seq, exl_nil, List.append_nil, ztm]
    · simp only [execS, evalE, evalL, evalLB, bor, Res.bind, Res.of, Res.thn, rd, rdB, tstE, tru_bl, int_int, eq_int, lt_int, le_int, gt_int, ge_int, ne_int, add_ok, sub_ok, List.set_cons_zero, List.set_cons_succ, List.getElem?_cons_zero, List.getElem?_cons_succ, Option.map_some, if_true, if_false, Bool.false_eq_true, Bool.not_true, Bool.not_false, Rs.seq, exl_nil, List.append_nil, prtL]
      rw [show slcV (.tup (w.map .int)) (some 1) none = _ from sd]
  have k1 : evalE ⟨T, callK T wf (k + 5), wf, none⟩ (.call "_law_doors" [(.bin .add (.bin .add (.slc (.var 1) [] [(.var 3)]) (.tup [(.con (.int 0))])) (.slc (.var 1) [(.bin .add (.var 3) (.con (.int 1)))] []))] []) [.val (.cel 0), .val (.tup (w.map .int)), .val (.int n), .val (.int s), .no, .no, .no, .no, .no] G1 = .ok (.lst [.lst [.int s, .str "sign"], .lst [.int s, .str "sign"]]) G1 := by
    exact ev_call1 r1 d1
  have k2 : evalE ⟨T, callK T wf (k + 5), wf, none⟩ (.call "_law_doors" [(.bin .add (.tup [(.neg (.con (.int 1)))]) (.slc (.var 1) [(.con (.int 1))] []))] []) [.val (.cel 0), .val (.tup (w.map .int)), .val (.int n), .val (.int s), .no, .no, .no, .no, .no] G1 = .ok (.lst [.lst [.int 0, .str "first"], .lst [.int 0, .str "first"]]) G1 := by
    exact ev_call1 r2 d2
  have m1 : evalE ⟨T, callK T wf (k + 5), wf, none⟩ (.bin .mul (.lst [(.lst [(.var 3), (.con (.str "sign"))])]) (.con (.int 2))) [.val (.cel 0), .val (.tup (w.map .int)), .val (.int n), .val (.int s), .no, .no, .no, .no, .no] G1 = .ok (.lst [.lst [.int s, .str "sign"], .lst [.int s, .str "sign"]]) G1 := by
    simp only [execS, evalE, evalL, evalLB, bor, Res.bind, Res.of, Res.thn, rd, rdB, tstE, tru_bl, int_int, eq_int, lt_int, le_int, gt_int, ge_int, ne_int, add_ok, sub_ok, List.set_cons_zero, List.set_cons_succ, List.getElem?_cons_zero, List.getElem?_cons_succ, Option.map_some, if_true, if_false, Bool.false_eq_true, Bool.not_true, Bool.not_false, Rs.seq, exl_nil, List.append_nil, zt1, zt2, twice]
  have m2 : evalE ⟨T, callK T wf (k + 5), wf, none⟩ (.bin .mul (.lst [(.lst [(.con (.int 0)), (.con (.str "first"))])]) (.con (.int 2))) [.val (.cel 0), .val (.tup (w.map .int)), .val (.int n), .val (.int s), .no, .no, .no, .no, .no] G1 = .ok (.lst [.lst [.int 0, .str "first"], .lst [.int 0, .str "first"]]) G1 := by
    simp only [execS, evalE, evalL, evalLB, bor, Res.bind, Res.of, Res.thn, rd, rdB, tstE, tru_bl, int_int, eq_int, lt_int, le_int, gt_int, ge_int, ne_int, add_ok, sub_ok, List.set_cons_zero, List.set_cons_succ, List.getElem?_cons_zero, List.getElem?_cons_succ, Option.map_some, if_true, if_false, Bool.false_eq_true, Bool.not_true, Bool.not_false, Rs.seq, exl_nil, List.append_nil, zt1, zt2, twice]
  have g2 : execS ⟨T, callK T wf (k + 5), wf, none⟩ bRe2 [.val (.cel 0), .val (.tup (w.map .int)), .val (.int n), .val (.int s), .no, .no, .no, .no, .no] G1 = .nx [.val (.cel 0), .val (.tup (w.map .int)), .val (.int n), .val (.int s), .no, .no, .no, .no, .no] G1 := by
    refine ite_f (evb ?_)
    rw [ev_or_f (ev_ne (evb k1) (evb m1) (nice2 (nice2 (.int _) (ok_str L_sign (k := 0))) (nice2 (.int _) (ok_str L_sign (k := 0)))))]
    exact ev_ne (evb k2) (evb m2) (nice2 (nice2 (.int _) (ok_str L_first (k := 0))) (nice2 (.int _) (ok_str L_first (k := 0))))
  rw [exl_nx g2]
  -- no poles
  have hit3 : iterE ⟨T, callK T wf (k + 5), wf, none⟩ (.seqs (.lst [(.con (.int 0)), (.var 2), (.neg (.con (.int 1))), (.con (.bl true)), (.con .non), (.con (.str "1")), (.tup [(.con (.int 1)), (.con (.int 1))])])) [.val (.cel 0), .val (.tup (w.map .int)), .val (.int n), .val (.int s), .no, .no, .no, .no, .no] G1 = .ok [.int 0, .int n, .int (-1), .bl true, .non, .str "1", .tup [.int 1, .int 1]] G1 := by
    simp only [iterE, execS, evalE, evalL, evalLB, bor, Res.bind, Res.of, Res.thn, rd, rdB, tstE, tru_bl, int_int, eq_int, lt_int, le_int, gt_int, ge_int, ne_int, add_ok, sub_ok, List.set_cons_zero, List.set_cons_succ, List.getElem?_cons_zero, List.getElem?_cons_succ, Option.map_some, if_true, if_false, Bool.false_eq_true, Bool.not_true, Bool.not_false, Rs.seq, exl_nil, List.append_nil, zt2, zt7, itmV]
  obtain ⟨σ1, e3, s4, rfl⟩ := loop_inv (tg := .name 4) (f := execL ⟨T, callK T wf (k + 5), wf, none⟩ bRp) (I := fun σ => ∃ s4, σ = [.val (.cel 0), .val (.tup (w.map .int)), .val (.int n), .val (.int s), s4, .no, .no, .no, .no]) (G := G1) [.int 0, .int n, .int (-1), .bl true, .non, .str "1", .tup [.int 1, .int 1]] (fun x hx σ hI => by
    obtain ⟨s4, rfl⟩ := hI
    have hh : plainG x = true ∧ inR 1 ((n : Int) - 1) x = false ∧ Nice 5 x := by
      rcases List.mem_cons.mp hx with rfl | hx
      · exact ⟨rfl, inR_lo (by omega), .int _⟩
      rcases List.mem_cons.mp hx with rfl | hx
      · exact ⟨rfl, inR_hi (by omega), .int _⟩
      rcases List.mem_cons.mp hx with rfl | hx
      · exact ⟨rfl, inR_lo (by omega), .int _⟩
      rcases List.mem_cons.mp hx with rfl | hx
      · exact ⟨rfl, rfl, .bl _⟩
      rcases List.mem_cons.mp hx with rfl | hx
      · exact ⟨rfl, rfl, .non⟩
      rcases List.mem_cons.mp hx with rfl | hx
      · exact ⟨rfl, rfl, .str L_1⟩
      rw [List.mem_singleton.mp hx]
      exact ⟨rfl, rfl, .tup fun z hz => by
        rcases List.mem_cons.mp hz with rfl | hz
        · exact .int _
        · rw [List.mem_singleton.mp hz]; exact .int _⟩
    exact ⟨_, rfl, _, rp_step t hw h1 hn hh.1 hh.2.1 hh.2.2, _, rfl⟩) _ ⟨.no, rfl⟩
  have g3 : execS ⟨T, callK T wf (k + 5), wf, none⟩ bRe3 _ G1 = _ := (ex_forr hit3).trans e3
  rw [exl_nx g3]
  -- no sections
  have hit4 : iterE ⟨T, callK T wf (k + 5), wf, none⟩ (.seqs (.lst [(.var 2), (.neg (.con (.int 1))), (.con (.bl true)), (.con .non), (.con (.str "0"))])) [.val (.cel 0), .val (.tup (w.map .int)), .val (.int n), .val (.int s), s4, .no, .no, .no, .no] G1 = .ok [.int n, .int (-1), .bl true, .non, .str "0"] G1 := by
    simp only [iterE, execS, evalE, evalL, evalLB, bor, Res.bind, Res.of, Res.thn, rd, rdB, tstE, tru_bl, int_int, eq_int, lt_int, le_int, gt_int, ge_int, ne_int, add_ok, sub_ok, List.set_cons_zero, List.set_cons_succ, List.getElem?_cons_zero, List.getElem?_cons_succ, Option.map_some, if_true, if_false, Bool.false_eq_true, Bool.not_true, Bool.not_false, Rs.seq, exl_nil, List.append_nil, zt5, itmV]
  obtain ⟨σ2, e4, s5, rfl⟩ := loop_inv (tg := .name 5) (f := execL ⟨T, callK T wf (k + 5), wf, none⟩ bRs) (I := fun σ => ∃ s5, σ = [.val (.cel 0), .val (.tup (w.map .int)), .val (.int n), .val (.int s), s4, s5, .no, .no, .no]) (G := G1) [.int n, .int (-1), .bl true, .non, .str "0"] (fun x hx σ hI => by
    obtain ⟨s5, rfl⟩ := hI
    have hh : plainG x = true ∧ inR 0 ((n : Int) - 1) x = false ∧ Nice 5 x := by
      rcases List.mem_cons.mp hx with rfl | hx
      · exact ⟨rfl, inR_hi (by omega), .int _⟩
      rcases List.mem_cons.mp hx with rfl | hx
      · exact ⟨rfl, inR_lo (by omega), .int _⟩
      rcases List.mem_cons.mp hx with rfl | hx
      · exact ⟨rfl, rfl, .bl _⟩
      rcases List.mem_cons.mp hx with rfl | hx
      · exact ⟨rfl, rfl, .non⟩
      rw [List.mem_singleton.mp hx]
      exact ⟨rfl, rfl, .str L_0⟩
    exact ⟨_, rfl, _, rs_step t hw h1 hn hh.1 hh.2.1 hh.2.2, _, rfl⟩) _ ⟨.no, rfl⟩
  have g4 : execS ⟨T, callK T wf (k + 5), wf, none⟩ bRe4 _ G1 = _ := (ex_forr hit4).trans e4
  rw [exl_nx g4]
  -- no counts
  have hit5 : iterE ⟨T, callK T wf (k + 5), wf, none⟩ (.seqs (.lst [(.con (.int 0)), (.con (.int 25)), (.con (.bl true)), (.con .non), (.con (.str "4"))])) [.val (.cel 0), .val (.tup (w.map .int)), .val (.int n), .val (.int s), s4, s5, .no, .no, .no] G1 = .ok [.int 0, .int 25, .bl true, .non, .str "4"] G1 := by
    simp only [iterE, execS, evalE, evalL, evalLB, bor, Res.bind, Res.of, Res.thn, rd, rdB, tstE, tru_bl, int_int, eq_int, lt_int, le_int, gt_int, ge_int, ne_int, add_ok, sub_ok, List.set_cons_zero, List.set_cons_succ, List.getElem?_cons_zero, List.getElem?_cons_succ, Option.map_some, if_true, if_false, Bool.false_eq_true, Bool.not_true, Bool.not_false, Rs.seq, exl_nil, List.append_nil, zt5, itmV]
  obtain ⟨σ3, e5, s6, rfl⟩ := loop_inv (tg := .name 6) (f := execL ⟨T, callK T wf (k + 5), wf, none⟩ bRc) (I := fun σ => ∃ s6, σ = [.val (.cel 0), .val (.tup (w.map .int)), .val (.int n), .val (.int s), s4, s5, s6, .no, .no]) (G := G1) [.int 0, .int 25, .bl true, .non, .str "4"] (fun x hx σ hI => by
    obtain ⟨s6, rfl⟩ := hI
    have hh : plainG x = true ∧ inR 1 24 x = false := by
      rcases List.mem_cons.mp hx with rfl | hx
      · exact ⟨rfl, inR_lo (by omega)⟩
      rcases List.mem_cons.mp hx with rfl | hx
      · exact ⟨rfl, inR_hi (by omega)⟩
      rcases List.mem_cons.mp hx with rfl | hx
      · exact ⟨rfl, rfl⟩
      rcases List.mem_cons.mp hx with rfl | hx
      · exact ⟨rfl, rfl⟩
      rw [List.mem_singleton.mp hx]
      exact ⟨rfl, rfl⟩
    exact ⟨_, rfl, _, rc_step t hh.1 hh.2, _, rfl⟩) _ ⟨.no, rfl⟩
  have g5 : execS ⟨T, callK T wf (k + 5), wf, none⟩ bRe5 _ G1 = _ := (ex_forr hit5).trans e5
  rw [exl_nx g5, exl_cons]
  simp only [bRe6, execS, evalE, evalL, evalLB, bor, Res.bind, Res.of, Res.thn, rd, rdB, tstE, tru_bl, int_int, eq_int, lt_int, le_int, gt_int, ge_int, ne_int, add_ok, sub_ok, List.set_cons_zero, List.set_cons_succ, List.getElem?_cons_zero, List.getElem?_cons_succ, Option.map_some, if_true, if_false, Bool.false_eq_true, Bool.not_true, Bool.not_false, Rs.seq, exl_nil, List.append_nil, zt1, zt2, zt7]
  rw [exl_cons]
  have hc := cm_flt (c := ⟨T, callK T wf (k + 5), wf, none⟩) (elt := .con (.int 1)) (cnd := .cmp .ne (.call "_law_with" [(.var 2), (.var 8)] []) (.lst [(.con (.str "poles"))])) (t := 8) (own := [8]) (it := .seq (.var 7)) (σ := [.val (.cel 0), .val (.tup (w.map .int)), .val (.int n), .val (.int s), s4, s5, s6, .val (.lst [.lst [.int n], .lst [.int 0], .lst [.bl true], .non, .str "1", .lst [.int 1, .int 1], .lst [.tup [.int 1, .int 1]]]), .no]) (G := G1) (xs := [.lst [.int n], .lst [.int 0], .lst [.bl true], .non, .str "1", .lst [.int 1, .int 1], .lst [.tup [.int 1, .int 1]]]) (fun _ => .int 1) (fun _ => false) (it_sq rfl rfl) (by show 7 ≤ 100000; decide) (fun x hx => by
    have cw := bads_ok (wf := wf) (k := k) t (G := G1) h1 hn x hx
    have n1 : cmpV .ne (.lst [.str "poles"]) (.lst [.str "poles"]) = some false := by kernel_rfl
    simp only [wipeG, execS, evalE, evalL, evalLB, bor, Res.bind, Res.of, Res.thn, rd, rdB, tstE, tru_bl, int_int, eq_int, lt_int, le_int, gt_int, ge_int, ne_int, add_ok, sub_ok, List.set_cons_zero, List.set_cons_succ, List.getElem?_cons_zero, List.getElem?_cons_succ, Option.map_some, if_true, if_false, Bool.false_eq_true, Bool.not_true, Bool.not_false, Rs.seq, exl_nil, List.append_nil, cw, zt1, n1]) (fun x hx hf => by cases hf)
  have hc' : evalE ⟨T, callK T wf (k + 5), wf, none⟩ (.not (.cmpr (.con (.int 1)) (.name 8) [8] (.seq (.var 7)) (.cmp .ne (.call "_law_with" [(.var 2), (.var 8)] []) (.lst [(.con (.str "poles"))])))) [.val (.cel 0), .val (.tup (w.map .int)), .val (.int n), .val (.int s), s4, s5, s6, .val (.lst [.lst [.int n], .lst [.int 0], .lst [.bl true], .non, .str "1", .lst [.int 1, .int 1], .lst [.tup [.int 1, .int 1]]]), .no] G1 = .ok (.bl true) G1 := by
    have e : ∀ (c : Gm.Ctx) (a : E) (σ : List Sl) (G : Cells), evalE c (.not a) σ G = (evB c a σ G).bind fun x G => (Res.of (truV x) G).bind fun k G => .ok (.bl (!k)) G := fun c a σ G => by simp only [evalE, evB]
    rw [e, evb hc]
    rfl
  rw [bRe7, ex_ret hc']
  rfl
/-! the word of a number -/
def sgF (m : Nat) (j i : Int) : Int := if ((j / 2 ^ ((m : Int) - 1 - i).toNat).fmod 2 != 0) = true then -1 else 1
def sgL (m : Nat) (j : Int) : List Int := (rI 0 m).map (sgF m j)
theorem sgL_isW {m : Nat} {j : Int} (h1 : 1 ≤ m) (h0 : 0 ≤ j) (h2 : j < 2 ^ (m - 1)) : IsW m (sgL m j) where
  len := by unfold sgL; rw [List.length_map, rI_len]
  sg := fun z hz => by
    obtain ⟨i, _, rfl⟩ := List.mem_map.mp hz
    unfold sgF
    split
    · exact .inr rfl
    · exact .inl rfl
  hd := by
    unfold sgL
    rw [List.getElem?_map, rI_get (by omega)]
    show some (sgF m j (0 + ((0 : Nat) : Int))) = some 1
    have e : j / 2 ^ ((m : Int) - 1 - (0 + ((0 : Nat) : Int))).toNat = 0 := by
      rw [show ((m : Int) - 1 - (0 + ((0 : Nat) : Int))).toNat = m - 1 by omega]
      exact Int.ediv_eq_zero_of_lt h0 h2
    unfold sgF
    rw [e]; rfl
theorem sig_ok (hS : T.fn "_law_signs" = some dSi) {G : Cells} {m : Nat} {j : Int} (hm : m ≤ 1000) : callK T wf (k + 1) "_law_signs" [.int m, .int j] G = .ok (.tup ((sgL m j).map .int)) G := by
  have hc := cm_I1 (c := ⟨T, callK T wf k, wf, none⟩) (elt := (.ite (.bin .mod (.blt .intt [(.bin .shr (.var 1) (.bin .sub (.bin .sub (.var 0) (.con (.int 1))) (.var 2)))]) (.con (.int 2))) (.neg (.con (.int 1))) (.con (.int 1)))) (t := 2) (own := [2]) (it := .rng [(.var 0)]) (σ := [.val (.int m), .val (.int j), .no]) (G := G) (ns := rI 0 m) (sgF m j) (it_r1 (by simp only [execS, evalE, evalL, evalLB, bor, Res.bind, Res.of, Res.thn, rd, rdB, tstE, tru_bl, int_int, eq_int, lt_int, le_int, gt_int, ge_int, ne_int, add_ok, sub_ok, List.set_cons_zero, List.set_cons_succ, List.getElem?_cons_zero, List.getElem?_cons_succ, Option.map_some, if_true, if_false, Bool.false_eq_true, Bool.not_true, Bool.not_false, Rs.seq, exl_nil, List.append_nil]) (by omega)) (by rw [rI_len]; omega) (fun i hi => by
    have hmi := mem_rI.mp hi
    have e1 : binV .shr (.int j) (.int ((m : Int) - 1 - i)) = some (.int (j / 2 ^ ((m : Int) - 1 - i).toNat)) := if_pos (decide_eq_true (by omega))
    have e2 : binV .mod (.int (j / 2 ^ ((m : Int) - 1 - i).toNat)) (.int 2) = some (.int ((j / 2 ^ ((m : Int) - 1 - i).toNat).fmod 2)) := mod_ok (by decide)
    unfold sgF
    cases hb : ((j / 2 ^ ((m : Int) - 1 - i).toNat).fmod 2 != 0) with
    | true => simp only [wipeG, execS, evalE, evalL, evalLB, bor, Res.bind, Res.of, Res.thn, rd, rdB, tstE, tru_bl, int_int, eq_int, lt_int, le_int, gt_int, ge_int, ne_int, add_ok, sub_ok, List.set_cons_zero, List.set_cons_succ, List.getElem?_cons_zero, List.getElem?_cons_succ, Option.map_some, if_true, if_false, Bool.false_eq_true, Bool.not_true, Bool.not_false, Rs.seq, exl_nil, List.append_nil, e1, e2, tru_int, hb]
    | false => simp only [wipeG, execS, evalE, evalL, evalLB, bor, Res.bind, Res.of, Res.thn, rd, rdB, tstE, tru_bl, int_int, eq_int, lt_int, le_int, gt_int, ge_int, ne_int, add_ok, sub_ok, List.set_cons_zero, List.set_cons_succ, List.getElem?_cons_zero, List.getElem?_cons_succ, Option.map_some, if_true, if_false, Bool.false_eq_true, Bool.not_true, Bool.not_false, Rs.seq, exl_nil, List.append_nil, e1, e2, tru_int, hb])
  rw [callK_step hS rfl]
  show finR (execL _ [bSi0] [.val (.int m), .val (.int j), .no] G) = _
  rw [exl_cons]
  simp only [bSi0, execS, tup_cm hc, Res.thn, Rs.seq, finR]
  rfl
end
end Cm
end

section
namespace Cm
open PySem Gm
def bNw0 : S := (.set 1 (.call "check_signs" [(.var 0)] []))
def bNw1 : S := (.set 2 (.con (.int 0)))
def bNw2 : S := (.forr (.name 3) (.seqs (.slc (.var 1) [(.con (.int 1))] [])) [(.set 2 (.bin .add (.bin .mul (.var 2) (.con (.int 2))) (.ite (.cmp .eq (.var 3) (.neg (.con (.int 1)))) (.con (.int 1)) (.con (.int 0)))))])
def bNw3 : S := (.ret (.var 2))
def dNw : Fn := ⟨1, 4, [], [], [bNw0, bNw1, bNw2, bNw3]⟩
def bWn0 : S := (.exp (.call "check_count" [(.var 0)] [(.int 24)]))
def bWn1 : S := (.ite (.or (.not (.call "is_whole" [(.var 1), (.con (.int 0))] [.non])) (.cmp .ne (.bin .shr (.var 1) (.bin .sub (.var 0) (.con (.int 1)))) (.con (.int 0)))) [(.rse "BadNumber" [])] [])
def bWn2 : S := (.ret (.call "signs_of" [(.var 0), (.var 1)] []))
def dWn : Fn := ⟨2, 2, [], [], [bWn0, bWn1, bWn2]⟩
def bSo0 : S := (.ret (.blt .tupl [(.cmpr (.ite (.bin .band (.bin .shr (.var 1) (.bin .sub (.bin .sub (.var 0) (.con (.int 1))) (.var 2))) (.con (.int 1))) (.neg (.con (.int 1))) (.con (.int 1))) (.name 2) [2] (.rng [(.var 0)]) (.con (.bl true)))]))
def dSo : Fn := ⟨2, 3, [], [], [bSo0]⟩
def bEw0 : S := (.exp (.call "check_count" [(.var 0)] [(.int 24)]))
def bEw1 : S := (.ite (.cmp .gt (.var 0) (.glb "MOST_EACH")) [(.rse "TooMany" [(.glb "MOST_EACH")])] [])
def bEw2 : S := (.ret (.cmpr (.call "signs_of" [(.var 0), (.var 1)] []) (.name 1) [1] (.rng [(.bin .shl (.con (.int 1)) (.bin .sub (.var 0) (.con (.int 1))))]) (.con (.bl true))))
def dEw : Fn := ⟨1, 2, [], [], [bEw0, bEw1, bEw2]⟩
def bLby0 : S := (.tryy [(.set 2 (.call "word_by_number" [(.var 0), (.var 1)] []))] [("BadCount", none, [(.ret (.lst [(.con (.str "count"))]))]), ("BadNumber", none, [(.ret (.lst [(.con (.str "number"))]))])])
def bLby1 : S := (.ret (.var 2))
def dLby : Fn := ⟨2, 3, [], [], [bLby0, bLby1]⟩
def bLnt0 : S := (.tryy [(.set 2 (.call "number_of_word" [(.var 0)] []))] [("BadWord", some 1, [(.ret (.lst [(.xfl 1 "index"), (.xfl 1 "what")]))])])
def bLnt1 : S := (.ret (.var 2))
def dLnt : Fn := ⟨1, 3, [], [], [bLnt0, bLnt1]⟩
def bLea0 : S := (.tryy [(.set 2 (.blt .listt [(.call "each_word" [(.var 0)] [])]))] [("BadCount", none, [(.ret (.lst [(.con (.str "count"))]))]), ("TooMany", some 1, [(.ret (.lst [(.con (.str "many")), (.xfl 1 "most")]))])])
def bLea1 : S := (.ret (.var 2))
def dLea : Fn := ⟨1, 3, [], [], [bLea0, bLea1]⟩
def bLin0 : S := (.ret (.and (.blt .isi [(.var 0), (.bty "int")]) (.and (.not (.blt .isi [(.var 0), (.bty "bool")])) (.cmp .eq (.var 0) (.var 1)))))
def dLin : Fn := ⟨2, 2, [], [], [bLin0]⟩
def bNwL : List S := [(.set 2 (.bin .add (.bin .mul (.var 2) (.con (.int 2))) (.ite (.cmp .eq (.var 3) (.neg (.con (.int 1)))) (.con (.int 1)) (.con (.int 0)))))]
/-! ### words numbered -/
def bitS (b : Nat) : Int := if b % 2 = 1 then -1 else 1
def sgN (L J : Nat) : List Int := (List.range L).map fun i => bitS (J / 2 ^ (L - 1 - i))
def sN (s : Int) : Nat := if s = -1 then 1 else 0
def nf (t : List Int) : Nat := t.foldl (fun a s => a * 2 + sN s) 0
theorem nf_app (t : List Int) (s : Int) : nf (t ++ [s]) = nf t * 2 + sN s := by simp [nf]
theorem sgN_len (L J : Nat) : (sgN L J).length = L := by simp [sgN]
theorem bitS_pm (b : Nat) : bitS b = 1 ∨ bitS b = -1 := by unfold bitS; split <;> simp
theorem sgN_sgn (L J : Nat) : Sgn (sgN L J) := fun z hz => by
  obtain ⟨i, _, rfl⟩ := List.mem_map.mp hz
  exact bitS_pm _
theorem sgN_succ (L J : Nat) : sgN (L + 1) J = sgN L (J / 2) ++ [bitS J] := by
  unfold sgN
  rw [List.range_succ, List.map_append]
  congr 1
  · apply List.map_congr_left
    intro i hi
    have hi := List.mem_range.mp hi
    rw [Nat.div_div_eq_div_mul, show L + 1 - 1 - i = (L - 1 - i) + 1 by omega, Nat.pow_succ, Nat.mul_comm]
  · simp
theorem nf_sgN : ∀ L J, J < 2 ^ L → nf (sgN L J) = J
  | 0, J, h => by
    have : J = 0 := by simpa using h
    subst this; rfl
  | L + 1, J, h => by
    rw [sgN_succ, nf_app, nf_sgN L (J / 2) (by rw [Nat.pow_succ] at h; omega)]
    unfold sN bitS
    by_cases e : J % 2 = 1
    · rw [if_pos e, if_pos rfl]; omega
    · rw [if_neg e, if_neg (by decide)]; omega
theorem sgN_nf : ∀ (L : Nat) (t : List Int), t.length = L → Sgn t → sgN L (nf t) = t ∧ nf t < 2 ^ L
  | 0, t, h, _ => by
    have : t = [] := List.eq_nil_of_length_eq_zero h
    subst this; exact ⟨rfl, by decide⟩
  | L + 1, t, h, hs => by
    have hne : t ≠ [] := fun e => by rw [e] at h; cases h
    have e := List.dropLast_concat_getLast hne
    have hl : t.dropLast.length = L := by rw [List.length_dropLast]; omega
    obtain ⟨i1, i2⟩ := sgN_nf L t.dropLast hl fun z hz => hs z ((List.dropLast_sublist t).subset hz)
    have hz := hs (t.getLast hne) (List.getLast_mem hne)
    rw [← e, nf_app]
    have hb : sN (t.getLast hne) < 2 := by unfold sN; split <;> omega
    refine ⟨?_, by rw [Nat.pow_succ]; omega⟩
    rw [sgN_succ, show (nf t.dropLast * 2 + sN (t.getLast hne)) / 2 = nf t.dropLast by omega, i1]
    congr 2
    unfold bitS sN
    rcases hz with hz | hz
    · rw [hz, if_neg (by decide : ¬ (1 : Int) = -1), if_neg (by omega)]
    · rw [hz, if_pos rfl, if_pos (by omega)]
theorem sgN_isW {n J : Nat} (h1 : 1 ≤ n) (h : J < 2 ^ (n - 1)) : IsW n (sgN n J) where
  len := sgN_len n J
  sg := sgN_sgn n J
  hd := by
    unfold sgN
    rw [List.getElem?_map, List.getElem?_range (by omega)]
    show some (bitS (J / 2 ^ (n - 1 - 0))) = some 1
    rw [Nat.sub_zero, Nat.div_eq_of_lt h]; rfl
theorem nf_drop {n : Nat} {w : List Int} (hw : IsW n w) (h1 : 1 ≤ n) : nf (w.drop 1) = nf w := by
  cases w with
  | nil => have := hw.len; rw [List.length_nil] at this; omega
  | cons z t =>
    have hz : z = 1 := by simpa using hw.hd
    subst hz; rfl
theorem nf_ltW {n : Nat} {w : List Int} (hw : IsW n w) (h1 : 1 ≤ n) : nf w < 2 ^ (n - 1) := by
  rw [← nf_drop hw h1]
  exact (sgN_nf (n - 1) (w.drop 1) (by rw [List.length_drop, hw.len]) fun z hz => hw.sg z (List.mem_of_mem_drop hz)).2
theorem sgN_W {n : Nat} {w : List Int} (hw : IsW n w) : sgN n (nf w) = w := (sgN_nf n w hw.len hw.sg).1
theorem nf_ones (L : Nat) : nf (List.replicate L (-1)) = 2 ^ L - 1 := by
  induction L with
  | zero => rfl
  | succ L ih =>
    rw [List.replicate_succ', nf_app, ih, Nat.pow_succ]
    have : 1 ≤ 2 ^ L := Nat.one_le_two_pow
    have e : sN (-1) = 1 := rfl
    rw [e]; omega
theorem nf_plain (L : Nat) : nf (List.replicate L 1) = 0 := by
  induction L with
  | zero => rfl
  | succ L ih => rw [List.replicate_succ', nf_app, ih]; rfl
theorem last_W {n : Nat} (h1 : 1 ≤ n) : sgN n (2 ^ (n - 1) - 1) = 1 :: List.replicate (n - 1) (-1) := by
  have hs : Sgn (1 :: List.replicate (n - 1) (-1)) := fun z hz => by
    rcases List.mem_cons.mp hz with rfl | h
    · exact .inl rfl
    · exact .inr (List.eq_of_mem_replicate h)
  have e : nf (1 :: List.replicate (n - 1) (-1)) = 2 ^ (n - 1) - 1 := by
    have : nf (1 :: List.replicate (n - 1) (-1)) = nf (List.replicate (n - 1) (-1)) := rfl
    rw [this, nf_ones]
  rw [← e]
  exact (sgN_nf n _ (by simp; omega) hs).1
theorem zero_W (n : Nat) : sgN n 0 = List.replicate n 1 := by
  have := (sgN_nf n (List.replicate n 1) (by simp) fun z hz => .inl (List.eq_of_mem_replicate hz)).1
  rw [nf_plain] at this
  exact this
/-! ### the program -/
structure T6 (T : Tb) : Prop extends Tr T where
  xb : T.xc "BadCount" = some ([] : List Str)
  xu : T.xc "BadNumber" = some ([] : List Str)
  xt : T.xc "TooMany" = some ([("most" : Str)] : List Str)
  me : T.gv "MOST_EACH" = some (.int 12)
  cc : T.fn "check_count" = some dCc
  nw : T.fn "number_of_word" = some dNw
  wn : T.fn "word_by_number" = some dWn
  so : T.fn "signs_of" = some dSo
  ew : T.fn "each_word" = some dEw
  by_ : T.fn "_law_by" = some dLby
  nt : T.fn "_law_number_told" = some dLnt
  ea : T.fn "_law_each" = some dLea
  iN : T.fn "_law_is_number" = some dLin
  li : T.fn "_law_is_word" = some dIw
  si : T.fn "_law_signs" = some dSi
  mx : T.fn "_law_mixed" = some dMixed
  tk : T.fn "_law_take" = some dTake
  wd : T.fn "_law_word" = some dWord
  ct : T.fn "_law_count" = some dCount
  hd : T.fn "_law_hand" = some dHand
  sA : T.xsub "BadCount" "BadCount" = true
  sB : T.xsub "BadNumber" "BadCount" = false
  sC : T.xsub "BadNumber" "BadNumber" = true
  sD : T.xsub "TooMany" "BadCount" = false
  sE : T.xsub "TooMany" "TooMany" = true
def loR : GV → Bool
  | .int i => decide (0 ≤ i)
  | _ => false
section
variable {T : Tb} {wf k : Nat} {G : Cells}
theorem whole_lo (hW : T.fn "is_whole" = some dWhole) {v : GV} (h : plainG v = true) : callK T wf (k + 1) "is_whole" [v, .int 0, .non] G = .ok (.bl (loR v)) G := by
  rw [callK_step hW rfl]
  show finR (execL _ bWhole [.val v, .val (.int 0), .val .non] G) = _
  have n2 : cmpV .isI .non .non = some true := rfl
  have n1 : cmpV .isN (.int 0) .non = some true := rfl
  cases v with
  | int i =>
    have e1 : bltV .isi [.int i, .ty "bool"] = some (.bl false) := rfl
    have e2 : bltV .isi [.int i, .ty "int"] = some (.bl true) := rfl
    by_cases c1 : i < 0
    · have d1 : decide (i < 0) = true := decide_eq_true c1
      have r : loR (.int i) = false := decide_eq_false (by omega)
      rw [r]
      simp only [bWhole, execL, finR, execS, evalE, evalL, evalLB, bor, Res.bind, Res.of, Res.thn, rd, rdB, tstE, tru_bl, int_int, eq_int, lt_int, le_int, gt_int, ge_int, ne_int, add_ok, sub_ok, List.set_cons_zero, List.set_cons_succ, List.getElem?_cons_zero, List.getElem?_cons_succ, Option.map_some, if_true, if_false, Bool.false_eq_true, Bool.not_true, Bool.not_false, Rs.seq, exl_nil, List.append_nil, e1, e2, n1, n2, d1]
    · have d1 : decide (i < 0) = false := decide_eq_false c1
      have r : loR (.int i) = true := decide_eq_true (by omega)
      rw [r]
      simp only [bWhole, execL, finR, execS, evalE, evalL, evalLB, bor, Res.bind, Res.of, Res.thn, rd, rdB, tstE, tru_bl, int_int, eq_int, lt_int, le_int, gt_int, ge_int, ne_int, add_ok, sub_ok, List.set_cons_zero, List.set_cons_succ, List.getElem?_cons_zero, List.getElem?_cons_succ, Option.map_some, if_true, if_false, Bool.false_eq_true, Bool.not_true, Bool.not_false, Rs.seq, exl_nil, List.append_nil, e1, e2, n1, n2, d1]
  | bl b =>
    have e1 : bltV .isi [.bl b, .ty "bool"] = some (.bl true) := rfl
    simp only [bWhole, execL, finR, execS, evalE, evalL, evalLB, bor, Res.bind, Res.of, Res.thn, rd, rdB, tstE, tru_bl, int_int, eq_int, lt_int, le_int, gt_int, ge_int, ne_int, add_ok, sub_ok, List.set_cons_zero, List.set_cons_succ, List.getElem?_cons_zero, List.getElem?_cons_succ, Option.map_some, if_true, if_false, Bool.false_eq_true, Bool.not_true, Bool.not_false, Rs.seq, exl_nil, List.append_nil, e1, loR]
  | non =>
    have e1 : bltV .isi [.non, .ty "bool"] = some (.bl false) := rfl
    have e2 : bltV .isi [.non, .ty "int"] = some (.bl false) := rfl
    simp only [bWhole, execL, finR, execS, evalE, evalL, evalLB, bor, Res.bind, Res.of, Res.thn, rd, rdB, tstE, tru_bl, int_int, eq_int, lt_int, le_int, gt_int, ge_int, ne_int, add_ok, sub_ok, List.set_cons_zero, List.set_cons_succ, List.getElem?_cons_zero, List.getElem?_cons_succ, Option.map_some, if_true, if_false, Bool.false_eq_true, Bool.not_true, Bool.not_false, Rs.seq, exl_nil, List.append_nil, e1, e2, loR]
  | str x =>
    have e1 : bltV .isi [.str x, .ty "bool"] = some (.bl false) := rfl
    have e2 : bltV .isi [.str x, .ty "int"] = some (.bl false) := rfl
    simp only [bWhole, execL, finR, execS, evalE, evalL, evalLB, bor, Res.bind, Res.of, Res.thn, rd, rdB, tstE, tru_bl, int_int, eq_int, lt_int, le_int, gt_int, ge_int, ne_int, add_ok, sub_ok, List.set_cons_zero, List.set_cons_succ, List.getElem?_cons_zero, List.getElem?_cons_succ, Option.map_some, if_true, if_false, Bool.false_eq_true, Bool.not_true, Bool.not_false, Rs.seq, exl_nil, List.append_nil, e1, e2, loR]
  | tup x =>
    have e1 : bltV .isi [.tup x, .ty "bool"] = some (.bl false) := rfl
    have e2 : bltV .isi [.tup x, .ty "int"] = some (.bl false) := rfl
    simp only [bWhole, execL, finR, execS, evalE, evalL, evalLB, bor, Res.bind, Res.of, Res.thn, rd, rdB, tstE, tru_bl, int_int, eq_int, lt_int, le_int, gt_int, ge_int, ne_int, add_ok, sub_ok, List.set_cons_zero, List.set_cons_succ, List.getElem?_cons_zero, List.getElem?_cons_succ, Option.map_some, if_true, if_false, Bool.false_eq_true, Bool.not_true, Bool.not_false, Rs.seq, exl_nil, List.append_nil, e1, e2, loR]
  | _ => cases h
theorem cnt_good (t : T6 T) {n : Nat} (h1 : 1 ≤ n) (h2 : n ≤ 24) : callK T wf (k + 2) "check_count" [.int n, .int 24] G = .ok (.int n) G := by
  have hw := whole_r (wf := wf) (k := k) (G := G) t.w (v := .int n) rfl 1 24
  have hr : inR 1 24 (.int n) = true := by show (decide (1 ≤ (n : Int)) && decide ((n : Int) ≤ 24)) = true; rw [decide_eq_true (by omega), decide_eq_true (by omega)]; rfl
  rw [hr] at hw
  rw [callK_step t.cc rfl]
  show finR (execL _ [bCc0, bCc1] [.val (.int n), .val (.int 24)] G) = _
  rw [exl_cons]
  simp only [bCc0, execS, evalE, evalL, evalLB, bor, Res.bind, Res.of, Res.thn, rd, rdB, tstE, tru_bl, int_int, eq_int, lt_int, le_int, gt_int, ge_int, ne_int, add_ok, sub_ok, List.set_cons_zero, List.set_cons_succ, List.getElem?_cons_zero, List.getElem?_cons_succ, Option.map_some, if_true, if_false, Bool.false_eq_true, Bool.not_true, Bool.not_false, Rs.seq, exl_nil, List.append_nil, hw]
  rw [exl_cons]
  simp only [bCc1, execS, evalE, evalL, evalLB, bor, Res.bind, Res.of, Res.thn, rd, rdB, tstE, tru_bl, int_int, eq_int, lt_int, le_int, gt_int, ge_int, ne_int, add_ok, sub_ok, List.set_cons_zero, List.set_cons_succ, List.getElem?_cons_zero, List.getElem?_cons_succ, Option.map_some, if_true, if_false, Bool.false_eq_true, Bool.not_true, Bool.not_false, Rs.seq, exl_nil, List.append_nil, finR]
theorem cnt_bad (t : T6 T) {v : GV} (h : plainG v = true) (hr : inR 1 24 v = false) : callK T wf (k + 2) "check_count" [v, .int 24] G = .ex "BadCount" [] G := by
  have hw := whole_r (wf := wf) (k := k) (G := G) t.w h 1 24
  rw [hr] at hw
  have hxl : ([] : List Str).length = ([] : List GV).length := rfl
  rw [callK_step t.cc rfl]
  show finR (execL _ [bCc0, bCc1] [.val v, .val (.int 24)] G) = _
  rw [exl_cons]
  simp only [bCc0, execS, evalE, evalL, evalLB, bor, Res.bind, Res.of, Res.thn, rd, rdB, tstE, tru_bl, int_int, eq_int, lt_int, le_int, gt_int, ge_int, ne_int, add_ok, sub_ok, List.set_cons_zero, List.set_cons_succ, List.getElem?_cons_zero, List.getElem?_cons_succ, Option.map_some, if_true, if_false, Bool.false_eq_true, Bool.not_true, Bool.not_false, Rs.seq, exl_nil, List.append_nil, hw, execL, t.xb, hxl, finR]
/-! the number of a word -/
theorem num_loop {c : Gm.Ctx} {v w1 : GV} : ∀ (t : List Int) (a j : Nat) (s3 : Sl), Sgn t → a < 2 ^ j → j + t.length ≤ 60 →
    ∃ s3', loopF (.name 3) (execL c bNwL) (t.map .int) [.val v, .val w1, .val (.int a), s3] G = .nx [.val v, .val w1, .val (.int ((t.foldl (fun a s => a * 2 + sN s) a : Nat) : Int)), s3'] G
  | [], a, j, s3, _, _, _ => ⟨s3, rfl⟩
  | z :: t, a, j, s3, hs, ha, hj => by
    have hz := hs z List.mem_cons_self
    have hb : (a : Int).natAbs ≤ 10 ^ 30 := by
      have h1 : 2 ^ j ≤ 2 ^ 60 := Nat.pow_le_pow_right (by decide) (by omega)
      have h2 : (2 : Nat) ^ 60 ≤ 10 ^ 30 := by decide +kernel
      omega
    have hm := mul_ok (i := (a : Int)) (j := 2) hb (by decide)
    have hset : setTg (.name 3) (.int z) [.val v, .val w1, .val (.int a), s3] = some [.val v, .val w1, .val (.int a), .val (.int z)] := rfl
    have hstep : execL c bNwL [.val v, .val w1, .val (.int a), .val (.int z)] G = .nx [.val v, .val w1, .val (.int ((a * 2 + sN z : Nat) : Int)), .val (.int z)] G := by
      show execL c [_] _ G = _
      rw [exl_cons]
      rcases hz with rfl | rfl
      · have e0 : ((1 : Int) == -1) = false := by decide
        have e1 : ((a * 2 + sN 1 : Nat) : Int) = (a : Int) * 2 + 0 := by show ((a * 2 + 0 : Nat) : Int) = _; omega
        rw [e1]
        simp only [execS, evalE, evalL, evalLB, bor, Res.bind, Res.of, Res.thn, rd, rdB, tstE, tru_bl, int_int, eq_int, lt_int, le_int, gt_int, ge_int, ne_int, add_ok, sub_ok, List.set_cons_zero, List.set_cons_succ, List.getElem?_cons_zero, List.getElem?_cons_succ, Option.map_some, if_true, if_false, Bool.false_eq_true, Bool.not_true, Bool.not_false, Rs.seq, exl_nil, List.append_nil, hm, e0]
      · have e0 : ((-1 : Int) == -1) = true := by decide
        have e1 : ((a * 2 + sN (-1) : Nat) : Int) = (a : Int) * 2 + 1 := by show ((a * 2 + 1 : Nat) : Int) = _; omega
        rw [e1]
        simp only [execS, evalE, evalL, evalLB, bor, Res.bind, Res.of, Res.thn, rd, rdB, tstE, tru_bl, int_int, eq_int, lt_int, le_int, gt_int, ge_int, ne_int, add_ok, sub_ok, List.set_cons_zero, List.set_cons_succ, List.getElem?_cons_zero, List.getElem?_cons_succ, Option.map_some, if_true, if_false, Bool.false_eq_true, Bool.not_true, Bool.not_false, Rs.seq, exl_nil, List.append_nil, hm, e0]
    rw [List.map_cons, loopF_nx hset hstep]
    have hb2 : sN z < 2 := by unfold sN; split <;> omega
    simp at hj
    exact num_loop (c := c) (v := v) (w1 := w1) t (a * 2 + sN z) (j + 1) (.val (.int z)) (fun y hy => hs y (List.mem_cons_of_mem _ hy)) (by rw [Nat.pow_succ]; omega) (by omega)
theorem number_ok (t : T6 T) {n : Nat} {v : GV} {w : List Int} (hw : IsW n w) (h1 : 1 ≤ n) (hn : n ≤ 24) (hv : Sq v (w.map .int)) : callK T wf (k + 4) "number_of_word" [v] G = .ok (.int (nf w : Nat)) G := by
  have q := hw.sq1 (wf := wf) (k := k) (G := G) hn t.toTr hv
  have hl := hw.len
  have sd : slcV (.tup (w.map .int)) (some 1) none = some (.tup ((w.drop 1).map .int)) := by
    show some (GV.tup (cutG (w.map .int) (some ((1 : Nat) : Int)) none)) = _
    unfold cutG
    rw [HT.sIx_none, HT.sIx_nat, List.length_map, List.map_drop]
    congr 2
    rw [Nat.min_eq_left (by omega), List.take_of_length_le (by rw [List.length_drop, List.length_map]; omega)]
  obtain ⟨s3', e⟩ := num_loop (c := ⟨T, callK T wf (k + 3), wf, none⟩) (G := G) (v := v) (w1 := .tup (w.map .int)) (w.drop 1) 0 0 .no (fun z hz => hw.sg z (List.mem_of_mem_drop hz)) (by decide) (by rw [List.length_drop]; omega)
  have hit : iterE ⟨T, callK T wf (k + 3), wf, none⟩ (.seqs (.slc (.var 1) [(.con (.int 1))] [])) [.val v, .val (.tup (w.map .int)), .val (.int ((0 : Nat) : Int)), .no] G = .ok ((w.drop 1).map .int) G := by
    simp only [iterE, execS, evalE, evalL, evalLB, bor, Res.bind, Res.of, Res.thn, rd, rdB, tstE, tru_bl, int_int, eq_int, lt_int, le_int, gt_int, ge_int, ne_int, add_ok, sub_ok, List.set_cons_zero, List.set_cons_succ, List.getElem?_cons_zero, List.getElem?_cons_succ, Option.map_some, if_true, if_false, Bool.false_eq_true, Bool.not_true, Bool.not_false, Rs.seq, exl_nil, List.append_nil, prtL, sd, itmV]
  have e2 : execS ⟨T, callK T wf (k + 3), wf, none⟩ bNw2 [.val v, .val (.tup (w.map .int)), .val (.int ((0 : Nat) : Int)), .no] G = _ := (ex_forr hit).trans e
  rw [callK_step t.nw rfl]
  show finR (execL _ [bNw0, bNw1, bNw2, bNw3] [.val v, .no, .no, .no] G) = _
  rw [exl_cons]
  simp only [bNw0, execS, evalE, evalL, evalLB, bor, Res.bind, Res.of, Res.thn, rd, rdB, tstE, tru_bl, int_int, eq_int, lt_int, le_int, gt_int, ge_int, ne_int, add_ok, sub_ok, List.set_cons_zero, List.set_cons_succ, List.getElem?_cons_zero, List.getElem?_cons_succ, Option.map_some, if_true, if_false, Bool.false_eq_true, Bool.not_true, Bool.not_false, Rs.seq, exl_nil, List.append_nil, q]
  rw [exl_cons]
  simp only [bNw1, execS, evalE, evalL, evalLB, bor, Res.bind, Res.of, Res.thn, rd, rdB, tstE, tru_bl, int_int, eq_int, lt_int, le_int, gt_int, ge_int, ne_int, add_ok, sub_ok, List.set_cons_zero, List.set_cons_succ, List.getElem?_cons_zero, List.getElem?_cons_succ, Option.map_some, if_true, if_false, Bool.false_eq_true, Bool.not_true, Bool.not_false, Rs.seq, exl_nil, List.append_nil]
  rw [show (GV.int 0) = .int ((0 : Nat) : Int) from rfl, exl_nx e2, exl_cons]
  simp only [bNw3, execS, evalE, evalL, evalLB, bor, Res.bind, Res.of, Res.thn, rd, rdB, tstE, tru_bl, int_int, eq_int, lt_int, le_int, gt_int, ge_int, ne_int, add_ok, sub_ok, List.set_cons_zero, List.set_cons_succ, List.getElem?_cons_zero, List.getElem?_cons_succ, Option.map_some, if_true, if_false, Bool.false_eq_true, Bool.not_true, Bool.not_false, Rs.seq, exl_nil, List.append_nil, finR]
  rw [← nf_drop hw h1]
  rfl
theorem number_ex (t : T6 T) {v : GV} {fs : List GV} (h : callK T wf (k + 3) "check_signs" [v] G = .ex "BadWord" fs G) : callK T wf (k + 4) "number_of_word" [v] G = .ex "BadWord" fs G := by
  rw [callK_step t.nw rfl]
  show finR (execL _ [bNw0, bNw1, bNw2, bNw3] [.val v, .no, .no, .no] G) = _
  rw [exl_cons]
  simp only [bNw0, execS, evalE, evalL, evalLB, bor, Res.bind, Res.of, Res.thn, rd, rdB, tstE, tru_bl, int_int, eq_int, lt_int, le_int, gt_int, ge_int, ne_int, add_ok, sub_ok, List.set_cons_zero, List.set_cons_succ, List.getElem?_cons_zero, List.getElem?_cons_succ, Option.map_some, if_true, if_false, Bool.false_eq_true, Bool.not_true, Bool.not_false, Rs.seq, exl_nil, List.append_nil, h, finR]
/-! the word of a number -/
theorem shr_nat {J e : Nat} : binV .shr (.int (J : Int)) (.int (e : Int)) = some (.int ((J / 2 ^ e : Nat) : Int)) := by
  show (if decide ((0 : Int) ≤ (e : Int)) = true then some (GV.int ((J : Int) / 2 ^ (e : Int).toNat)) else none) = _
  rw [if_pos (decide_eq_true (by omega)), Int.toNat_natCast]
  congr 2
theorem band_one (a : Nat) : binV .band (.int (a : Int)) (.int 1) = some (.int ((a % 2 : Nat) : Int)) := by
  show some (GV.int (Builtin.bitAnd (a : Int) 1)) = _
  congr 2
  unfold Builtin.bitAnd
  rw [decide_eq_true (by omega : (0 : Int) ≤ (a : Int)), decide_eq_true (by decide : (0 : Int) ≤ 1)]
  show ((((a : Int).toNat &&& (1 : Int).toNat : Nat)) : Int) = _
  rw [Int.toNat_natCast]
  show ((a &&& 1 : Nat) : Int) = _
  rw [Nat.and_one_is_mod]
theorem so_ok (t : T6 T) {m J : Nat} (hm : m ≤ 1000) : callK T wf (k + 1) "signs_of" [.int m, .int J] G = .ok (.tup ((sgN m J).map .int)) G := by
  have hc := cm_I1 (c := ⟨T, callK T wf k, wf, none⟩) (elt := (.ite (.bin .band (.bin .shr (.var 1) (.bin .sub (.bin .sub (.var 0) (.con (.int 1))) (.var 2))) (.con (.int 1))) (.neg (.con (.int 1))) (.con (.int 1)))) (t := 2) (own := [2]) (it := .rng [(.var 0)]) (σ := [.val (.int m), .val (.int J), .no]) (G := G) (ns := rI 0 m) (fun i => bitS (J / 2 ^ (m - 1 - i.toNat))) (it_r1 (by simp only [execS, evalE, evalL, evalLB, bor, Res.bind, Res.of, Res.thn, rd, rdB, tstE, tru_bl, int_int, eq_int, lt_int, le_int, gt_int, ge_int, ne_int, add_ok, sub_ok, List.set_cons_zero, List.set_cons_succ, List.getElem?_cons_zero, List.getElem?_cons_succ, Option.map_some, if_true, if_false, Bool.false_eq_true, Bool.not_true, Bool.not_false, Rs.seq, exl_nil, List.append_nil]) (by omega)) (by rw [rI_len]; omega) (fun i hi => by
    have hmi := mem_rI.mp hi
    have ee : (m : Int) - 1 - i = ((m - 1 - i.toNat : Nat) : Int) := by omega
    have e1 := shr_nat (J := J) (e := m - 1 - i.toNat)
    have e2 := band_one (J / 2 ^ (m - 1 - i.toNat))
    have h2 := Nat.mod_lt (J / 2 ^ (m - 1 - i.toNat)) (by decide : 2 > 0)
    unfold bitS
    by_cases hb : (J / 2 ^ (m - 1 - i.toNat)) % 2 = 1
    · have h3 : (((J / 2 ^ (m - 1 - i.toNat) % 2 : Nat) : Int) != 0) = true := by rw [hb]; rfl
      rw [if_pos hb]
      simp only [wipeG, execS, evalE, evalL, evalLB, bor, Res.bind, Res.of, Res.thn, rd, rdB, tstE, tru_bl, int_int, eq_int, lt_int, le_int, gt_int, ge_int, ne_int, add_ok, sub_ok, List.set_cons_zero, List.set_cons_succ, List.getElem?_cons_zero, List.getElem?_cons_succ, Option.map_some, if_true, if_false, Bool.false_eq_true, Bool.not_true, Bool.not_false, Rs.seq, exl_nil, List.append_nil, ee, e1, e2, tru_int, h3]
    · have h0 : (J / 2 ^ (m - 1 - i.toNat)) % 2 = 0 := by omega
      have h3 : (((J / 2 ^ (m - 1 - i.toNat) % 2 : Nat) : Int) != 0) = false := by rw [h0]; rfl
      rw [if_neg hb]
      simp only [wipeG, execS, evalE, evalL, evalLB, bor, Res.bind, Res.of, Res.thn, rd, rdB, tstE, tru_bl, int_int, eq_int, lt_int, le_int, gt_int, ge_int, ne_int, add_ok, sub_ok, List.set_cons_zero, List.set_cons_succ, List.getElem?_cons_zero, List.getElem?_cons_succ, Option.map_some, if_true, if_false, Bool.false_eq_true, Bool.not_true, Bool.not_false, Rs.seq, exl_nil, List.append_nil, ee, e1, e2, tru_int, h3])
  have er : ((rI 0 m).map fun i => bitS (J / 2 ^ (m - 1 - i.toNat))) = sgN m J := by
    unfold rI sgN
    rw [List.map_map]
    apply List.map_congr_left
    intro i _
    show bitS (J / 2 ^ (m - 1 - (0 + (i : Int)).toNat)) = _
    rw [show (0 + (i : Int)).toNat = i by omega]
  rw [er] at hc
  rw [callK_step t.so rfl]
  show finR (execL _ [bSo0] [.val (.int m), .val (.int J), .no] G) = _
  rw [exl_cons]
  simp only [bSo0, execS, tup_cm hc, Res.thn, Rs.seq, finR]
theorem si_ok (t : T6 T) {m J : Nat} (hm : m ≤ 1000) : callK T wf (k + 1) "_law_signs" [.int m, .int J] G = .ok (.tup ((sgN m J).map .int)) G := by
  have hc := cm_I1 (c := ⟨T, callK T wf k, wf, none⟩) (elt := (.ite (.bin .mod (.blt .intt [(.bin .shr (.var 1) (.bin .sub (.bin .sub (.var 0) (.con (.int 1))) (.var 2)))]) (.con (.int 2))) (.neg (.con (.int 1))) (.con (.int 1)))) (t := 2) (own := [2]) (it := .rng [(.var 0)]) (σ := [.val (.int m), .val (.int J), .no]) (G := G) (ns := rI 0 m) (fun i => bitS (J / 2 ^ (m - 1 - i.toNat))) (it_r1 (by simp only [execS, evalE, evalL, evalLB, bor, Res.bind, Res.of, Res.thn, rd, rdB, tstE, tru_bl, int_int, eq_int, lt_int, le_int, gt_int, ge_int, ne_int, add_ok, sub_ok, List.set_cons_zero, List.set_cons_succ, List.getElem?_cons_zero, List.getElem?_cons_succ, Option.map_some, if_true, if_false, Bool.false_eq_true, Bool.not_true, Bool.not_false, Rs.seq, exl_nil, List.append_nil]) (by omega)) (by rw [rI_len]; omega) (fun i hi => by
    have hmi := mem_rI.mp hi
    have ee : (m : Int) - 1 - i = ((m - 1 - i.toNat : Nat) : Int) := by omega
    have e1 := shr_nat (J := J) (e := m - 1 - i.toNat)
    have e2 : binV .mod (.int ((J / 2 ^ (m - 1 - i.toNat) : Nat) : Int)) (.int 2) = some (.int ((J / 2 ^ (m - 1 - i.toNat) % 2 : Nat) : Int)) := (mod_ok (by decide)).trans (by rw [show (2 : Int) = ((2 : Nat) : Int) from rfl, fm_nat])
    have h2 := Nat.mod_lt (J / 2 ^ (m - 1 - i.toNat)) (by decide : 2 > 0)
    unfold bitS
    by_cases hb : (J / 2 ^ (m - 1 - i.toNat)) % 2 = 1
    · have h3 : (((J / 2 ^ (m - 1 - i.toNat) % 2 : Nat) : Int) != 0) = true := by rw [hb]; rfl
      rw [if_pos hb]
      simp only [wipeG, execS, evalE, evalL, evalLB, bor, Res.bind, Res.of, Res.thn, rd, rdB, tstE, tru_bl, int_int, eq_int, lt_int, le_int, gt_int, ge_int, ne_int, add_ok, sub_ok, List.set_cons_zero, List.set_cons_succ, List.getElem?_cons_zero, List.getElem?_cons_succ, Option.map_some, if_true, if_false, Bool.false_eq_true, Bool.not_true, Bool.not_false, Rs.seq, exl_nil, List.append_nil, ee, e1, e2, tru_int, h3]
    · have h0 : (J / 2 ^ (m - 1 - i.toNat)) % 2 = 0 := by omega
      have h3 : (((J / 2 ^ (m - 1 - i.toNat) % 2 : Nat) : Int) != 0) = false := by rw [h0]; rfl
      rw [if_neg hb]
      simp only [wipeG, execS, evalE, evalL, evalLB, bor, Res.bind, Res.of, Res.thn, rd, rdB, tstE, tru_bl, int_int, eq_int, lt_int, le_int, gt_int, ge_int, ne_int, add_ok, sub_ok, List.set_cons_zero, List.set_cons_succ, List.getElem?_cons_zero, List.getElem?_cons_succ, Option.map_some, if_true, if_false, Bool.false_eq_true, Bool.not_true, Bool.not_false, Rs.seq, exl_nil, List.append_nil, ee, e1, e2, tru_int, h3])
  have er : ((rI 0 m).map fun i => bitS (J / 2 ^ (m - 1 - i.toNat))) = sgN m J := by
    unfold rI sgN
    rw [List.map_map]
    apply List.map_congr_left
    intro i _
    show bitS (J / 2 ^ (m - 1 - (0 + (i : Int)).toNat)) = _
    rw [show (0 + (i : Int)).toNat = i by omega]
  rw [er] at hc
  rw [callK_step t.si rfl]
  show finR (execL _ [bSi0] [.val (.int m), .val (.int J), .no] G) = _
  rw [exl_cons]
  simp only [bSi0, execS, tup_cm hc, Res.thn, Rs.seq, finR]
end
end Cm
end

section
namespace Cm
open PySem Gm
theorem cm_G {c : Gm.Ctx} {elt : E} {t : Nat} {own : List Nat} {it : It} {σ : List Sl} {G : Cells} {xs : List GV} (f : GV → GV) (hit : iterE c it σ G = .ok xs G) (hz : xs.length ≤ 100000)
    (he : ∀ x ∈ xs, evalE c elt ((wipeG σ own).set t (.val x)) G = .ok (f x) G) : evalE c (.cmpr elt (.name t) own it (.con (.bl true))) σ G = .ok (.lst (xs.map f)) G := by
  rw [cm_flt f (fun _ => true) hit hz (fun i _ => by simp only [evalE]) fun i hi _ => he i hi]
  have : xs.filter (fun _ => true) = xs := List.filter_eq_self.mpr fun _ _ => rfl
  rw [this]
theorem lo_nat (J : Nat) : loR (.int (J : Int)) = true := by
  show decide ((0 : Int) ≤ (J : Int)) = true
  exact decide_eq_true (by omega)
theorem shl_nat {e : Nat} (h : e ≤ 1000) : binV .shl (.int 1) (.int (e : Int)) = some (.int ((2 ^ e : Nat) : Int)) := by
  have c : powOk 1 (e : Int) = true := by
    unfold powOk
    rw [decide_eq_true (by omega : (0 : Int) ≤ (e : Int)), decide_eq_true (by omega : (e : Int) ≤ 1000000), decide_eq_true (by decide : (1 : Int).natAbs < 2 ^ 64)]; rfl
  show (if powOk 1 (e : Int) = true then some (GV.int (1 * 2 ^ (e : Int).toNat)) else none) = _
  rw [if_pos c, Int.toNat_natCast, Int.one_mul, Int.natCast_pow]; rfl
section
variable {T : Tb} {wf k : Nat} {G : Cells}
theorem wn_good (t : T6 T) {n J : Nat} (h1 : 1 ≤ n) (hn : n ≤ 24) (hJ : J < 2 ^ (n - 1)) : callK T wf (k + 3) "word_by_number" [.int n, .int J] G = .ok (.tup ((sgN n J).map .int)) G := by
  have q1 := cnt_good (wf := wf) (k := k) (G := G) t h1 hn
  have q2 : callK T wf (k + 2) "is_whole" [.int J, .int 0, .non] G = .ok (.bl true) G := by
    have := whole_lo (wf := wf) (k := k + 1) (G := G) t.w (v := .int J) rfl
    rw [lo_nat] at this
    exact this
  have q3 : callK T wf (k + 2) "signs_of" [.int n, .int J] G = .ok (.tup ((sgN n J).map .int)) G := so_ok (k := k + 1) t (by omega)
  have ee : (n : Int) - 1 = ((n - 1 : Nat) : Int) := by omega
  have e1 := shr_nat (J := J) (e := n - 1)
  rw [Nat.div_eq_of_lt hJ] at e1
  have e0 : (((0 : Nat) : Int) == 0) = true := rfl
  rw [callK_step t.wn rfl]
  show finR (execL _ [bWn0, bWn1, bWn2] [.val (.int n), .val (.int J)] G) = _
  rw [exl_cons]
  simp only [bWn0, execS, evalE, evalL, evalLB, bor, Res.bind, Res.of, Res.thn, rd, rdB, tstE, tru_bl, int_int, eq_int, lt_int, le_int, gt_int, ge_int, ne_int, add_ok, sub_ok, List.set_cons_zero, List.set_cons_succ, List.getElem?_cons_zero, List.getElem?_cons_succ, Option.map_some, if_true, if_false, Bool.false_eq_true, Bool.not_true, Bool.not_false, Rs.seq, exl_nil, List.append_nil, List.nil_append, List.cons_append, q1]
  rw [exl_cons]
  simp only [bWn1, execS, evalE, evalL, evalLB, bor, Res.bind, Res.of, Res.thn, rd, rdB, tstE, tru_bl, int_int, eq_int, lt_int, le_int, gt_int, ge_int, ne_int, add_ok, sub_ok, List.set_cons_zero, List.set_cons_succ, List.getElem?_cons_zero, List.getElem?_cons_succ, Option.map_some, if_true, if_false, Bool.false_eq_true, Bool.not_true, Bool.not_false, Rs.seq, exl_nil, List.append_nil, List.nil_append, List.cons_append, q2, ee, e1, e0]
  rw [exl_cons]
  simp only [bWn2, execS, evalE, evalL, evalLB, bor, Res.bind, Res.of, Res.thn, rd, rdB, tstE, tru_bl, int_int, eq_int, lt_int, le_int, gt_int, ge_int, ne_int, add_ok, sub_ok, List.set_cons_zero, List.set_cons_succ, List.getElem?_cons_zero, List.getElem?_cons_succ, Option.map_some, if_true, if_false, Bool.false_eq_true, Bool.not_true, Bool.not_false, Rs.seq, exl_nil, List.append_nil, q3, finR]
theorem wn_big (t : T6 T) {n J : Nat} (h1 : 1 ≤ n) (hn : n ≤ 24) (hJ : 2 ^ (n - 1) ≤ J) : callK T wf (k + 3) "word_by_number" [.int n, .int J] G = .ex "BadNumber" [] G := by
  have q1 := cnt_good (wf := wf) (k := k) (G := G) t h1 hn
  have q2 : callK T wf (k + 2) "is_whole" [.int J, .int 0, .non] G = .ok (.bl true) G := by
    have := whole_lo (wf := wf) (k := k + 1) (G := G) t.w (v := .int J) rfl
    rw [lo_nat] at this
    exact this
  have ee : (n : Int) - 1 = ((n - 1 : Nat) : Int) := by omega
  have e1 := shr_nat (J := J) (e := n - 1)
  have hd : 0 < J / 2 ^ (n - 1) := Nat.div_pos hJ (Nat.two_pow_pos _)
  have e0 : (((J / 2 ^ (n - 1) : Nat) : Int) == 0) = false := by rw [beq_eq_false_iff_ne]; omega
  have hxl : ([] : List Str).length = ([] : List GV).length := rfl
  rw [callK_step t.wn rfl]
  show finR (execL _ [bWn0, bWn1, bWn2] [.val (.int n), .val (.int J)] G) = _
  rw [exl_cons]
  simp only [bWn0, execS, evalE, evalL, evalLB, bor, Res.bind, Res.of, Res.thn, rd, rdB, tstE, tru_bl, int_int, eq_int, lt_int, le_int, gt_int, ge_int, ne_int, add_ok, sub_ok, List.set_cons_zero, List.set_cons_succ, List.getElem?_cons_zero, List.getElem?_cons_succ, Option.map_some, if_true, if_false, Bool.false_eq_true, Bool.not_true, Bool.not_false, Rs.seq, exl_nil, List.append_nil, List.nil_append, List.cons_append, q1]
  rw [exl_cons]
  simp only [bWn1, execS, evalE, evalL, evalLB, bor, Res.bind, Res.of, Res.thn, rd, rdB, tstE, tru_bl, int_int, eq_int, lt_int, le_int, gt_int, ge_int, ne_int, add_ok, sub_ok, List.set_cons_zero, List.set_cons_succ, List.getElem?_cons_zero, List.getElem?_cons_succ, Option.map_some, if_true, if_false, Bool.false_eq_true, Bool.not_true, Bool.not_false, Rs.seq, exl_nil, List.append_nil, List.nil_append, List.cons_append, q2, ee, e1, e0, execL, t.xu, hxl, finR]
theorem wn_odd (t : T6 T) {n : Nat} {v : GV} (h1 : 1 ≤ n) (hn : n ≤ 24) (hp : plainG v = true) (hr : loR v = false) : callK T wf (k + 3) "word_by_number" [.int n, v] G = .ex "BadNumber" [] G := by
  have q1 := cnt_good (wf := wf) (k := k) (G := G) t h1 hn
  have q2 : callK T wf (k + 2) "is_whole" [v, .int 0, .non] G = .ok (.bl false) G := by
    have := whole_lo (wf := wf) (k := k + 1) (G := G) t.w hp
    rw [hr] at this
    exact this
  have hxl : ([] : List Str).length = ([] : List GV).length := rfl
  rw [callK_step t.wn rfl]
  show finR (execL _ [bWn0, bWn1, bWn2] [.val (.int n), .val v] G) = _
  rw [exl_cons]
  simp only [bWn0, execS, evalE, evalL, evalLB, bor, Res.bind, Res.of, Res.thn, rd, rdB, tstE, tru_bl, int_int, eq_int, lt_int, le_int, gt_int, ge_int, ne_int, add_ok, sub_ok, List.set_cons_zero, List.set_cons_succ, List.getElem?_cons_zero, List.getElem?_cons_succ, Option.map_some, if_true, if_false, Bool.false_eq_true, Bool.not_true, Bool.not_false, Rs.seq, exl_nil, List.append_nil, List.nil_append, List.cons_append, q1]
  rw [exl_cons]
  simp only [bWn1, execS, evalE, evalL, evalLB, bor, Res.bind, Res.of, Res.thn, rd, rdB, tstE, tru_bl, int_int, eq_int, lt_int, le_int, gt_int, ge_int, ne_int, add_ok, sub_ok, List.set_cons_zero, List.set_cons_succ, List.getElem?_cons_zero, List.getElem?_cons_succ, Option.map_some, if_true, if_false, Bool.false_eq_true, Bool.not_true, Bool.not_false, Rs.seq, exl_nil, List.append_nil, List.nil_append, List.cons_append, q2, execL, t.xu, hxl, finR]
theorem wn_count (t : T6 T) {v x : GV} (hp : plainG v = true) (hr : inR 1 24 v = false) : callK T wf (k + 3) "word_by_number" [v, x] G = .ex "BadCount" [] G := by
  have q1 := cnt_bad (wf := wf) (k := k) (G := G) t hp hr
  rw [callK_step t.wn rfl]
  show finR (execL _ [bWn0, bWn1, bWn2] [.val v, .val x] G) = _
  rw [exl_cons]
  simp only [bWn0, execS, evalE, evalL, evalLB, bor, Res.bind, Res.of, Res.thn, rd, rdB, tstE, tru_bl, int_int, eq_int, lt_int, le_int, gt_int, ge_int, ne_int, add_ok, sub_ok, List.set_cons_zero, List.set_cons_succ, List.getElem?_cons_zero, List.getElem?_cons_succ, Option.map_some, if_true, if_false, Bool.false_eq_true, Bool.not_true, Bool.not_false, Rs.seq, exl_nil, List.append_nil, List.nil_append, List.cons_append, q1, finR]
/-! all words -/
def allW (n : Nat) : List GV := (List.range (2 ^ (n - 1))).map fun J => .tup ((sgN n J).map .int)
theorem allW_len (n : Nat) : (allW n).length = 2 ^ (n - 1) := by simp [allW]
theorem allW_get {n J : Nat} (h : J < 2 ^ (n - 1)) : (allW n)[J]? = some (.tup ((sgN n J).map .int)) := by
  unfold allW
  rw [List.getElem?_map, List.getElem?_range h]; rfl
theorem two_le {e : Nat} (h : e ≤ 11) : 2 ^ e ≤ 2048 := Nat.le_trans (Nat.pow_le_pow_right (by decide) h) (by decide)
theorem ew_good (t : T6 T) {n : Nat} (h1 : 1 ≤ n) (hn : n ≤ 12) : callK T wf (k + 3) "each_word" [.int n] G = .ok (.lst (allW n)) G := by
  have q1 := cnt_good (wf := wf) (k := k) (G := G) t h1 (by omega)
  have ee : (n : Int) - 1 = ((n - 1 : Nat) : Int) := by omega
  have e1 := shl_nat (e := n - 1) (by omega)
  have h2 := two_le (e := n - 1) (by omega)
  have hd : decide ((12 : Int) < (n : Int)) = false := decide_eq_false (by omega)
  have hc := cm_G (c := ⟨T, callK T wf (k + 2), wf, none⟩) (elt := .call "signs_of" [(.var 0), (.var 1)] []) (t := 1) (own := [1]) (it := .rng [(.bin .shl (.con (.int 1)) (.bin .sub (.var 0) (.con (.int 1))))]) (σ := [.val (.int n), .no]) (G := G) (xs := (rI 0 (2 ^ (n - 1))).map .int) (fun v => match v with | .int i => .tup ((sgN n i.toNat).map .int) | v => v)
    (it_r1 (by simp only [execS, evalE, evalL, evalLB, bor, Res.bind, Res.of, Res.thn, rd, rdB, tstE, tru_bl, int_int, eq_int, lt_int, le_int, gt_int, ge_int, ne_int, add_ok, sub_ok, List.set_cons_zero, List.set_cons_succ, List.getElem?_cons_zero, List.getElem?_cons_succ, Option.map_some, if_true, if_false, Bool.false_eq_true, Bool.not_true, Bool.not_false, Rs.seq, exl_nil, List.append_nil, ee, e1]) (by omega)) (by rw [List.length_map, rI_len]; omega) (fun x hx => by
      obtain ⟨i, hi, rfl⟩ := List.mem_map.mp hx
      have hmi := mem_rI.mp hi
      have q := so_ok (wf := wf) (k := k + 1) (G := G) t (m := n) (J := i.toNat) (by omega)
      have ei : ((i.toNat : Nat) : Int) = i := by omega
      rw [ei] at q
      have q' : callK T wf (k + 2) "signs_of" [.int n, .int i] G = .ok (.tup ((sgN n i.toNat).map .int)) G := q
      simp only [wipeG, execS, evalE, evalL, evalLB, bor, Res.bind, Res.of, Res.thn, rd, rdB, tstE, tru_bl, int_int, eq_int, lt_int, le_int, gt_int, ge_int, ne_int, add_ok, sub_ok, List.set_cons_zero, List.set_cons_succ, List.getElem?_cons_zero, List.getElem?_cons_succ, Option.map_some, if_true, if_false, Bool.false_eq_true, Bool.not_true, Bool.not_false, Rs.seq, exl_nil, List.append_nil, q'])
  have er : ((rI 0 (2 ^ (n - 1))).map GV.int).map (fun v => match v with | .int i => .tup ((sgN n i.toNat).map .int) | v => v) = allW n := by
    unfold rI allW
    rw [List.map_map, List.map_map]
    apply List.map_congr_left
    intro J _
    show GV.tup ((sgN n (0 + (J : Int)).toNat).map .int) = _
    rw [show (0 + (J : Int)).toNat = J by omega]
  rw [er] at hc
  rw [callK_step t.ew rfl]
  show finR (execL _ [bEw0, bEw1, bEw2] [.val (.int n), .no] G) = _
  rw [exl_cons]
  simp only [bEw0, execS, evalE, evalL, evalLB, bor, Res.bind, Res.of, Res.thn, rd, rdB, tstE, tru_bl, int_int, eq_int, lt_int, le_int, gt_int, ge_int, ne_int, add_ok, sub_ok, List.set_cons_zero, List.set_cons_succ, List.getElem?_cons_zero, List.getElem?_cons_succ, Option.map_some, if_true, if_false, Bool.false_eq_true, Bool.not_true, Bool.not_false, Rs.seq, exl_nil, List.append_nil, List.nil_append, List.cons_append, q1]
  rw [exl_cons]
  simp only [bEw1, execS, evalE, evalL, evalLB, bor, Res.bind, Res.of, Res.thn, rd, rdB, tstE, tru_bl, int_int, eq_int, lt_int, le_int, gt_int, ge_int, ne_int, add_ok, sub_ok, List.set_cons_zero, List.set_cons_succ, List.getElem?_cons_zero, List.getElem?_cons_succ, Option.map_some, if_true, if_false, Bool.false_eq_true, Bool.not_true, Bool.not_false, Rs.seq, exl_nil, List.append_nil, t.me, gt_int, hd]
  rw [exl_cons, bEw2, ex_ret hc]
  rfl
theorem ew_many (t : T6 T) {n : Nat} (h1 : 13 ≤ n) (hn : n ≤ 24) : callK T wf (k + 3) "each_word" [.int n] G = .ex "TooMany" [.int 12] G := by
  have q1 := cnt_good (wf := wf) (k := k) (G := G) t (by omega) hn
  have hd : decide ((12 : Int) < (n : Int)) = true := decide_eq_true (by omega)
  have hxl : ([("most" : Str)] : List Str).length = [GV.int 12].length := rfl
  rw [callK_step t.ew rfl]
  show finR (execL _ [bEw0, bEw1, bEw2] [.val (.int n), .no] G) = _
  rw [exl_cons]
  simp only [bEw0, execS, evalE, evalL, evalLB, bor, Res.bind, Res.of, Res.thn, rd, rdB, tstE, tru_bl, int_int, eq_int, lt_int, le_int, gt_int, ge_int, ne_int, add_ok, sub_ok, List.set_cons_zero, List.set_cons_succ, List.getElem?_cons_zero, List.getElem?_cons_succ, Option.map_some, if_true, if_false, Bool.false_eq_true, Bool.not_true, Bool.not_false, Rs.seq, exl_nil, List.append_nil, List.nil_append, List.cons_append, q1]
  rw [exl_cons]
  simp only [bEw1, execS, evalE, evalL, evalLB, bor, Res.bind, Res.of, Res.thn, rd, rdB, tstE, tru_bl, int_int, eq_int, lt_int, le_int, gt_int, ge_int, ne_int, add_ok, sub_ok, List.set_cons_zero, List.set_cons_succ, List.getElem?_cons_zero, List.getElem?_cons_succ, Option.map_some, if_true, if_false, Bool.false_eq_true, Bool.not_true, Bool.not_false, Rs.seq, exl_nil, List.append_nil, t.me, gt_int, hd, execL, t.xt, hxl, finR]
theorem ew_count (t : T6 T) {v : GV} (hp : plainG v = true) (hr : inR 1 24 v = false) : callK T wf (k + 3) "each_word" [v] G = .ex "BadCount" [] G := by
  have q1 := cnt_bad (wf := wf) (k := k) (G := G) t hp hr
  rw [callK_step t.ew rfl]
  show finR (execL _ [bEw0, bEw1, bEw2] [.val v, .no] G) = _
  rw [exl_cons]
  simp only [bEw0, execS, evalE, evalL, evalLB, bor, Res.bind, Res.of, Res.thn, rd, rdB, tstE, tru_bl, int_int, eq_int, lt_int, le_int, gt_int, ge_int, ne_int, add_ok, sub_ok, List.set_cons_zero, List.set_cons_succ, List.getElem?_cons_zero, List.getElem?_cons_succ, Option.map_some, if_true, if_false, Bool.false_eq_true, Bool.not_true, Bool.not_false, Rs.seq, exl_nil, List.append_nil, List.nil_append, List.cons_append, q1, finR]
/-! the law's callers -/
theorem lby_ok (t : T6 T) {x y v : GV} (h : callK T wf (k + 3) "word_by_number" [x, y] G = .ok v G) : callK T wf (k + 4) "_law_by" [x, y] G = .ok v G := by
  rw [callK_step t.by_ rfl]
  show finR (execL _ [bLby0, bLby1] [.val x, .val y, .no] G) = _
  rw [exl_cons]
  simp only [bLby0, execL, execS, evalE, evalL, evalLB, bor, Res.bind, Res.of, Res.thn, rd, rdB, tstE, tru_bl, int_int, eq_int, lt_int, le_int, gt_int, ge_int, ne_int, add_ok, sub_ok, List.set_cons_zero, List.set_cons_succ, List.getElem?_cons_zero, List.getElem?_cons_succ, Option.map_some, if_true, if_false, Bool.false_eq_true, Bool.not_true, Bool.not_false, Rs.seq, exl_nil, List.append_nil, h]
  simp only [bLby1, execS, evalE, evalL, evalLB, bor, Res.bind, Res.of, Res.thn, rd, rdB, tstE, tru_bl, int_int, eq_int, lt_int, le_int, gt_int, ge_int, ne_int, add_ok, sub_ok, List.set_cons_zero, List.set_cons_succ, List.getElem?_cons_zero, List.getElem?_cons_succ, Option.map_some, if_true, if_false, Bool.false_eq_true, Bool.not_true, Bool.not_false, Rs.seq, exl_nil, List.append_nil, finR]
theorem lby_c (t : T6 T) {x y : GV} (h : callK T wf (k + 3) "word_by_number" [x, y] G = .ex "BadCount" [] G) : callK T wf (k + 4) "_law_by" [x, y] G = .ok (.lst [.str "count"]) G := by
  have zt : szOk [GV.str "count"].length = true := sz_ok (by decide)
  rw [callK_step t.by_ rfl]
  show finR (execL _ [bLby0, bLby1] [.val x, .val y, .no] G) = _
  rw [exl_cons]
  simp only [bLby0, execL, execH, outX, putX, clrX, noExc, execS, evalE, evalL, evalLB, bor, Res.bind, Res.of, Res.thn, rd, rdB, tstE, tru_bl, int_int, eq_int, lt_int, le_int, gt_int, ge_int, ne_int, add_ok, sub_ok, List.set_cons_zero, List.set_cons_succ, List.getElem?_cons_zero, List.getElem?_cons_succ, Option.map_some, if_true, if_false, Bool.false_eq_true, Bool.not_true, Bool.not_false, Rs.seq, exl_nil, List.append_nil, h, t.sA, zt, finR]
theorem lby_n (t : T6 T) {x y : GV} (h : callK T wf (k + 3) "word_by_number" [x, y] G = .ex "BadNumber" [] G) : callK T wf (k + 4) "_law_by" [x, y] G = .ok (.lst [.str "number"]) G := by
  have zt : szOk [GV.str "number"].length = true := sz_ok (by decide)
  rw [callK_step t.by_ rfl]
  show finR (execL _ [bLby0, bLby1] [.val x, .val y, .no] G) = _
  rw [exl_cons]
  simp only [bLby0, execL, execH, outX, putX, clrX, noExc, execS, evalE, evalL, evalLB, bor, Res.bind, Res.of, Res.thn, rd, rdB, tstE, tru_bl, int_int, eq_int, lt_int, le_int, gt_int, ge_int, ne_int, add_ok, sub_ok, List.set_cons_zero, List.set_cons_succ, List.getElem?_cons_zero, List.getElem?_cons_succ, Option.map_some, if_true, if_false, Bool.false_eq_true, Bool.not_true, Bool.not_false, Rs.seq, exl_nil, List.append_nil, h, t.sB, t.sC, zt, finR]
theorem lnt_ok (t : T6 T) {x v : GV} (h : callK T wf (k + 4) "number_of_word" [x] G = .ok v G) : callK T wf (k + 5) "_law_number_told" [x] G = .ok v G := by
  rw [callK_step t.nt rfl]
  show finR (execL _ [bLnt0, bLnt1] [.val x, .no, .no] G) = _
  rw [exl_cons]
  simp only [bLnt0, execL, execS, evalE, evalL, evalLB, bor, Res.bind, Res.of, Res.thn, rd, rdB, tstE, tru_bl, int_int, eq_int, lt_int, le_int, gt_int, ge_int, ne_int, add_ok, sub_ok, List.set_cons_zero, List.set_cons_succ, List.getElem?_cons_zero, List.getElem?_cons_succ, Option.map_some, if_true, if_false, Bool.false_eq_true, Bool.not_true, Bool.not_false, Rs.seq, exl_nil, List.append_nil, h]
  simp only [bLnt1, execS, evalE, evalL, evalLB, bor, Res.bind, Res.of, Res.thn, rd, rdB, tstE, tru_bl, int_int, eq_int, lt_int, le_int, gt_int, ge_int, ne_int, add_ok, sub_ok, List.set_cons_zero, List.set_cons_succ, List.getElem?_cons_zero, List.getElem?_cons_succ, Option.map_some, if_true, if_false, Bool.false_eq_true, Bool.not_true, Bool.not_false, Rs.seq, exl_nil, List.append_nil, finR]
theorem lnt_ex (t : T6 T) {x a b : GV} (h : callK T wf (k + 4) "number_of_word" [x] G = .ex "BadWord" [a, b] G) : callK T wf (k + 5) "_law_number_told" [x] G = .ok (.lst [a, b]) G := by
  have l1 : (([("index" : Str), ("what" : Str)] : List Str).zip [a, b]).lookup ("index" : Str) = some a := by kernel_rfl
  have l2 : (([("index" : Str), ("what" : Str)] : List Str).zip [a, b]).lookup ("what" : Str) = some b := by kernel_rfl
  have zt : szOk [a, b].length = true := sz_ok (by show 2 ≤ 100000; decide)
  rw [callK_step t.nt rfl]
  show finR (execL _ [bLnt0, bLnt1] [.val x, .no, .no] G) = _
  rw [exl_cons]
  simp only [bLnt0, execL, execH, outX, putX, clrX, noExc, xfld, execS, evalE, evalL, evalLB, bor, Res.bind, Res.of, Res.thn, rd, rdB, tstE, tru_bl, int_int, eq_int, lt_int, le_int, gt_int, ge_int, ne_int, add_ok, sub_ok, List.set_cons_zero, List.set_cons_succ, List.getElem?_cons_zero, List.getElem?_cons_succ, Option.map_some, if_true, if_false, Bool.false_eq_true, Bool.not_true, Bool.not_false, Rs.seq, exl_nil, List.append_nil, h, t.sub, t.x, l1, l2, zt, finR]
theorem lea_ok (t : T6 T) {x : GV} {xs : List GV} (h : callK T wf (k + 3) "each_word" [x] G = .ok (.lst xs) G) : callK T wf (k + 4) "_law_each" [x] G = .ok (.lst xs) G := by
  have hls : bltV .listt [.lst xs] = some (.lst xs) := rfl
  rw [callK_step t.ea rfl]
  show finR (execL _ [bLea0, bLea1] [.val x, .no, .no] G) = _
  rw [exl_cons]
  simp only [bLea0, execL, execS, evalE, evalL, evalLB, bor, Res.bind, Res.of, Res.thn, rd, rdB, tstE, tru_bl, int_int, eq_int, lt_int, le_int, gt_int, ge_int, ne_int, add_ok, sub_ok, List.set_cons_zero, List.set_cons_succ, List.getElem?_cons_zero, List.getElem?_cons_succ, Option.map_some, if_true, if_false, Bool.false_eq_true, Bool.not_true, Bool.not_false, Rs.seq, exl_nil, List.append_nil, h, hls]
  simp only [bLea1, execS, evalE, evalL, evalLB, bor, Res.bind, Res.of, Res.thn, rd, rdB, tstE, tru_bl, int_int, eq_int, lt_int, le_int, gt_int, ge_int, ne_int, add_ok, sub_ok, List.set_cons_zero, List.set_cons_succ, List.getElem?_cons_zero, List.getElem?_cons_succ, Option.map_some, if_true, if_false, Bool.false_eq_true, Bool.not_true, Bool.not_false, Rs.seq, exl_nil, List.append_nil, finR]
theorem lea_c (t : T6 T) {x : GV} (h : callK T wf (k + 3) "each_word" [x] G = .ex "BadCount" [] G) : callK T wf (k + 4) "_law_each" [x] G = .ok (.lst [.str "count"]) G := by
  have zt : szOk [GV.str "count"].length = true := sz_ok (by decide)
  rw [callK_step t.ea rfl]
  show finR (execL _ [bLea0, bLea1] [.val x, .no, .no] G) = _
  rw [exl_cons]
  simp only [bLea0, execL, execH, outX, putX, clrX, noExc, execS, evalE, evalL, evalLB, bor, Res.bind, Res.of, Res.thn, rd, rdB, tstE, tru_bl, int_int, eq_int, lt_int, le_int, gt_int, ge_int, ne_int, add_ok, sub_ok, List.set_cons_zero, List.set_cons_succ, List.getElem?_cons_zero, List.getElem?_cons_succ, Option.map_some, if_true, if_false, Bool.false_eq_true, Bool.not_true, Bool.not_false, Rs.seq, exl_nil, List.append_nil, h, t.sA, zt, finR]
theorem lea_m (t : T6 T) {x a : GV} (h : callK T wf (k + 3) "each_word" [x] G = .ex "TooMany" [a] G) : callK T wf (k + 4) "_law_each" [x] G = .ok (.lst [.str "many", a]) G := by
  have l1 : (([("most" : Str)] : List Str).zip [a]).lookup ("most" : Str) = some a := by kernel_rfl
  have zt : szOk [GV.str "many", a].length = true := sz_ok (by show 2 ≤ 100000; decide)
  rw [callK_step t.ea rfl]
  show finR (execL _ [bLea0, bLea1] [.val x, .no, .no] G) = _
  rw [exl_cons]
  simp only [bLea0, execL, execH, outX, putX, clrX, noExc, xfld, execS, evalE, evalL, evalLB, bor, Res.bind, Res.of, Res.thn, rd, rdB, tstE, tru_bl, int_int, eq_int, lt_int, le_int, gt_int, ge_int, ne_int, add_ok, sub_ok, List.set_cons_zero, List.set_cons_succ, List.getElem?_cons_zero, List.getElem?_cons_succ, Option.map_some, if_true, if_false, Bool.false_eq_true, Bool.not_true, Bool.not_false, Rs.seq, exl_nil, List.append_nil, h, t.sD, t.sE, t.xt, l1, zt, finR]
theorem lin_ok (t : T6 T) {i : Int} : callK T wf (k + 1) "_law_is_number" [.int i, .int i] G = .ok (.bl true) G := by
  have e1 : bltV .isi [.int i, .ty "bool"] = some (.bl false) := rfl
  have e2 : bltV .isi [.int i, .ty "int"] = some (.bl true) := rfl
  have e3 : (i == i) = true := by simp
  rw [callK_step t.iN rfl]
  show finR (execL _ [bLin0] [.val (.int i), .val (.int i)] G) = _
  rw [exl_cons]
  simp only [bLin0, execS, evalE, evalL, evalLB, bor, Res.bind, Res.of, Res.thn, rd, rdB, tstE, tru_bl, int_int, eq_int, lt_int, le_int, gt_int, ge_int, ne_int, add_ok, sub_ok, List.set_cons_zero, List.set_cons_succ, List.getElem?_cons_zero, List.getElem?_cons_succ, Option.map_some, if_true, if_false, Bool.false_eq_true, Bool.not_true, Bool.not_false, Rs.seq, exl_nil, List.append_nil, e1, e2, e3, finR]
end
end Cm
end

section
namespace Cm
open PySem Gm
def bL60 : S := (.set 1 (.call "_law_hand" [(.var 0)] []))
def bL61 : S := (.set 2 (.call "_law_count" [(.var 1)] []))
def bL62 : S := (.set 3 (.call "_law_word" [(.var 1), (.var 2)] []))
def bL63 : S := (.set 4 (.con (.int 0)))
def bL64 : S := (.forr (.name 5) (.rng [(.con (.int 1)), (.var 2)]) [(.set 4 (.bin .add (.bin .mul (.con (.int 2)) (.var 4)) (.bin .fdiv (.bin .sub (.con (.int 1)) (.idx (.var 3) (.var 5))) (.con (.int 2)))))])
def bL65 : S := (.ite (.or (.not (.call "_law_is_number" [(.call "_law_number_told" [(.blt .listt [(.var 3)])] []), (.var 4)] [])) (.cmp .ne (.call "_law_by" [(.var 2), (.var 4)] []) (.var 3))) [(.ret (.con (.bl false)))] [])
def bL66 : S := (.set 6 (.call "_law_take" [(.var 1), (.bin .shl (.con (.int 1)) (.bin .sub (.var 2) (.con (.int 1))))] []))
def bL67 : S := (.ite (.or (.cmp .ne (.call "_law_by" [(.var 2), (.var 6)] []) (.call "_law_signs" [(.var 2), (.var 6)] [])) (.not (.call "_law_is_number" [(.call "_law_number_told" [(.call "_law_signs" [(.var 2), (.var 6)] [])] []), (.var 6)] []))) [(.ret (.con (.bl false)))] [])
def bL68 : S := (.set 7 (.bin .sub (.bin .shl (.con (.int 1)) (.bin .sub (.var 2) (.con (.int 1)))) (.con (.int 1))))
def bL69 : S := (.ite (.or (.cmp .ne (.call "_law_by" [(.var 2), (.var 7)] []) (.bin .add (.tup [(.con (.int 1))]) (.bin .mul (.tup [(.neg (.con (.int 1)))]) (.bin .sub (.var 2) (.con (.int 1)))))) (.cmp .ne (.call "_law_by" [(.var 2), (.con (.int 0))] []) (.bin .mul (.tup [(.con (.int 1))]) (.var 2)))) [(.ret (.con (.bl false)))] [])
def bL610 : S := (.forr (.name 8) (.seqs (.lst [(.bin .add (.var 7) (.con (.int 1))), (.neg (.con (.int 1))), (.con (.bl true)), (.con .non), (.con (.str "0")), (.tup [(.con (.int 0)), (.con (.int 1))]), (.bin .pow (.con (.int 10)) (.con (.int 30)))])) [(.ite (.cmp .ne (.call "_law_by" [(.var 2), (.var 8)] []) (.lst [(.con (.str "number"))])) [(.ret (.con (.bl false)))] [])])
def bL611 : S := (.forr (.name 8) (.seqs (.lst [(.con (.int 0)), (.con (.int 25)), (.neg (.var 2)), (.con (.bl true)), (.con .non), (.con (.str "3")), (.bin .pow (.con (.int 10)) (.con (.int 30)))])) [(.ite (.or (.cmp .ne (.call "_law_by" [(.var 8), (.neg (.con (.int 1)))] []) (.lst [(.con (.str "count"))])) (.cmp .ne (.call "_law_each" [(.var 8)] []) (.lst [(.con (.str "count"))]))) [(.ret (.con (.bl false)))] [])])
def bL612 : S := (.forr (.name 8) (.seqs (.lst [(.con (.int 13)), (.con (.int 24)), (.bin .add (.con (.int 13)) (.call "_law_take" [(.var 1), (.con (.int 12))] []))])) [(.ite (.cmp .ne (.call "_law_each" [(.var 8)] []) (.lst [(.con (.str "many")), (.con (.int 12))])) [(.ret (.con (.bl false)))] [])])
def bL613 : S := (.set 9 (.call "_law_take" [(.var 1), (.var 2)] []))
def bL614 : S := (.set 10 (.bin .add (.bin .add (.slc (.var 3) [] [(.var 9)]) (.tup [(.con (.int 0))])) (.slc (.var 3) [(.bin .add (.var 9) (.con (.int 1)))] [])))
def bL615 : S := (.ite (.or (.cmp .ne (.call "_law_number_told" [(.var 10)] []) (.lst [(.var 9), (.con (.str "sign"))])) (.or (.cmp .ne (.call "_law_number_told" [(.bin .add (.tup [(.neg (.con (.int 1)))]) (.slc (.var 3) [(.con (.int 1))] []))] []) (.lst [(.con (.int 0)), (.con (.str "first"))])) (.cmp .ne (.call "_law_number_told" [(.tup [])] []) (.lst [(.con (.int 0)), (.con (.str "many"))])))) [(.ret (.con (.bl false)))] [])
def bL616 : S := (.set 11 (.ite (.cmp .eq (.call "_law_take" [(.var 1), (.con (.int 16))] []) (.con (.int 0))) (.con (.int 12)) (.bin .add (.con (.int 1)) (.call "_law_take" [(.var 1), (.con (.int 7))] []))))
def bL617 : S := (.set 12 (.call "_law_each" [(.var 11)] []))
def bL618 : S := (.ite (.cmp .ne (.blt .len [(.var 12)]) (.bin .shl (.con (.int 1)) (.bin .sub (.var 11) (.con (.int 1))))) [(.ret (.con (.bl false)))] [])
def bL619 : S := (.forr (.name 5) (.rng [(.blt .len [(.var 12)])]) [(.ite (.or (.not (.call "_law_is_word" [(.idx (.var 12) (.var 5)), (.var 11)] [])) (.cmp .ne (.idx (.var 12) (.var 5)) (.call "_law_signs" [(.var 11), (.var 5)] []))) [(.ret (.con (.bl false)))] [])])
def bL620 : S := (.ret (.con (.bl true)))
def dL6 : Fn := ⟨1, 13, [], [], [bL60, bL61, bL62, bL63, bL64, bL65, bL66, bL67, bL68, bL69, bL610, bL611, bL612, bL613, bL614, bL615, bL616, bL617, bL618, bL619, bL620]⟩
def bL6a : List S := [(.set 4 (.bin .add (.bin .mul (.con (.int 2)) (.var 4)) (.bin .fdiv (.bin .sub (.con (.int 1)) (.idx (.var 3) (.var 5))) (.con (.int 2)))))]
def bL6b : List S := [(.ite (.cmp .ne (.call "_law_by" [(.var 2), (.var 8)] []) (.lst [(.con (.str "number"))])) [(.ret (.con (.bl false)))] [])]
def bL6c : List S := [(.ite (.or (.cmp .ne (.call "_law_by" [(.var 8), (.neg (.con (.int 1)))] []) (.lst [(.con (.str "count"))])) (.cmp .ne (.call "_law_each" [(.var 8)] []) (.lst [(.con (.str "count"))]))) [(.ret (.con (.bl false)))] [])]
def bL6d : List S := [(.ite (.cmp .ne (.call "_law_each" [(.var 8)] []) (.lst [(.con (.str "many")), (.con (.int 12))])) [(.ret (.con (.bl false)))] [])]
def bL6e : List S := [(.ite (.or (.not (.call "_law_is_word" [(.idx (.var 12) (.var 5)), (.var 11)] [])) (.cmp .ne (.idx (.var 12) (.var 5)) (.call "_law_signs" [(.var 11), (.var 5)] []))) [(.ret (.con (.bl false)))] [])]
theorem pow30 : binV .pow (.int 10) (.int 30) = some (.int ((10 ^ 30 : Nat) : Int)) := by kernel_rfl
theorem rep_any (z : Int) (m : Nat) (h : m ≤ 1000) : binV .mul (.tup [.int z]) (.int (m : Int)) = some (.tup ((List.replicate m z).map .int)) := by
  show (if decide (1 ≤ (m : Int)) && decide ((m : Int) ≤ 1000) && decide ([GV.int z].length ≤ 1000) && !([GV.int z].isEmpty) then some (GV.tup (List.replicate (m : Int).toNat [GV.int z]).flatten) else if decide (-1000 ≤ (m : Int)) && decide ((m : Int) ≤ 0) && !([GV.int z].isEmpty) then some (GV.tup []) else none) = _
  cases m with
  | zero =>
    rw [if_neg (by simp), if_pos (by simp)]
    rfl
  | succ m =>
    have c : (decide (1 ≤ ((m + 1 : Nat) : Int)) && decide (((m + 1 : Nat) : Int) ≤ 1000) && decide ([GV.int z].length ≤ 1000) && !([GV.int z].isEmpty)) = true := by
      rw [decide_eq_true (by omega : 1 ≤ ((m + 1 : Nat) : Int)), decide_eq_true (by omega : ((m + 1 : Nat) : Int) ≤ 1000)]; rfl
    rw [if_pos c, Int.toNat_natCast]
    congr 2
    clear c h
    induction m with
    | zero => rfl
    | succ m ih => rw [List.replicate_succ, List.flatten_cons, ih, List.replicate_succ (n := m + 1)]; rfl
theorem nf_take {w : List Int} {i : Nat} (h : i < w.length) : nf (w.take (i + 1)) = nf (w.take i) * 2 + sN (w.getD i 0) := by
  rw [List.take_succ, List.getElem?_eq_getElem h, getD_lt h]
  exact nf_app _ _
theorem L_number : (PyData.str "number").canLay0 = true := by kernel_rfl
section
variable {T : Tb} {wf k : Nat}
theorem law_num {c : Gm.Ctx} {G : Cells} {n : Nat} {w : List Int} (hw : IsW n w) (hn : n ≤ 24) {s0 s1 s2 s6 s7 s8 s9 s10 s11 s12 : Sl} : ∀ (r i : Nat) (s5 : Sl), i + r = n →
    ∃ s5', loopF (.name 5) (execL c bL6a) ((rI i r).map .int) [s0, s1, s2, .val (.tup (w.map .int)), .val (.int (nf (w.take i) : Nat)), s5, s6, s7, s8, s9, s10, s11, s12] G = .nx [s0, s1, s2, .val (.tup (w.map .int)), .val (.int (nf w : Nat)), s5', s6, s7, s8, s9, s10, s11, s12] G
  | 0, i, s5, h => by
    have e : w.take i = w := List.take_of_length_le (by rw [hw.len]; omega)
    exact ⟨s5, by rw [e]; rfl⟩
  | r + 1, i, s5, h => by
    have hi : i < w.length := by rw [hw.len]; omega
    have hz := sgn_get hw.sg hi
    have hb := (sgN_nf i (w.take i) (by rw [List.length_take]; omega) fun z hz => hw.sg z (List.mem_of_mem_take hz)).2
    have hb2 : (nf (w.take i) : Int).natAbs ≤ 10 ^ 30 := by
      have h1 : 2 ^ i ≤ 2 ^ 24 := Nat.pow_le_pow_right (by decide) (by omega)
      have h2 : (2 : Nat) ^ 24 ≤ 10 ^ 30 := by decide +kernel
      omega
    have hm := mul_ok (i := 2) (j := (nf (w.take i) : Int)) (by decide) hb2
    have hix : idxV (.tup (w.map .int)) (.int (i : Int)) G = some (.int (w.getD i 0)) := ixt (by rw [List.getElem?_map, List.getElem?_eq_getElem hi, getD_lt hi]; rfl)
    have hset : setTg (.name 5) (.int (i : Int)) [s0, s1, s2, .val (.tup (w.map .int)), .val (.int (nf (w.take i) : Nat)), s5, s6, s7, s8, s9, s10, s11, s12] = some [s0, s1, s2, .val (.tup (w.map .int)), .val (.int (nf (w.take i) : Nat)), .val (.int (i : Int)), s6, s7, s8, s9, s10, s11, s12] := rfl
    have hstep : execL c bL6a [s0, s1, s2, .val (.tup (w.map .int)), .val (.int (nf (w.take i) : Nat)), .val (.int (i : Int)), s6, s7, s8, s9, s10, s11, s12] G = .nx [s0, s1, s2, .val (.tup (w.map .int)), .val (.int (nf (w.take (i + 1)) : Nat)), .val (.int (i : Int)), s6, s7, s8, s9, s10, s11, s12] G := by
      have hd := div_ok (i := 1 - w.getD i 0) (j := 2) (by decide) (by decide)
      have e1 : 2 * (nf (w.take i) : Int) + (1 - w.getD i 0).fdiv 2 = ((nf (w.take (i + 1)) : Nat) : Int) := by
        rw [nf_take hi]
        rcases hz with a | a <;> rw [a]
        · have : (1 - 1 : Int).fdiv 2 = 0 := by decide
          rw [this]
          have : sN 1 = 0 := by decide
          rw [this]; omega
        · have : (1 - -1 : Int).fdiv 2 = 1 := by decide
          rw [this]
          have : sN (-1) = 1 := by decide
          rw [this]; omega
      show execL c [_] _ G = _
      rw [exl_cons]
      simp only [execS, evalE, evalL, evalLB, bor, Res.bind, Res.of, Res.thn, rd, rdB, tstE, tru_bl, int_int, eq_int, lt_int, le_int, gt_int, ge_int, ne_int, add_ok, sub_ok, List.set_cons_zero, List.set_cons_succ, List.getElem?_cons_zero, List.getElem?_cons_succ, Option.map_some, if_true, if_false, Bool.false_eq_true, Bool.not_true, Bool.not_false, Rs.seq, exl_nil, List.append_nil, hm, hix, hd, e1]
    rw [rI_cons, List.map_cons, loopF_nx hset hstep]
    obtain ⟨s5', e⟩ := law_num (c := c) (G := G) hw hn (s0 := s0) (s1 := s1) (s2 := s2) (s6 := s6) (s7 := s7) (s8 := s8) (s9 := s9) (s10 := s10) (s11 := s11) (s12 := s12) r (i + 1) (.val (.int (i : Int))) (by omega)
    exact ⟨s5', by rw [show ((i : Int) + 1) = ((i + 1 : Nat) : Int) by omega, e]⟩
theorem row_none (t : Tr T) {G : Cells} : callK T wf (k + 2) "check_row" [.tup []] G = .ex "BadWord" [.int 0, .str "many"] G := by
  rw [callK_step t.r rfl]
  have zt : szOk [GV.ty "list", GV.ty "tuple"].length = true := sz_ok (by decide)
  have hxl : ([("index" : Str), ("what" : Str)] : List Str).length = [GV.int 0, GV.str "many"].length := rfl
  have e1 : bltV .isi [.tup [], .tup [.ty "list", .ty "tuple"]] = some (.bl true) := by kernel_rfl
  have e2 : bltV .len [.tup []] = some (.int 0) := rfl
  have d1 : decide ((1 : Int) ≤ 0) = false := by decide
  have h1 : execS ⟨T, callK T wf (k + 1), wf, none⟩ bRow0 [.val (.tup []), .no] G = .ex "BadWord" [.int 0, .str "many"] [.val (.tup []), .no] G := by
    simp only [bRow0, execL, execS, evalE, evalL, evalLB, bor, Res.bind, Res.of, Res.thn, rd, rdB, tstE, tru_bl, int_int, eq_int, lt_int, le_int, gt_int, ge_int, ne_int, add_ok, sub_ok, List.set_cons_zero, List.set_cons_succ, List.getElem?_cons_zero, List.getElem?_cons_succ, Option.map_some, if_true, if_false, Bool.false_eq_true, Bool.not_true, Bool.not_false, Rs.seq, exl_nil, List.append_nil, zt, e1, e2, d1, t.x, hxl]
  show finR (execL _ [bRow0, .forr (.name 1) (.rng [.blt .len [.var 0]]) bRowL, bRow2] [.val (.tup []), .no] G) = _
  rw [exl_ex h1]
  rfl
theorem ten30 : (2 : Nat) ^ 23 ≤ 10 ^ 30 := by decide +kernel
theorem st10 (t : T6 T) {G : Cells} {n : Nat} (q2 : 1 ≤ n) (q3 : n ≤ 24) {s0 s1 s3 s4 s5 s6 s9 s10 s11 s12 : Sl} (s8 : Sl) : ∃ s8', execS ⟨T, callK T wf (k + 5), wf, none⟩ bL610 [s0, s1, .val (.int n), s3, s4, s5, s6, .val (.int ((2 ^ (n - 1) - 1 : Nat) : Int)), s8, s9, s10, s11, s12] G = .nx [s0, s1, .val (.int n), s3, s4, s5, s6, .val (.int ((2 ^ (n - 1) - 1 : Nat) : Int)), s8', s9, s10, s11, s12] G := by
  have zt1 : ∀ x : GV, szOk [x].length = true := fun _ => sz_ok (by show 1 ≤ 100000; decide)
  have zt2 : ∀ x y : GV, szOk [x, y].length = true := fun _ _ => sz_ok (by show 2 ≤ 100000; decide)
  have zt7 : ∀ x y z u v p q : GV, szOk [x, y, z, u, v, p, q].length = true := fun _ _ _ _ _ _ _ => sz_ok (by show 7 ≤ 100000; decide)
  have hp1 : 1 ≤ 2 ^ (n - 1) := Nat.one_le_two_pow
  have hpw : 2 ^ (n - 1) ≤ 10 ^ 30 := Nat.le_trans (Nat.pow_le_pow_right (by decide) (by omega)) ten30
  have e7 : ((2 ^ (n - 1) - 1 : Nat) : Int) + 1 = ((2 ^ (n - 1) : Nat) : Int) := by omega
  have nn : cmpV .ne (.lst [.str "number"]) (.lst [.str "number"]) = some false := by kernel_rfl
  have hodd : ∀ x, plainG x = true → loR x = false → callK T wf (k + 5) "_law_by" [.int n, x] G = .ok (.lst [.str "number"]) G := fun x h1 h2 => lby_n (k := k + 1) t (wn_odd (k := k + 1) t q2 q3 h1 h2)
  have hbig : ∀ J : Nat, 2 ^ (n - 1) ≤ J → callK T wf (k + 5) "_law_by" [.int n, .int (J : Int)] G = .ok (.lst [.str "number"]) G := fun J h => lby_n (k := k + 1) t (wn_big (k := k + 1) t q2 q3 h)
  have b1 := hbig _ (Nat.le_refl _)
  have hit : ∀ ten : Int, binV .pow (.int 10) (.int 30) = some (.int ten) → iterE ⟨T, callK T wf (k + 5), wf, none⟩ (.seqs (.lst [(.bin .add (.var 7) (.con (.int 1))), (.neg (.con (.int 1))), (.con (.bl true)), (.con .non), (.con (.str "0")), (.tup [(.con (.int 0)), (.con (.int 1))]), (.bin .pow (.con (.int 10)) (.con (.int 30)))])) [s0, s1, .val (.int n), s3, s4, s5, s6, .val (.int ((2 ^ (n - 1) - 1 : Nat) : Int)), s8, s9, s10, s11, s12] G = .ok [.int ((2 ^ (n - 1) : Nat) : Int), .int (-1), .bl true, .non, .str "0", .tup [.int 0, .int 1], .int ten] G := fun ten hten => by
    simp only [iterE, execS, evalE, evalL, evalLB, bor, Res.bind, Res.of, Res.thn, rd, rdB, tstE, tru_bl, int_int, eq_int, lt_int, le_int, gt_int, ge_int, ne_int, add_ok, sub_ok, List.set_cons_zero, List.set_cons_succ, List.getElem?_cons_zero, List.getElem?_cons_succ, Option.map_some, if_true, if_false, Bool.false_eq_true, Bool.not_true, Bool.not_false, Rs.seq, exl_nil, List.append_nil, zt2, zt7, itmV, e7, hten]
  have b7' : ∀ ten : Int, binV .pow (.int 10) (.int 30) = some (.int ten) → callK T wf (k + 5) "_law_by" [.int n, .int ten] G = .ok (.lst [.str "number"]) G := fun ten hten => by
    rw [pow30] at hten
    cases hten
    exact hbig _ hpw
  obtain ⟨ten, hten⟩ : ∃ ten : Int, binV .pow (.int 10) (.int 30) = some (.int ten) := ⟨_, pow30⟩
  have b8 := b7' ten hten
  obtain ⟨σ1, l10, s8', rfl⟩ := loop_inv (tg := .name 8) (f := execL ⟨T, callK T wf (k + 5), wf, none⟩ bL6b) (I := fun σ => ∃ s8, σ = [s0, s1, .val (.int n), s3, s4, s5, s6, .val (.int ((2 ^ (n - 1) - 1 : Nat) : Int)), s8, s9, s10, s11, s12]) (G := G) [.int ((2 ^ (n - 1) : Nat) : Int), .int (-1), .bl true, .non, .str "0", .tup [.int 0, .int 1], .int ten] (fun x hx σ hI => by
    obtain ⟨s8, rfl⟩ := hI
    have hb : callK T wf (k + 5) "_law_by" [.int n, x] G = .ok (.lst [.str "number"]) G := by
      rcases List.mem_cons.mp hx with rfl | hx
      · exact b1
      rcases List.mem_cons.mp hx with rfl | hx
      · exact hodd _ rfl rfl
      rcases List.mem_cons.mp hx with rfl | hx
      · exact hodd _ rfl rfl
      rcases List.mem_cons.mp hx with rfl | hx
      · exact hodd _ rfl rfl
      rcases List.mem_cons.mp hx with rfl | hx
      · exact hodd _ rfl rfl
      rcases List.mem_cons.mp hx with rfl | hx
      · exact hodd _ rfl rfl
      rw [List.mem_singleton.mp hx]
      exact b8
    refine ⟨_, rfl, _, ?_, .val x, rfl⟩
    show execL _ [_] _ _ = _
    rw [exl_cons]
    simp only [execS, evalE, evalL, evalLB, bor, Res.bind, Res.of, Res.thn, rd, rdB, tstE, tru_bl, int_int, eq_int, lt_int, le_int, gt_int, ge_int, ne_int, add_ok, sub_ok, List.set_cons_zero, List.set_cons_succ, List.getElem?_cons_zero, List.getElem?_cons_succ, Option.map_some, if_true, if_false, Bool.false_eq_true, Bool.not_true, Bool.not_false, Rs.seq, exl_nil, List.append_nil, hb, zt1, nn]) _ ⟨s8, rfl⟩
  exact ⟨s8', (ex_forr (hit ten hten)).trans l10⟩
theorem st11 (t : T6 T) {G : Cells} {n : Nat} {s0 s1 s3 s4 s5 s6 s7 s9 s10 s11 s12 : Sl} (q2 : 1 ≤ n) (s8 : Sl) : ∃ s8', execS ⟨T, callK T wf (k + 5), wf, none⟩ bL611 [s0, s1, .val (.int n), s3, s4, s5, s6, s7, s8, s9, s10, s11, s12] G = .nx [s0, s1, .val (.int n), s3, s4, s5, s6, s7, s8', s9, s10, s11, s12] G := by
  have zt1 : ∀ x : GV, szOk [x].length = true := fun _ => sz_ok (by show 1 ≤ 100000; decide)
  have zt7 : ∀ x y z u v p q : GV, szOk [x, y, z, u, v, p, q].length = true := fun _ _ _ _ _ _ _ => sz_ok (by show 7 ≤ 100000; decide)
  have nn : cmpV .ne (.lst [.str "count"]) (.lst [.str "count"]) = some false := by kernel_rfl
  obtain ⟨ten, hten, hbig⟩ : ∃ ten : Int, binV .pow (.int 10) (.int 30) = some (.int ten) ∧ 24 < ten := ⟨_, pow30, by decide +kernel⟩
  have hit : iterE ⟨T, callK T wf (k + 5), wf, none⟩ (.seqs (.lst [(.con (.int 0)), (.con (.int 25)), (.neg (.var 2)), (.con (.bl true)), (.con .non), (.con (.str "3")), (.bin .pow (.con (.int 10)) (.con (.int 30)))])) [s0, s1, .val (.int n), s3, s4, s5, s6, s7, s8, s9, s10, s11, s12] G = .ok [.int 0, .int 25, .int (-(n : Int)), .bl true, .non, .str "3", .int ten] G := by
    simp only [iterE, execS, evalE, evalL, evalLB, bor, Res.bind, Res.of, Res.thn, rd, rdB, tstE, tru_bl, int_int, eq_int, lt_int, le_int, gt_int, ge_int, ne_int, add_ok, sub_ok, List.set_cons_zero, List.set_cons_succ, List.getElem?_cons_zero, List.getElem?_cons_succ, Option.map_some, if_true, if_false, Bool.false_eq_true, Bool.not_true, Bool.not_false, Rs.seq, exl_nil, List.append_nil, zt7, itmV, hten]
  obtain ⟨σ1, l11, s8', rfl⟩ := loop_inv (tg := .name 8) (f := execL ⟨T, callK T wf (k + 5), wf, none⟩ bL6c) (I := fun σ => ∃ s8, σ = [s0, s1, .val (.int n), s3, s4, s5, s6, s7, s8, s9, s10, s11, s12]) (G := G) [.int 0, .int 25, .int (-(n : Int)), .bl true, .non, .str "3", .int ten] (fun x hx σ hI => by
    obtain ⟨s8, rfl⟩ := hI
    have hh : plainG x = true ∧ inR 1 24 x = false := by
      rcases List.mem_cons.mp hx with rfl | hx
      · exact ⟨rfl, inR_lo (by omega)⟩
      rcases List.mem_cons.mp hx with rfl | hx
      · exact ⟨rfl, inR_hi (by omega)⟩
      rcases List.mem_cons.mp hx with rfl | hx
      · exact ⟨rfl, inR_lo (by omega)⟩
      rcases List.mem_cons.mp hx with rfl | hx
      · exact ⟨rfl, rfl⟩
      rcases List.mem_cons.mp hx with rfl | hx
      · exact ⟨rfl, rfl⟩
      rcases List.mem_cons.mp hx with rfl | hx
      · exact ⟨rfl, rfl⟩
      rw [List.mem_singleton.mp hx]
      exact ⟨rfl, inR_hi hbig⟩
    have hb : callK T wf (k + 5) "_law_by" [x, .int (-1)] G = .ok (.lst [.str "count"]) G := lby_c (k := k + 1) t (wn_count (k := k + 1) t hh.1 hh.2)
    have he : callK T wf (k + 5) "_law_each" [x] G = .ok (.lst [.str "count"]) G := lea_c (k := k + 1) t (ew_count (k := k + 1) t hh.1 hh.2)
    refine ⟨_, rfl, _, ?_, .val x, rfl⟩
    show execL _ [_] _ _ = _
    rw [exl_cons]
    simp only [execS, evalE, evalL, evalLB, bor, Res.bind, Res.of, Res.thn, rd, rdB, tstE, tru_bl, int_int, eq_int, lt_int, le_int, gt_int, ge_int, ne_int, add_ok, sub_ok, List.set_cons_zero, List.set_cons_succ, List.getElem?_cons_zero, List.getElem?_cons_succ, Option.map_some, if_true, if_false, Bool.false_eq_true, Bool.not_true, Bool.not_false, Rs.seq, exl_nil, List.append_nil, hb, he, zt1, nn]) _ ⟨s8, rfl⟩
  exact ⟨s8', (ex_forr hit).trans l11⟩
theorem st12 (t : T6 T) {G G4 : Cells} {r12 : Int} (h1 : callK T wf (k + 5) "_law_take" [.cel 0, .int 12] G = .ok (.int r12) G4) (h2 : 0 ≤ r12) (h3 : r12 < 12) {s0 s2 s3 s4 s5 s6 s7 s9 s10 s11 s12 : Sl} (s8 : Sl) : ∃ s8', execS ⟨T, callK T wf (k + 5), wf, none⟩ bL612 [s0, .val (.cel 0), s2, s3, s4, s5, s6, s7, s8, s9, s10, s11, s12] G = .nx [s0, .val (.cel 0), s2, s3, s4, s5, s6, s7, s8', s9, s10, s11, s12] G4 := by
  have zt2 : ∀ x y : GV, szOk [x, y].length = true := fun _ _ => sz_ok (by show 2 ≤ 100000; decide)
  have zt3 : ∀ x y z : GV, szOk [x, y, z].length = true := fun _ _ _ => sz_ok (by show 3 ≤ 100000; decide)
  have nn : cmpV .ne (.lst [.str "many", .int 12]) (.lst [.str "many", .int 12]) = some false := by kernel_rfl
  have hit : iterE ⟨T, callK T wf (k + 5), wf, none⟩ (.seqs (.lst [(.con (.int 13)), (.con (.int 24)), (.bin .add (.con (.int 13)) (.call "_law_take" [(.var 1), (.con (.int 12))] []))])) [s0, .val (.cel 0), s2, s3, s4, s5, s6, s7, s8, s9, s10, s11, s12] G = .ok [.int 13, .int 24, .int (13 + r12)] G4 := by
    simp only [iterE, execS, evalE, evalL, evalLB, bor, Res.bind, Res.of, Res.thn, rd, rdB, tstE, tru_bl, int_int, eq_int, lt_int, le_int, gt_int, ge_int, ne_int, add_ok, sub_ok, List.set_cons_zero, List.set_cons_succ, List.getElem?_cons_zero, List.getElem?_cons_succ, Option.map_some, if_true, if_false, Bool.false_eq_true, Bool.not_true, Bool.not_false, Rs.seq, exl_nil, List.append_nil, zt3, itmV, h1]
  obtain ⟨σ1, l12, s8', rfl⟩ := loop_inv (tg := .name 8) (f := execL ⟨T, callK T wf (k + 5), wf, none⟩ bL6d) (I := fun σ => ∃ s8, σ = [s0, .val (.cel 0), s2, s3, s4, s5, s6, s7, s8, s9, s10, s11, s12]) (G := G4) [.int 13, .int 24, .int (13 + r12)] (fun x hx σ hI => by
    obtain ⟨s8, rfl⟩ := hI
    obtain ⟨q, rfl, hq1, hq2⟩ : ∃ q : Nat, x = .int (q : Int) ∧ 13 ≤ q ∧ q ≤ 24 := by
      rcases List.mem_cons.mp hx with rfl | hx
      · exact ⟨13, rfl, by decide, by decide⟩
      rcases List.mem_cons.mp hx with rfl | hx
      · exact ⟨24, rfl, by decide, by decide⟩
      rw [List.mem_singleton.mp hx]
      exact ⟨(13 + r12).toNat, by rw [show (((13 + r12).toNat : Nat) : Int) = 13 + r12 by omega], by omega, by omega⟩
    have he : callK T wf (k + 5) "_law_each" [.int (q : Int)] G4 = .ok (.lst [.str "many", .int 12]) G4 := lea_m (k := k + 1) t (ew_many (k := k + 1) t hq1 hq2)
    refine ⟨_, rfl, _, ?_, .val (.int (q : Int)), rfl⟩
    show execL _ [_] _ _ = _
    rw [exl_cons]
    simp only [execS, evalE, evalL, evalLB, bor, Res.bind, Res.of, Res.thn, rd, rdB, tstE, tru_bl, int_int, eq_int, lt_int, le_int, gt_int, ge_int, ne_int, add_ok, sub_ok, List.set_cons_zero, List.set_cons_succ, List.getElem?_cons_zero, List.getElem?_cons_succ, Option.map_some, if_true, if_false, Bool.false_eq_true, Bool.not_true, Bool.not_false, Rs.seq, exl_nil, List.append_nil, he, zt2, nn]) _ ⟨s8, rfl⟩
  exact ⟨s8', (ex_forr hit).trans l12⟩
theorem st19 (t : T6 T) {G : Cells} {m : Nat} (mm1 : 1 ≤ m) (mm2 : m ≤ 12) {s0 s1 s2 s3 s4 s6 s7 s8 s9 s10 : Sl} (s5 : Sl) : ∃ s5', execS ⟨T, callK T wf (k + 5), wf, none⟩ bL619 [s0, s1, s2, s3, s4, s5, s6, s7, s8, s9, s10, .val (.int m), .val (.lst (allW m))] G = .nx [s0, s1, s2, s3, s4, s5', s6, s7, s8, s9, s10, .val (.int m), .val (.lst (allW m))] G := by
  have y2 : bltV .len [.lst (allW m)] = some (.int ((2 ^ (m - 1) : Nat) : Int)) := by show some (GV.int ((allW m).length : Nat)) = _; rw [allW_len]
  have h2m := two_le (e := m - 1) (by omega)
  have hit : iterE ⟨T, callK T wf (k + 5), wf, none⟩ (.rng [(.blt .len [(.var 12)])]) [s0, s1, s2, s3, s4, s5, s6, s7, s8, s9, s10, .val (.int m), .val (.lst (allW m))] G = .ok ((rI 0 (2 ^ (m - 1))).map .int) G := it_r1 (by simp only [execS, evalE, evalL, evalLB, bor, Res.bind, Res.of, Res.thn, rd, rdB, tstE, tru_bl, int_int, eq_int, lt_int, le_int, gt_int, ge_int, ne_int, add_ok, sub_ok, List.set_cons_zero, List.set_cons_succ, List.getElem?_cons_zero, List.getElem?_cons_succ, Option.map_some, if_true, if_false, Bool.false_eq_true, Bool.not_true, Bool.not_false, Rs.seq, exl_nil, List.append_nil, y2]) (by omega)
  obtain ⟨σ1, l19, s5', rfl⟩ := loop_inv (tg := .name 5) (f := execL ⟨T, callK T wf (k + 5), wf, none⟩ bL6e) (I := fun σ => ∃ s5, σ = [s0, s1, s2, s3, s4, s5, s6, s7, s8, s9, s10, .val (.int m), .val (.lst (allW m))]) (G := G) ((rI 0 (2 ^ (m - 1))).map .int) (fun x hx σ hI => by
    obtain ⟨s5, rfl⟩ := hI
    obtain ⟨i, hi, rfl⟩ := List.mem_map.mp hx
    have hmi := mem_rI.mp hi
    obtain ⟨I, rfl⟩ : ∃ I : Nat, i = (I : Int) := ⟨i.toNat, by omega⟩
    have hI2 : I < 2 ^ (m - 1) := by omega
    have hIW := sgN_isW mm1 hI2
    have hix : idxV (.lst (allW m)) (.int (I : Int)) G = some (.tup ((sgN m I).map .int)) := ixl (allW_get hI2)
    have hw1 := isw_ok (wf := wf) (k := k + 4) (G := G) t.li hIW.sg hIW.hd (by rw [hIW.len]; omega)
    rw [hIW.len] at hw1
    have hw2 : callK T wf (k + 5) "_law_is_word" [.tup ((sgN m I).map .int), .int m] G = .ok (.bl true) G := hw1
    have hw3 : callK T wf (k + 5) "_law_signs" [.int m, .int (I : Int)] G = .ok (.tup ((sgN m I).map .int)) G := si_ok (k := k + 4) t (by omega)
    have nn := ne_self (nice_row (sgN m I))
    refine ⟨_, rfl, _, ?_, .val (.int (I : Int)), rfl⟩
    show execL _ [_] _ _ = _
    rw [exl_cons]
    simp only [execS, evalE, evalL, evalLB, bor, Res.bind, Res.of, Res.thn, rd, rdB, tstE, tru_bl, int_int, eq_int, lt_int, le_int, gt_int, ge_int, ne_int, add_ok, sub_ok, List.set_cons_zero, List.set_cons_succ, List.getElem?_cons_zero, List.getElem?_cons_succ, Option.map_some, if_true, if_false, Bool.false_eq_true, Bool.not_true, Bool.not_false, Rs.seq, exl_nil, List.append_nil, hix, hw2, hw3, nn]) _ ⟨s5, rfl⟩
  exact ⟨s5', (ex_forr hit).trans l19⟩
theorem law_ok6 (t : T6 T) (hL : T.fn "law" = some dL6) {ns : List Int} (hl : ns.length ≤ 63) : ∃ G, callK T wf (k + 6) "law" [.scr ns] [] = .ok (.bl true) G := by
  obtain ⟨cells, c0, p1, p2⟩ := hand_ok (T := T) (wf := wf) (k := k + 4) t.hd hl
  obtain ⟨n, a1, b1, c1, q1, q2, q3, q4⟩ := count_ok (wf := wf) (k := k + 2) t.mx t.tk t.ct p2
  obtain ⟨w, a2, b2, c2, r1, r2, r3⟩ := word_ok (wf := wf) (k := k + 2) t.mx t.tk t.wd q4 (n := n) q2 (by omega)
  have p1' : callK T wf (k + 5) "_law_hand" [.scr ns] [] = .ok (.cel 0) (HG cells 0 0 c0) := p1
  have q1' : callK T wf (k + 5) "_law_count" [.cel 0] (HG cells 0 0 c0) = .ok (.int n) (HG cells a1 b1 c1) := q1
  have r1' : callK T wf (k + 5) "_law_word" [.cel 0, .int n] (HG cells a1 b1 c1) = .ok (.tup (w.map .int)) (HG cells a2 b2 c2) := r1
  have hnw := nf_ltW r2 q2
  have hWn := sgN_W r2
  have hpw : 2 ^ (n - 1) ≤ 2 ^ 23 := Nat.pow_le_pow_right (by decide) (by omega)
  have hp23 : (2 : Nat) ^ 23 ≤ 10 ^ 30 := ten30
  have hp1 : 1 ≤ 2 ^ (n - 1) := Nat.one_le_two_pow
  have hls : ∀ {xs : List GV}, bltV .listt [.tup xs] = some (.lst xs) := rfl
  have ee : (n : Int) - 1 = ((n - 1 : Nat) : Int) := by omega
  have esh := shl_nat (e := n - 1) (by omega)
  have wl := r2.len
  -- statement 5
  have f1 : ∀ G, callK T wf (k + 5) "_law_number_told" [.lst (w.map .int)] G = .ok (.int (nf w : Nat)) G := fun G => lnt_ok t (number_ok t r2 q2 q3 (.inr rfl))
  have f2 : ∀ (i : Int) G, callK T wf (k + 5) "_law_is_number" [.int i, .int i] G = .ok (.bl true) G := fun i G => lin_ok (k := k + 4) t
  have by_ : ∀ (J : Nat) G, J < 2 ^ (n - 1) → callK T wf (k + 5) "_law_by" [.int n, .int J] G = .ok (.tup ((sgN n J).map .int)) G := fun J G h => lby_ok (k := k + 1) t (wn_good (k := k + 1) t q2 q3 h)
  have f3 := by_ (nf w) (HG cells a2 b2 c2) hnw
  rw [hWn] at f3
  have n1 := ne_self (nice_row w)
  -- statements 6, 7
  obtain ⟨r, a3, b3, c3, g1, g2, g3, g4⟩ := take_ok (wf := wf) (k := k + 3) t.mx t.tk r3 (many := ((2 ^ (n - 1) : Nat) : Int)) (by omega) (by omega)
  have g1' : callK T wf (k + 5) "_law_take" [.cel 0, .int ((2 ^ (n - 1) : Nat) : Int)] (HG cells a2 b2 c2) = .ok (.int r) (HG cells a3 b3 c3) := g1
  obtain ⟨J, rfl⟩ : ∃ J : Nat, r = (J : Int) := ⟨r.toNat, by omega⟩
  have hJ : J < 2 ^ (n - 1) := by omega
  have f4 := by_ J (HG cells a3 b3 c3) hJ
  have f5 : callK T wf (k + 5) "_law_signs" [.int n, .int J] (HG cells a3 b3 c3) = .ok (.tup ((sgN n J).map .int)) (HG cells a3 b3 c3) := si_ok (k := k + 4) t (by omega)
  have hJW := sgN_isW q2 hJ
  have f6 : callK T wf (k + 5) "_law_number_told" [.tup ((sgN n J).map .int)] (HG cells a3 b3 c3) = .ok (.int (nf (sgN n J) : Nat)) (HG cells a3 b3 c3) := lnt_ok t (number_ok t hJW q2 q3 (.inl rfl))
  rw [nf_sgN n J (Nat.lt_of_lt_of_le hJ (Nat.pow_le_pow_right (by decide) (by omega)))] at f6
  have n2 := ne_self (nice_row (sgN n J))
  -- statements 8, 9
  have elast : ((2 ^ (n - 1) : Nat) : Int) - 1 = ((2 ^ (n - 1) - 1 : Nat) : Int) := by omega
  have f7 := by_ (2 ^ (n - 1) - 1) (HG cells a3 b3 c3) (by omega)
  rw [last_W q2] at f7
  have f8 := by_ 0 (HG cells a3 b3 c3) (by omega)
  rw [zero_W] at f8
  have f8' : callK T wf (k + 5) "_law_by" [.int n, .int 0] (HG cells a3 b3 c3) = .ok (.tup ((List.replicate n 1).map .int)) (HG cells a3 b3 c3) := f8
  have m1 := rep_any (-1) (n - 1) (by omega)
  have m2 := rep_any 1 n (by omega)
  have m3 := cons_app (w := List.replicate (n - 1) (-1)) (z := 1) (by simp; omega)
  have n3 := ne_self (nice_row (1 :: List.replicate (n - 1) (-1)))
  have n4 := ne_self (nice_row (List.replicate n 1))
  have zt1 : ∀ x : GV, szOk [x].length = true := fun _ => sz_ok (by show 1 ≤ 100000; decide)
  have zt2 : ∀ x y : GV, szOk [x, y].length = true := fun _ _ => sz_ok (by show 2 ≤ 100000; decide)
  have zt3 : ∀ x y z : GV, szOk [x, y, z].length = true := fun _ _ _ => sz_ok (by show 3 ≤ 100000; decide)
  have zt0 : szOk ([] : List GV).length = true := sz_ok (by decide)
  have zt7 : ∀ x y z u v p q : GV, szOk [x, y, z, u, v, p, q].length = true := fun _ _ _ _ _ _ _ => sz_ok (by show 7 ≤ 100000; decide)
  -- statements 12, 13, 16
  obtain ⟨r12, a4, b4, c4, h1, h2, h3, h4⟩ := take_ok (wf := wf) (k := k + 3) t.mx t.tk g4 (many := 12) (by decide) (by decide)
  have h1' : callK T wf (k + 5) "_law_take" [.cel 0, .int 12] (HG cells a3 b3 c3) = .ok (.int r12) (HG cells a4 b4 c4) := h1
  obtain ⟨r13, a5, b5, c5, i1, i2, i3, i4⟩ := take_ok (wf := wf) (k := k + 3) t.mx t.tk h4 (many := (n : Int)) (by omega) (by omega)
  have i1' : callK T wf (k + 5) "_law_take" [.cel 0, .int n] (HG cells a4 b4 c4) = .ok (.int r13) (HG cells a5 b5 c5) := i1
  obtain ⟨sp, rfl⟩ : ∃ sp : Nat, r13 = (sp : Int) := ⟨r13.toNat, by omega⟩
  have hsp : sp < n := by omega
  obtain ⟨r16, a6, b6, c6, j1, j2, j3, j4⟩ := take_ok (wf := wf) (k := k + 3) t.mx t.tk i4 (many := 16) (by decide) (by decide)
  have j1' : callK T wf (k + 5) "_law_take" [.cel 0, .int 16] (HG cells a5 b5 c5) = .ok (.int r16) (HG cells a6 b6 c6) := j1
  obtain ⟨r7, a7, b7, c7, k1, k2, k3, k4⟩ := take_ok (wf := wf) (k := k + 3) t.mx t.tk j4 (many := 7) (by decide) (by decide)
  have k1' : callK T wf (k + 5) "_law_take" [.cel 0, .int 7] (HG cells a6 b6 c6) = .ok (.int r7) (HG cells a7 b7 c7) := k1
  have small : ∀ {s0 s2 s3 s4 s5 s6 s7 s8 s9 s10 s11 s12 : Sl}, ∃ (m : Nat) (G6 : Cells), 1 ≤ m ∧ m ≤ 12 ∧ execS ⟨T, callK T wf (k + 5), wf, none⟩ bL616 [s0, .val (.cel 0), s2, s3, s4, s5, s6, s7, s8, s9, s10, s11, s12] (HG cells a5 b5 c5) = .nx [s0, .val (.cel 0), s2, s3, s4, s5, s6, s7, s8, s9, s10, .val (.int m), s12] G6 := by
    intro s0 s2 s3 s4 s5 s6 s7 s8 s9 s10 s11 s12
    cases hz : (r16 == 0) with
    | true =>
      refine ⟨12, HG cells a6 b6 c6, by decide, by decide, ?_⟩
      simp only [bL616, execS, evalE, evalL, evalLB, bor, Res.bind, Res.of, Res.thn, rd, rdB, tstE, tru_bl, int_int, eq_int, lt_int, le_int, gt_int, ge_int, ne_int, add_ok, sub_ok, List.set_cons_zero, List.set_cons_succ, List.getElem?_cons_zero, List.getElem?_cons_succ, Option.map_some, if_true, if_false, Bool.false_eq_true, Bool.not_true, Bool.not_false, Rs.seq, exl_nil, List.append_nil, j1', hz]
      rfl
    | false =>
      refine ⟨(1 + r7).toNat, HG cells a7 b7 c7, by omega, by omega, ?_⟩
      have e : (((1 + r7).toNat : Nat) : Int) = 1 + r7 := by omega
      rw [e]
      simp only [bL616, execS, evalE, evalL, evalLB, bor, Res.bind, Res.of, Res.thn, rd, rdB, tstE, tru_bl, int_int, eq_int, lt_int, le_int, gt_int, ge_int, ne_int, add_ok, sub_ok, List.set_cons_zero, List.set_cons_succ, List.getElem?_cons_zero, List.getElem?_cons_succ, Option.map_some, if_true, if_false, Bool.false_eq_true, Bool.not_true, Bool.not_false, Rs.seq, exl_nil, List.append_nil, j1', hz, k1']
  have goal : ∃ GF, execL ⟨T, callK T wf (k + 5), wf, none⟩ [bL60, bL61, bL62, bL63, bL64, bL65, bL66, bL67, bL68, bL69, bL610, bL611, bL612, bL613, bL614, bL615, bL616, bL617, bL618, bL619, bL620] [.val (.scr ns), .no, .no, .no, .no, .no, .no, .no, .no, .no, .no, .no, .no] [] = .rt (.bl true) GF := by
    rw [exl_cons]
    simp only [bL60, execS, evalE, evalL, evalLB, bor, Res.bind, Res.of, Res.thn, rd, rdB, tstE, tru_bl, int_int, eq_int, lt_int, le_int, gt_int, ge_int, ne_int, add_ok, sub_ok, List.set_cons_zero, List.set_cons_succ, List.getElem?_cons_zero, List.getElem?_cons_succ, Option.map_some, if_true, if_false, Bool.false_eq_true, Bool.not_true, Bool.not_false, Rs.seq, exl_nil, List.append_nil, p1']
    rw [exl_cons]
    simp only [bL61, execS, evalE, evalL, evalLB, bor, Res.bind, Res.of, Res.thn, rd, rdB, tstE, tru_bl, int_int, eq_int, lt_int, le_int, gt_int, ge_int, ne_int, add_ok, sub_ok, List.set_cons_zero, List.set_cons_succ, List.getElem?_cons_zero, List.getElem?_cons_succ, Option.map_some, if_true, if_false, Bool.false_eq_true, Bool.not_true, Bool.not_false, Rs.seq, exl_nil, List.append_nil, q1']
    rw [exl_cons]
    simp only [bL62, execS, evalE, evalL, evalLB, bor, Res.bind, Res.of, Res.thn, rd, rdB, tstE, tru_bl, int_int, eq_int, lt_int, le_int, gt_int, ge_int, ne_int, add_ok, sub_ok, List.set_cons_zero, List.set_cons_succ, List.getElem?_cons_zero, List.getElem?_cons_succ, Option.map_some, if_true, if_false, Bool.false_eq_true, Bool.not_true, Bool.not_false, Rs.seq, exl_nil, List.append_nil, r1']
    rw [exl_nx (show execS _ bL63 _ _ = .nx [.val (.scr ns), .val (.cel 0), .val (.int n), .val (.tup (w.map .int)), .val (.int ((0 : Nat) : Int)), .no, .no, .no, .no, .no, .no, .no, .no] (HG cells a2 b2 c2) from ex_set (by simp only [evalE]; rfl))]
    have hit4 : iterE ⟨T, callK T wf (k + 5), wf, none⟩ (.rng [(.con (.int 1)), (.var 2)]) [.val (.scr ns), .val (.cel 0), .val (.int n), .val (.tup (w.map .int)), .val (.int ((0 : Nat) : Int)), .no, .no, .no, .no, .no, .no, .no, .no] (HG cells a2 b2 c2) = .ok ((rI ((1 : Nat) : Int) (n - 1)).map .int) (HG cells a2 b2 c2) := by
      have := it_r2 (c := ⟨T, callK T wf (k + 5), wf, none⟩) (ea := .con (.int 1)) (eb := .var 2) (σ := [.val (.scr ns), .val (.cel 0), .val (.int n), .val (.tup (w.map .int)), .val (.int ((0 : Nat) : Int)), .no, .no, .no, .no, .no, .no, .no, .no]) (G := HG cells a2 b2 c2) (i := 1) (j := (n : Int)) (by simp only [execS, evalE, evalL, evalLB, bor, Res.bind, Res.of, Res.thn, rd, rdB, tstE, tru_bl, int_int, eq_int, lt_int, le_int, gt_int, ge_int, ne_int, add_ok, sub_ok, List.set_cons_zero, List.set_cons_succ, List.getElem?_cons_zero, List.getElem?_cons_succ, Option.map_some, if_true, if_false, Bool.false_eq_true, Bool.not_true, Bool.not_false, Rs.seq, exl_nil, List.append_nil]) (by simp only [execS, evalE, evalL, evalLB, bor, Res.bind, Res.of, Res.thn, rd, rdB, tstE, tru_bl, int_int, eq_int, lt_int, le_int, gt_int, ge_int, ne_int, add_ok, sub_ok, List.set_cons_zero, List.set_cons_succ, List.getElem?_cons_zero, List.getElem?_cons_succ, Option.map_some, if_true, if_false, Bool.false_eq_true, Bool.not_true, Bool.not_false, Rs.seq, exl_nil, List.append_nil]) (by omega) (by omega) (by omega) (by omega)
      rw [show ((n : Int) - 1).toNat = n - 1 by omega, show (1 : Int) = ((1 : Nat) : Int) from rfl] at this
      exact this
    have e0 : nf (w.take 1) = 0 := by
      cases w with
      | nil => rw [List.length_nil] at wl; omega
      | cons z t' =>
        have hz : z = 1 := by simpa using r2.hd
        subst hz; rfl
    obtain ⟨s5, l4⟩ := law_num (c := ⟨T, callK T wf (k + 5), wf, none⟩) (G := HG cells a2 b2 c2) r2 q3 (s0 := .val (.scr ns)) (s1 := .val (.cel 0)) (s2 := .val (.int n)) (s6 := .no) (s7 := .no) (s8 := .no) (s9 := .no) (s10 := .no) (s11 := .no) (s12 := .no) (n - 1) 1 .no (by omega)
    rw [e0] at l4
    have x4 : execS ⟨T, callK T wf (k + 5), wf, none⟩ bL64 [.val (.scr ns), .val (.cel 0), .val (.int n), .val (.tup (w.map .int)), .val (.int ((0 : Nat) : Int)), .no, .no, .no, .no, .no, .no, .no, .no] (HG cells a2 b2 c2) = _ := (ex_forr hit4).trans l4
    rw [exl_nx x4, exl_cons]
    simp only [bL65, execS, evalE, evalL, evalLB, bor, Res.bind, Res.of, Res.thn, rd, rdB, tstE, tru_bl, int_int, eq_int, lt_int, le_int, gt_int, ge_int, ne_int, add_ok, sub_ok, List.set_cons_zero, List.set_cons_succ, List.getElem?_cons_zero, List.getElem?_cons_succ, Option.map_some, if_true, if_false, Bool.false_eq_true, Bool.not_true, Bool.not_false, Rs.seq, exl_nil, List.append_nil, hls, f1, f2, f3, n1]
    rw [exl_cons]
    simp only [bL66, execS, evalE, evalL, evalLB, bor, Res.bind, Res.of, Res.thn, rd, rdB, tstE, tru_bl, int_int, eq_int, lt_int, le_int, gt_int, ge_int, ne_int, add_ok, sub_ok, List.set_cons_zero, List.set_cons_succ, List.getElem?_cons_zero, List.getElem?_cons_succ, Option.map_some, if_true, if_false, Bool.false_eq_true, Bool.not_true, Bool.not_false, Rs.seq, exl_nil, List.append_nil, ee, esh, g1']
    rw [exl_cons]
    simp only [bL67, execS, evalE, evalL, evalLB, bor, Res.bind, Res.of, Res.thn, rd, rdB, tstE, tru_bl, int_int, eq_int, lt_int, le_int, gt_int, ge_int, ne_int, add_ok, sub_ok, List.set_cons_zero, List.set_cons_succ, List.getElem?_cons_zero, List.getElem?_cons_succ, Option.map_some, if_true, if_false, Bool.false_eq_true, Bool.not_true, Bool.not_false, Rs.seq, exl_nil, List.append_nil, f4, f5, f6, f2, n2]
    rw [exl_cons]
    simp only [bL68, execS, evalE, evalL, evalLB, bor, Res.bind, Res.of, Res.thn, rd, rdB, tstE, tru_bl, int_int, eq_int, lt_int, le_int, gt_int, ge_int, ne_int, add_ok, sub_ok, List.set_cons_zero, List.set_cons_succ, List.getElem?_cons_zero, List.getElem?_cons_succ, Option.map_some, if_true, if_false, Bool.false_eq_true, Bool.not_true, Bool.not_false, Rs.seq, exl_nil, List.append_nil, ee, esh, elast]
    rw [exl_cons]
    simp only [bL69, execS, evalE, evalL, evalLB, bor, Res.bind, Res.of, Res.thn, rd, rdB, tstE, tru_bl, int_int, eq_int, lt_int, le_int, gt_int, ge_int, ne_int, add_ok, sub_ok, List.set_cons_zero, List.set_cons_succ, List.getElem?_cons_zero, List.getElem?_cons_succ, Option.map_some, if_true, if_false, Bool.false_eq_true, Bool.not_true, Bool.not_false, Rs.seq, exl_nil, List.append_nil, ee, zt1, m1, m2, m3, f7, f8', n3, n4]
    obtain ⟨s8, x10⟩ := st10 (wf := wf) (k := k) (G := HG cells a3 b3 c3) t q2 q3 (s0 := .val (.scr ns)) (s1 := .val (.cel 0)) (s3 := .val (.tup (w.map .int))) (s4 := .val (.int (nf w : Nat))) (s5 := s5) (s6 := .val (.int (J : Int))) (s9 := .no) (s10 := .no) (s11 := .no) (s12 := .no) .no
    rw [exl_nx x10]
    obtain ⟨s8, x11⟩ := st11 (wf := wf) (k := k) (G := HG cells a3 b3 c3) (n := n) t (s0 := .val (.scr ns)) (s1 := .val (.cel 0)) (s3 := .val (.tup (w.map .int))) (s4 := .val (.int (nf w : Nat))) (s5 := s5) (s6 := .val (.int (J : Int))) (s7 := .val (.int ((2 ^ (n - 1) - 1 : Nat) : Int))) (s9 := .no) (s10 := .no) (s11 := .no) (s12 := .no) q2 s8
    rw [exl_nx x11]
    obtain ⟨s8, x12⟩ := st12 (wf := wf) (k := k) t (r12 := r12) (G := HG cells a3 b3 c3) (G4 := HG cells a4 b4 c4) h1' h2 h3 (s0 := .val (.scr ns)) (s2 := .val (.int n)) (s3 := .val (.tup (w.map .int))) (s4 := .val (.int (nf w : Nat))) (s5 := s5) (s6 := .val (.int (J : Int))) (s7 := .val (.int ((2 ^ (n - 1) - 1 : Nat) : Int))) (s9 := .no) (s10 := .no) (s11 := .no) (s12 := .no) s8
    rw [exl_nx x12, exl_cons]
    simp only [bL613, execS, evalE, evalL, evalLB, bor, Res.bind, Res.of, Res.thn, rd, rdB, tstE, tru_bl, int_int, eq_int, lt_int, le_int, gt_int, ge_int, ne_int, add_ok, sub_ok, List.set_cons_zero, List.set_cons_succ, List.getElem?_cons_zero, List.getElem?_cons_succ, Option.map_some, if_true, if_false, Bool.false_eq_true, Bool.not_true, Bool.not_false, Rs.seq, exl_nil, List.append_nil, i1']
    -- the spoilt words
    have e1 := slc_take (xs := w.map .int) (p := sp)
    have e2 := slc_drop (xs := w.map .int) (p := sp + 1)
    have ec : ((sp : Int) + 1) = ((sp + 1 : Nat) : Int) := by omega
    have t1 := tup_app (a := w.take sp) (b := [0]) (by rw [List.length_take]; simp; omega)
    have t1' : binV .add (.tup ((w.take sp).map .int)) (.tup [.int 0]) = some (.tup ((w.take sp ++ [0]).map .int)) := t1
    have t2 := tup_app (a := w.take sp ++ [0]) (b := w.drop (sp + 1)) (by rw [List.length_append, List.length_take, List.length_drop]; simp; omega)
    rw [exl_cons]
    simp only [bL614, execS, evalE, evalL, evalLB, bor, Res.bind, Res.of, Res.thn, rd, rdB, tstE, tru_bl, int_int, eq_int, lt_int, le_int, gt_int, ge_int, ne_int, add_ok, sub_ok, List.set_cons_zero, List.set_cons_succ, List.getElem?_cons_zero, List.getElem?_cons_succ, Option.map_some, if_true, if_false, Bool.false_eq_true, Bool.not_true, Bool.not_false, Rs.seq, exl_nil, List.append_nil, prtL, e1, e2, ec, ← List.map_take, ← List.map_drop, zt1, t1', t2]
    have u1 : callK T wf (k + 5) "_law_number_told" [.tup ((w.take sp ++ [0] ++ w.drop (sp + 1)).map .int)] (HG cells a5 b5 c5) = .ok (.lst [.int sp, .str "sign"]) (HG cells a5 b5 c5) := lnt_ex t (number_ex t (zero_at t.toTr r2 q3 hsp))
    have u2 : callK T wf (k + 5) "_law_number_told" [.tup ((-1 :: w.drop 1).map .int)] (HG cells a5 b5 c5) = .ok (.lst [.int 0, .str "first"]) (HG cells a5 b5 c5) := lnt_ex t (number_ex t (neg_first t.toTr r2 q2 q3))
    have u3 : callK T wf (k + 5) "_law_number_told" [.tup []] (HG cells a5 b5 c5) = .ok (.lst [.int 0, .str "many"]) (HG cells a5 b5 c5) := lnt_ex t (number_ex t (signs_ex t.toTr (row_none t.toTr)))
    have sd := slc_drop (xs := w.map .int) (p := 1)
    have sd' : slcV (.tup (w.map .int)) (some 1) none = some (.tup ((w.map .int).drop 1)) := sd
    have ca := cons_app (w := w.drop 1) (z := -1) (by rw [List.length_drop]; omega)
    have v1 := ne_self (nice2 (.int (sp : Int)) (ok_str L_sign (k := 0)))
    have v2 : cmpV .ne (.lst [.int 0, .str "first"]) (.lst [.int 0, .str "first"]) = some false := ne_self (k := 1) (nice2 (.int 0) (ok_str L_first))
    have v3 : cmpV .ne (.lst [.int 0, .str "many"]) (.lst [.int 0, .str "many"]) = some false := ne_self (k := 1) (nice2 (.int 0) (ok_str L_many))
    rw [exl_cons]
    simp only [bL615, execS, evalE, evalL, evalLB, bor, Res.bind, Res.of, Res.thn, rd, rdB, tstE, tru_bl, int_int, eq_int, lt_int, le_int, gt_int, ge_int, ne_int, add_ok, sub_ok, List.set_cons_zero, List.set_cons_succ, List.getElem?_cons_zero, List.getElem?_cons_succ, Option.map_some, if_true, if_false, Bool.false_eq_true, Bool.not_true, Bool.not_false, Rs.seq, exl_nil, List.append_nil, prtL, u1, u2, u3, zt0, zt1, zt2, sd', ← List.map_drop, ca, v1, v2, v3]
    obtain ⟨m, G6, mm1, mm2, x16⟩ := small (s0 := .val (.scr ns)) (s2 := .val (.int n)) (s3 := .val (.tup (w.map .int))) (s4 := .val (.int (nf w : Nat))) (s5 := s5) (s6 := .val (.int (J : Int))) (s7 := .val (.int ((2 ^ (n - 1) - 1 : Nat) : Int))) (s8 := s8) (s9 := .val (.int (sp : Int))) (s10 := .val (.tup ((w.take sp ++ [0] ++ w.drop (sp + 1)).map .int))) (s11 := .no) (s12 := .no)
    rw [exl_nx x16]
    have y1 : callK T wf (k + 5) "_law_each" [.int m] G6 = .ok (.lst (allW m)) G6 := lea_ok (k := k + 1) t (ew_good (k := k + 1) t mm1 mm2)
    have y2 : bltV .len [.lst (allW m)] = some (.int ((2 ^ (m - 1) : Nat) : Int)) := by show some (GV.int ((allW m).length : Nat)) = _; rw [allW_len]
    have em : (m : Int) - 1 = ((m - 1 : Nat) : Int) := by omega
    have y3 := shl_nat (e := m - 1) (by omega)
    have y4 : (((2 ^ (m - 1) : Nat) : Int) == ((2 ^ (m - 1) : Nat) : Int)) = true := by simp
    have h2m := two_le (e := m - 1) (by omega)
    rw [exl_cons]
    simp only [bL617, execS, evalE, evalL, evalLB, bor, Res.bind, Res.of, Res.thn, rd, rdB, tstE, tru_bl, int_int, eq_int, lt_int, le_int, gt_int, ge_int, ne_int, add_ok, sub_ok, List.set_cons_zero, List.set_cons_succ, List.getElem?_cons_zero, List.getElem?_cons_succ, Option.map_some, if_true, if_false, Bool.false_eq_true, Bool.not_true, Bool.not_false, Rs.seq, exl_nil, List.append_nil, y1]
    rw [exl_cons]
    simp only [bL618, execS, evalE, evalL, evalLB, bor, Res.bind, Res.of, Res.thn, rd, rdB, tstE, tru_bl, int_int, eq_int, lt_int, le_int, gt_int, ge_int, ne_int, add_ok, sub_ok, List.set_cons_zero, List.set_cons_succ, List.getElem?_cons_zero, List.getElem?_cons_succ, Option.map_some, if_true, if_false, Bool.false_eq_true, Bool.not_true, Bool.not_false, Rs.seq, exl_nil, List.append_nil, y2, em, y3, y4]
    obtain ⟨s5, x19⟩ := st19 (wf := wf) (k := k) (G := G6) t mm1 mm2 (s0 := .val (.scr ns)) (s1 := .val (.cel 0)) (s2 := .val (.int n)) (s3 := .val (.tup (w.map .int))) (s4 := .val (.int (nf w : Nat))) (s6 := .val (.int (J : Int))) (s7 := .val (.int ((2 ^ (n - 1) - 1 : Nat) : Int))) (s8 := s8) (s9 := .val (.int (sp : Int))) (s10 := .val (.tup ((w.take sp ++ [0] ++ w.drop (sp + 1)).map .int))) s5
    rw [exl_nx x19, exl_cons]
    refine ⟨G6, ?_⟩
    simp only [bL620, execS, evalE, evalL, evalLB, bor, Res.bind, Res.of, Res.thn, rd, rdB, tstE, tru_bl, int_int, eq_int, lt_int, le_int, gt_int, ge_int, ne_int, add_ok, sub_ok, List.set_cons_zero, List.set_cons_succ, List.getElem?_cons_zero, List.getElem?_cons_succ, Option.map_some, if_true, if_false, Bool.false_eq_true, Bool.not_true, Bool.not_false, Rs.seq, exl_nil, List.append_nil]
  obtain ⟨GF, hF⟩ := goal
  refine ⟨GF, ?_⟩
  rw [callK_step hL rfl]
  show finR (execL _ [bL60, bL61, bL62, bL63, bL64, bL65, bL66, bL67, bL68, bL69, bL610, bL611, bL612, bL613, bL614, bL615, bL616, bL617, bL618, bL619, bL620] [.val (.scr ns), .no, .no, .no, .no, .no, .no, .no, .no, .no, .no, .no, .no] []) = _
  rw [hF]
  rfl
end
end Cm
end

section
set_option maxHeartbeats 4000000
namespace Lw
open PySem Gm
def top (i : Nat) : Stmt := PySem.Challenge.pw_hushedwires_k06_whole_words_numbered_asc.main.body.getD i (.Pass ⟨0, 0, 0, 0⟩)
def n_is_whole : List Str := ["thing", "low", "high"]
def b_is_whole : List S := [(.ite (.or (.blt .isi [(.var 0), (.bty "bool")]) (.not (.blt .isi [(.var 0), (.bty "int")]))) [(.ret (.con (.bl false)))] []), (.ite (.and (.cmp .isN (.var 1) (.con .non)) (.cmp .lt (.var 0) (.var 1))) [(.ret (.con (.bl false)))] []), (.ret (.or (.cmp .isI (.var 2) (.con .non)) (.cmp .le (.var 0) (.var 2))))]
def d_is_whole : Fn := ⟨3, 3, [.non, .non], [], b_is_whole⟩
def n_check_row : List Str := ["row", "number"]
def b_check_row : List S := [(.ite (.or (.not (.blt .isi [(.var 0), (.tup [(.bty "list"), (.bty "tuple")])])) (.not (.chn .le .le (.con (.int 1)) (.blt .len [(.var 0)]) (.glb "MOST_SECTIONS")))) [(.rse "BadWord" [(.con (.int 0)), (.con (.str "many"))])] []), (.forr (.name 1) (.rng [(.blt .len [(.var 0)])]) [(.ite (.or (.not (.call "is_whole" [(.idx (.var 0) (.var 1)), (.neg (.con (.int 1))), (.con (.int 1))] [])) (.cmp .eq (.idx (.var 0) (.var 1)) (.con (.int 0)))) [(.rse "BadWord" [(.var 1), (.con (.str "sign"))])] [])]), (.ret (.blt .tupl [(.var 0)]))]
def d_check_row : Fn := ⟨1, 2, [], [], b_check_row⟩
def n_check_signs : List Str := ["word", "found"]
def b_check_signs : List S := [(.set 1 (.call "check_row" [(.var 0)] [])), (.ite (.cmp .eq (.idx (.var 1) (.con (.int 0))) (.neg (.con (.int 1)))) [(.rse "BadWord" [(.con (.int 0)), (.con (.str "first"))])] []), (.ret (.var 1))]
def d_check_signs : Fn := ⟨1, 2, [], [], b_check_signs⟩
def n_check_count : List Str := ["count", "high"]
def b_check_count : List S := [(.ite (.not (.call "is_whole" [(.var 0), (.con (.int 1)), (.var 1)] [])) [(.rse "BadCount" [])] []), (.ret (.var 0))]
def d_check_count : Fn := ⟨2, 2, [.int (24)], [], b_check_count⟩
def n_number_of_word : List Str := ["word", "row", "number", "sign"]
def b_number_of_word : List S := [(.set 1 (.call "check_signs" [(.var 0)] [])), (.set 2 (.con (.int 0))), (.forr (.name 3) (.seqs (.slc (.var 1) [(.con (.int 1))] [])) [(.set 2 (.bin .add (.bin .mul (.var 2) (.con (.int 2))) (.ite (.cmp .eq (.var 3) (.neg (.con (.int 1)))) (.con (.int 1)) (.con (.int 0)))))]), (.ret (.var 2))]
def d_number_of_word : Fn := ⟨1, 4, [], [], b_number_of_word⟩
def n_word_by_number : List Str := ["count", "number"]
def b_word_by_number : List S := [(.exp (.call "check_count" [(.var 0)] [(.int 24)])), (.ite (.or (.not (.call "is_whole" [(.var 1), (.con (.int 0))] [.non])) (.cmp .ne (.bin .shr (.var 1) (.bin .sub (.var 0) (.con (.int 1)))) (.con (.int 0)))) [(.rse "BadNumber" [])] []), (.ret (.call "signs_of" [(.var 0), (.var 1)] []))]
def d_word_by_number : Fn := ⟨2, 2, [], [], b_word_by_number⟩
def n_signs_of : List Str := ["count", "number", "section"]
def b_signs_of : List S := [(.ret (.blt .tupl [(.cmpr (.ite (.bin .band (.bin .shr (.var 1) (.bin .sub (.bin .sub (.var 0) (.con (.int 1))) (.var 2))) (.con (.int 1))) (.neg (.con (.int 1))) (.con (.int 1))) (.name 2) [2] (.rng [(.var 0)]) (.con (.bl true)))]))]
def d_signs_of : Fn := ⟨2, 3, [], [], b_signs_of⟩
def n_each_word : List Str := ["count", "number"]
def b_each_word : List S := [(.exp (.call "check_count" [(.var 0)] [(.int 24)])), (.ite (.cmp .gt (.var 0) (.glb "MOST_EACH")) [(.rse "TooMany" [(.glb "MOST_EACH")])] []), (.ret (.cmpr (.call "signs_of" [(.var 0), (.var 1)] []) (.name 1) [1] (.rng [(.bin .shl (.con (.int 1)) (.bin .sub (.var 0) (.con (.int 1))))]) (.con (.bl true))))]
def d_each_word : Fn := ⟨1, 2, [], [], b_each_word⟩
def n__law_hand : List Str := ["_law_script", "_law_total", "_law_cells", "_law_cell"]
def b__law_hand : List S := [(.set 1 (.bin .add (.blt .len [(.var 0)]) (.con (.int 31)))), (.seto 2 (.lst [])), (.forr (.name 3) (.seqs (.var 0)) [(.set 1 (.bin .mod (.blt .intt [(.bin .add (.bin .mul (.var 1) (.con (.int 1019))) (.blt .intt [(.var 3)]))]) (.con (.int 2147483629)))), (.app 2 (.ite (.cmp .ge (.var 3) (.con (.int 0))) (.blt .intt [(.var 3)]) (.neg (.blt .intt [(.var 3)]))))]), (.frz [2] (.ret (.cel [(.var 2), (.con (.int 0)), (.con (.int 0)), (.var 1)])))]
def d__law_hand : Fn := ⟨1, 4, [], [], b__law_hand⟩
def n__law_mixed : List Str := ["_law_number", "_law_turn", "_law_once", "_law_twice"]
def b__law_mixed : List S := [(.set 2 (.bin .mod (.blt .intt [(.bin .add (.bin .add (.bin .mul (.var 0) (.con (.int 48271))) (.bin .mul (.var 1) (.con (.int 7919)))) (.con (.int 65537)))]) (.con (.int 2147483647)))), (.set 3 (.bin .mod (.blt .intt [(.bin .add (.bin .add (.bin .mul (.var 2) (.var 2)) (.bin .mul (.var 1) (.con (.int 104729)))) (.bin .fdiv (.var 2) (.con (.int 127))))]) (.con (.int 2147483629)))), (.ret (.bin .fdiv (.blt .intt [(.bin .mod (.blt .intt [(.bin .add (.bin .mul (.var 3) (.con (.int 69621))) (.bin .fdiv (.var 2) (.con (.int 5))))]) (.con (.int 2147483587)))]) (.con (.int 16))))]
def d__law_mixed : Fn := ⟨2, 4, [], [], b__law_mixed⟩
def n__law_take : List Str := ["_law_hand_here", "_law_many", "_law_cell", "_law_rest"]
def b__law_take : List S := [(.ite (.and (.cmp .eq (.idx (.var 0) (.con (.int 2))) (.con (.int 0))) (.cmp .lt (.idx (.var 0) (.con (.int 1))) (.blt .len [(.idx (.var 0) (.con (.int 0)))]))) [(.set 2 (.idx (.idx (.var 0) (.con (.int 0))) (.idx (.var 0) (.con (.int 1))))), (.sub 0 (.con (.int 1)) (.bin .add (.idx (.var 0) (.con (.int 1))) (.con (.int 1)))), (.ite (.cmp .lt (.var 2) (.bin .pow (.con (.int 10)) (.con (.int 18)))) [(.ret (.bin .mod (.blt .intt [(.call "_law_mixed" [(.bin .mod (.blt .intt [(.var 2)]) (.con (.int 2147483647))), (.idx (.var 0) (.con (.int 1)))] [])]) (.var 1)))] []), (.sub 0 (.con (.int 2)) (.var 2))] []), (.ite (.cmp .gt (.idx (.var 0) (.con (.int 2))) (.con (.int 0))) [(.set 3 (.idx (.var 0) (.con (.int 2)))), (.sub 0 (.con (.int 2)) (.bin .fdiv (.blt .intt [(.var 3)]) (.var 1))), (.ret (.bin .mod (.blt .intt [(.var 3)]) (.var 1)))] []), (.sub 0 (.con (.int 3)) (.bin .mod (.blt .intt [(.bin .add (.idx (.var 0) (.con (.int 3))) (.con (.int 1)))]) (.con (.int 2147483629)))), (.ret (.bin .mod (.blt .intt [(.call "_law_mixed" [(.idx (.var 0) (.con (.int 3))), (.idx (.var 0) (.con (.int 1)))] [])]) (.var 1)))]
def d__law_take : Fn := ⟨2, 4, [], [], b__law_take⟩
def n__law_signs : List Str := ["_law_count_here", "_law_number", "_law_k"]
def b__law_signs : List S := [(.ret (.blt .tupl [(.cmpr (.ite (.bin .mod (.blt .intt [(.bin .shr (.var 1) (.bin .sub (.bin .sub (.var 0) (.con (.int 1))) (.var 2)))]) (.con (.int 2))) (.neg (.con (.int 1))) (.con (.int 1))) (.name 2) [2] (.rng [(.var 0)]) (.con (.bl true)))]))]
def d__law_signs : Fn := ⟨2, 3, [], [], b__law_signs⟩
def n__law_word : List Str := ["_law_hand_here", "_law_count_here", "_law_word_here", "_law_k"]
def b__law_word : List S := [(.seto 2 (.lst [(.con (.int 1))])), (.forr (.name 3) (.rng [(.con (.int 1)), (.var 1)]) [(.app 2 (.bin .sub (.con (.int 1)) (.bin .mul (.con (.int 2)) (.call "_law_take" [(.var 0), (.con (.int 2))] []))))]), (.ret (.blt .tupl [(.var 2)]))]
def d__law_word : Fn := ⟨2, 4, [], [], b__law_word⟩
def n__law_is_word : List Str := ["_law_thing", "_law_many", "_law_one"]
def b__law_is_word : List S := [(.ite (.or (.not (.blt .isi [(.var 0), (.bty "tuple")])) (.or (.cmp .ne (.blt .len [(.var 0)]) (.var 1)) (.cmp .ne (.idx (.var 0) (.con (.int 0))) (.con (.int 1))))) [(.ret (.con (.bl false)))] []), (.ret (.not (.cmpr (.con (.int 1)) (.name 2) [2] (.seq (.var 0)) (.or (.blt .isi [(.var 2), (.bty "bool")]) (.or (.not (.blt .isi [(.var 2), (.bty "int")])) (.cmp .nin (.var 2) (.tup [(.con (.int 1)), (.neg (.con (.int 1)))])))))))]
def d__law_is_word : Fn := ⟨2, 3, [], [], b__law_is_word⟩
def n__law_count : List Str := ["_law_hand_here"]
def b__law_count : List S := [(.ite (.cmp .eq (.call "_law_take" [(.var 0), (.con (.int 8))] []) (.con (.int 0))) [(.ret (.bin .add (.con (.int 9)) (.call "_law_take" [(.var 0), (.con (.int 16))] [])))] []), (.ret (.bin .add (.con (.int 1)) (.call "_law_take" [(.var 0), (.con (.int 8))] [])))]
def d__law_count : Fn := ⟨1, 1, [], [], b__law_count⟩
def n__law_by : List Str := ["_law_count_here", "_law_number", "_law_found"]
def b__law_by : List S := [(.tryy [(.set 2 (.call "word_by_number" [(.var 0), (.var 1)] []))] [("BadCount", none, [(.ret (.lst [(.con (.str "count"))]))]), ("BadNumber", none, [(.ret (.lst [(.con (.str "number"))]))])]), (.ret (.var 2))]
def d__law_by : Fn := ⟨2, 3, [], [], b__law_by⟩
def n__law_number_told : List Str := ["_law_word_here", "wrong", "_law_found"]
def b__law_number_told : List S := [(.tryy [(.set 2 (.call "number_of_word" [(.var 0)] []))] [("BadWord", some 1, [(.ret (.lst [(.xfl 1 "index"), (.xfl 1 "what")]))])]), (.ret (.var 2))]
def d__law_number_told : Fn := ⟨1, 3, [], [], b__law_number_told⟩
def n__law_each : List Str := ["_law_count_here", "wrong", "_law_found"]
def b__law_each : List S := [(.tryy [(.set 2 (.blt .listt [(.call "each_word" [(.var 0)] [])]))] [("BadCount", none, [(.ret (.lst [(.con (.str "count"))]))]), ("TooMany", some 1, [(.ret (.lst [(.con (.str "many")), (.xfl 1 "most")]))])]), (.ret (.var 2))]
def d__law_each : Fn := ⟨1, 3, [], [], b__law_each⟩
def n__law_is_number : List Str := ["_law_thing", "_law_due"]
def b__law_is_number : List S := [(.ret (.and (.blt .isi [(.var 0), (.bty "int")]) (.and (.not (.blt .isi [(.var 0), (.bty "bool")])) (.cmp .eq (.var 0) (.var 1)))))]
def d__law_is_number : Fn := ⟨2, 2, [], [], b__law_is_number⟩
def n_law : List Str := ["_law_script", "_law_hand_here", "_law_count_here", "_law_word_here", "_law_number", "_law_k", "_law_pick", "_law_last", "_law_thing", "_law_odd", "_law_spoilt", "_law_small", "_law_found"]
def b_law : List S := [(.set 1 (.call "_law_hand" [(.var 0)] [])), (.set 2 (.call "_law_count" [(.var 1)] [])), (.set 3 (.call "_law_word" [(.var 1), (.var 2)] [])), (.set 4 (.con (.int 0))), (.forr (.name 5) (.rng [(.con (.int 1)), (.var 2)]) [(.set 4 (.bin .add (.bin .mul (.con (.int 2)) (.var 4)) (.bin .fdiv (.bin .sub (.con (.int 1)) (.idx (.var 3) (.var 5))) (.con (.int 2)))))]), (.ite (.or (.not (.call "_law_is_number" [(.call "_law_number_told" [(.blt .listt [(.var 3)])] []), (.var 4)] [])) (.cmp .ne (.call "_law_by" [(.var 2), (.var 4)] []) (.var 3))) [(.ret (.con (.bl false)))] []), (.set 6 (.call "_law_take" [(.var 1), (.bin .shl (.con (.int 1)) (.bin .sub (.var 2) (.con (.int 1))))] [])), (.ite (.or (.cmp .ne (.call "_law_by" [(.var 2), (.var 6)] []) (.call "_law_signs" [(.var 2), (.var 6)] [])) (.not (.call "_law_is_number" [(.call "_law_number_told" [(.call "_law_signs" [(.var 2), (.var 6)] [])] []), (.var 6)] []))) [(.ret (.con (.bl false)))] []), (.set 7 (.bin .sub (.bin .shl (.con (.int 1)) (.bin .sub (.var 2) (.con (.int 1)))) (.con (.int 1)))), (.ite (.or (.cmp .ne (.call "_law_by" [(.var 2), (.var 7)] []) (.bin .add (.tup [(.con (.int 1))]) (.bin .mul (.tup [(.neg (.con (.int 1)))]) (.bin .sub (.var 2) (.con (.int 1)))))) (.cmp .ne (.call "_law_by" [(.var 2), (.con (.int 0))] []) (.bin .mul (.tup [(.con (.int 1))]) (.var 2)))) [(.ret (.con (.bl false)))] []), (.forr (.name 8) (.seqs (.lst [(.bin .add (.var 7) (.con (.int 1))), (.neg (.con (.int 1))), (.con (.bl true)), (.con .non), (.con (.str "0")), (.tup [(.con (.int 0)), (.con (.int 1))]), (.bin .pow (.con (.int 10)) (.con (.int 30)))])) [(.ite (.cmp .ne (.call "_law_by" [(.var 2), (.var 8)] []) (.lst [(.con (.str "number"))])) [(.ret (.con (.bl false)))] [])]), (.forr (.name 8) (.seqs (.lst [(.con (.int 0)), (.con (.int 25)), (.neg (.var 2)), (.con (.bl true)), (.con .non), (.con (.str "3")), (.bin .pow (.con (.int 10)) (.con (.int 30)))])) [(.ite (.or (.cmp .ne (.call "_law_by" [(.var 8), (.neg (.con (.int 1)))] []) (.lst [(.con (.str "count"))])) (.cmp .ne (.call "_law_each" [(.var 8)] []) (.lst [(.con (.str "count"))]))) [(.ret (.con (.bl false)))] [])]), (.forr (.name 8) (.seqs (.lst [(.con (.int 13)), (.con (.int 24)), (.bin .add (.con (.int 13)) (.call "_law_take" [(.var 1), (.con (.int 12))] []))])) [(.ite (.cmp .ne (.call "_law_each" [(.var 8)] []) (.lst [(.con (.str "many")), (.con (.int 12))])) [(.ret (.con (.bl false)))] [])]), (.set 9 (.call "_law_take" [(.var 1), (.var 2)] [])), (.set 10 (.bin .add (.bin .add (.slc (.var 3) [] [(.var 9)]) (.tup [(.con (.int 0))])) (.slc (.var 3) [(.bin .add (.var 9) (.con (.int 1)))] []))), (.ite (.or (.cmp .ne (.call "_law_number_told" [(.var 10)] []) (.lst [(.var 9), (.con (.str "sign"))])) (.or (.cmp .ne (.call "_law_number_told" [(.bin .add (.tup [(.neg (.con (.int 1)))]) (.slc (.var 3) [(.con (.int 1))] []))] []) (.lst [(.con (.int 0)), (.con (.str "first"))])) (.cmp .ne (.call "_law_number_told" [(.tup [])] []) (.lst [(.con (.int 0)), (.con (.str "many"))])))) [(.ret (.con (.bl false)))] []), (.set 11 (.ite (.cmp .eq (.call "_law_take" [(.var 1), (.con (.int 16))] []) (.con (.int 0))) (.con (.int 12)) (.bin .add (.con (.int 1)) (.call "_law_take" [(.var 1), (.con (.int 7))] [])))), (.set 12 (.call "_law_each" [(.var 11)] [])), (.ite (.cmp .ne (.blt .len [(.var 12)]) (.bin .shl (.con (.int 1)) (.bin .sub (.var 11) (.con (.int 1))))) [(.ret (.con (.bl false)))] []), (.forr (.name 5) (.rng [(.blt .len [(.var 12)])]) [(.ite (.or (.not (.call "_law_is_word" [(.idx (.var 12) (.var 5)), (.var 11)] [])) (.cmp .ne (.idx (.var 12) (.var 5)) (.call "_law_signs" [(.var 11), (.var 5)] []))) [(.ret (.con (.bl false)))] [])]), (.ret (.con (.bl true)))]
def d_law : Fn := ⟨1, 13, [], [], b_law⟩
def fnL : List (Str × Fn) := [("is_whole", d_is_whole), ("check_row", d_check_row), ("check_signs", d_check_signs), ("check_count", d_check_count), ("number_of_word", d_number_of_word), ("word_by_number", d_word_by_number), ("signs_of", d_signs_of), ("_law_hand", d__law_hand), ("_law_mixed", d__law_mixed), ("_law_take", d__law_take), ("_law_signs", d__law_signs), ("_law_word", d__law_word), ("_law_is_word", d__law_is_word), ("_law_count", d__law_count), ("_law_by", d__law_by), ("_law_number_told", d__law_number_told), ("_law_each", d__law_each), ("_law_is_number", d__law_is_number), ("law", d_law)]
def gnL : List (Str × Fn) := [("each_word", d_each_word)]
def Gam0 : Gam := { N := [], nm := [], top := true, calm := true, fns := fnL.map fun p => (p.1, (p.2.np, p.2.dfl)), gns := gnL.map fun p => (p.1, (p.2.np, p.2.dfl)), gv := [("MOST_SECTIONS", .int (24)), ("MOST_EACH", .int (12))], bl := ["isinstance", "bool", "int", "range", "tuple", "len", "list"], xc := [("BadWord", ["index", "what"]), ("BadCount", []), ("BadNumber", []), ("TooMany", ["most"])], hc := ["BadCount", "BadNumber", "BadWord", "TooMany"] }
def supL : List (Str × List Str) := [("BadWord", ["BadWord", "WireError", "ValueError"]), ("BadCount", ["BadCount", "WireError", "ValueError"]), ("BadNumber", ["BadNumber", "WireError", "ValueError"]), ("TooMany", ["TooMany", "WireError", "ValueError"])]
def T0 : Tb := { fn := fun x => (fnL ++ gnL).lookup x, gv := fun x => Gam0.gv.lookup x, xc := fun x => Gam0.xc.lookup x, xsub := fun C D => match supL.lookup C with | some l => decide (D ∈ l) | none => false }
theorem c_is_whole : mapO (compS2 60 ⟨[], false⟩ 60 (fnG Gam0 n_is_whole (L2.defScope (top 7)).names)) (L2.defBody (top 7)) = some d_is_whole.body := by kernel_rfl
theorem s_is_whole : L2.FnScope n_is_whole ["thing", "low", "high"] (L2.defScope (top 7)) := ⟨rfl, rfl, rfl, by decide +kernel, by decide +kernel, by decide +kernel, by decide +kernel⟩
theorem c_check_row : mapO (compS2 60 ⟨[], false⟩ 60 (fnG Gam0 n_check_row (L2.defScope (top 11)).names)) (L2.defBody (top 11)) = some d_check_row.body := by kernel_rfl
theorem s_check_row : L2.FnScope n_check_row ["row"] (L2.defScope (top 11)) := ⟨rfl, rfl, rfl, by decide +kernel, by decide +kernel, by decide +kernel, by decide +kernel⟩
theorem c_check_signs : mapO (compS2 60 ⟨[], false⟩ 60 (fnG Gam0 n_check_signs (L2.defScope (top 12)).names)) (L2.defBody (top 12)) = some d_check_signs.body := by kernel_rfl
theorem s_check_signs : L2.FnScope n_check_signs ["word"] (L2.defScope (top 12)) := ⟨rfl, rfl, rfl, by decide +kernel, by decide +kernel, by decide +kernel, by decide +kernel⟩
theorem c_check_count : mapO (compS2 60 ⟨[], false⟩ 60 (fnG Gam0 n_check_count (L2.defScope (top 13)).names)) (L2.defBody (top 13)) = some d_check_count.body := by kernel_rfl
theorem s_check_count : L2.FnScope n_check_count ["count", "high"] (L2.defScope (top 13)) := ⟨rfl, rfl, rfl, by decide +kernel, by decide +kernel, by decide +kernel, by decide +kernel⟩
theorem c_number_of_word : mapO (compS2 60 ⟨[], false⟩ 60 (fnG Gam0 n_number_of_word (L2.defScope (top 14)).names)) (L2.defBody (top 14)) = some d_number_of_word.body := by kernel_rfl
theorem s_number_of_word : L2.FnScope n_number_of_word ["word"] (L2.defScope (top 14)) := ⟨rfl, rfl, rfl, by decide +kernel, by decide +kernel, by decide +kernel, by decide +kernel⟩
theorem c_word_by_number : mapO (compS2 60 ⟨[], false⟩ 60 (fnG Gam0 n_word_by_number (L2.defScope (top 15)).names)) (L2.defBody (top 15)) = some d_word_by_number.body := by kernel_rfl
theorem s_word_by_number : L2.FnScope n_word_by_number ["count", "number"] (L2.defScope (top 15)) := ⟨rfl, rfl, rfl, by decide +kernel, by decide +kernel, by decide +kernel, by decide +kernel⟩
theorem c_signs_of : mapO (compS2 60 ⟨[], false⟩ 60 (fnG Gam0 n_signs_of (L2.defScope (top 16)).names)) (L2.defBody (top 16)) = some d_signs_of.body := by kernel_rfl
theorem s_signs_of : L2.FnScope n_signs_of ["count", "number"] (L2.defScope (top 16)) := ⟨rfl, rfl, rfl, by decide +kernel, by decide +kernel, by decide +kernel, by decide +kernel⟩
theorem c_each_word : genB 60 ⟨[], false⟩ 60 (fnG Gam0 n_each_word (L2.defScope (top 17)).names) (L2.defBody (top 17)) = some d_each_word.body := by kernel_rfl
theorem s_each_word : L2.GScope n_each_word ["count"] (L2.defScope (top 17)) := ⟨rfl, rfl, rfl, by decide +kernel, by decide +kernel, by decide +kernel, by decide +kernel⟩
theorem c__law_hand : mapO (compS2 60 ⟨[2], true⟩ 60 (fnG Gam0 n__law_hand (L2.defScope (top 19)).names)) (L2.defBody (top 19)) = some d__law_hand.body := by kernel_rfl
theorem s__law_hand : L2.FnScope n__law_hand ["_law_script"] (L2.defScope (top 19)) := ⟨rfl, rfl, rfl, by decide +kernel, by decide +kernel, by decide +kernel, by decide +kernel⟩
theorem c__law_mixed : mapO (compS2 60 ⟨[], false⟩ 60 (fnG Gam0 n__law_mixed (L2.defScope (top 20)).names)) (L2.defBody (top 20)) = some d__law_mixed.body := by kernel_rfl
theorem s__law_mixed : L2.FnScope n__law_mixed ["_law_number", "_law_turn"] (L2.defScope (top 20)) := ⟨rfl, rfl, rfl, by decide +kernel, by decide +kernel, by decide +kernel, by decide +kernel⟩
theorem c__law_take : mapO (compS2 60 ⟨[], false⟩ 60 (fnG Gam0 n__law_take (L2.defScope (top 21)).names)) (L2.defBody (top 21)) = some d__law_take.body := by kernel_rfl
theorem s__law_take : L2.FnScope n__law_take ["_law_hand_here", "_law_many"] (L2.defScope (top 21)) := ⟨rfl, rfl, rfl, by decide +kernel, by decide +kernel, by decide +kernel, by decide +kernel⟩
theorem c__law_signs : mapO (compS2 60 ⟨[], false⟩ 60 (fnG Gam0 n__law_signs (L2.defScope (top 22)).names)) (L2.defBody (top 22)) = some d__law_signs.body := by kernel_rfl
theorem s__law_signs : L2.FnScope n__law_signs ["_law_count_here", "_law_number"] (L2.defScope (top 22)) := ⟨rfl, rfl, rfl, by decide +kernel, by decide +kernel, by decide +kernel, by decide +kernel⟩
theorem c__law_word : mapO (compS2 60 ⟨[2], false⟩ 60 (fnG Gam0 n__law_word (L2.defScope (top 23)).names)) (L2.defBody (top 23)) = some d__law_word.body := by kernel_rfl
theorem s__law_word : L2.FnScope n__law_word ["_law_hand_here", "_law_count_here"] (L2.defScope (top 23)) := ⟨rfl, rfl, rfl, by decide +kernel, by decide +kernel, by decide +kernel, by decide +kernel⟩
theorem c__law_is_word : mapO (compS2 60 ⟨[], false⟩ 60 (fnG Gam0 n__law_is_word (L2.defScope (top 24)).names)) (L2.defBody (top 24)) = some d__law_is_word.body := by kernel_rfl
theorem s__law_is_word : L2.FnScope n__law_is_word ["_law_thing", "_law_many"] (L2.defScope (top 24)) := ⟨rfl, rfl, rfl, by decide +kernel, by decide +kernel, by decide +kernel, by decide +kernel⟩
theorem c__law_count : mapO (compS2 60 ⟨[], false⟩ 60 (fnG Gam0 n__law_count (L2.defScope (top 25)).names)) (L2.defBody (top 25)) = some d__law_count.body := by kernel_rfl
theorem s__law_count : L2.FnScope n__law_count ["_law_hand_here"] (L2.defScope (top 25)) := ⟨rfl, rfl, rfl, by decide +kernel, by decide +kernel, by decide +kernel, by decide +kernel⟩
theorem c__law_by : mapO (compS2 60 ⟨[], false⟩ 60 (fnG Gam0 n__law_by (L2.defScope (top 26)).names)) (L2.defBody (top 26)) = some d__law_by.body := by kernel_rfl
theorem s__law_by : L2.FnScope n__law_by ["_law_count_here", "_law_number"] (L2.defScope (top 26)) := ⟨rfl, rfl, rfl, by decide +kernel, by decide +kernel, by decide +kernel, by decide +kernel⟩
theorem c__law_number_told : mapO (compS2 60 ⟨[], false⟩ 60 (fnG Gam0 n__law_number_told (L2.defScope (top 27)).names)) (L2.defBody (top 27)) = some d__law_number_told.body := by kernel_rfl
theorem s__law_number_told : L2.FnScope n__law_number_told ["_law_word_here"] (L2.defScope (top 27)) := ⟨rfl, rfl, rfl, by decide +kernel, by decide +kernel, by decide +kernel, by decide +kernel⟩
theorem c__law_each : mapO (compS2 60 ⟨[], false⟩ 60 (fnG Gam0 n__law_each (L2.defScope (top 28)).names)) (L2.defBody (top 28)) = some d__law_each.body := by kernel_rfl
theorem s__law_each : L2.FnScope n__law_each ["_law_count_here"] (L2.defScope (top 28)) := ⟨rfl, rfl, rfl, by decide +kernel, by decide +kernel, by decide +kernel, by decide +kernel⟩
theorem c__law_is_number : mapO (compS2 60 ⟨[], false⟩ 60 (fnG Gam0 n__law_is_number (L2.defScope (top 29)).names)) (L2.defBody (top 29)) = some d__law_is_number.body := by kernel_rfl
theorem s__law_is_number : L2.FnScope n__law_is_number ["_law_thing", "_law_due"] (L2.defScope (top 29)) := ⟨rfl, rfl, rfl, by decide +kernel, by decide +kernel, by decide +kernel, by decide +kernel⟩
theorem c_law : mapO (compS2 60 ⟨[], false⟩ 60 (fnG Gam0 n_law (L2.defScope (top 30)).names)) (L2.defBody (top 30)) = some d_law.body := by kernel_rfl
theorem s_law : L2.FnScope n_law ["_law_script"] (L2.defScope (top 30)) := ⟨rfl, rfl, rfl, by decide +kernel, by decide +kernel, by decide +kernel, by decide +kernel⟩
theorem u_BadWord : IniT (iniOf (top 2)) "BadWord.__init__" ["index", "what"] where
  body := by kernel_rfl
  flds := by kernel_rfl
  arg := by decide +kernel
  few := by decide +kernel
  kind := by kernel_rfl
  co := by kernel_rfl
  gen := by kernel_rfl
  noc := by decide +kernel
  loc := by decide +kernel
  sup := by kernel_rfl
  cls := by kernel_rfl
  ev := ⟨_, fun _ => rfl⟩
  hd := ⟨_, rfl, rfl⟩
  bind := fun doc pm an cda ct cc x us hl => match us, hl with | [_, _], _ => rfl
theorem u_TooMany : IniT (iniOf (top 5)) "TooMany.__init__" ["most"] where
  body := by kernel_rfl
  flds := by kernel_rfl
  arg := by decide +kernel
  few := by decide +kernel
  kind := by kernel_rfl
  co := by kernel_rfl
  gen := by kernel_rfl
  noc := by decide +kernel
  loc := by decide +kernel
  sup := by kernel_rfl
  cls := by kernel_rfl
  ev := ⟨_, fun _ => rfl⟩
  hd := ⟨_, rfl, rfl⟩
  bind := fun doc pm an cda ct cc x us hl => match us, hl with | [_], _ => rfl
section
open PySem.Spec PyProof.Rows L2
theorem env_mk {w : World} {K : PySem.W.Frag} {mg : Str → Option Value} {h : Heap} (X : K.In h) (G : h.Ns mainGlobals mg)
    {f0 : Addr} {od0 an0 : Option Addr} {sl0 : Array (Option Value)} {oc0 kV0 dc0 pm0 cd0 ct0 : Value} {t0 : Addr} {tc0 : Value} {td0 : Option Addr} {tn0 : Nat} {ts0 : Array (Option Value)} {f1 : Addr} {od1 an1 : Option Addr} {sl1 : Array (Option Value)} {oc1 kV1 dc1 pm1 cd1 ct1 : Value} {f2 : Addr} {od2 an2 : Option Addr} {sl2 : Array (Option Value)} {oc2 kV2 dc2 pm2 cd2 ct2 : Value} {f3 : Addr} {od3 an3 : Option Addr} {sl3 : Array (Option Value)} {oc3 kV3 dc3 pm3 cd3 ct3 : Value} {t3 : Addr} {tc3 : Value} {td3 : Option Addr} {tn3 : Nat} {ts3 : Array (Option Value)} {tk3_0 : Tok} {f4 : Addr} {od4 an4 : Option Addr} {sl4 : Array (Option Value)} {oc4 kV4 dc4 pm4 cd4 ct4 : Value} {f5 : Addr} {od5 an5 : Option Addr} {sl5 : Array (Option Value)} {oc5 kV5 dc5 pm5 cd5 ct5 : Value} {f6 : Addr} {od6 an6 : Option Addr} {sl6 : Array (Option Value)} {oc6 kV6 dc6 pm6 cd6 ct6 : Value} {f7 : Addr} {od7 an7 : Option Addr} {sl7 : Array (Option Value)} {oc7 kV7 dc7 pm7 cd7 ct7 : Value} {f8 : Addr} {od8 an8 : Option Addr} {sl8 : Array (Option Value)} {oc8 kV8 dc8 pm8 cd8 ct8 : Value} {f9 : Addr} {od9 an9 : Option Addr} {sl9 : Array (Option Value)} {oc9 kV9 dc9 pm9 cd9 ct9 : Value} {f10 : Addr} {od10 an10 : Option Addr} {sl10 : Array (Option Value)} {oc10 kV10 dc10 pm10 cd10 ct10 : Value} {f11 : Addr} {od11 an11 : Option Addr} {sl11 : Array (Option Value)} {oc11 kV11 dc11 pm11 cd11 ct11 : Value} {f12 : Addr} {od12 an12 : Option Addr} {sl12 : Array (Option Value)} {oc12 kV12 dc12 pm12 cd12 ct12 : Value} {f13 : Addr} {od13 an13 : Option Addr} {sl13 : Array (Option Value)} {oc13 kV13 dc13 pm13 cd13 ct13 : Value} {f14 : Addr} {od14 an14 : Option Addr} {sl14 : Array (Option Value)} {oc14 kV14 dc14 pm14 cd14 ct14 : Value} {f15 : Addr} {od15 an15 : Option Addr} {sl15 : Array (Option Value)} {oc15 kV15 dc15 pm15 cd15 ct15 : Value} {f16 : Addr} {od16 an16 : Option Addr} {sl16 : Array (Option Value)} {oc16 kV16 dc16 pm16 cd16 ct16 : Value} {f17 : Addr} {od17 an17 : Option Addr} {sl17 : Array (Option Value)} {oc17 kV17 dc17 pm17 cd17 ct17 : Value} {f18 : Addr} {od18 an18 : Option Addr} {sl18 : Array (Option Value)} {oc18 kV18 dc18 pm18 cd18 ct18 : Value} {f19 : Addr} {od19 an19 : Option Addr} {sl19 : Array (Option Value)} {oc19 kV19 dc19 pm19 cd19 ct19 : Value} {gt0 : Tok} {gt1 : Tok} {C0 I0 N0 W0 cda0 cc0 : Addr} {nm0 q0 : Str} {bs0 : List Value} {sn0 : List Str} {sub0 : List Value} {ab0 : Bool} {col0 : Option Bool} {dd0 xo0 xa0 xd0 xe0 : Option Addr} {m0_0 m1_0 m2_0 m3_0 m5_0 : Option Value} {yo0 yd0 yp0 yt0 y10 y20 : Value} {os0 o20 o30 : Array (Option Value)} {vs0 : Array Value} {fi0 : Str} {tf0 : Tok} {C1 : Addr} {C2 : Addr} {C3 I3 N3 W3 cda3 cc3 : Addr} {nm3 q3 : Str} {bs3 : List Value} {sn3 : List Str} {sub3 : List Value} {ab3 : Bool} {col3 : Option Bool} {dd3 xo3 xa3 xd3 xe3 : Option Addr} {m0_3 m1_3 m2_3 m3_3 m5_3 : Option Value} {yo3 yd3 yp3 yt3 y13 y23 : Value} {os3 o23 o33 : Array (Option Value)} {vs3 : Array Value} {fi3 : Str} {tf3 : Tok}
    (a0 : PySem.W.nsIn K mainGlobals "is_whole" = some (some (.ref f0)))
    (l0 : K.lookup f0 = some ⟨oc0, od0, .func (PySem.W.fnOf "is_whole" "is_whole" (L2.defArgs (top 7)) (L2.defBody (top 7)) (L2.defScope (top 7)) (.ref t0) kV0 dc0 pm0 an0 cd0 ct0), sl0⟩)
    (c0 : PySem.W.codeIn K cd0 "is_whole" = true)
    (k0 : PySem.W.keepIn K (.ref f0) = true)
    (t0l : K.lookup t0 = some ⟨tc0, td0, .seq ([.none, .none] : List Value).toArray tn0, ts0⟩)
    (a1 : PySem.W.nsIn K mainGlobals "check_row" = some (some (.ref f1)))
    (l1 : K.lookup f1 = some ⟨oc1, od1, .func (PySem.W.fnOf "check_row" "check_row" (L2.defArgs (top 11)) (L2.defBody (top 11)) (L2.defScope (top 11)) .none kV1 dc1 pm1 an1 cd1 ct1), sl1⟩)
    (c1 : PySem.W.codeIn K cd1 "check_row" = true)
    (k1 : PySem.W.keepIn K (.ref f1) = true)
    (a2 : PySem.W.nsIn K mainGlobals "check_signs" = some (some (.ref f2)))
    (l2 : K.lookup f2 = some ⟨oc2, od2, .func (PySem.W.fnOf "check_signs" "check_signs" (L2.defArgs (top 12)) (L2.defBody (top 12)) (L2.defScope (top 12)) .none kV2 dc2 pm2 an2 cd2 ct2), sl2⟩)
    (c2 : PySem.W.codeIn K cd2 "check_signs" = true)
    (k2 : PySem.W.keepIn K (.ref f2) = true)
    (a3 : PySem.W.nsIn K mainGlobals "check_count" = some (some (.ref f3)))
    (l3 : K.lookup f3 = some ⟨oc3, od3, .func (PySem.W.fnOf "check_count" "check_count" (L2.defArgs (top 13)) (L2.defBody (top 13)) (L2.defScope (top 13)) (.ref t3) kV3 dc3 pm3 an3 cd3 ct3), sl3⟩)
    (c3 : PySem.W.codeIn K cd3 "check_count" = true)
    (k3 : PySem.W.keepIn K (.ref f3) = true)
    (t3l : K.lookup t3 = some ⟨tc3, td3, .seq ([.int (24) tk3_0] : List Value).toArray tn3, ts3⟩)
    (a4 : PySem.W.nsIn K mainGlobals "number_of_word" = some (some (.ref f4)))
    (l4 : K.lookup f4 = some ⟨oc4, od4, .func (PySem.W.fnOf "number_of_word" "number_of_word" (L2.defArgs (top 14)) (L2.defBody (top 14)) (L2.defScope (top 14)) .none kV4 dc4 pm4 an4 cd4 ct4), sl4⟩)
    (c4 : PySem.W.codeIn K cd4 "number_of_word" = true)
    (k4 : PySem.W.keepIn K (.ref f4) = true)
    (a5 : PySem.W.nsIn K mainGlobals "word_by_number" = some (some (.ref f5)))
    (l5 : K.lookup f5 = some ⟨oc5, od5, .func (PySem.W.fnOf "word_by_number" "word_by_number" (L2.defArgs (top 15)) (L2.defBody (top 15)) (L2.defScope (top 15)) .none kV5 dc5 pm5 an5 cd5 ct5), sl5⟩)
    (c5 : PySem.W.codeIn K cd5 "word_by_number" = true)
    (k5 : PySem.W.keepIn K (.ref f5) = true)
    (a6 : PySem.W.nsIn K mainGlobals "signs_of" = some (some (.ref f6)))
    (l6 : K.lookup f6 = some ⟨oc6, od6, .func (PySem.W.fnOf "signs_of" "signs_of" (L2.defArgs (top 16)) (L2.defBody (top 16)) (L2.defScope (top 16)) .none kV6 dc6 pm6 an6 cd6 ct6), sl6⟩)
    (c6 : PySem.W.codeIn K cd6 "signs_of" = true)
    (k6 : PySem.W.keepIn K (.ref f6) = true)
    (a7 : PySem.W.nsIn K mainGlobals "each_word" = some (some (.ref f7)))
    (l7 : K.lookup f7 = some ⟨oc7, od7, .func (PySem.W.fnOf "each_word" "each_word" (L2.defArgs (top 17)) (L2.defBody (top 17)) (L2.defScope (top 17)) .none kV7 dc7 pm7 an7 cd7 ct7), sl7⟩)
    (c7 : PySem.W.codeIn K cd7 "each_word" = true)
    (k7 : PySem.W.keepIn K (.ref f7) = true)
    (a8 : PySem.W.nsIn K mainGlobals "_law_hand" = some (some (.ref f8)))
    (l8 : K.lookup f8 = some ⟨oc8, od8, .func (PySem.W.fnOf "_law_hand" "_law_hand" (L2.defArgs (top 19)) (L2.defBody (top 19)) (L2.defScope (top 19)) .none kV8 dc8 pm8 an8 cd8 ct8), sl8⟩)
    (c8 : PySem.W.codeIn K cd8 "_law_hand" = true)
    (k8 : PySem.W.keepIn K (.ref f8) = true)
    (a9 : PySem.W.nsIn K mainGlobals "_law_mixed" = some (some (.ref f9)))
    (l9 : K.lookup f9 = some ⟨oc9, od9, .func (PySem.W.fnOf "_law_mixed" "_law_mixed" (L2.defArgs (top 20)) (L2.defBody (top 20)) (L2.defScope (top 20)) .none kV9 dc9 pm9 an9 cd9 ct9), sl9⟩)
    (c9 : PySem.W.codeIn K cd9 "_law_mixed" = true)
    (k9 : PySem.W.keepIn K (.ref f9) = true)
    (a10 : PySem.W.nsIn K mainGlobals "_law_take" = some (some (.ref f10)))
    (l10 : K.lookup f10 = some ⟨oc10, od10, .func (PySem.W.fnOf "_law_take" "_law_take" (L2.defArgs (top 21)) (L2.defBody (top 21)) (L2.defScope (top 21)) .none kV10 dc10 pm10 an10 cd10 ct10), sl10⟩)
    (c10 : PySem.W.codeIn K cd10 "_law_take" = true)
    (k10 : PySem.W.keepIn K (.ref f10) = true)
    (a11 : PySem.W.nsIn K mainGlobals "_law_signs" = some (some (.ref f11)))
    (l11 : K.lookup f11 = some ⟨oc11, od11, .func (PySem.W.fnOf "_law_signs" "_law_signs" (L2.defArgs (top 22)) (L2.defBody (top 22)) (L2.defScope (top 22)) .none kV11 dc11 pm11 an11 cd11 ct11), sl11⟩)
    (c11 : PySem.W.codeIn K cd11 "_law_signs" = true)
    (k11 : PySem.W.keepIn K (.ref f11) = true)
    (a12 : PySem.W.nsIn K mainGlobals "_law_word" = some (some (.ref f12)))
    (l12 : K.lookup f12 = some ⟨oc12, od12, .func (PySem.W.fnOf "_law_word" "_law_word" (L2.defArgs (top 23)) (L2.defBody (top 23)) (L2.defScope (top 23)) .none kV12 dc12 pm12 an12 cd12 ct12), sl12⟩)
    (c12 : PySem.W.codeIn K cd12 "_law_word" = true)
    (k12 : PySem.W.keepIn K (.ref f12) = true)
    (a13 : PySem.W.nsIn K mainGlobals "_law_is_word" = some (some (.ref f13)))
    (l13 : K.lookup f13 = some ⟨oc13, od13, .func (PySem.W.fnOf "_law_is_word" "_law_is_word" (L2.defArgs (top 24)) (L2.defBody (top 24)) (L2.defScope (top 24)) .none kV13 dc13 pm13 an13 cd13 ct13), sl13⟩)
    (c13 : PySem.W.codeIn K cd13 "_law_is_word" = true)
    (k13 : PySem.W.keepIn K (.ref f13) = true)
    (a14 : PySem.W.nsIn K mainGlobals "_law_count" = some (some (.ref f14)))
    (l14 : K.lookup f14 = some ⟨oc14, od14, .func (PySem.W.fnOf "_law_count" "_law_count" (L2.defArgs (top 25)) (L2.defBody (top 25)) (L2.defScope (top 25)) .none kV14 dc14 pm14 an14 cd14 ct14), sl14⟩)
    (c14 : PySem.W.codeIn K cd14 "_law_count" = true)
    (k14 : PySem.W.keepIn K (.ref f14) = true)
    (a15 : PySem.W.nsIn K mainGlobals "_law_by" = some (some (.ref f15)))
    (l15 : K.lookup f15 = some ⟨oc15, od15, .func (PySem.W.fnOf "_law_by" "_law_by" (L2.defArgs (top 26)) (L2.defBody (top 26)) (L2.defScope (top 26)) .none kV15 dc15 pm15 an15 cd15 ct15), sl15⟩)
    (c15 : PySem.W.codeIn K cd15 "_law_by" = true)
    (k15 : PySem.W.keepIn K (.ref f15) = true)
    (a16 : PySem.W.nsIn K mainGlobals "_law_number_told" = some (some (.ref f16)))
    (l16 : K.lookup f16 = some ⟨oc16, od16, .func (PySem.W.fnOf "_law_number_told" "_law_number_told" (L2.defArgs (top 27)) (L2.defBody (top 27)) (L2.defScope (top 27)) .none kV16 dc16 pm16 an16 cd16 ct16), sl16⟩)
    (c16 : PySem.W.codeIn K cd16 "_law_number_told" = true)
    (k16 : PySem.W.keepIn K (.ref f16) = true)
    (a17 : PySem.W.nsIn K mainGlobals "_law_each" = some (some (.ref f17)))
    (l17 : K.lookup f17 = some ⟨oc17, od17, .func (PySem.W.fnOf "_law_each" "_law_each" (L2.defArgs (top 28)) (L2.defBody (top 28)) (L2.defScope (top 28)) .none kV17 dc17 pm17 an17 cd17 ct17), sl17⟩)
    (c17 : PySem.W.codeIn K cd17 "_law_each" = true)
    (k17 : PySem.W.keepIn K (.ref f17) = true)
    (a18 : PySem.W.nsIn K mainGlobals "_law_is_number" = some (some (.ref f18)))
    (l18 : K.lookup f18 = some ⟨oc18, od18, .func (PySem.W.fnOf "_law_is_number" "_law_is_number" (L2.defArgs (top 29)) (L2.defBody (top 29)) (L2.defScope (top 29)) .none kV18 dc18 pm18 an18 cd18 ct18), sl18⟩)
    (c18 : PySem.W.codeIn K cd18 "_law_is_number" = true)
    (k18 : PySem.W.keepIn K (.ref f18) = true)
    (a19 : PySem.W.nsIn K mainGlobals "law" = some (some (.ref f19)))
    (l19 : K.lookup f19 = some ⟨oc19, od19, .func (PySem.W.fnOf "law" "law" (L2.defArgs (top 30)) (L2.defBody (top 30)) (L2.defScope (top 30)) .none kV19 dc19 pm19 an19 cd19 ct19), sl19⟩)
    (c19 : PySem.W.codeIn K cd19 "law" = true)
    (k19 : PySem.W.keepIn K (.ref f19) = true)
    (g0 : PySem.W.nsIn K mainGlobals "MOST_SECTIONS" = some (some (.int (24) gt0)))
    (g1 : PySem.W.nsIn K mainGlobals "MOST_EACH" = some (some (.int (12) gt1)))
    (z0 : PySem.W.nsIn K mainGlobals "isinstance" = some none)
    (z1 : PySem.W.nsIn K mainGlobals "bool" = some none)
    (z2 : PySem.W.nsIn K mainGlobals "int" = some none)
    (z3 : PySem.W.nsIn K mainGlobals "range" = some none)
    (z4 : PySem.W.nsIn K mainGlobals "tuple" = some none)
    (z5 : PySem.W.nsIn K mainGlobals "len" = some none)
    (z6 : PySem.W.nsIn K mainGlobals "list" = some none)
    (xa0_a : PySem.W.nsIn K mainGlobals "BadWord" = some (some (.ref C0)))
    (xa0_b : K.lookup C0 = some (excClassObj nm0 q0 C0 N0 bs0 [.ref W0, .type "ValueError", .type "Exception", .type "BaseException", .type "object"] true sn0 sub0 ab0 col0 dd0 m0_0 m1_0 m2_0 m3_0 m5_0 "ValueError.__new__"))
    (xa0_c : PySem.W.findIn K (.ref C0) "__setattr__" = some (some (.builtin "object.__setattr__")))
    (xa0_n0 : PySem.W.findIn K (.ref C0) "index" = some none)
    (xa0_n1 : PySem.W.findIn K (.ref C0) "what" = some none)
    (xa0_d : PySem.W.findIn K (.ref C0) "__init__" = some (some (.ref I0)))
    (xa0_e : PySem.W.typeIn K (.ref I0) = some (.type "function"))
    (xa0_f : PySem.W.keepIn K (.ref C0) = true)
    (xa0_g : PySem.W.subIn K (.ref C0) (.type "BaseException") = some true)
    (xa0_h : PySem.W.typeIn K (.ref C0) = some (.type "type"))
    (xa0_i : PySem.W.subIn K (.ref C0) (.type "ValueError") = some true)
    (xa0_j : PySem.W.mroIn K C0 (.ref C0) = some true)
    (xa0_k : PySem.W.ks_superIn K C0 C0 "__init__" = some (some (.builtin "ValueError.__init__")))
    (xa0_l : K.lookup I0 = some ⟨yo0, xo0, .func (PySem.W.ksFn "__init__" "BadWord.__init__" (L2.defArgs (iniOf (top 2))) (L2.defBody (iniOf (top 2))) (L2.defScope (iniOf (top 2))) .none .none yd0 yp0 xa0 (.ref cda0) yt0 cc0), os0⟩)
    (xa0_m : PySem.W.codeIn K (.ref cda0) "BadWord.__init__" = true)
    (xa0_o : K.lookup cda0 = some ⟨y10, xd0, .fields vs0, o20⟩)
    (xa0_p : vs0[2]? = some (.str fi0 tf0))
    (xa0_q : ((PySem.Challenge.pw_hushedwires_k06_whole_words_numbered_asc.main.file : Str) == fi0) = true)
    (xa0_r : K.lookup cc0 = some ⟨y20, xe0, .cell (some (.ref C0)), o30⟩)
    (xa0_s : PySem.W.findIn K (.ref C0) "__getattribute__" = some (some (.builtin "BaseException.__getattribute__")))
    (xa0_t : PySem.W.findIn K (.ref C0) "__getattr__" = some none)
    (xa0_u : PySem.W.hasDictIn K C0 = true)
    (xa0_z : PySem.W.subIn K (.ref C0) (.type "StopIteration") = some false)
    (xa1_a : PySem.W.nsIn K mainGlobals "BadCount" = some (some (.ref C1)))
    (xa1_x : PySem.W.excIn K C1 [.type "ValueError", .type "Exception", .type "BaseException", .type "object"] "ValueError.__new__" = true)
    (xa1_f : PySem.W.keepIn K (.ref C1) = true)
    (xa1_g : PySem.W.subIn K (.ref C1) (.type "BaseException") = some true)
    (xa1_h : PySem.W.typeIn K (.ref C1) = some (.type "type"))
    (xa1_s : PySem.W.findIn K (.ref C1) "__getattribute__" = some (some (.builtin "BaseException.__getattribute__")))
    (xa1_t : PySem.W.findIn K (.ref C1) "__getattr__" = some none)
    (xa1_u : PySem.W.hasDictIn K C1 = true)
    (xa1_z : PySem.W.subIn K (.ref C1) (.type "StopIteration") = some false)
    (xa2_a : PySem.W.nsIn K mainGlobals "BadNumber" = some (some (.ref C2)))
    (xa2_x : PySem.W.excIn K C2 [.type "ValueError", .type "Exception", .type "BaseException", .type "object"] "ValueError.__new__" = true)
    (xa2_f : PySem.W.keepIn K (.ref C2) = true)
    (xa2_g : PySem.W.subIn K (.ref C2) (.type "BaseException") = some true)
    (xa2_h : PySem.W.typeIn K (.ref C2) = some (.type "type"))
    (xa2_s : PySem.W.findIn K (.ref C2) "__getattribute__" = some (some (.builtin "BaseException.__getattribute__")))
    (xa2_t : PySem.W.findIn K (.ref C2) "__getattr__" = some none)
    (xa2_u : PySem.W.hasDictIn K C2 = true)
    (xa2_z : PySem.W.subIn K (.ref C2) (.type "StopIteration") = some false)
    (xa3_a : PySem.W.nsIn K mainGlobals "TooMany" = some (some (.ref C3)))
    (xa3_b : K.lookup C3 = some (excClassObj nm3 q3 C3 N3 bs3 [.ref W3, .type "ValueError", .type "Exception", .type "BaseException", .type "object"] true sn3 sub3 ab3 col3 dd3 m0_3 m1_3 m2_3 m3_3 m5_3 "ValueError.__new__"))
    (xa3_c : PySem.W.findIn K (.ref C3) "__setattr__" = some (some (.builtin "object.__setattr__")))
    (xa3_n0 : PySem.W.findIn K (.ref C3) "most" = some none)
    (xa3_d : PySem.W.findIn K (.ref C3) "__init__" = some (some (.ref I3)))
    (xa3_e : PySem.W.typeIn K (.ref I3) = some (.type "function"))
    (xa3_f : PySem.W.keepIn K (.ref C3) = true)
    (xa3_g : PySem.W.subIn K (.ref C3) (.type "BaseException") = some true)
    (xa3_h : PySem.W.typeIn K (.ref C3) = some (.type "type"))
    (xa3_i : PySem.W.subIn K (.ref C3) (.type "ValueError") = some true)
    (xa3_j : PySem.W.mroIn K C3 (.ref C3) = some true)
    (xa3_k : PySem.W.ks_superIn K C3 C3 "__init__" = some (some (.builtin "ValueError.__init__")))
    (xa3_l : K.lookup I3 = some ⟨yo3, xo3, .func (PySem.W.ksFn "__init__" "TooMany.__init__" (L2.defArgs (iniOf (top 5))) (L2.defBody (iniOf (top 5))) (L2.defScope (iniOf (top 5))) .none .none yd3 yp3 xa3 (.ref cda3) yt3 cc3), os3⟩)
    (xa3_m : PySem.W.codeIn K (.ref cda3) "TooMany.__init__" = true)
    (xa3_o : K.lookup cda3 = some ⟨y13, xd3, .fields vs3, o23⟩)
    (xa3_p : vs3[2]? = some (.str fi3 tf3))
    (xa3_q : ((PySem.Challenge.pw_hushedwires_k06_whole_words_numbered_asc.main.file : Str) == fi3) = true)
    (xa3_r : K.lookup cc3 = some ⟨y23, xe3, .cell (some (.ref C3)), o33⟩)
    (xa3_s : PySem.W.findIn K (.ref C3) "__getattribute__" = some (some (.builtin "BaseException.__getattribute__")))
    (xa3_t : PySem.W.findIn K (.ref C3) "__getattr__" = some none)
    (xa3_u : PySem.W.hasDictIn K C3 = true)
    (xa3_z : PySem.W.subIn K (.ref C3) (.type "StopIteration") = some false)
    (opq : PySem.W.nsIn K cStatics "thirdparty.any" = some none)
    (noS : PySem.W.nsIn K mainGlobals "super" = some none)
    (e0_0 : PySem.W.exmOne K (.ref C0) (.ref C1) = some false)
    (e0_1 : PySem.W.exmOne K (.ref C1) (.ref C1) = some true)
    (e0_2 : PySem.W.exmOne K (.ref C2) (.ref C1) = some false)
    (e0_3 : PySem.W.exmOne K (.ref C3) (.ref C1) = some false)
    (e1_0 : PySem.W.exmOne K (.ref C0) (.ref C2) = some false)
    (e1_1 : PySem.W.exmOne K (.ref C1) (.ref C2) = some false)
    (e1_2 : PySem.W.exmOne K (.ref C2) (.ref C2) = some true)
    (e1_3 : PySem.W.exmOne K (.ref C3) (.ref C2) = some false)
    (e2_0 : PySem.W.exmOne K (.ref C0) (.ref C0) = some true)
    (e2_1 : PySem.W.exmOne K (.ref C1) (.ref C0) = some false)
    (e2_2 : PySem.W.exmOne K (.ref C2) (.ref C0) = some false)
    (e2_3 : PySem.W.exmOne K (.ref C3) (.ref C0) = some false)
    (e3_0 : PySem.W.exmOne K (.ref C0) (.ref C3) = some false)
    (e3_1 : PySem.W.exmOne K (.ref C1) (.ref C3) = some false)
    (e3_2 : PySem.W.exmOne K (.ref C2) (.ref C3) = some false)
    (e3_3 : PySem.W.exmOne K (.ref C3) (.ref C3) = some true) :
    EnvOk PySem.Challenge.pw_hushedwires_k06_whole_words_numbered_asc w K mg ⟨K, mg, fun _ => [], none, none, []⟩ Gam0 T0 ∧ FnE K mg Gam0 "law" d_law f19 (PySem.W.fnOf "law" "law" (L2.defArgs (top 30)) (L2.defBody (top 30)) (L2.defScope (top 30)) .none kV19 dc19 pm19 an19 cd19 ct19) ["_law_script"] := by
  have ex0 : ExTxt PySem.Challenge.pw_hushedwires_k06_whole_words_numbered_asc K mg "BadWord" C0 I0 (iniQ (defBody (iniOf (top 2)))).fs ["index", "what"] := ext_mk X G u_BadWord xa0_a xa0_b (show PySem.HandSPX.refsVE [.type "ValueError", .type "Exception", .type "BaseException", .type "object"] = true by decide +kernel) xa0_c (List.forall_mem_cons.mpr ⟨xa0_n0, List.forall_mem_cons.mpr ⟨xa0_n1, List.forall_mem_nil _⟩⟩) xa0_d xa0_e xa0_f xa0_g xa0_h xa0_i xa0_j xa0_k opq noS (by decide +kernel) xa0_l xa0_m xa0_o xa0_p xa0_q xa0_r (by decide +kernel) (by decide +kernel) (by decide +kernel) (by decide) (by simp)
  have ex3 : ExTxt PySem.Challenge.pw_hushedwires_k06_whole_words_numbered_asc K mg "TooMany" C3 I3 (iniQ (defBody (iniOf (top 5)))).fs ["most"] := ext_mk X G u_TooMany xa3_a xa3_b (show PySem.HandSPX.refsVE [.type "ValueError", .type "Exception", .type "BaseException", .type "object"] = true by decide +kernel) xa3_c (List.forall_mem_cons.mpr ⟨xa3_n0, List.forall_mem_nil _⟩) xa3_d xa3_e xa3_f xa3_g xa3_h xa3_i xa3_j xa3_k opq noS (by decide +kernel) xa3_l xa3_m xa3_o xa3_p xa3_q xa3_r (by decide +kernel) (by decide +kernel) (by decide +kernel) (by decide) (by simp)
  have fe : ∀ p ∈ fnL, ∃ fa fd ps, FnE K mg Gam0 p.1 p.2 fa fd ps :=
    all_cons (P := fun f d => ∃ fa fd ps, FnE K mg Gam0 f d fa fd ps) ⟨_, _, _, (fe_mkD (dvs := [.non, .non]) X G a0 l0 c0 k0 t0l (.cons rfl (.cons rfl (.nil))) rfl (by simp) s_is_whole c_is_whole rfl rfl (by decide) fun q hq T kV doc pm an cdv ct us its hu hi => match q, hq, us, hu, its, hi with | 0, _, [_], _, [_, _], _ => ⟨_, rfl, rfl⟩ | 1, _, [_, _], _, [_, _], _ => ⟨_, rfl, rfl⟩ | 2, _, [_, _, _], _, [_, _], _ => ⟨_, rfl, rfl⟩)⟩ (all_cons (P := fun f d => ∃ fa fd ps, FnE K mg Gam0 f d fa fd ps) ⟨_, _, _, (fe_mk X G a1 l1 c1 k1 s_check_row c_check_row rfl rfl rfl fun kV doc pm an cdv ct us hl => match us, hl with | [_], _ => rfl)⟩ (all_cons (P := fun f d => ∃ fa fd ps, FnE K mg Gam0 f d fa fd ps) ⟨_, _, _, (fe_mk X G a2 l2 c2 k2 s_check_signs c_check_signs rfl rfl rfl fun kV doc pm an cdv ct us hl => match us, hl with | [_], _ => rfl)⟩ (all_cons (P := fun f d => ∃ fa fd ps, FnE K mg Gam0 f d fa fd ps) ⟨_, _, _, (fe_mkD (dvs := [.int (24)]) X G a3 l3 c3 k3 t3l (.cons ⟨_, rfl⟩ (.nil)) rfl (by simp) s_check_count c_check_count rfl rfl (by decide) fun q hq T kV doc pm an cdv ct us its hu hi => match q, hq, us, hu, its, hi with | 0, _, [_], _, [_], _ => ⟨_, rfl, rfl⟩ | 1, _, [_, _], _, [_], _ => ⟨_, rfl, rfl⟩)⟩ (all_cons (P := fun f d => ∃ fa fd ps, FnE K mg Gam0 f d fa fd ps) ⟨_, _, _, (fe_mk X G a4 l4 c4 k4 s_number_of_word c_number_of_word rfl rfl rfl fun kV doc pm an cdv ct us hl => match us, hl with | [_], _ => rfl)⟩ (all_cons (P := fun f d => ∃ fa fd ps, FnE K mg Gam0 f d fa fd ps) ⟨_, _, _, (fe_mk X G a5 l5 c5 k5 s_word_by_number c_word_by_number rfl rfl rfl fun kV doc pm an cdv ct us hl => match us, hl with | [_, _], _ => rfl)⟩ (all_cons (P := fun f d => ∃ fa fd ps, FnE K mg Gam0 f d fa fd ps) ⟨_, _, _, (fe_mk X G a6 l6 c6 k6 s_signs_of c_signs_of rfl rfl rfl fun kV doc pm an cdv ct us hl => match us, hl with | [_, _], _ => rfl)⟩ (all_cons (P := fun f d => ∃ fa fd ps, FnE K mg Gam0 f d fa fd ps) ⟨_, _, _, (fe_mk X G a8 l8 c8 k8 s__law_hand c__law_hand rfl rfl rfl fun kV doc pm an cdv ct us hl => match us, hl with | [_], _ => rfl)⟩ (all_cons (P := fun f d => ∃ fa fd ps, FnE K mg Gam0 f d fa fd ps) ⟨_, _, _, (fe_mk X G a9 l9 c9 k9 s__law_mixed c__law_mixed rfl rfl rfl fun kV doc pm an cdv ct us hl => match us, hl with | [_, _], _ => rfl)⟩ (all_cons (P := fun f d => ∃ fa fd ps, FnE K mg Gam0 f d fa fd ps) ⟨_, _, _, (fe_mk X G a10 l10 c10 k10 s__law_take c__law_take rfl rfl rfl fun kV doc pm an cdv ct us hl => match us, hl with | [_, _], _ => rfl)⟩ (all_cons (P := fun f d => ∃ fa fd ps, FnE K mg Gam0 f d fa fd ps) ⟨_, _, _, (fe_mk X G a11 l11 c11 k11 s__law_signs c__law_signs rfl rfl rfl fun kV doc pm an cdv ct us hl => match us, hl with | [_, _], _ => rfl)⟩ (all_cons (P := fun f d => ∃ fa fd ps, FnE K mg Gam0 f d fa fd ps) ⟨_, _, _, (fe_mk X G a12 l12 c12 k12 s__law_word c__law_word rfl rfl rfl fun kV doc pm an cdv ct us hl => match us, hl with | [_, _], _ => rfl)⟩ (all_cons (P := fun f d => ∃ fa fd ps, FnE K mg Gam0 f d fa fd ps) ⟨_, _, _, (fe_mk X G a13 l13 c13 k13 s__law_is_word c__law_is_word rfl rfl rfl fun kV doc pm an cdv ct us hl => match us, hl with | [_, _], _ => rfl)⟩ (all_cons (P := fun f d => ∃ fa fd ps, FnE K mg Gam0 f d fa fd ps) ⟨_, _, _, (fe_mk X G a14 l14 c14 k14 s__law_count c__law_count rfl rfl rfl fun kV doc pm an cdv ct us hl => match us, hl with | [_], _ => rfl)⟩ (all_cons (P := fun f d => ∃ fa fd ps, FnE K mg Gam0 f d fa fd ps) ⟨_, _, _, (fe_mk X G a15 l15 c15 k15 s__law_by c__law_by rfl rfl rfl fun kV doc pm an cdv ct us hl => match us, hl with | [_, _], _ => rfl)⟩ (all_cons (P := fun f d => ∃ fa fd ps, FnE K mg Gam0 f d fa fd ps) ⟨_, _, _, (fe_mk X G a16 l16 c16 k16 s__law_number_told c__law_number_told rfl rfl rfl fun kV doc pm an cdv ct us hl => match us, hl with | [_], _ => rfl)⟩ (all_cons (P := fun f d => ∃ fa fd ps, FnE K mg Gam0 f d fa fd ps) ⟨_, _, _, (fe_mk X G a17 l17 c17 k17 s__law_each c__law_each rfl rfl rfl fun kV doc pm an cdv ct us hl => match us, hl with | [_], _ => rfl)⟩ (all_cons (P := fun f d => ∃ fa fd ps, FnE K mg Gam0 f d fa fd ps) ⟨_, _, _, (fe_mk X G a18 l18 c18 k18 s__law_is_number c__law_is_number rfl rfl rfl fun kV doc pm an cdv ct us hl => match us, hl with | [_, _], _ => rfl)⟩ (all_cons (P := fun f d => ∃ fa fd ps, FnE K mg Gam0 f d fa fd ps) ⟨_, _, _, (fe_mk X G a19 l19 c19 k19 s_law c_law rfl rfl rfl fun kV doc pm an cdv ct us hl => match us, hl with | [_], _ => rfl)⟩ (all_nil (P := fun f d => ∃ fa fd ps, FnE K mg Gam0 f d fa fd ps))))))))))))))))))))
  have ge : ∀ p ∈ gnL, ∃ fa fd ps, GnE K mg Gam0 p.1 p.2 fa fd ps :=
    all_cons (P := fun f d => ∃ fa fd ps, GnE K mg Gam0 f d fa fd ps) ⟨_, _, _, (ge_mk X G a7 l7 c7 k7 s_each_word c_each_word rfl rfl rfl fun kV doc pm an cdv ct us hl => match us, hl with | [_], _ => rfl)⟩ (all_nil (P := fun f d => ∃ fa fd ps, GnE K mg Gam0 f d fa fd ps))
  have gvs : ∀ p ∈ Gam0.gv, ∃ u w, mg p.1 = some u ∧ RelV w u ∧ ∀ S ρ, PR ⟨K, mg, fun _ => [], none, none, []⟩ S ρ p.2 w :=
    all_cons (P := fun x v => ∃ u w, mg x = some u ∧ RelV w u ∧ ∀ S ρ, PR ⟨K, mg, fun _ => [], none, none, []⟩ S ρ v w) ⟨_, .int (24), PySem.W.mg_of X G g0, ⟨_, rfl⟩, fun _ _ => .int _⟩ (all_cons (P := fun x v => ∃ u w, mg x = some u ∧ RelV w u ∧ ∀ S ρ, PR ⟨K, mg, fun _ => [], none, none, []⟩ S ρ v w) ⟨_, .int (12), PySem.W.mg_of X G g1, ⟨_, rfl⟩, fun _ _ => .int _⟩ (all_nil (P := fun x v => ∃ u w, mg x = some u ∧ RelV w u ∧ ∀ S ρ, PR ⟨K, mg, fun _ => [], none, none, []⟩ S ρ v w)))
  have xat : ∀ p ∈ Gam0.xc, ∃ A, mg p.1 = some (.ref A) ∧ XAt K A p.2 :=
    all_cons (P := fun C ns => ∃ A, mg C = some (.ref A) ∧ XAt K A ns) ⟨_, PySem.W.mg_of X G xa0_a, ⟨xa0_s, xa0_t, xa0_g, xa0_u, List.forall_mem_cons.mpr ⟨xa0_n0, List.forall_mem_cons.mpr ⟨xa0_n1, List.forall_mem_nil _⟩⟩⟩⟩ (all_cons (P := fun C ns => ∃ A, mg C = some (.ref A) ∧ XAt K A ns) ⟨_, PySem.W.mg_of X G xa1_a, ⟨xa1_s, xa1_t, xa1_g, xa1_u, List.forall_mem_nil _⟩⟩ (all_cons (P := fun C ns => ∃ A, mg C = some (.ref A) ∧ XAt K A ns) ⟨_, PySem.W.mg_of X G xa2_a, ⟨xa2_s, xa2_t, xa2_g, xa2_u, List.forall_mem_nil _⟩⟩ (all_cons (P := fun C ns => ∃ A, mg C = some (.ref A) ∧ XAt K A ns) ⟨_, PySem.W.mg_of X G xa3_a, ⟨xa3_s, xa3_t, xa3_g, xa3_u, List.forall_mem_cons.mpr ⟨xa3_n0, List.forall_mem_nil _⟩⟩⟩ (all_nil (P := fun C ns => ∃ A, mg C = some (.ref A) ∧ XAt K A ns)))))
  have exs : ∀ p ∈ Gam0.xc, (p.1 == ("__debug__" : Str)) = false ∧ ((∃ (A I : Addr) (fs : List FieldT), ExTxt PySem.Challenge.pw_hushedwires_k06_whole_words_numbered_asc K mg p.1 A I fs p.2) ∨ (p.2 = [] ∧ ∃ A : Addr, Exc0 K mg p.1 A)) :=
    all_cons (P := fun C ns => (C == ("__debug__" : Str)) = false ∧ ((∃ (A I : Addr) (fs : List FieldT), ExTxt PySem.Challenge.pw_hushedwires_k06_whole_words_numbered_asc K mg C A I fs ns) ∨ (ns = [] ∧ ∃ A : Addr, Exc0 K mg C A))) ⟨by decide, .inl ⟨_, _, _, ex0⟩⟩ (all_cons (P := fun C ns => (C == ("__debug__" : Str)) = false ∧ ((∃ (A I : Addr) (fs : List FieldT), ExTxt PySem.Challenge.pw_hushedwires_k06_whole_words_numbered_asc K mg C A I fs ns) ∨ (ns = [] ∧ ∃ A : Addr, Exc0 K mg C A))) ⟨by decide, .inr ⟨rfl, _, ⟨PySem.W.mg_of X G xa1_a, xa1_x, xa1_f, xa1_g, xa1_h⟩⟩⟩ (all_cons (P := fun C ns => (C == ("__debug__" : Str)) = false ∧ ((∃ (A I : Addr) (fs : List FieldT), ExTxt PySem.Challenge.pw_hushedwires_k06_whole_words_numbered_asc K mg C A I fs ns) ∨ (ns = [] ∧ ∃ A : Addr, Exc0 K mg C A))) ⟨by decide, .inr ⟨rfl, _, ⟨PySem.W.mg_of X G xa2_a, xa2_x, xa2_f, xa2_g, xa2_h⟩⟩⟩ (all_cons (P := fun C ns => (C == ("__debug__" : Str)) = false ∧ ((∃ (A I : Addr) (fs : List FieldT), ExTxt PySem.Challenge.pw_hushedwires_k06_whole_words_numbered_asc K mg C A I fs ns) ∨ (ns = [] ∧ ∃ A : Addr, Exc0 K mg C A))) ⟨by decide, .inl ⟨_, _, _, ex3⟩⟩ (all_nil (P := fun C ns => (C == ("__debug__" : Str)) = false ∧ ((∃ (A I : Addr) (fs : List FieldT), ExTxt PySem.Challenge.pw_hushedwires_k06_whole_words_numbered_asc K mg C A I fs ns) ∨ (ns = [] ∧ ∃ A : Addr, Exc0 K mg C A)))))))
  refine ⟨?_, fe_mk X G a19 l19 c19 k19 s_law c_law rfl rfl rfl fun kV doc pm an cdv ct us hl => match us, hl with | [_], _ => rfl⟩
  exact { hK := rfl, hmg := rfl, xa := rfl, xd := rfl, 
          fns := fun x np dfl e => by
            have e' : (fnL.lookup x).map (fun d => (d.np, d.dfl)) = some (np, dfl) := by rw [← lookup_map (g := fun d : Fn => (d.np, d.dfl))]; exact e
            cases q : fnL.lookup x with
            | none => rw [q] at e'; cases e'
            | some d => rw [q] at e'; cases e'; exact ⟨d, lookup_l q, rfl, rfl, by_list (P := fun f d => ∃ fa fd ps, FnE K mg Gam0 f d fa fd ps) fe q⟩,
          gns := fun x np dfl e => by
            have e' : (gnL.lookup x).map (fun d => (d.np, d.dfl)) = some (np, dfl) := by rw [← lookup_map (g := fun d : Fn => (d.np, d.dfl))]; exact e
            cases q : gnL.lookup x with
            | none => rw [q] at e'; cases e'
            | some d => rw [q] at e'; cases e'; exact ⟨d, lookup_r (by decide +kernel) q, rfl, rfl, by_list (P := fun f d => ∃ fa fd ps, GnE K mg Gam0 f d fa fd ps) ge q⟩,
          stop := fun x v e C ns cls x1 x2 => by_list (l := Gam0.xc) (P := fun C ns => ∀ cls, mg C = some cls → PySem.W.subIn K cls (.type "StopIteration") = some false) (all_cons (P := fun C ns => ∀ cls, mg C = some cls → PySem.W.subIn K cls (.type "StopIteration") = some false) (fun cls hc => by rw [PySem.W.mg_of X G xa0_a] at hc; cases hc; exact xa0_z) (all_cons (P := fun C ns => ∀ cls, mg C = some cls → PySem.W.subIn K cls (.type "StopIteration") = some false) (fun cls hc => by rw [PySem.W.mg_of X G xa1_a] at hc; cases hc; exact xa1_z) (all_cons (P := fun C ns => ∀ cls, mg C = some cls → PySem.W.subIn K cls (.type "StopIteration") = some false) (fun cls hc => by rw [PySem.W.mg_of X G xa2_a] at hc; cases hc; exact xa2_z) (all_cons (P := fun C ns => ∀ cls, mg C = some cls → PySem.W.subIn K cls (.type "StopIteration") = some false) (fun cls hc => by rw [PySem.W.mg_of X G xa3_a] at hc; cases hc; exact xa3_z) (all_nil (P := fun C ns => ∀ cls, mg C = some cls → PySem.W.subIn K cls (.type "StopIteration") = some false)))))) x1 cls x2,
          gv := fun x v e => ⟨e, by_list (P := fun x v => ∃ u w, mg x = some u ∧ RelV w u ∧ ∀ S ρ, PR ⟨K, mg, fun _ => [], none, none, []⟩ S ρ v w) gvs e⟩,
          bl := List.forall_mem_cons.mpr ⟨PySem.W.mg_none_of X G z0, List.forall_mem_cons.mpr ⟨PySem.W.mg_none_of X G z1, List.forall_mem_cons.mpr ⟨PySem.W.mg_none_of X G z2, List.forall_mem_cons.mpr ⟨PySem.W.mg_none_of X G z3, List.forall_mem_cons.mpr ⟨PySem.W.mg_none_of X G z4, List.forall_mem_cons.mpr ⟨PySem.W.mg_none_of X G z5, List.forall_mem_cons.mpr ⟨PySem.W.mg_none_of X G z6, List.forall_mem_nil _⟩⟩⟩⟩⟩⟩⟩,
          exc := fun C ns e => by
            obtain ⟨hd, t⟩ := by_list (P := fun C ns => (C == ("__debug__" : Str)) = false ∧ ((∃ (A I : Addr) (fs : List FieldT), ExTxt PySem.Challenge.pw_hushedwires_k06_whole_words_numbered_asc K mg C A I fs ns) ∨ (ns = [] ∧ ∃ A : Addr, Exc0 K mg C A))) exs e
            refine ⟨e, fun X n e1 e2 e3 e4 e5 e6 hr => ?_⟩
            rcases t with ⟨A, I, fs, t⟩ | ⟨e0, A, t⟩
            · exact exc_mk (X := X) (by rw [e1, e3, e4]; exact t) (by rw [e5, e4]) hr hd
            · subst e0
              exact exc_mk0 (X := X) (by rw [e3, e4]; exact t) (by rw [e5, e4]) hd,
          hcl := List.forall_mem_cons.mpr ⟨⟨(.ref C1), .inl (PySem.W.mg_of X G xa1_a), fun C ns cls x1 x2 => by_list (l := Gam0.xc) (P := fun C ns => ∀ cls, mg C = some cls → PySem.W.exmOne K cls (.ref C1) = some (T0.xsub C "BadCount")) (all_cons (P := fun C ns => ∀ cls, mg C = some cls → PySem.W.exmOne K cls (.ref C1) = some (T0.xsub C "BadCount")) (fun cls hc => by rw [PySem.W.mg_of X G xa0_a] at hc; cases hc; exact e0_0) (all_cons (P := fun C ns => ∀ cls, mg C = some cls → PySem.W.exmOne K cls (.ref C1) = some (T0.xsub C "BadCount")) (fun cls hc => by rw [PySem.W.mg_of X G xa1_a] at hc; cases hc; exact e0_1) (all_cons (P := fun C ns => ∀ cls, mg C = some cls → PySem.W.exmOne K cls (.ref C1) = some (T0.xsub C "BadCount")) (fun cls hc => by rw [PySem.W.mg_of X G xa2_a] at hc; cases hc; exact e0_2) (all_cons (P := fun C ns => ∀ cls, mg C = some cls → PySem.W.exmOne K cls (.ref C1) = some (T0.xsub C "BadCount")) (fun cls hc => by rw [PySem.W.mg_of X G xa3_a] at hc; cases hc; exact e0_3) (all_nil (P := fun C ns => ∀ cls, mg C = some cls → PySem.W.exmOne K cls (.ref C1) = some (T0.xsub C "BadCount"))))))) x1 cls x2⟩, List.forall_mem_cons.mpr ⟨⟨(.ref C2), .inl (PySem.W.mg_of X G xa2_a), fun C ns cls x1 x2 => by_list (l := Gam0.xc) (P := fun C ns => ∀ cls, mg C = some cls → PySem.W.exmOne K cls (.ref C2) = some (T0.xsub C "BadNumber")) (all_cons (P := fun C ns => ∀ cls, mg C = some cls → PySem.W.exmOne K cls (.ref C2) = some (T0.xsub C "BadNumber")) (fun cls hc => by rw [PySem.W.mg_of X G xa0_a] at hc; cases hc; exact e1_0) (all_cons (P := fun C ns => ∀ cls, mg C = some cls → PySem.W.exmOne K cls (.ref C2) = some (T0.xsub C "BadNumber")) (fun cls hc => by rw [PySem.W.mg_of X G xa1_a] at hc; cases hc; exact e1_1) (all_cons (P := fun C ns => ∀ cls, mg C = some cls → PySem.W.exmOne K cls (.ref C2) = some (T0.xsub C "BadNumber")) (fun cls hc => by rw [PySem.W.mg_of X G xa2_a] at hc; cases hc; exact e1_2) (all_cons (P := fun C ns => ∀ cls, mg C = some cls → PySem.W.exmOne K cls (.ref C2) = some (T0.xsub C "BadNumber")) (fun cls hc => by rw [PySem.W.mg_of X G xa3_a] at hc; cases hc; exact e1_3) (all_nil (P := fun C ns => ∀ cls, mg C = some cls → PySem.W.exmOne K cls (.ref C2) = some (T0.xsub C "BadNumber"))))))) x1 cls x2⟩, List.forall_mem_cons.mpr ⟨⟨(.ref C0), .inl (PySem.W.mg_of X G xa0_a), fun C ns cls x1 x2 => by_list (l := Gam0.xc) (P := fun C ns => ∀ cls, mg C = some cls → PySem.W.exmOne K cls (.ref C0) = some (T0.xsub C "BadWord")) (all_cons (P := fun C ns => ∀ cls, mg C = some cls → PySem.W.exmOne K cls (.ref C0) = some (T0.xsub C "BadWord")) (fun cls hc => by rw [PySem.W.mg_of X G xa0_a] at hc; cases hc; exact e2_0) (all_cons (P := fun C ns => ∀ cls, mg C = some cls → PySem.W.exmOne K cls (.ref C0) = some (T0.xsub C "BadWord")) (fun cls hc => by rw [PySem.W.mg_of X G xa1_a] at hc; cases hc; exact e2_1) (all_cons (P := fun C ns => ∀ cls, mg C = some cls → PySem.W.exmOne K cls (.ref C0) = some (T0.xsub C "BadWord")) (fun cls hc => by rw [PySem.W.mg_of X G xa2_a] at hc; cases hc; exact e2_2) (all_cons (P := fun C ns => ∀ cls, mg C = some cls → PySem.W.exmOne K cls (.ref C0) = some (T0.xsub C "BadWord")) (fun cls hc => by rw [PySem.W.mg_of X G xa3_a] at hc; cases hc; exact e2_3) (all_nil (P := fun C ns => ∀ cls, mg C = some cls → PySem.W.exmOne K cls (.ref C0) = some (T0.xsub C "BadWord"))))))) x1 cls x2⟩, List.forall_mem_cons.mpr ⟨⟨(.ref C3), .inl (PySem.W.mg_of X G xa3_a), fun C ns cls x1 x2 => by_list (l := Gam0.xc) (P := fun C ns => ∀ cls, mg C = some cls → PySem.W.exmOne K cls (.ref C3) = some (T0.xsub C "TooMany")) (all_cons (P := fun C ns => ∀ cls, mg C = some cls → PySem.W.exmOne K cls (.ref C3) = some (T0.xsub C "TooMany")) (fun cls hc => by rw [PySem.W.mg_of X G xa0_a] at hc; cases hc; exact e3_0) (all_cons (P := fun C ns => ∀ cls, mg C = some cls → PySem.W.exmOne K cls (.ref C3) = some (T0.xsub C "TooMany")) (fun cls hc => by rw [PySem.W.mg_of X G xa1_a] at hc; cases hc; exact e3_1) (all_cons (P := fun C ns => ∀ cls, mg C = some cls → PySem.W.exmOne K cls (.ref C3) = some (T0.xsub C "TooMany")) (fun cls hc => by rw [PySem.W.mg_of X G xa2_a] at hc; cases hc; exact e3_2) (all_cons (P := fun C ns => ∀ cls, mg C = some cls → PySem.W.exmOne K cls (.ref C3) = some (T0.xsub C "TooMany")) (fun cls hc => by rw [PySem.W.mg_of X G xa3_a] at hc; cases hc; exact e3_3) (all_nil (P := fun C ns => ∀ cls, mg C = some cls → PySem.W.exmOne K cls (.ref C3) = some (T0.xsub C "TooMany"))))))) x1 cls x2⟩, List.forall_mem_nil _⟩⟩⟩⟩,
          xat := fun C ns e => by_list (P := fun C ns => ∃ A, mg C = some (.ref A) ∧ XAt K A ns) xat e }
theorem law_mk {w : World} {K : PySem.W.Frag} {mg : Str → Option Value} {h : Heap} {fa : Addr} {kk : Nat} (X : K.In h) (G : h.Ns mainGlobals mg) (hmg : mg "law" = some (.ref fa)) (math : ∀ ns : List Int, ns.length ≤ 63 → (∀ z ∈ ns, Builtin.Int.intBits z ≤ 1048576) → ∃ wf G, callK T0 wf kk "law" [.scr ns] [] = .ok (.bl true) G)
    {f0 : Addr} {od0 an0 : Option Addr} {sl0 : Array (Option Value)} {oc0 kV0 dc0 pm0 cd0 ct0 : Value} {t0 : Addr} {tc0 : Value} {td0 : Option Addr} {tn0 : Nat} {ts0 : Array (Option Value)} {f1 : Addr} {od1 an1 : Option Addr} {sl1 : Array (Option Value)} {oc1 kV1 dc1 pm1 cd1 ct1 : Value} {f2 : Addr} {od2 an2 : Option Addr} {sl2 : Array (Option Value)} {oc2 kV2 dc2 pm2 cd2 ct2 : Value} {f3 : Addr} {od3 an3 : Option Addr} {sl3 : Array (Option Value)} {oc3 kV3 dc3 pm3 cd3 ct3 : Value} {t3 : Addr} {tc3 : Value} {td3 : Option Addr} {tn3 : Nat} {ts3 : Array (Option Value)} {tk3_0 : Tok} {f4 : Addr} {od4 an4 : Option Addr} {sl4 : Array (Option Value)} {oc4 kV4 dc4 pm4 cd4 ct4 : Value} {f5 : Addr} {od5 an5 : Option Addr} {sl5 : Array (Option Value)} {oc5 kV5 dc5 pm5 cd5 ct5 : Value} {f6 : Addr} {od6 an6 : Option Addr} {sl6 : Array (Option Value)} {oc6 kV6 dc6 pm6 cd6 ct6 : Value} {f7 : Addr} {od7 an7 : Option Addr} {sl7 : Array (Option Value)} {oc7 kV7 dc7 pm7 cd7 ct7 : Value} {f8 : Addr} {od8 an8 : Option Addr} {sl8 : Array (Option Value)} {oc8 kV8 dc8 pm8 cd8 ct8 : Value} {f9 : Addr} {od9 an9 : Option Addr} {sl9 : Array (Option Value)} {oc9 kV9 dc9 pm9 cd9 ct9 : Value} {f10 : Addr} {od10 an10 : Option Addr} {sl10 : Array (Option Value)} {oc10 kV10 dc10 pm10 cd10 ct10 : Value} {f11 : Addr} {od11 an11 : Option Addr} {sl11 : Array (Option Value)} {oc11 kV11 dc11 pm11 cd11 ct11 : Value} {f12 : Addr} {od12 an12 : Option Addr} {sl12 : Array (Option Value)} {oc12 kV12 dc12 pm12 cd12 ct12 : Value} {f13 : Addr} {od13 an13 : Option Addr} {sl13 : Array (Option Value)} {oc13 kV13 dc13 pm13 cd13 ct13 : Value} {f14 : Addr} {od14 an14 : Option Addr} {sl14 : Array (Option Value)} {oc14 kV14 dc14 pm14 cd14 ct14 : Value} {f15 : Addr} {od15 an15 : Option Addr} {sl15 : Array (Option Value)} {oc15 kV15 dc15 pm15 cd15 ct15 : Value} {f16 : Addr} {od16 an16 : Option Addr} {sl16 : Array (Option Value)} {oc16 kV16 dc16 pm16 cd16 ct16 : Value} {f17 : Addr} {od17 an17 : Option Addr} {sl17 : Array (Option Value)} {oc17 kV17 dc17 pm17 cd17 ct17 : Value} {f18 : Addr} {od18 an18 : Option Addr} {sl18 : Array (Option Value)} {oc18 kV18 dc18 pm18 cd18 ct18 : Value} {f19 : Addr} {od19 an19 : Option Addr} {sl19 : Array (Option Value)} {oc19 kV19 dc19 pm19 cd19 ct19 : Value} {gt0 : Tok} {gt1 : Tok} {C0 I0 N0 W0 cda0 cc0 : Addr} {nm0 q0 : Str} {bs0 : List Value} {sn0 : List Str} {sub0 : List Value} {ab0 : Bool} {col0 : Option Bool} {dd0 xo0 xa0 xd0 xe0 : Option Addr} {m0_0 m1_0 m2_0 m3_0 m5_0 : Option Value} {yo0 yd0 yp0 yt0 y10 y20 : Value} {os0 o20 o30 : Array (Option Value)} {vs0 : Array Value} {fi0 : Str} {tf0 : Tok} {C1 : Addr} {C2 : Addr} {C3 I3 N3 W3 cda3 cc3 : Addr} {nm3 q3 : Str} {bs3 : List Value} {sn3 : List Str} {sub3 : List Value} {ab3 : Bool} {col3 : Option Bool} {dd3 xo3 xa3 xd3 xe3 : Option Addr} {m0_3 m1_3 m2_3 m3_3 m5_3 : Option Value} {yo3 yd3 yp3 yt3 y13 y23 : Value} {os3 o23 o33 : Array (Option Value)} {vs3 : Array Value} {fi3 : Str} {tf3 : Tok}
    (a0 : PySem.W.nsIn K mainGlobals "is_whole" = some (some (.ref f0)))
    (l0 : K.lookup f0 = some ⟨oc0, od0, .func (PySem.W.fnOf "is_whole" "is_whole" (L2.defArgs (top 7)) (L2.defBody (top 7)) (L2.defScope (top 7)) (.ref t0) kV0 dc0 pm0 an0 cd0 ct0), sl0⟩)
    (c0 : PySem.W.codeIn K cd0 "is_whole" = true)
    (k0 : PySem.W.keepIn K (.ref f0) = true)
    (t0l : K.lookup t0 = some ⟨tc0, td0, .seq ([.none, .none] : List Value).toArray tn0, ts0⟩)
    (a1 : PySem.W.nsIn K mainGlobals "check_row" = some (some (.ref f1)))
    (l1 : K.lookup f1 = some ⟨oc1, od1, .func (PySem.W.fnOf "check_row" "check_row" (L2.defArgs (top 11)) (L2.defBody (top 11)) (L2.defScope (top 11)) .none kV1 dc1 pm1 an1 cd1 ct1), sl1⟩)
    (c1 : PySem.W.codeIn K cd1 "check_row" = true)
    (k1 : PySem.W.keepIn K (.ref f1) = true)
    (a2 : PySem.W.nsIn K mainGlobals "check_signs" = some (some (.ref f2)))
    (l2 : K.lookup f2 = some ⟨oc2, od2, .func (PySem.W.fnOf "check_signs" "check_signs" (L2.defArgs (top 12)) (L2.defBody (top 12)) (L2.defScope (top 12)) .none kV2 dc2 pm2 an2 cd2 ct2), sl2⟩)
    (c2 : PySem.W.codeIn K cd2 "check_signs" = true)
    (k2 : PySem.W.keepIn K (.ref f2) = true)
    (a3 : PySem.W.nsIn K mainGlobals "check_count" = some (some (.ref f3)))
    (l3 : K.lookup f3 = some ⟨oc3, od3, .func (PySem.W.fnOf "check_count" "check_count" (L2.defArgs (top 13)) (L2.defBody (top 13)) (L2.defScope (top 13)) (.ref t3) kV3 dc3 pm3 an3 cd3 ct3), sl3⟩)
    (c3 : PySem.W.codeIn K cd3 "check_count" = true)
    (k3 : PySem.W.keepIn K (.ref f3) = true)
    (t3l : K.lookup t3 = some ⟨tc3, td3, .seq ([.int (24) tk3_0] : List Value).toArray tn3, ts3⟩)
    (a4 : PySem.W.nsIn K mainGlobals "number_of_word" = some (some (.ref f4)))
    (l4 : K.lookup f4 = some ⟨oc4, od4, .func (PySem.W.fnOf "number_of_word" "number_of_word" (L2.defArgs (top 14)) (L2.defBody (top 14)) (L2.defScope (top 14)) .none kV4 dc4 pm4 an4 cd4 ct4), sl4⟩)
    (c4 : PySem.W.codeIn K cd4 "number_of_word" = true)
    (k4 : PySem.W.keepIn K (.ref f4) = true)
    (a5 : PySem.W.nsIn K mainGlobals "word_by_number" = some (some (.ref f5)))
    (l5 : K.lookup f5 = some ⟨oc5, od5, .func (PySem.W.fnOf "word_by_number" "word_by_number" (L2.defArgs (top 15)) (L2.defBody (top 15)) (L2.defScope (top 15)) .none kV5 dc5 pm5 an5 cd5 ct5), sl5⟩)
    (c5 : PySem.W.codeIn K cd5 "word_by_number" = true)
    (k5 : PySem.W.keepIn K (.ref f5) = true)
    (a6 : PySem.W.nsIn K mainGlobals "signs_of" = some (some (.ref f6)))
    (l6 : K.lookup f6 = some ⟨oc6, od6, .func (PySem.W.fnOf "signs_of" "signs_of" (L2.defArgs (top 16)) (L2.defBody (top 16)) (L2.defScope (top 16)) .none kV6 dc6 pm6 an6 cd6 ct6), sl6⟩)
    (c6 : PySem.W.codeIn K cd6 "signs_of" = true)
    (k6 : PySem.W.keepIn K (.ref f6) = true)
    (a7 : PySem.W.nsIn K mainGlobals "each_word" = some (some (.ref f7)))
    (l7 : K.lookup f7 = some ⟨oc7, od7, .func (PySem.W.fnOf "each_word" "each_word" (L2.defArgs (top 17)) (L2.defBody (top 17)) (L2.defScope (top 17)) .none kV7 dc7 pm7 an7 cd7 ct7), sl7⟩)
    (c7 : PySem.W.codeIn K cd7 "each_word" = true)
    (k7 : PySem.W.keepIn K (.ref f7) = true)
    (a8 : PySem.W.nsIn K mainGlobals "_law_hand" = some (some (.ref f8)))
    (l8 : K.lookup f8 = some ⟨oc8, od8, .func (PySem.W.fnOf "_law_hand" "_law_hand" (L2.defArgs (top 19)) (L2.defBody (top 19)) (L2.defScope (top 19)) .none kV8 dc8 pm8 an8 cd8 ct8), sl8⟩)
    (c8 : PySem.W.codeIn K cd8 "_law_hand" = true)
    (k8 : PySem.W.keepIn K (.ref f8) = true)
    (a9 : PySem.W.nsIn K mainGlobals "_law_mixed" = some (some (.ref f9)))
    (l9 : K.lookup f9 = some ⟨oc9, od9, .func (PySem.W.fnOf "_law_mixed" "_law_mixed" (L2.defArgs (top 20)) (L2.defBody (top 20)) (L2.defScope (top 20)) .none kV9 dc9 pm9 an9 cd9 ct9), sl9⟩)
    (c9 : PySem.W.codeIn K cd9 "_law_mixed" = true)
    (k9 : PySem.W.keepIn K (.ref f9) = true)
    (a10 : PySem.W.nsIn K mainGlobals "_law_take" = some (some (.ref f10)))
    (l10 : K.lookup f10 = some ⟨oc10, od10, .func (PySem.W.fnOf "_law_take" "_law_take" (L2.defArgs (top 21)) (L2.defBody (top 21)) (L2.defScope (top 21)) .none kV10 dc10 pm10 an10 cd10 ct10), sl10⟩)
    (c10 : PySem.W.codeIn K cd10 "_law_take" = true)
    (k10 : PySem.W.keepIn K (.ref f10) = true)
    (a11 : PySem.W.nsIn K mainGlobals "_law_signs" = some (some (.ref f11)))
    (l11 : K.lookup f11 = some ⟨oc11, od11, .func (PySem.W.fnOf "_law_signs" "_law_signs" (L2.defArgs (top 22)) (L2.defBody (top 22)) (L2.defScope (top 22)) .none kV11 dc11 pm11 an11 cd11 ct11), sl11⟩)
    (c11 : PySem.W.codeIn K cd11 "_law_signs" = true)
    (k11 : PySem.W.keepIn K (.ref f11) = true)
    (a12 : PySem.W.nsIn K mainGlobals "_law_word" = some (some (.ref f12)))
    (l12 : K.lookup f12 = some ⟨oc12, od12, .func (PySem.W.fnOf "_law_word" "_law_word" (L2.defArgs (top 23)) (L2.defBody (top 23)) (L2.defScope (top 23)) .none kV12 dc12 pm12 an12 cd12 ct12), sl12⟩)
    (c12 : PySem.W.codeIn K cd12 "_law_word" = true)
    (k12 : PySem.W.keepIn K (.ref f12) = true)
    (a13 : PySem.W.nsIn K mainGlobals "_law_is_word" = some (some (.ref f13)))
    (l13 : K.lookup f13 = some ⟨oc13, od13, .func (PySem.W.fnOf "_law_is_word" "_law_is_word" (L2.defArgs (top 24)) (L2.defBody (top 24)) (L2.defScope (top 24)) .none kV13 dc13 pm13 an13 cd13 ct13), sl13⟩)
    (c13 : PySem.W.codeIn K cd13 "_law_is_word" = true)
    (k13 : PySem.W.keepIn K (.ref f13) = true)
    (a14 : PySem.W.nsIn K mainGlobals "_law_count" = some (some (.ref f14)))
    (l14 : K.lookup f14 = some ⟨oc14, od14, .func (PySem.W.fnOf "_law_count" "_law_count" (L2.defArgs (top 25)) (L2.defBody (top 25)) (L2.defScope (top 25)) .none kV14 dc14 pm14 an14 cd14 ct14), sl14⟩)
    (c14 : PySem.W.codeIn K cd14 "_law_count" = true)
    (k14 : PySem.W.keepIn K (.ref f14) = true)
    (a15 : PySem.W.nsIn K mainGlobals "_law_by" = some (some (.ref f15)))
    (l15 : K.lookup f15 = some ⟨oc15, od15, .func (PySem.W.fnOf "_law_by" "_law_by" (L2.defArgs (top 26)) (L2.defBody (top 26)) (L2.defScope (top 26)) .none kV15 dc15 pm15 an15 cd15 ct15), sl15⟩)
    (c15 : PySem.W.codeIn K cd15 "_law_by" = true)
    (k15 : PySem.W.keepIn K (.ref f15) = true)
    (a16 : PySem.W.nsIn K mainGlobals "_law_number_told" = some (some (.ref f16)))
    (l16 : K.lookup f16 = some ⟨oc16, od16, .func (PySem.W.fnOf "_law_number_told" "_law_number_told" (L2.defArgs (top 27)) (L2.defBody (top 27)) (L2.defScope (top 27)) .none kV16 dc16 pm16 an16 cd16 ct16), sl16⟩)
    (c16 : PySem.W.codeIn K cd16 "_law_number_told" = true)
    (k16 : PySem.W.keepIn K (.ref f16) = true)
    (a17 : PySem.W.nsIn K mainGlobals "_law_each" = some (some (.ref f17)))
    (l17 : K.lookup f17 = some ⟨oc17, od17, .func (PySem.W.fnOf "_law_each" "_law_each" (L2.defArgs (top 28)) (L2.defBody (top 28)) (L2.defScope (top 28)) .none kV17 dc17 pm17 an17 cd17 ct17), sl17⟩)
    (c17 : PySem.W.codeIn K cd17 "_law_each" = true)
    (k17 : PySem.W.keepIn K (.ref f17) = true)
    (a18 : PySem.W.nsIn K mainGlobals "_law_is_number" = some (some (.ref f18)))
    (l18 : K.lookup f18 = some ⟨oc18, od18, .func (PySem.W.fnOf "_law_is_number" "_law_is_number" (L2.defArgs (top 29)) (L2.defBody (top 29)) (L2.defScope (top 29)) .none kV18 dc18 pm18 an18 cd18 ct18), sl18⟩)
    (c18 : PySem.W.codeIn K cd18 "_law_is_number" = true)
    (k18 : PySem.W.keepIn K (.ref f18) = true)
    (a19 : PySem.W.nsIn K mainGlobals "law" = some (some (.ref f19)))
    (l19 : K.lookup f19 = some ⟨oc19, od19, .func (PySem.W.fnOf "law" "law" (L2.defArgs (top 30)) (L2.defBody (top 30)) (L2.defScope (top 30)) .none kV19 dc19 pm19 an19 cd19 ct19), sl19⟩)
    (c19 : PySem.W.codeIn K cd19 "law" = true)
    (k19 : PySem.W.keepIn K (.ref f19) = true)
    (g0 : PySem.W.nsIn K mainGlobals "MOST_SECTIONS" = some (some (.int (24) gt0)))
    (g1 : PySem.W.nsIn K mainGlobals "MOST_EACH" = some (some (.int (12) gt1)))
    (z0 : PySem.W.nsIn K mainGlobals "isinstance" = some none)
    (z1 : PySem.W.nsIn K mainGlobals "bool" = some none)
    (z2 : PySem.W.nsIn K mainGlobals "int" = some none)
    (z3 : PySem.W.nsIn K mainGlobals "range" = some none)
    (z4 : PySem.W.nsIn K mainGlobals "tuple" = some none)
    (z5 : PySem.W.nsIn K mainGlobals "len" = some none)
    (z6 : PySem.W.nsIn K mainGlobals "list" = some none)
    (xa0_a : PySem.W.nsIn K mainGlobals "BadWord" = some (some (.ref C0)))
    (xa0_b : K.lookup C0 = some (excClassObj nm0 q0 C0 N0 bs0 [.ref W0, .type "ValueError", .type "Exception", .type "BaseException", .type "object"] true sn0 sub0 ab0 col0 dd0 m0_0 m1_0 m2_0 m3_0 m5_0 "ValueError.__new__"))
    (xa0_c : PySem.W.findIn K (.ref C0) "__setattr__" = some (some (.builtin "object.__setattr__")))
    (xa0_n0 : PySem.W.findIn K (.ref C0) "index" = some none)
    (xa0_n1 : PySem.W.findIn K (.ref C0) "what" = some none)
    (xa0_d : PySem.W.findIn K (.ref C0) "__init__" = some (some (.ref I0)))
    (xa0_e : PySem.W.typeIn K (.ref I0) = some (.type "function"))
    (xa0_f : PySem.W.keepIn K (.ref C0) = true)
    (xa0_g : PySem.W.subIn K (.ref C0) (.type "BaseException") = some true)
    (xa0_h : PySem.W.typeIn K (.ref C0) = some (.type "type"))
    (xa0_i : PySem.W.subIn K (.ref C0) (.type "ValueError") = some true)
    (xa0_j : PySem.W.mroIn K C0 (.ref C0) = some true)
    (xa0_k : PySem.W.ks_superIn K C0 C0 "__init__" = some (some (.builtin "ValueError.__init__")))
    (xa0_l : K.lookup I0 = some ⟨yo0, xo0, .func (PySem.W.ksFn "__init__" "BadWord.__init__" (L2.defArgs (iniOf (top 2))) (L2.defBody (iniOf (top 2))) (L2.defScope (iniOf (top 2))) .none .none yd0 yp0 xa0 (.ref cda0) yt0 cc0), os0⟩)
    (xa0_m : PySem.W.codeIn K (.ref cda0) "BadWord.__init__" = true)
    (xa0_o : K.lookup cda0 = some ⟨y10, xd0, .fields vs0, o20⟩)
    (xa0_p : vs0[2]? = some (.str fi0 tf0))
    (xa0_q : ((PySem.Challenge.pw_hushedwires_k06_whole_words_numbered_asc.main.file : Str) == fi0) = true)
    (xa0_r : K.lookup cc0 = some ⟨y20, xe0, .cell (some (.ref C0)), o30⟩)
    (xa0_s : PySem.W.findIn K (.ref C0) "__getattribute__" = some (some (.builtin "BaseException.__getattribute__")))
    (xa0_t : PySem.W.findIn K (.ref C0) "__getattr__" = some none)
    (xa0_u : PySem.W.hasDictIn K C0 = true)
    (xa0_z : PySem.W.subIn K (.ref C0) (.type "StopIteration") = some false)
    (xa1_a : PySem.W.nsIn K mainGlobals "BadCount" = some (some (.ref C1)))
    (xa1_x : PySem.W.excIn K C1 [.type "ValueError", .type "Exception", .type "BaseException", .type "object"] "ValueError.__new__" = true)
    (xa1_f : PySem.W.keepIn K (.ref C1) = true)
    (xa1_g : PySem.W.subIn K (.ref C1) (.type "BaseException") = some true)
    (xa1_h : PySem.W.typeIn K (.ref C1) = some (.type "type"))
    (xa1_s : PySem.W.findIn K (.ref C1) "__getattribute__" = some (some (.builtin "BaseException.__getattribute__")))
    (xa1_t : PySem.W.findIn K (.ref C1) "__getattr__" = some none)
    (xa1_u : PySem.W.hasDictIn K C1 = true)
    (xa1_z : PySem.W.subIn K (.ref C1) (.type "StopIteration") = some false)
    (xa2_a : PySem.W.nsIn K mainGlobals "BadNumber" = some (some (.ref C2)))
    (xa2_x : PySem.W.excIn K C2 [.type "ValueError", .type "Exception", .type "BaseException", .type "object"] "ValueError.__new__" = true)
    (xa2_f : PySem.W.keepIn K (.ref C2) = true)
    (xa2_g : PySem.W.subIn K (.ref C2) (.type "BaseException") = some true)
    (xa2_h : PySem.W.typeIn K (.ref C2) = some (.type "type"))
    (xa2_s : PySem.W.findIn K (.ref C2) "__getattribute__" = some (some (.builtin "BaseException.__getattribute__")))
    (xa2_t : PySem.W.findIn K (.ref C2) "__getattr__" = some none)
    (xa2_u : PySem.W.hasDictIn K C2 = true)
    (xa2_z : PySem.W.subIn K (.ref C2) (.type "StopIteration") = some false)
    (xa3_a : PySem.W.nsIn K mainGlobals "TooMany" = some (some (.ref C3)))
    (xa3_b : K.lookup C3 = some (excClassObj nm3 q3 C3 N3 bs3 [.ref W3, .type "ValueError", .type "Exception", .type "BaseException", .type "object"] true sn3 sub3 ab3 col3 dd3 m0_3 m1_3 m2_3 m3_3 m5_3 "ValueError.__new__"))
    (xa3_c : PySem.W.findIn K (.ref C3) "__setattr__" = some (some (.builtin "object.__setattr__")))
    (xa3_n0 : PySem.W.findIn K (.ref C3) "most" = some none)
    (xa3_d : PySem.W.findIn K (.ref C3) "__init__" = some (some (.ref I3)))
    (xa3_e : PySem.W.typeIn K (.ref I3) = some (.type "function"))
    (xa3_f : PySem.W.keepIn K (.ref C3) = true)
    (xa3_g : PySem.W.subIn K (.ref C3) (.type "BaseException") = some true)
    (xa3_h : PySem.W.typeIn K (.ref C3) = some (.type "type"))
    (xa3_i : PySem.W.subIn K (.ref C3) (.type "ValueError") = some true)
    (xa3_j : PySem.W.mroIn K C3 (.ref C3) = some true)
    (xa3_k : PySem.W.ks_superIn K C3 C3 "__init__" = some (some (.builtin "ValueError.__init__")))
    (xa3_l : K.lookup I3 = some ⟨yo3, xo3, .func (PySem.W.ksFn "__init__" "TooMany.__init__" (L2.defArgs (iniOf (top 5))) (L2.defBody (iniOf (top 5))) (L2.defScope (iniOf (top 5))) .none .none yd3 yp3 xa3 (.ref cda3) yt3 cc3), os3⟩)
    (xa3_m : PySem.W.codeIn K (.ref cda3) "TooMany.__init__" = true)
    (xa3_o : K.lookup cda3 = some ⟨y13, xd3, .fields vs3, o23⟩)
    (xa3_p : vs3[2]? = some (.str fi3 tf3))
    (xa3_q : ((PySem.Challenge.pw_hushedwires_k06_whole_words_numbered_asc.main.file : Str) == fi3) = true)
    (xa3_r : K.lookup cc3 = some ⟨y23, xe3, .cell (some (.ref C3)), o33⟩)
    (xa3_s : PySem.W.findIn K (.ref C3) "__getattribute__" = some (some (.builtin "BaseException.__getattribute__")))
    (xa3_t : PySem.W.findIn K (.ref C3) "__getattr__" = some none)
    (xa3_u : PySem.W.hasDictIn K C3 = true)
    (xa3_z : PySem.W.subIn K (.ref C3) (.type "StopIteration") = some false)
    (opq : PySem.W.nsIn K cStatics "thirdparty.any" = some none)
    (noS : PySem.W.nsIn K mainGlobals "super" = some none)
    (e0_0 : PySem.W.exmOne K (.ref C0) (.ref C1) = some false)
    (e0_1 : PySem.W.exmOne K (.ref C1) (.ref C1) = some true)
    (e0_2 : PySem.W.exmOne K (.ref C2) (.ref C1) = some false)
    (e0_3 : PySem.W.exmOne K (.ref C3) (.ref C1) = some false)
    (e1_0 : PySem.W.exmOne K (.ref C0) (.ref C2) = some false)
    (e1_1 : PySem.W.exmOne K (.ref C1) (.ref C2) = some false)
    (e1_2 : PySem.W.exmOne K (.ref C2) (.ref C2) = some true)
    (e1_3 : PySem.W.exmOne K (.ref C3) (.ref C2) = some false)
    (e2_0 : PySem.W.exmOne K (.ref C0) (.ref C0) = some true)
    (e2_1 : PySem.W.exmOne K (.ref C1) (.ref C0) = some false)
    (e2_2 : PySem.W.exmOne K (.ref C2) (.ref C0) = some false)
    (e2_3 : PySem.W.exmOne K (.ref C3) (.ref C0) = some false)
    (e3_0 : PySem.W.exmOne K (.ref C0) (.ref C3) = some false)
    (e3_1 : PySem.W.exmOne K (.ref C1) (.ref C3) = some false)
    (e3_2 : PySem.W.exmOne K (.ref C2) (.ref C3) = some false)
    (e3_3 : PySem.W.exmOne K (.ref C3) (.ref C3) = some true) :
    LamX.LawAtS PySem.Challenge.rw_hushedwires_k06_whole_words_numbered_asc w K (L2.CX PySem.Challenge.pw_hushedwires_k06_whole_words_numbered_asc w) (4 * kk + 3) 63 "_law_script" mg fa h := by
  obtain ⟨V, fe⟩ := env_mk (w := w) X G a0 l0 c0 k0 t0l a1 l1 c1 k1 a2 l2 c2 k2 a3 l3 c3 k3 t3l a4 l4 c4 k4 a5 l5 c5 k5 a6 l6 c6 k6 a7 l7 c7 k7 a8 l8 c8 k8 a9 l9 c9 k9 a10 l10 c10 k10 a11 l11 c11 k11 a12 l12 c12 k12 a13 l13 c13 k13 a14 l14 c14 k14 a15 l15 c15 k15 a16 l16 c16 k16 a17 l17 c17 k17 a18 l18 c18 k18 a19 l19 c19 k19 g0 g1 z0 z1 z2 z3 z4 z5 z6 xa0_a xa0_b xa0_c xa0_n0 xa0_n1 xa0_d xa0_e xa0_f xa0_g xa0_h xa0_i xa0_j xa0_k xa0_l xa0_m xa0_o xa0_p xa0_q xa0_r xa0_s xa0_t xa0_u xa0_z xa1_a xa1_x xa1_f xa1_g xa1_h xa1_s xa1_t xa1_u xa1_z xa2_a xa2_x xa2_f xa2_g xa2_h xa2_s xa2_t xa2_u xa2_z xa3_a xa3_b xa3_c xa3_n0 xa3_d xa3_e xa3_f xa3_g xa3_h xa3_i xa3_j xa3_k xa3_l xa3_m xa3_o xa3_p xa3_q xa3_r xa3_s xa3_t xa3_u xa3_z opq noS e0_0 e0_1 e0_2 e0_3 e1_0 e1_1 e1_2 e1_3 e2_0 e2_1 e2_2 e2_3 e3_0 e3_1 e3_2 e3_3
  have e := fe.mgf
  rw [hmg] at e
  cases e
  exact law_at (l := PySem.Challenge.rw_hushedwires_k06_whole_words_numbered_asc) V rfl rfl fe (fun s u => .of_eq rfl) math
end
end Lw
end

section
namespace Lw
open PySem Gm Cm
theorem tr0 : Tr T0 := ⟨by kernel_rfl, by kernel_rfl, by kernel_rfl, by kernel_rfl, by kernel_rfl, by kernel_rfl⟩
theorem t60 : T6 T0 := ⟨tr0, by kernel_rfl, by kernel_rfl, by kernel_rfl, by kernel_rfl, by kernel_rfl, by kernel_rfl, by kernel_rfl, by kernel_rfl, by kernel_rfl, by kernel_rfl, by kernel_rfl, by kernel_rfl, by kernel_rfl, by kernel_rfl, by kernel_rfl, by kernel_rfl, by kernel_rfl, by kernel_rfl, by kernel_rfl, by kernel_rfl, by kernel_rfl, by kernel_rfl, by kernel_rfl, by kernel_rfl, by kernel_rfl⟩
theorem lw0 : T0.fn "law" = some dL6 := by kernel_rfl
def depth : Nat := 6
theorem math (ns : List Int) (h : ns.length ≤ 63) (_ : ∀ z ∈ ns, Builtin.Int.intBits z ≤ 1048576) : ∃ wf G, callK T0 wf depth "law" [.scr ns] [] = .ok (.bl true) G := ⟨0, law_ok6 (k := 0) t60 lw0 h⟩
end Lw
end
open PySem PySem.W PyProof.Rows in
set_option maxHeartbeats 80000000 in
open_top head for PySem.Challenge.rw_hushedwires_k06_whole_words_numbered_asc
set_option maxHeartbeats 80000000
open PySem PySem.W PyProof.Rows
theorem PySem.Challenge.cw_hushedwires_k06_whole_words_numbered_asc_holds : PySem.Challenge.rw_hushedwires_k06_whole_words_numbered_asc.Holds := by
  refine head ?_
  refine LamX.walk_ofTs (l := PySem.Challenge.rw_hushedwires_k06_whole_words_numbered_asc) (n := 63) (k := 4 * Lw.depth + 3) (x := "_law_script") (CX := fun w => L2.CX PySem.Challenge.pw_hushedwires_k06_whole_words_numbered_asc w) rfl (by decide) rfl ⟨rfl, by decide, by decide⟩ (fun w h Y => PySem.W.kIn_of Y) ?F (fun w H s e s' h => Gm.cx_end H s e s' h)
  case F =>
    intro w mg fa h Y KX G hmg
    refine' Lw.law_mk KX G hmg Lw.math ?a0 ?l0 ?c0 ?k0 ?t0l ?a1 ?l1 ?c1 ?k1 ?a2 ?l2 ?c2 ?k2 ?a3 ?l3 ?c3 ?k3 ?t3l ?a4 ?l4 ?c4 ?k4 ?a5 ?l5 ?c5 ?k5 ?a6 ?l6 ?c6 ?k6 ?a7 ?l7 ?c7 ?k7 ?a8 ?l8 ?c8 ?k8 ?a9 ?l9 ?c9 ?k9 ?a10 ?l10 ?c10 ?k10 ?a11 ?l11 ?c11 ?k11 ?a12 ?l12 ?c12 ?k12 ?a13 ?l13 ?c13 ?k13 ?a14 ?l14 ?c14 ?k14 ?a15 ?l15 ?c15 ?k15 ?a16 ?l16 ?c16 ?k16 ?a17 ?l17 ?c17 ?k17 ?a18 ?l18 ?c18 ?k18 ?a19 ?l19 ?c19 ?k19 ?g0 ?g1 ?z0 ?z1 ?z2 ?z3 ?z4 ?z5 ?z6 ?xa0_a ?xa0_b ?xa0_c ?xa0_n0 ?xa0_n1 ?xa0_d ?xa0_e ?xa0_f ?xa0_g ?xa0_h ?xa0_i ?xa0_j ?xa0_k ?xa0_l ?xa0_m ?xa0_o ?xa0_p ?xa0_q ?xa0_r ?xa0_s ?xa0_t ?xa0_u ?xa0_z ?xa1_a ?xa1_x ?xa1_f ?xa1_g ?xa1_h ?xa1_s ?xa1_t ?xa1_u ?xa1_z ?xa2_a ?xa2_x ?xa2_f ?xa2_g ?xa2_h ?xa2_s ?xa2_t ?xa2_u ?xa2_z ?xa3_a ?xa3_b ?xa3_c ?xa3_n0 ?xa3_d ?xa3_e ?xa3_f ?xa3_g ?xa3_h ?xa3_i ?xa3_j ?xa3_k ?xa3_l ?xa3_m ?xa3_o ?xa3_p ?xa3_q ?xa3_r ?xa3_s ?xa3_t ?xa3_u ?xa3_z ?opq ?noS ?e0_0 ?e0_1 ?e0_2 ?e0_3 ?e1_0 ?e1_1 ?e1_2 ?e1_3 ?e2_0 ?e2_1 ?e2_2 ?e2_3 ?e3_0 ?e3_1 ?e3_2 ?e3_3
    (case a0 => k_is)
    (case l0 => k_is)
    (case c0 => k_is)
    (case k0 => k_is)
    (case t0l => k_is)
    (case a1 => k_is)
    (case l1 => k_is)
    (case c1 => k_is)
    (case k1 => k_is)
    (case a2 => k_is)
    (case l2 => k_is)
    (case c2 => k_is)
    (case k2 => k_is)
    (case a3 => k_is)
    (case l3 => k_is)
    (case c3 => k_is)
    (case k3 => k_is)
    (case t3l => k_is)
    (case a4 => k_is)
    (case l4 => k_is)
    (case c4 => k_is)
    (case k4 => k_is)
    (case a5 => k_is)
    (case l5 => k_is)
    (case c5 => k_is)
    (case k5 => k_is)
    (case a6 => k_is)
    (case l6 => k_is)
    (case c6 => k_is)
    (case k6 => k_is)
    (case a7 => k_is)
    (case l7 => k_is)
    (case c7 => k_is)
    (case k7 => k_is)
    (case a8 => k_is)
    (case l8 => k_is)
    (case c8 => k_is)
    (case k8 => k_is)
    (case a9 => k_is)
    (case l9 => k_is)
    (case c9 => k_is)
    (case k9 => k_is)
    (case a10 => k_is)
    (case l10 => k_is)
    (case c10 => k_is)
    (case k10 => k_is)
    (case a11 => k_is)
    (case l11 => k_is)
    (case c11 => k_is)
    (case k11 => k_is)
    (case a12 => k_is)
    (case l12 => k_is)
    (case c12 => k_is)
    (case k12 => k_is)
    (case a13 => k_is)
    (case l13 => k_is)
    (case c13 => k_is)
    (case k13 => k_is)
    (case a14 => k_is)
    (case l14 => k_is)
    (case c14 => k_is)
    (case k14 => k_is)
    (case a15 => k_is)
    (case l15 => k_is)
    (case c15 => k_is)
    (case k15 => k_is)
    (case a16 => k_is)
    (case l16 => k_is)
    (case c16 => k_is)
    (case k16 => k_is)
    (case a17 => k_is)
    (case l17 => k_is)
    (case c17 => k_is)
    (case k17 => k_is)
    (case a18 => k_is)
    (case l18 => k_is)
    (case c18 => k_is)
    (case k18 => k_is)
    (case a19 => k_is)
    (case l19 => k_is)
    (case c19 => k_is)
    (case k19 => k_is)
    (case g0 => k_is)
    (case g1 => k_is)
    (case z0 => k_is)
    (case z1 => k_is)
    (case z2 => k_is)
    (case z3 => k_is)
    (case z4 => k_is)
    (case z5 => k_is)
    (case z6 => k_is)
    (case xa0_a => k_is)
    (case xa0_b => k_is)
    (case xa0_c => k_is)
    (case xa0_n0 => k_is)
    (case xa0_n1 => k_is)
    (case xa0_d => k_is)
    (case xa0_e => k_is)
    (case xa0_f => k_is)
    (case xa0_g => k_is)
    (case xa0_h => k_is)
    (case xa0_i => k_is)
    (case xa0_j => k_is)
    (case xa0_k => ks_is)
    (case xa0_l => k_is)
    (case xa0_m => k_is)
    (case xa0_o => k_is)
    (case xa0_p => exact rfl)
    (case xa0_q => exact (by decide +kernel))
    (case xa0_r => k_is)
    (case xa0_s => k_is)
    (case xa0_t => k_is)
    (case xa0_u => k_is)
    (case xa0_z => k_is)
    (case xa1_a => k_is)
    (case xa1_x => k_exc)
    (case xa1_f => k_is)
    (case xa1_g => k_is)
    (case xa1_h => k_is)
    (case xa1_s => k_is)
    (case xa1_t => k_is)
    (case xa1_u => k_is)
    (case xa1_z => k_is)
    (case xa2_a => k_is)
    (case xa2_x => k_exc)
    (case xa2_f => k_is)
    (case xa2_g => k_is)
    (case xa2_h => k_is)
    (case xa2_s => k_is)
    (case xa2_t => k_is)
    (case xa2_u => k_is)
    (case xa2_z => k_is)
    (case xa3_a => k_is)
    (case xa3_b => k_is)
    (case xa3_c => k_is)
    (case xa3_n0 => k_is)
    (case xa3_d => k_is)
    (case xa3_e => k_is)
    (case xa3_f => k_is)
    (case xa3_g => k_is)
    (case xa3_h => k_is)
    (case xa3_i => k_is)
    (case xa3_j => k_is)
    (case xa3_k => ks_is)
    (case xa3_l => k_is)
    (case xa3_m => k_is)
    (case xa3_o => k_is)
    (case xa3_p => exact rfl)
    (case xa3_q => exact (by decide +kernel))
    (case xa3_r => k_is)
    (case xa3_s => k_is)
    (case xa3_t => k_is)
    (case xa3_u => k_is)
    (case xa3_z => k_is)
    (case opq => k_is)
    (case noS => k_is)
    (case e0_0 => kts_exm)
    (case e0_1 => kts_exm)
    (case e0_2 => kts_exm)
    (case e0_3 => kts_exm)
    (case e1_0 => kts_exm)
    (case e1_1 => kts_exm)
    (case e1_2 => kts_exm)
    (case e1_3 => kts_exm)
    (case e2_0 => kts_exm)
    (case e2_1 => kts_exm)
    (case e2_2 => kts_exm)
    (case e2_3 => kts_exm)
    (case e3_0 => kts_exm)
    (case e3_1 => kts_exm)
    (case e3_2 => kts_exm)
    (case e3_3 => kts_exm)
