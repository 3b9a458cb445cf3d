import PyProof.Rows.All
import HandS.StrMore
import Wide.All
import OpenK.AllK
import Wide.FinOn
import HandS.ForMost
import KE.DataCmp
import KE.SortData
import KE.KExcSuper
import HandS.ExcInit
import HandS.ForExc
import HandS.CallSlots
import HandS.Property
import HandS.IsInst
import HandS.TupAny
import HandS.TupMul
import HandS.Wide
import HandS.Flow
import HandS.Deep
import HandS.Text
import HandS.HeadWalk
import HandS.SortInts
import HandS.RaiseMore
import HandS.FStr
import KE.DataMinMax
import HandS.Flt
import PyProof.ReprRoads
import HandS.Style
import HandS.Iter
import HandS.Zip
import HandS.Comp
import KE.GoesMore
import KE.GoesZip
import KE.GoesEnum
import HandS.Conv
import HandS.Small
import HandS.ExcOwn
import HandS.ExcValue
import KE.KExcIs
import HandS.ExcField
import HandS.SetFor
import HandS.SetBool
import HandS.Strs
import HandS.Ends
import HandS.HeadEnd
import HandS.HeadHook1
import HandS.HeadHook2
import HandS.Head0
import HandS.Head1
import HandS.Head2
import PyProof.ReprLen
import KE.IntTextLaws
import HandS.Codes
import PySem.Challenge.RW_beadshares_k35_texts_of_strings
set_option Elab.async false
set_option linter.all false
set_option maxRecDepth 100000
set_option maxHeartbeats 0
namespace Bd
open PySem L2
inductive D where
  | non | bl (b : Bool) | int (i : Int) | str (x : Str)
  | tup (xs : List D) | lst (xs : List D)
  | dct (ks : List Key) (xs : List D)
  | obj (c : Nat) (ks : List Nat) (xs : List D)
  | exn (c : Nat) (xs : List D)
  | loc (n : Nat)
  | scr (ns : List Int)
  deriving Inhabited
/-- an object that may be changed -/
inductive MO where
  | lst (xs : List D)
  | dct (ks : List Key) (xs : List D)
  | ins (c : Nat) (ks : List Nat) (xs : List D)
abbrev Sto := List MO
/-- a slot: nothing, a shared value, an owned list or instance -/
inductive Sl where
  | un | sh (d : D) | ow (d : D)
abbrev En := List Sl
inductive R (A : Type) where
  | ok (a : A) (s : Sto)
  | ex (c : Nat) (xs : List D) (s : Sto)
  | no
def R.bind {A B : Type} (r : R A) (k : A → Sto → R B) : R B := match r with
  | .ok a s => k a s
  | .ex c xs s => .ex c xs s
  | .no => .no
/-- no exception may leave here -/
def R.calm {A : Type} (r : R A) : R A := match r with
  | .ex _ _ _ => .no
  | r => r
inductive Fl where
  | nx (g : En) (s : Sto) | rt (d : D) (s : Sto) | bk (g : En) (s : Sto) | ct (g : En) (s : Sto)
  | ex (c : Nat) (xs : List D) (g : En) (s : Sto) | no
def R.fl {A : Type} (g : En) (r : R A) (k : A → Sto → Fl) : Fl := match r with
  | .ok a s => k a s
  | .ex c xs s => .ex c xs g s
  | .no => .no
def Fl.andThen (r : Fl) (k : En → Sto → Fl) : Fl := match r with
  | .nx g s => k g s
  | r => r
/-- targets -/
inductive TG where
  | nm (i : Nat) | tp (ts : List TG)
/-- built-in types -/
inductive Bt where
  | non | bool | int | str | list | tuple | dict
  deriving DecidableEq
/-- types in isinstance -/
inductive Ty where
  | bt (b : Bt) | own (c : Nat) | exc (n : Nat)
  deriving DecidableEq
/-- the type of a value -/
inductive Tg where
  | b (t : Bt) | o (c : Nat) | x (c : Nat)
/-- built-in functions -/
inductive Bi where
  | len | abs | min | max | sum | all | any | int | str | repr | tuple | list | sorted | sset | lset
  deriving DecidableEq
/-- methods of built-in types -/
inductive Bm where
  | count | index | join | split
  deriving DecidableEq
inductive E where
  | cst (d : D)
  | var (i : Nat)
  | brw (i : Nat)
  | tup (es : List E)
  | lst (es : List E)
  | dsp (ks : List Key) (es : List E)
  | dsn (ks : List Key) (es : List E)
  | lsn (es : List E)
  | bin (op : Operator) (a b : E)
  | neg (a : E)
  | cmp (op : CmpOp) (a b : E)
  | cmpb (op : CmpOp) (a b : E)
  | cmp2 (o p : CmpOp) (a b c : E)
  | and (a b : E)
  | or (a b : E)
  | orv (a b : E)
  | not (a : E)
  | ife (t a b : E)
  | call (f : Nat) (es : List E)
  | mk (c : Nat) (es : List E)
  | mkx (c : Nat) (es : List E)
  | meth (m : Nat) (o : E) (es : List E)
  | att (a : Nat) (o : E)
  | atx (a : Nat) (o : E)
  | bi (b : Bi) (es : List E)
  | bm (b : Bm) (o : E) (es : List E)
  | isi (a : E) (t : Ty)
  | isx (a : E) (n : Nat)
  | idx (a b : E)
  | slc (a : E) (l u : Option E)
  | rev (a : E)
  | enum (a : E)
  | zip2 (a b : E)
  | zip3 (a b c : E)
  | stp (o : Bool) (a : E)
  | stx (a : E) (l : Option E)
  | rng1 (a : E)
  | rng2 (a b : E)
  | rng3 (a b c : E)
  | lc (elt : E) (tg : TG) (it : E) (tst : Option E)
  | lc2 (elt : E) (tg : TG) (it : E) (tg1 : TG) (it1 : E) (tst : Option E)
  | scs (elt : E) (tg : TG) (it : E) (tst : Option E)
  | sst (a : E)
  | sto (a : E)
  | fmt (a : E)
  | fst (es : List E)
inductive ST where
  | ex (e : E)
  | asg (t : TG) (e : E)
  | own (i : Nat) (e : E)
  | par (ts : List (Nat × Bool)) (es : List E)
  | frz (i : Nat)
  | seti (i : Nat) (k e : E)
  | augi (i : Nat) (k e : E)
  | sets (o k e : E)
  | setf (o : E) (a : Nat) (e : E)
  | set2 (i : Nat) (k : E) (j : Nat) (l : E) (e : E)
  | app (i : Nat) (e : E)
  | ext (i : Nat) (e : E)
  | pop (i : Nat) (e : E)
  | apop (i j : Nat) (e : E)
  | ret (e : E)
  | retn
  | ife (t : E) (a b : List ST)
  | forr (t : TG) (it : E) (body : List ST)
  | whl (t : E) (body : List ST)
  | brk | cnt | pas
  | rse (c : Nat) (es : List E)
  | tr (body : List ST) (hs : List ST)
  | cls (c : Nat) (i : Option Nat) (suite : List ST)
structure FD where
  np : Nat
  ns : Nat
  body : List ST
/-- kind 0: frozen behind __init__; 1: in the store; 2: an exception -/
structure CD where
  kind : Nat
  init : Nat
  props : List (Nat × Nat)
  meths : List (Nat × Nat)
  flds : List Nat
  sup : List Nat
structure Tb where
  fn : List (Nat × FD)
  cl : List (Nat × CD)
def Tb.meth (T : Tb) (c m : Nat) : Option Nat := (T.cl.lookup c).bind fun d => d.meths.lookup m
def Tb.prop (T : Tb) (c m : Nat) : Option Nat := (T.cl.lookup c).bind fun d => d.props.lookup m
structure Calls where
  call : Nat → List D → Sto → R D
  make : Nat → List D → Sto → R D
mutual
def toPy : D → Option PyData
  | .non => some .none
  | .bl b => some (.bool b)
  | .int i => some (.int i)
  | .str x => some (.str x)
  | .tup xs => (toPys xs).map .tuple
  | .lst xs => (toPys xs).map .list
  | _ => none
def toPys : List D → Option (List PyData)
  | [] => some []
  | x :: xs => (toPy x).bind fun p => (toPys xs).map fun ps => p :: ps
end
/-- with dicts, for repr -/
def keyPy : Key → PyData
  | .inl i => .int i
  | .inr x => .str x
mutual
def toPz : D → Option PyData
  | .non => some .none
  | .bl b => some (.bool b)
  | .int i => some (.int i)
  | .str x => some (.str x)
  | .tup xs => (toPzs xs).map .tuple
  | .lst xs => (toPzs xs).map .list
  | .dct ks xs => (toPzs xs).map fun ps => .dict ((ks.map keyPy).zip ps)
  | _ => none
def toPzs : List D → Option (List PyData)
  | [] => some []
  | x :: xs => (toPz x).bind fun p => (toPzs xs).map fun ps => p :: ps
end
def eqP (a b : D) : Option Bool := match toPy a, toPy b with
  | some p, some q => if SeqAt.shaped p && SeqAt.shaped q then some (PyData.eqv p q) else none
  | _, _ => none
def eqD (a b : D) : Option Bool := match a with
  | .str x => (match b with
    | .str y => some (decide (x = y))
    | b => eqP (.str x) b)
  | a => eqP a b
def mulOk (i j : Int) : Bool := decide (i.natAbs < 2 ^ 64) || decide (j.natAbs < 2 ^ 64)
/-- factors of up to 400 bits -/
def bigOk (i j : Int) : Bool := decide (i.natAbs < 2 ^ 400) && decide (j.natAbs < 2 ^ 400)
def small (n : Nat) : Bool := Nat.ble n 16777216
/-- a text so many times -/
def repS (x : Str) (n : Nat) : Str := ⟨(List.replicate n x.cps).foldl (· ++ ·) #[]⟩
def binD (op : Operator) (a b : D) : Option D := match op, a, b with
  | .Add, .int i, .int j => some (.int (i + j))
  | .Add, .str x, .str y => if small (x.length + y.length) then some (.str (x ++ y)) else none
  | .Add, .tup x, .tup y => if small (x.length + y.length) then some (.tup (x ++ y)) else none
  | .Add, .lst x, .lst y => if small (x.length + y.length) then some (.lst (x ++ y)) else none
  | .Sub, .int i, .int j => some (.int (i - j))
  | .Mult, .int i, .int j => if mulOk i j then some (.int (i * j)) else if bigOk i j then some (.int (i * j)) else none
  | .Mult, .tup x, .int j => if decide (0 ≤ j) && decide (j ≤ 1000) && decide (x.length ≤ 1000) then some (.tup (List.replicate j.toNat x).flatten) else none
  | .Mult, .str x, .int j => if decide (2 ≤ j) && decide (j ≤ 1000) && decide (1 ≤ x.length) && decide (x.length ≤ 1000) then some (.str (repS x j.toNat)) else none
  | .Mult, .lst x, .int j => if decide (j < 1000) && decide (-1000 < j) && small (x.length * j.toNat) then some (.lst (List.replicate j.toNat x).flatten) else none
  | .FloorDiv, .int i, .int j => if decide (0 < j) && decide (j < 2 ^ 9000) then some (.int (i / j)) else if decide (j < 0) && decide (-j < 2 ^ 9000) then some (.int (Int.fdiv i j)) else none
  | .Mod, .int i, .int j => if decide (0 < j) then some (.int (i % j)) else none
  | .Pow, .int i, .int j => if decide (0 ≤ j) && decide (j ≤ 1000) && decide (i.natAbs < 2 ^ 64) then some (.int (i ^ j.toNat)) else none
  | _, _, _ => none
def ordD (op : CmpOp) (i j : Int) : Option Bool := match op with
  | .Lt => some (decide (i < j))
  | .LtE => some (decide (i ≤ j))
  | .Gt => some (decide (j < i))
  | .GtE => some (decide (j ≤ i))
  | _ => none
/-- is x among the items (plain data) -/
def inD (x : D) (ys : List D) : Option Bool := match toPy x, toPys ys with
  | some p, some qs => if SeqAt.shaped p && SeqAt.shaped (.list qs) then some (qs.any fun z => PyData.eqv z p) else none
  | _, _ => none
/-- a sign in a text -/
def inS (x z : Str) : Option Bool := match x.cps.toList with
  | [c] => some (decide (c ∈ z.cps.toList))
  | _ => none
def optR {A : Type} (o : Option A) (s : Sto) : R A := match o with
  | some a => .ok a s
  | none => .no
def nEq : Nat := 1
def nNe : Nat := 2
def nLen : Nat := 3
def nStr : Nat := 4
def nGet : Nat := 5
def nSet : Nat := 6
def nCall : Nat := 7
def clsOf (d : D) (s : Sto) : Option Nat := match d with
  | .obj c _ _ => some c
  | .loc n => (match s[n]? with
    | some (.ins c _ _) => some c
    | _ => none)
  | _ => none
def tagD (d : D) (s : Sto) : Option Tg := match d with
  | .non => some (.b .non)
  | .bl _ => some (.b .bool)
  | .int _ => some (.b .int)
  | .str _ => some (.b .str)
  | .tup _ => some (.b .tuple)
  | .lst _ => some (.b .list)
  | .dct _ _ => some (.b .dict)
  | .obj c _ _ => some (.o c)
  | .exn c _ => some (.x c)
  | .loc n => (match s[n]? with
    | some (.ins c _ _) => some (.o c)
    | some (.lst _) => some (.b .list)
    | some (.dct _ _) => some (.b .dict)
    | none => none)
  | .scr _ => none
def isCl (T : Tb) (c : Nat) : Bool := match T.cl.lookup c with
  | some d => decide (d.kind < 2)
  | none => false
def tgOkB (T : Tb) : Tg → Bool
  | .b _ => true
  | .o c => isCl T c
  | .x _ => false
def tgOkO (T : Tb) : Option Tg → Bool
  | some t => tgOkB T t
  | none => false
/-- a comparison by an own method -/
def ownC (T : Tb) (C : Calls) (m : Nat) (a b : D) (s : Sto) : R D := match clsOf a s with
  | some c => (match T.meth c m with
    | some f => if isCl T c && (T.fn.lookup f).isSome && tgOkO T (tagD b s) then (C.call f [a, b] s).calm else .no
    | none => .no)
  | none => .no
def isNon : D → Bool
  | .non => true
  | _ => false
/-- is one truth value the other -/
def isBl (a b : D) : Option Bool := match a, b with
  | .bl u, .bl v => some (decide (u = v))
  | _, _ => none
/-- by order -/
def ordP (op : CmpOp) (p q : PyData) : Option Bool := match op with
  | .Lt => some (PySem.W.dataLt p q)
  | .LtE => some (!PySem.W.dataLt q p)
  | .Gt => some (PySem.W.dataLt q p)
  | .GtE => some (!PySem.W.dataLt p q)
  | _ => none
def ordT (op : CmpOp) (xs ys : List D) : Option Bool := match toPys xs, toPys ys with
  | some ps, some qs => if SeqAt.shaped (.tuple ps) && SeqAt.shaped (.tuple qs) && PySem.W.alike (.tuple ps) (.tuple qs) then ordP op (.tuple ps) (.tuple qs) else none
  | _, _ => none
/-- of plain data -/
def cmpB (op : CmpOp) (a b : D) : Option Bool := match op with
  | .Eq => eqD a b
  | .NotEq => (eqD a b).map fun r => !r
  | .In => (match b with
    | .tup ys => inD a ys
    | .lst ys => inD a ys
    | .str z => (match a with
      | .str x => inS x z
      | _ => none)
    | _ => none)
  | .NotIn => (match b with
    | .tup ys => (inD a ys).map fun r => !r
    | .lst ys => (inD a ys).map fun r => !r
    | .str z => (match a with
      | .str x => (inS x z).map fun r => !r
      | _ => none)
    | _ => none)
  | .Is => if isNon b then some (isNon a) else isBl a b
  | .IsNot => if isNon b then some (!isNon a) else (isBl a b).map fun r => !r
  | op => (match a, b with
    | .int i, .int j => ordD op i j
    | .tup xs, .tup ys => ordT op xs ys
    | _, _ => none)
def blR (o : Option Bool) (s : Sto) : R D := match o with
  | some b => .ok (.bl b) s
  | none => .no
def cmpD (T : Tb) (C : Calls) (op : CmpOp) (a b : D) (s : Sto) : R D := match op with
  | .Eq => (match clsOf a s with
    | some _ => ownC T C nEq a b s
    | none => blR (cmpB .Eq a b) s)
  | .NotEq => (match clsOf a s with
    | some _ => ownC T C nNe a b s
    | none => blR (cmpB .NotEq a b) s)
  | op => blR (cmpB op a b) s
def lookK (k : Nat) : List Nat → List D → Option D
  | a :: ks, d :: ds => if a = k then some d else lookK k ks ds
  | _, _ => none
def putK (k : Nat) (v : D) : List Nat → List D → List Nat × List D
  | a :: ks, d :: ds => if a = k then (a :: ks, v :: ds) else ((a :: (putK k v ks ds).1), (d :: (putK k v ks ds).2))
  | _, _ => ([k], [v])
def fldOk (T : Tb) (c a : Nat) : Bool := match T.cl.lookup c with
  | some d => decide (d.kind < 2) && (d.meths.lookup a).isNone && (d.props.lookup a).isNone
  | none => false
def attO (T : Tb) (C : Calls) (a c : Nat) (ks : List Nat) (xs : List D) (o : D) (s : Sto) : R D := match T.prop c a with
  | some f => if isCl T c then (C.call f [o] s).calm else .no
  | none => if fldOk T c a then optR (lookK a ks xs) s else .no
def attD (T : Tb) (C : Calls) (a : Nat) (o : D) (s : Sto) : R D := match o with
  | .obj c ks xs => attO T C a c ks xs o s
  | .loc n => (match s[n]? with
    | some (.ins c ks xs) => attO T C a c ks xs o s
    | _ => .no)
  | _ => .no
def fldsOf : D → Sto → List Nat × List D
  | .obj _ ks xs, _ => (ks, xs)
  | .loc n, s => (match s[n]? with
    | some (.ins _ ks xs) => (ks, xs)
    | _ => ([], []))
  | _, _ => ([], [])
def methF (T : Tb) (m : Nat) (o : D) (s : Sto) : Option Nat := (clsOf o s).bind fun c => (T.meth c m).bind fun f => if isCl T c && (lookK m (fldsOf o s).1 (fldsOf o s).2).isNone then some f else none
def intsOf : List D → Option (List Int)
  | [] => some []
  | .int i :: r => (intsOf r).map fun l => i :: l
  | _ :: _ => none
def blsOf : List D → Option (List Bool)
  | [] => some []
  | .bl b :: r => (blsOf r).map fun l => b :: l
  | _ :: _ => none
def strsOf : List D → Option (List Str)
  | [] => some []
  | .str b :: r => (strsOf r).map fun l => b :: l
  | _ :: _ => none
def seqOf : D → Option (List D)
  | .tup xs => some xs
  | .lst xs => some xs
  | .scr ns => some (ns.map .int)
  | _ => none
/-- each second one -/
def evy {A : Type} : List A → List A
  | x :: _ :: r => x :: evy r
  | xs => xs
def isort (xs : List Int) : List Int := xs.mergeSort (fun a b => decide (a ≤ b))
def smallI (i : Int) : Bool := decide (i.natAbs < 2 ^ 1900)
def reprD (d : D) : Option Str := (toPz d).bind fun p => if p.showable && Nat.ble p.depth 60 && small p.shown.length then some p.shown else none
/-- plain data, whatever it is -/
def encD (d : D) : PyData := (toPy d).getD .none
/-- tuples that can be sorted: alike, an item in each at least -/
def tupP : PyData → Bool
  | .tuple (_ :: _) => true
  | _ => false
def sortOk (xs : List D) : Bool := match toPys xs with
  | some ps => ps.all tupP && (ps.all fun p => ps.all fun q => PySem.W.alike p q) && SeqAt.shaped (.list ps)
  | none => false
def sortX (xs : List D) : Option (List D) := match intsOf xs with
  | some l => some ((isort l).map .int)
  | none => if sortOk xs then some (xs.mergeSort (PySem.W.dataLe false encD)) else none
def minX (xs : List D) : Option D := match intsOf xs with
  | some l => l.min?.map .int
  | none => if sortOk xs then (match xs with
    | x :: r => some (r.foldl (fun a y => if PySem.W.dataLt (encD y) (encD a) then y else a) x)
    | [] => none) else none
def biD (T : Tb) (C : Calls) (b : Bi) (ds : List D) (s : Sto) : R D := match b, ds with
  | .len, [x] => (match clsOf x s with
    | some c => (match T.meth c nLen with
      | some f => if isCl T c then (C.call f [x] s).calm.bind fun d s => (match d with
        | .int i => if decide (0 ≤ i) && decide (i < 2 ^ 63) then .ok (.int i) s else .no
        | _ => .no) else .no
      | none => .no)
    | none => (match x with
      | .tup xs => .ok (.int xs.length) s
      | .lst xs => .ok (.int xs.length) s
      | .scr ns => .ok (.int ns.length) s
      | .str x => if small x.length then .ok (.int x.length) s else .no
      | _ => .no))
  | .abs, [.int i] => .ok (.int (if i < 0 then -i else i)) s
  | .min, [.int i, .int j] => .ok (.int (if j < i then j else i)) s
  | .max, [.int i, .int j] => .ok (.int (if j > i then j else i)) s
  | .max, [.int i, .int j, .int k] => .ok (.int (if (if j > i then j else i) < k then k else if j > i then j else i)) s
  | .min, [.lst xs] => (optR (minX xs) s).bind fun m s => .ok m s
  | .max, [.lst xs] => (optR ((intsOf xs).bind fun l => l.max?) s).bind fun m s => .ok (.int m) s
  | .max, [.tup xs] => (optR ((intsOf xs).bind fun l => l.max?) s).bind fun m s => .ok (.int m) s
  | .sum, [.lst xs] => (optR (intsOf xs) s).bind fun l s => .ok (.int l.sum) s
  | .sum, [.tup xs] => (optR (intsOf xs) s).bind fun l s => .ok (.int l.sum) s
  | .all, [.lst xs] => (optR (blsOf xs) s).bind fun l s => .ok (.bl (l.all id)) s
  | .any, [.lst xs] => (optR (blsOf xs) s).bind fun l s => .ok (.bl (l.any id)) s
  | .int, [.int i] => .ok (.int i) s
  | .int, [.bl k] => .ok (.int (if k then 1 else 0)) s
  | .int, [.str x] => (optR (if Nat.ble x.length 640 then PySem.intText? x else none) s).bind fun i s => .ok (.int i) s
  | .str, [x] => (match clsOf x s with
    | some c => (match T.meth c nStr with
      | some f => if isCl T c then (C.call f [x] s).calm.bind fun d s => (match d with
        | .str t => .ok (.str t) s
        | _ => .no) else .no
      | none => .no)
    | none => (match x with
      | .int i => if smallI i then .ok (.str (toString i)) s else .no
      | .str x => .ok (.str x) s
      | _ => .no))
  | .repr, [x] => (optR (reprD x) s).bind fun t s => .ok (.str t) s
  | .tuple, [x] => (match x with
    | .loc n => (match s[n]? with
      | some (.lst xs) => .ok (.tup xs) s
      | _ => .no)
    | x => (optR (seqOf x) s).bind fun l s => .ok (.tup l) s)
  | .list, [x] => (optR (seqOf x) s).bind fun l s => .ok (.lst l) s
  | .sorted, [.lst xs] => (optR (sortX xs) s).bind fun ys s => .ok (.lst ys) s
  | .sset, [x] => (optR ((seqOf x).bind intsOf) s).bind fun l s => .ok (.lst ((isort l.eraseDups).map .int)) s
  | _, _ => .no
def subBt (a b : Bt) : Bool := decide (a = b) || (decide (a = .bool) && decide (b = .int))
def tgIs (T : Tb) : Tg → Ty → Option Bool
  | .b a, .bt b => some (subBt a b)
  | .b _, .own e => if isCl T e then some false else none
  | .o c, .own e => if isCl T c && isCl T e then some (decide (c = e)) else none
  | .o c, .bt _ => if isCl T c then some false else none
  | _, _ => none
def isT (T : Tb) (t : Ty) (d : D) (s : Sto) : Option Bool := (tagD d s).bind fun g => tgIs T g t
def keyOf : D → Option Key
  | .int i => some (.inl i)
  | .str x => some (.inr x)
  | _ => none
def lookD (k : Key) : List Key → List D → Option D
  | a :: ks, d :: ds => if a = k then some d else lookD k ks ds
  | _, _ => none
def putD (k : Key) (v : D) (ks : List Key) (xs : List D) : List Key × List D :=
  if (ks.any fun a => decide (a = k)) = true then (ks, (ks.zip xs).map fun p => if p.1 = k then v else p.2) else (ks ++ [k], xs ++ [v])
/-- an item of a built-in thing -/
def idxB (o i : D) (s : Sto) : Option D := match o with
  | .tup xs => (match i with
    | .int k => (ixN xs.length k).bind fun j => xs[j]?
    | _ => none)
  | .lst xs => (match i with
    | .int k => (ixN xs.length k).bind fun j => xs[j]?
    | _ => none)
  | .str x => (match i with
    | .int k => if small x.length then ((ixN x.cps.toList.length k).bind fun j => x.cps.toList[j]?).map fun c => .str ⟨#[c]⟩ else none
    | _ => none)
  | .dct ks xs => (keyOf i).bind fun k => lookD k ks xs
  | .loc n => (match s[n]? with
    | some (.dct ks xs) => (keyOf i).bind fun k => lookD k ks xs
    | some (.lst xs) => (match i with
      | .int k => (ixN xs.length k).bind fun j => xs[j]?
      | _ => none)
    | _ => none)
  | _ => none
def idxD (T : Tb) (C : Calls) (o i : D) (s : Sto) : R D := match clsOf o s with
  | some c => (match T.meth c nGet with
    | some f => if isCl T c then C.call f [o, i] s else .no
    | none => .no)
  | none => optR (idxB o i s) s
def cutL {A : Type} (xs : List A) (lo hi : Option Int) : List A := (xs.drop (HT.sIx xs.length 0 lo)).take (HT.sIx xs.length xs.length hi - HT.sIx xs.length 0 lo)
/-- x[::z], z is 1 or -1 -/
def stxD (x : D) (z : Option Int) : Option D := match x, z with
  | .tup xs, some 1 => some (.tup xs)
  | .tup xs, some (-1) => some (.tup xs.reverse)
  | _, _ => none
def slcD (o : D) (l u : Option Int) : Option D := match o with
  | .tup xs => some (.tup (cutL xs l u))
  | .lst xs => some (.lst (cutL xs l u))
  | .scr ns => some (.lst ((cutL ns l u).map .int))
  | .str x => if small x.length then some (.str ⟨(cutL x.cps.toList l u).toArray⟩) else none
  | _ => none
def bmD (b : Bm) (o : D) (ds : List D) : Option D := match b, o, ds with
  | .count, .lst xs, [.int k] => (intsOf xs).map fun l => .int (l.count k : Nat)
  | .count, .tup xs, [.int k] => (intsOf xs).map fun l => .int (l.count k : Nat)
  | .index, .lst xs, [.int k] => (intsOf xs).bind fun l => (l.idxOf? k).map fun i => .int (i : Nat)
  | .index, .str a, [.str b] => (PySem.Txt.index0 a b).map fun i => .int (i : Nat)
  | .join, .str a, [.lst xs] => (strsOf xs).bind fun ys => if Nat.ble ((ys.map (·.length)).sum + ys.length * a.length) 16777216 then some (.str (PySem.Txt.join a ys)) else none
  | .split, .str a, [.str b] => if !(b.length == 0) && Nat.ble (a.length + 2) 16777216 then some (.lst ((PySem.Txt.split a b).map .str)) else none
  | _, _, _ => none
/-- may the method be asked of it -/
def bmOk : Bm → D → Bool
  | .count, .lst _ => true
  | .count, .tup _ => true
  | .index, .lst _ => true
  | .index, .str _ => true
  | .join, .str _ => true
  | .split, .str _ => true
  | _, _ => false
mutual
def setT : TG → D → En → Option En
  | .nm i, d, g => if i < g.length then some (g.set i (.sh d)) else none
  | .tp ts, d, g => (match d with
    | .tup xs => if ts.length = xs.length then setTs ts xs g else none
    | .lst xs => if ts.length = xs.length then setTs ts xs g else none
    | _ => none)
def setTs : List TG → List D → En → Option En
  | [], _, g => some g
  | t :: ts, xs, g => (match xs with
    | x :: r => (setT t x g).bind fun g' => setTs ts r g'
    | [] => none)
end
mutual
def slotsT : TG → List Nat
  | .nm i => [i]
  | .tp ts => slotsTs ts
def slotsTs : List TG → List Nat
  | [] => []
  | t :: ts => slotsT t ++ slotsTs ts
end
def wipG (g : En) : List Nat → En
  | [] => g
  | i :: is => (wipG g is).set i .un
/-- what is borrowed -/
def brwD (g : En) (i : Nat) : Option D := match g[i]? with
  | some (.ow (.lst xs)) => some (.lst xs)
  | some (.sh (.lst xs)) => some (.lst xs)
  | _ => none
def evB (r : R D) (e : E) (g : En) (s : Sto) : R D := match e with
  | .brw i => optR (brwD g i) s
  | _ => r
def rngD (i j : Int) : Option (List D) := if decide (-(2 ^ 62) ≤ i) && decide (i < 2 ^ 62) && decide (-(2 ^ 62) ≤ j) && decide (j < 2 ^ 62) && small (j - i).toNat then some ((List.range (j - i).toNat).map fun k => .int (i + (k : Nat))) else none
/-- by steps -/
def rngD3 (i j c : Int) : Option (List D) := if decide (0 < c) && decide (c < 1073741824) && Builtin.Range.small i j c && small (Builtin.Range.rangeSize i j c).toNat then some ((List.range (Builtin.Range.rangeSize i j c).toNat).map fun k => .int (i + (k : Nat) * c)) else none
def rng3R (x y z : D) (s : Sto) : R D := match x, y, z with
  | .int i, .int j, .int c => (optR (rngD3 i j c) s).bind fun l s => .ok (.lst l) s
  | _, _, _ => .no
def enumL (k : Nat) : List D → List D
  | [] => []
  | x :: xs => .tup [.int k, x] :: enumL (k + 1) xs
def zipL : List D → List D → List D
  | x :: xs, y :: ys => .tup [x, y] :: zipL xs ys
  | _, _ => []
def zipL3 : List D → List D → List D → List D
  | x :: xs, y :: ys, z :: zs => .tup [x, y, z] :: zipL3 xs ys zs
  | _, _, _ => []
def lcL (f : D → Sto → R (Option D)) : List D → Sto → R (List D)
  | [], s => .ok [] s
  | x :: xs, s => (f x s).calm.bind fun o s1 => (lcL f xs s1).bind fun r s2 => .ok (match o with
    | some d => d :: r
    | none => r) s2
def lc2L (f : D → Sto → R (List D)) : List D → Sto → R (List D)
  | [], s => .ok [] s
  | x :: xs, s => (f x s).calm.bind fun o s1 => (lc2L f xs s1).bind fun r s2 => .ok (o ++ r) s2
open Classical in
/-- a walk in which the store stays as it is -/
noncomputable def lcsL (f : D → Sto → R (Option D)) (s : Sto) : List D → R (List D)
  | [] => .ok [] s
  | x :: xs => (f x s).calm.bind fun o s1 => if s1 = s then (lcsL f s xs).bind fun r s2 => .ok (match o with
    | some d => d :: r
    | none => r) s2 else .no
/-- the signs of a text -/
def chsD (x : Str) : List D := x.cps.toList.map fun c => .str ⟨#[c]⟩
/-- what a comprehension gives: over a list of the store, or over a value -/
noncomputable def lcX (f : D → Sto → R (Option D)) (x : D) (s : Sto) : R D := match x with
  | .loc n => (match s[n]? with
    | some (.lst l) => (optR (if small l.length then some l else none) s).bind fun l s => (lcsL f s l).bind fun r s => .ok (.lst r) s
    | _ => .no)
  | .str x => (optR (if small (chsD x).length then some (chsD x) else none) s).bind fun l s => (lcsL f s l).bind fun r s => .ok (.lst r) s
  | x => (optR (seqOf x) s).bind fun l s => (optR (if small l.length then some l else none) s).bind fun l s => (lcL f l s).bind fun r s => .ok (.lst r) s
/-- into the store -/
def stoR (d : D) (s : Sto) : R D := match d with
  | .lst l => .ok (.loc s.length) (s ++ [.lst l])
  | _ => .no
def bindG {A : Type} (o : Option En) (k : En → R A) : R A := match o with
  | some g => k g
  | none => .no
def tstR {A : Type} (d : D) (a b : R A) : R A := match d with
  | .bl true => a
  | .bl false => b
  | _ => .no
/-- a whole number, or if it is 0 what stands behind it -/
def orvR (d : D) (s : Sto) (r : R D) : R D := match d with
  | .int i => if i = 0 then r else .ok (.int i) s
  | _ => .no
/-- only ints go into a set -/
def intO (o : Option D) (s : Sto) : R (Option D) := match o with
  | some (.int k) => .ok (some (.int k)) s
  | none => .ok none s
  | _ => .no
def intsL : List D → List Int
  | [] => []
  | .int i :: r => i :: intsL r
  | _ :: r => intsL r
def ssetL (l : List Int) : List Int := isort l.eraseDups
/-- sorted(set(xs)) -/
def sstR (d : D) (s : Sto) : R D := match d with
  | .lst xs => (optR (if Nat.ble xs.length 60 then intsOf xs else none) s).bind fun l s => .ok (.lst ((ssetL l).map .int)) s
  | _ => .no
def fstD : D → Option Str
  | .str x => if small x.length then some x else none
  | .int i => if smallI i then some (toString i) else none
  | _ => none
def joinS (l : List Str) : Str := l.foldl (· ++ ·) ⟨#[]⟩
/-- an exception class with so many fields -/
def excN (T : Tb) (c n : Nat) : Bool := match T.cl.lookup c with
  | some d => decide (d.kind = 2) && decide (d.flds.length = n)
  | none => false
/-- is an exception of class c one of m: a class of the program, or a built-in one (from 9000 on) -/
def isX (T : Tb) (c m : Nat) : Option Bool := match T.cl.lookup c with
  | some d => if decide (d.kind = 2) && (decide (9000 ≤ m) || (match T.cl.lookup m with
    | some e => decide (2 ≤ e.kind)
    | none => false)) then some (decide (c = m) || d.sup.contains m) else none
  | none => none
mutual
noncomputable def evE (T : Tb) (C : Calls) : E → En → Sto → R D
  | .cst d, _, s => .ok d s
  | .var i, g, s => (match g[i]? with
    | some (.sh d) => .ok d s
    | _ => .no)
  | .brw _, _, _ => .no
  | .tup es, g, s => (evEs T C es g s).bind fun ds s => .ok (.tup ds) s
  | .lst es, g, s => (evEs T C es g s).bind fun ds s => .ok (.lst ds) s
  | .dsp ks es, g, s => (evEs T C es g s).bind fun ds s => .ok (.dct ks ds) s
  | .dsn ks es, g, s => (evEs T C es g s).bind fun ds s => .ok (.loc s.length) (s ++ [.dct ks ds])
  | .lsn es, g, s => (evEs T C es g s).bind fun ds s => .ok (.loc s.length) (s ++ [.lst ds])
  | .bin op a b, g, s => (evB (evE T C a g s) a g s).bind fun x s => (evB (evE T C b g s) b g s).bind fun y s => optR (binD op x y) s
  | .neg a, g, s => (evE T C a g s).bind fun x s => (match x with
    | .int i => .ok (.int (-i)) s
    | _ => .no)
  | .cmp op a b, g, s => (evE T C a g s).bind fun x s => (evE T C b g s).bind fun y s => cmpD T C op x y s
  | .cmpb op a b, g, s => (evB (evE T C a g s) a g s).bind fun x s => (evB (evE T C b g s) b g s).bind fun y s => blR (cmpB op x y) s
  | .cmp2 o p a b c, g, s => (evE T C a g s).bind fun x s => (evE T C b g s).bind fun y s => (optR (cmpB o x y) s).bind fun r s => if r then (evE T C c g s).bind fun z s => blR (cmpB p y z) s else .ok (.bl false) s
  | .and a b, g, s => (evE T C a g s).bind fun x s => tstR x (evE T C b g s) (.ok (.bl false) s)
  | .or a b, g, s => (evE T C a g s).bind fun x s => tstR x (.ok (.bl true) s) (evE T C b g s)
  | .orv a b, g, s => (evE T C a g s).bind fun x s => orvR x s (evE T C b g s)
  | .not a, g, s => (evE T C a g s).bind fun x s => tstR x (.ok (.bl false) s) (.ok (.bl true) s)
  | .ife t a b, g, s => (evE T C t g s).bind fun x s => tstR x (evE T C a g s) (evE T C b g s)
  | .call f es, g, s => (evEs T C es g s).bind fun ds s => C.call f ds s
  | .mk c es, g, s => (evEs T C es g s).bind fun ds s => C.make c ds s
  | .mkx c es, g, s => if excN T c es.length then (evEs T C es g s).bind fun ds s => if excN T c ds.length then .ok (.exn c ds) s else .no else .no
  | .meth m o es, g, s => (evE T C o g s).bind fun x s => (optR (methF T m x s) s).bind fun f s => (evEs T C es g s).bind fun ds s => C.call f (x :: ds) s
  | .att a o, g, s => (evE T C o g s).bind fun x s => attD T C a x s
  | .atx a o, g, s => (evE T C o g s).bind fun x s => (match x with
    | .exn c xs => (match T.cl.lookup c with
      | some d => if d.kind = 2 then optR (lookK a d.flds xs) s else .no
      | none => .no)
    | _ => .no)
  | .bi b es, g, s => (evOs T C es g s).bind fun ds s => biD T C b ds s
  | .bm b o es, g, s => (evB (evE T C o g s) o g s).bind fun x s => (optR (if bmOk b x then some x else none) s).bind fun x s => (evEs T C es g s).bind fun ds s => optR (bmD b x ds) s
  | .isi a t, g, s => (evE T C a g s).bind fun x s => (optR (isT T t x s) s).bind fun r s => .ok (.bl r) s
  | .isx a m, g, s => (evE T C a g s).bind fun x s => (match x with
    | .exn c _ => (optR (isX T c m) s).bind fun r s => .ok (.bl r) s
    | _ => .no)
  | .idx a b, g, s => (evB (evE T C a g s) a g s).bind fun x s => (evE T C b g s).bind fun y s => idxD T C x y s
  | .slc a l u, g, s => (evB (evE T C a g s) a g s).bind fun x s => (evOp T C l g s).bind fun i s => (evOp T C u g s).bind fun j s => optR (slcD x i j) s
  | .stp o a, g, s => (evB (evE T C a g s) a g s).bind fun x s => (match x with
    | .tup xs => .ok (.tup (evy (xs.drop (if o then 1 else 0)))) s
    | _ => .no)
  | .stx a l, g, s => (evB (evE T C a g s) a g s).bind fun x s => (evOp T C l g s).bind fun z s => optR (stxD x z) s
  | .rev a, g, s => (evB (evE T C a g s) a g s).bind fun x s => (match x with
    | .tup xs => .ok (.tup xs.reverse) s
    | .lst xs => .ok (.lst xs.reverse) s
    | _ => .no)
  | .enum a, g, s => (evB (evE T C a g s) a g s).bind fun x s => (optR (seqOf x) s).bind fun l s => .ok (.lst (enumL 0 l)) s
  | .zip2 a b, g, s => (evB (evE T C a g s) a g s).bind fun x s => (evB (evE T C b g s) b g s).bind fun y s => (optR (seqOf x) s).bind fun l s => (optR (seqOf y) s).bind fun m s => .ok (.lst (zipL l m)) s
  | .zip3 a b c, g, s => (evB (evE T C a g s) a g s).bind fun x s => (evB (evE T C b g s) b g s).bind fun y s => (evB (evE T C c g s) c g s).bind fun z s => (optR (seqOf x) s).bind fun l s => (optR (seqOf y) s).bind fun m s => (optR (seqOf z) s).bind fun n s => .ok (.lst (zipL3 l m n)) s
  | .rng1 a, g, s => (evE T C a g s).bind fun x s => (match x with
    | .int j => (optR (rngD 0 j) s).bind fun l s => .ok (.lst l) s
    | _ => .no)
  | .rng2 a b, g, s => (evE T C a g s).bind fun x s => (evE T C b g s).bind fun y s => (match x, y with
    | .int i, .int j => (optR (rngD i j) s).bind fun l s => .ok (.lst l) s
    | _, _ => .no)
  | .rng3 a b c, g, s => (evE T C a g s).bind fun x s => (evE T C b g s).bind fun y s => (evE T C c g s).bind fun z s => rng3R x y z s
  | .lc elt tg it tst, g, s => (evB (evE T C it g s) it g s).bind fun x s => lcX (fun y s => bindG (setT tg y (wipG g (slotsT tg))) fun g' => (evTs T C tst g' s).bind fun b s => tstR b ((evE T C elt g' s).bind fun d s => .ok (some d) s) (.ok none s)) x s
  | .lc2 elt tg it tg1 it1 tst, g, s => (evB (evE T C it g s) it g s).bind fun x s => (optR (seqOf x) s).bind fun l s => (optR (if Nat.ble l.length 4000 then some l else none) s).bind fun l s =>
      (lc2L (fun y s => bindG (setT tg y (wipG g (slotsT tg ++ slotsT tg1))) fun g' => (evB (evE T C it1 g' s) it1 g' s).bind fun z s => (optR (seqOf z) s).bind fun m s => (optR (if Nat.ble m.length 4000 then some m else none) s).bind fun m s =>
        lcL (fun y1 s => bindG (setT tg1 y1 (wipG g' (slotsT tg1))) fun g2 => (evTs T C tst g2 s).bind fun b s => tstR b ((evE T C elt g2 s).bind fun d s => .ok (some d) s) (.ok none s)) m s) l s).bind fun r s => .ok (.lst r) s
  | .scs elt tg it tst, g, s => (evB (evE T C it g s) it g s).bind fun x s => (optR (seqOf x) s).bind fun l s => (optR (if Nat.ble l.length 60 then some l else none) s).bind fun l s => (lcL (fun y s => (bindG (setT tg y (wipG g (slotsT tg))) fun g' => (evTs T C tst g' s).bind fun b s => tstR b ((evE T C elt g' s).bind fun d s => .ok (some d) s) (.ok none s)).bind intO) l s).bind fun r s => .ok (.lst ((ssetL (intsL r)).map .int)) s
  | .sst a, g, s => (evB (evE T C a g s) a g s).bind fun x s => sstR x s
  | .sto a, g, s => (evE T C a g s).bind fun x s => stoR x s
  | .fmt a, g, s => (evE T C a g s).bind fun x s => (optR (fstD x) s).bind fun t s => .ok (.str t) s
  | .fst es, g, s => evJ T C es ⟨#[]⟩ g s
noncomputable def evEs (T : Tb) (C : Calls) : List E → En → Sto → R (List D)
  | [], _, s => .ok [] s
  | e :: es, g, s => (evE T C e g s).bind fun d s => (evEs T C es g s).bind fun ds s => .ok (d :: ds) s
noncomputable def evJ (T : Tb) (C : Calls) : List E → Str → En → Sto → R D
  | [], acc, _, s => .ok (.str acc) s
  | e :: es, acc, g, s => (evE T C e g s).bind fun d s => (match d with
    | .str y => if small (acc ++ y).length then evJ T C es (acc ++ y) g s else .no
    | _ => .no)
noncomputable def evOs (T : Tb) (C : Calls) : List E → En → Sto → R (List D)
  | [], _, s => .ok [] s
  | e :: es, g, s => (evB (evE T C e g s) e g s).bind fun d s => (evOs T C es g s).bind fun ds s => .ok (d :: ds) s
noncomputable def evOp (T : Tb) (C : Calls) : Option E → En → Sto → R (Option Int)
  | none, _, s => .ok none s
  | some e, g, s => (evE T C e g s).bind fun d s => (match d with
    | .int i => .ok (some i) s
    | _ => .no)
noncomputable def evTs (T : Tb) (C : Calls) : Option E → En → Sto → R D
  | none, _, s => .ok (.bl true) s
  | some e, g, s => evE T C e g s
end
def forL (f : D → En → Sto → Fl) : List D → En → Sto → Fl
  | [], g, s => .nx g s
  | x :: xs, g, s => (match f x g s with
    | .nx g' s' => forL f xs g' s'
    | .ct g' s' => forL f xs g' s'
    | .bk g' s' => .nx g' s'
    | r => r)
def whlL (t : En → Sto → R D) (f : En → Sto → Fl) : Nat → En → Sto → Fl
  | 0, _, _ => .no
  | n + 1, g, s => (t g s).fl g fun d s => (match d with
    | .bl true => (match f g s with
      | .nx g' s' => whlL t f n g' s'
      | .ct g' s' => whlL t f n g' s'
      | .bk g' s' => .nx g' s'
      | r => r)
    | .bl false => .nx g s
    | _ => .no)
def optF {A : Type} (o : Option A) (k : A → Fl) : Fl := match o with
  | some a => k a
  | none => .no
def owL (g : En) (i : Nat) : Option (List D) := match g[i]? with
  | some (.ow (.lst xs)) => some xs
  | _ => none
def frzG (g : En) (i : Nat) : Option En := match g[i]? with
  | some (.ow d) => some (g.set i (.sh d))
  | some (.sh d) => some (g.set i (.sh d))
  | _ => none
/-- the source of a for: an owned list is shared from here on -/
def frzI (g : En) (e : E) : Option En := match e with
  | .brw i => frzG g i
  | _ => some g
def isLst : D → Bool
  | .lst _ => true
  | _ => false
def setPar : List (Nat × Bool) → List D → En → Option En
  | [], [], g => some g
  | (i, o) :: ts, d :: ds, g => if decide (i < g.length) && (!o || isLst d) then setPar ts ds (g.set i (if o then .ow d else .sh d)) else none
  | _, _, _ => none
def isExc (T : Tb) (c h : Nat) : Option Bool := match T.cl.lookup c, T.cl.lookup h with
  | some d, some e => if decide (d.kind = 2) && decide (2 ≤ e.kind) then some (decide (c = h) || d.sup.contains h) else none
  | _, _ => none
def Sto.put (s : Sto) (n : Nat) (m : MO) : Sto := s.set n m
def setsD (o k v : D) (s : Sto) : Option Sto := match o with
  | .loc n => (match s[n]? with
    | some (.dct ks xs) => (keyOf k).bind fun k => if small (ks.length + 1) then some (s.set n (.dct (putD k v ks xs).1 (putD k v ks xs).2)) else none
    | some (.lst xs) => (match k with
      | .int i => (ixN xs.length i).bind fun j => some (s.set n (.lst (xs.set j v)))
      | _ => none)
    | _ => none)
  | _ => none
def prD : D → Option (D × D)
  | .tup [a, b] => some (a, b)
  | _ => none
def ixI (n : Nat) : D → Option Nat
  | .int j => ixN n j
  | _ => none
/-- the name of an except clause -/
def putX (i : Option Nat) (k : Nat) (xs : List D) (g : En) : Option En := match i with
  | none => some g
  | some i => if i < g.length then some (g.set i (.sh (.exn k xs))) else none
def cutX (i : Option Nat) (g : En) : En := match i with
  | none => g
  | some i => g.set i .un
/-- behind a suite: the name goes, and no exception leaves it -/
def Fl.cut (r : Fl) (i : Option Nat) : Fl := match r with
  | .nx g s => .nx (cutX i g) s
  | .bk g s => .bk (cutX i g) s
  | .ct g s => .ct (cutX i g) s
  | .rt d s => .rt d s
  | _ => .no
mutual
noncomputable def evS (T : Tb) (C : Calls) (w : Nat) : ST → En → Sto → Fl
  | .ex e, g, s => (evE T C e g s).fl g fun _ s => .nx g s
  | .asg t e, g, s => (evE T C e g s).fl g fun d s => optF (setT t d g) fun g' => .nx g' s
  | .own i e, g, s => (evE T C e g s).fl g fun d s => (match d with
    | .lst xs => if i < g.length then .nx (g.set i (.ow (.lst xs))) s else .no
    | _ => .no)
  | .par ts es, g, s => (evEs T C es g s).fl g fun ds s => optF (setPar ts ds g) fun g' => .nx g' s
  | .frz i, g, s => optF (frzG g i) fun g' => .nx g' s
  | .seti i k e, g, s => (evE T C e g s).fl g fun d s => optF (owL g i) fun xs => (evE T C k g s).fl g fun kd s => (match kd with
    | .int j => optF (ixN xs.length j) fun n => .nx (g.set i (.ow (.lst (xs.set n d)))) s
    | _ => .no)
  | .augi i k e, g, s => optF (owL g i) fun xs => (evE T C k g s).fl g fun kd s => (match kd with
    | .int j => optF (ixN xs.length j) fun n => optF xs[n]? fun old => (evE T C e g s).fl g fun d s => (match old, d with
      | .int a, .int b => .nx (g.set i (.ow (.lst (xs.set n (.int (a + b)))))) s
      | _, _ => .no)
    | _ => .no)
  | .sets o k e, g, s => (evE T C e g s).fl g fun d s => (evE T C o g s).fl g fun od s => (evE T C k g s).fl g fun kd s => optF (setsD od kd d s) fun s => .nx g s
  | .set2 i k j l e, g, s => (evE T C e g s).fl g fun d s => optF (prD d) fun p => optF (owL g i) fun xs => (evE T C k g s).fl g fun kd s => optF (ixI xs.length kd) fun n =>
      optF (owL (g.set i (.ow (.lst (xs.set n p.1)))) j) fun ys => (evE T C l (g.set i (.ow (.lst (xs.set n p.1)))) s).fl (g.set i (.ow (.lst (xs.set n p.1)))) fun ld s => optF (ixI ys.length ld) fun m => .nx ((g.set i (.ow (.lst (xs.set n p.1)))).set j (.ow (.lst (ys.set m p.2)))) s
  | .setf o a e, g, s => (evE T C e g s).fl g fun d s => (evE T C o g s).fl g fun od s => (match od with
    | .loc n => (match s[n]? with
      | some (.ins c ks xs) => if fldOk T c a && decide (ks.length < 900) then .nx g (s.set n (.ins c (putK a d ks xs).1 (putK a d ks xs).2)) else .no
      | _ => .no)
    | _ => .no)
  | .app i e, g, s => optF (owL g i) fun xs => (evE T C e g s).fl g fun d s => if small (xs.length + 1) then .nx (g.set i (.ow (.lst (xs ++ [d])))) s else .no
  | .ext i e, g, s => optF (owL g i) fun xs => (evE T C e g s).fl g fun d s => (match d with
    | .lst ys => if small (xs.length + ys.length) then .nx (g.set i (.ow (.lst (xs ++ ys)))) s else .no
    | _ => .no)
  | .pop i e, g, s => optF (owL g i) fun xs => (evE T C e g s).fl g fun d s => (match d with
    | .int j => optF (ixN xs.length j) fun n => if small xs.length then .nx (g.set i (.ow (.lst (xs.eraseIdx n)))) s else .no
    | _ => .no)
  | .apop i j e, g, s => if i = j then .no else optF (owL g i) fun xs => optF (owL g j) fun ys => (evE T C e g s).fl g fun d s => (match d with
    | .int k => optF (ixN ys.length k) fun n => optF ys[n]? fun y => if small (xs.length + 1) && small ys.length then .nx ((g.set j (.ow (.lst (ys.eraseIdx n)))).set i (.ow (.lst (xs ++ [y])))) s else .no
    | _ => .no)
  | .ret e, g, s => (evE T C e g s).fl g fun d s => .rt d s
  | .retn, _, s => .rt .non s
  | .ife t a b, g, s => (evE T C t g s).fl g fun d s => (match d with
    | .bl true => evSs T C w a g s
    | .bl false => evSs T C w b g s
    | _ => .no)
  | .forr t it body, g, s => (evB (evE T C it g s) it g s).fl g fun x s => optF (seqOf x) fun l => optF (frzI g it) fun g => forL (fun y g s => optF (setT t y g) fun g' => evSs T C w body g' s) l g s
  | .whl t body, g, s => whlL (fun g s => evE T C t g s) (fun g s => evSs T C w body g s) w g s
  | .brk, g, s => .bk g s
  | .cnt, g, s => .ct g s
  | .pas, g, s => .nx g s
  | .rse c es, g, s => if excN T c es.length then (evEs T C es g s).fl g fun ds s => if excN T c ds.length then .ex c ds g s else .no else .no
  | .tr body hs, g, s => (match evSs T C w body g s with
    | .ex k xs g' s' => evHs T C w hs k xs g' s'
    | r => r)
  | .cls _ _ _, _, _ => .no
noncomputable def evHs (T : Tb) (C : Calls) (w : Nat) : List ST → Nat → List D → En → Sto → Fl
  | [], k, xs, g, s => .ex k xs g s
  | .cls c i suite :: r, k, xs, g, s => (match isExc T k c with
    | some true => optF (putX i k xs g) fun g' => (evSs T C w suite g' s).cut i
    | some false => evHs T C w r k xs g s
    | none => .no)
  | _ :: _, _, _, _, _ => .no
noncomputable def evSs (T : Tb) (C : Calls) (w : Nat) : List ST → En → Sto → Fl
  | [], g, s => .nx g s
  | t :: ts, g, s => (evS T C w t g s).andThen fun g s => evSs T C w ts g s
end
def startG (ns : Nat) (ds : List D) : En := ds.map .sh ++ List.replicate (ns - ds.length) .un
def endR (r : Fl) : R D := match r with
  | .nx _ s => .ok .non s
  | .rt d s => .ok d s
  | .ex c xs _ s => .ex c xs s
  | _ => .no
def wFuel : Nat := 400
noncomputable def callF (T : Tb) (C : Calls) (f : Nat) (ds : List D) (s : Sto) : R D := match T.fn.lookup f with
  | some d => if ds.length = d.np then endR (evSs T C wFuel d.body (startG d.ns ds) s) else .no
  | none => .no
mutual
/-- only places below n -/
def locLt (n : Nat) : D → Bool
  | .tup xs => locsLt n xs
  | .lst xs => locsLt n xs
  | .dct _ xs => locsLt n xs
  | .obj _ _ xs => locsLt n xs
  | .exn _ xs => locsLt n xs
  | .loc m => decide (m < n)
  | _ => true
def locsLt (n : Nat) : List D → Bool
  | [] => true
  | x :: xs => locLt n x && locsLt n xs
end
def insAt (s : Sto) (n : Nat) : Option (Nat × List Nat × List D) := match s[n]? with
  | some (.ins c ks xs) => some (c, ks, xs)
  | _ => none
open Classical in
/-- behind an __init__: the new instance is frozen -/
noncomputable def frzR (s : Sto) (r : R D) : R D := match r with
  | .ok d s' => (match insAt s' s.length with
    | some (c, ks, xs) => if isNon d = true ∧ s'.take s.length = s ∧ s'.length = s.length + 1 ∧ locsLt s.length xs = true then .ok (.obj c ks xs) s else .no
    | none => .no)
  | .ex k xs s' => if s'.take s.length = s ∧ s'.length = s.length + 1 ∧ locsLt s.length xs = true then .ex k xs s else .no
  | .no => .no
noncomputable def mkF (T : Tb) (C : Calls) (c : Nat) (ds : List D) (s : Sto) : R D := match T.cl.lookup c with
  | some d => (match T.fn.lookup d.init with
    | some _ => if d.kind = 0 then frzR s (callF T C d.init (.loc s.length :: ds) (s ++ [.ins c [] []]))
      else if d.kind = 1 then ((callF T C d.init (.loc s.length :: ds) (s ++ [.ins c [] []])).bind fun d s' => if isNon d then .ok (.loc s.length) s' else .no) else .no
    | none => .no)
  | none => .no
noncomputable def callsAt (T : Tb) : Nat → Calls
  | 0 => ⟨fun _ _ _ => .no, fun _ _ _ => .no⟩
  | n + 1 => ⟨callF T (callsAt T n), mkF T (callsAt T n)⟩
theorem asc_ext : ∀ {l m : List Int}, l.Pairwise (· < ·) → m.Pairwise (· < ·) → (∀ k, k ∈ l ↔ k ∈ m) → l = m
  | [], [], _, _, _ => rfl
  | [], y :: m, _, _, h => absurd ((h y).mpr List.mem_cons_self) (by simp)
  | x :: l, [], _, _, h => absurd ((h x).mp List.mem_cons_self) (by simp)
  | x :: l, y :: m, hl, hm, h => by
    rw [List.pairwise_cons] at hl hm
    have e : x = y := by
      have h1 := (h x).mp List.mem_cons_self
      have h2 := (h y).mpr List.mem_cons_self
      rcases List.mem_cons.mp h1 with z | z
      · exact z
      · rcases List.mem_cons.mp h2 with w | w
        · exact w.symm
        · have a := hm.1 x z
          have b := hl.1 y w
          omega
    subst e
    refine congrArg (x :: ·) (asc_ext hl.2 hm.2 fun k => ⟨fun z => ?_, fun z => ?_⟩)
    · rcases List.mem_cons.mp ((h k).mp (List.mem_cons_of_mem _ z)) with w | w
      · have := hl.1 k z
        omega
      · exact w
    · rcases List.mem_cons.mp ((h k).mpr (List.mem_cons_of_mem _ z)) with w | w
      · have := hm.1 k z
        omega
      · exact w
theorem dups_nl : ∀ (n : Nat) (l : List Int), l.length ≤ n → l.eraseDups.Nodup ∧ l.eraseDups.length ≤ l.length
  | n, [], _ => by simp
  | 0, _ :: _, h => by simp at h
  | n + 1, x :: l, h => by
    rw [List.eraseDups_cons]
    have hl : (l.filter fun b => !b == x).length ≤ l.length := List.length_filter_le _ _
    simp only [List.length_cons] at h
    obtain ⟨h1, h2⟩ := dups_nl n (l.filter fun b => !b == x) (by omega)
    refine ⟨List.nodup_cons.mpr ⟨fun z => ?_, h1⟩, ?_⟩
    · rw [List.mem_eraseDups] at z
      simp at z
    · simp only [List.length_cons]
      omega
theorem ssetL_asc (l : List Int) : (ssetL l).Pairwise (· < ·) := by
  have h1 : (ssetL l).Pairwise (fun a b => decide (a ≤ b) = true) := List.pairwise_mergeSort (fun a b c => by simp; omega) (fun a b => by simp; omega) _
  have h2 : (ssetL l).Nodup := (List.mergeSort_perm _ _).nodup_iff.mpr (dups_nl _ l (Nat.le_refl _)).1
  refine (h1.and h2).imp fun {a b} hab => ?_
  simp at hab
  omega
theorem ssetL_mem (l : List Int) (k : Int) : k ∈ ssetL l ↔ k ∈ l := by
  unfold ssetL isort
  rw [(List.mergeSort_perm _ _).mem_iff]
  exact List.mem_eraseDups
theorem dups_snoc (l : List Int) (k : Int) : (l ++ [k]).eraseDups.length = if decide (k ∈ l) = true then l.eraseDups.length else l.eraseDups.length + 1 := by
  rw [List.eraseDups_append]
  by_cases h : k ∈ l
  · simp [List.removeAll, h]
  · simp [List.removeAll, h, List.eraseDups_cons]
theorem dups_le (l : List Int) : l.eraseDups.length ≤ l.length := (dups_nl _ l (Nat.le_refl _)).2
end Bd
namespace Bd
open PySem PySem.Spec PyProof.Rows L2
structure Lay where
  K : PySem.W.Frag
  ca : Nat → Addr
  fa : Nat → Addr
  nm : Nat → Str
  flds : Nat → List Nat
/-- at a: an exception of class cls, its dict d -/
def exq (a : Addr) (cls : Value) (d : Option Addr) : HO := .ext fun h => ∃ oe vs, h.get? a = some oe ∧ oe.cls = cls ∧ oe.dict = d ∧ oe.data = .fields vs
/-- a tuple's object that bears no attribute dict -/
def KTp (o : Obj) : Prop := o.cls = .type "tuple" ∧ o.dict = none
/-- at a: a tuple whose object is known -/
def KT (H : Hp) (a : Addr) (vs : List V) : Prop := ∃ o, H a = some (.frz o (.tup vs)) ∧ KTp o
theorem KT.sq {K : PySem.W.Frag} {H : Hp} {a : Addr} {vs : List V} (h : KT H a vs) : SqT K H a vs := let ⟨o, e, _⟩ := h; .inl (.inr ⟨o, e⟩)
theorem KT.mono {F H : Hp} {a : Addr} {vs : List V} (e : Same F H) (h : KT F a vs) : KT H a vs := let ⟨o, q, r⟩ := h; ⟨o, e _ _ q, r⟩
mutual
inductive Is (L : Lay) (F : Hp) (mu : List Addr) : V → D → Prop
  | non : Is L F mu .non .non
  | bl (b : Bool) : Is L F mu (.bl b) (.bl b)
  | int (i : Int) : Is L F mu (.int i) (.int i)
  | str (x : Str) : Is L F mu (.str x) (.str x)
  | tup {a : Addr} {vs : List V} {ds : List D} : KT F a vs → IsAll L F mu vs ds → Is L F mu (.ref a) (.tup ds)
  | lst {a : Addr} {vs : List V} {ds : List D} : F a = some (.lst vs) → IsAll L F mu vs ds → Is L F mu (.ref a) (.lst ds)
  | dct {a : Addr} {kvs : List (Key × V)} {ks : List Key} {ds : List D} : F a = some (.dK kvs) → kvs.map (·.1) = ks → IsAll L F mu (kvs.map (·.2)) ds → Is L F mu (.ref a) (.dct ks ds)
  | obj {a dx : Addr} {c : Nat} {fs : List (Str × V)} {ks : List Nat} {ds : List D} : F a = some (.ins (L.ca c) dx fs) → fs.map (·.1) = ks.map L.nm → IsAll L F mu (fs.map (·.2)) ds → Is L F mu (.ref a) (.obj c ks ds)
  | exn {a d : Addr} {c : Nat} {fs : List (Str × V)} {ds : List D} : F a = some (exq a (.ref (L.ca c)) (some d)) → F d = some (.xd fs) → fs.map (·.1) = (L.flds c).map L.nm → IsAll L F mu (fs.map (·.2)) ds → Is L F mu (.ref a) (.exn c ds)
  | exz {a : Addr} {c : Nat} : F a = some (exq a (.ref (L.ca c)) none) → L.flds c = [] → Is L F mu (.ref a) (.exn c [])
  | loc {a : Addr} {n : Nat} : mu[n]? = some a → Is L F mu (.ref a) (.loc n)
  | scr {a : Addr} {ns : List Int} : SqL L.K F a (ns.map V.int) → Is L F mu (.ref a) (.scr ns)
inductive IsAll (L : Lay) (F : Hp) (mu : List Addr) : List V → List D → Prop
  | nil : IsAll L F mu [] []
  | cons {v : V} {vs : List V} {d : D} {ds : List D} : Is L F mu v d → IsAll L F mu vs ds → IsAll L F mu (v :: vs) (d :: ds)
end
section
variable {L : Lay} {F F' : Hp} {mu mu' : List Addr}
theorem sqT_mono {K : PySem.W.Frag} {a : Addr} {xs : List V} (e : Same F F') (h : SqT K F a xs) : SqT K F' a xs := by
  rcases h with (h | ⟨o, h⟩) | h
  · exact .inl (.inl (e _ _ h))
  · exact .inl (.inr ⟨o, e _ _ h⟩)
  · exact .inr h
mutual
theorem Is.mono (e : Same F F') (m : ∀ (n : Nat) a, mu[n]? = some a → mu'[n]? = some a) : ∀ {v : V} {d : D}, Is L F mu v d → Is L F' mu' v d
  | _, _, .non => .non
  | _, _, .bl b => .bl b
  | _, _, .int i => .int i
  | _, _, .str x => .str x
  | _, _, .tup h1 h2 => .tup (h1.mono e) (IsAll.mono e m h2)
  | _, _, .lst h1 h2 => .lst (e _ _ h1) (IsAll.mono e m h2)
  | _, _, .scr h1 => .scr (e.seq h1)
  | _, _, .dct h1 h2 h3 => .dct (e _ _ h1) h2 (IsAll.mono e m h3)
  | _, _, .obj h1 h2 h3 => .obj (e _ _ h1) h2 (IsAll.mono e m h3)
  | _, _, .exn h1 h2 h3 h4 => .exn (e _ _ h1) (e _ _ h2) h3 (IsAll.mono e m h4)
  | _, _, .exz h1 h2 => .exz (e _ _ h1) h2
  | _, _, .loc h => .loc (m _ _ h)
theorem IsAll.mono (e : Same F F') (m : ∀ (n : Nat) a, mu[n]? = some a → mu'[n]? = some a) : ∀ {vs : List V} {ds : List D}, IsAll L F mu vs ds → IsAll L F' mu' vs ds
  | _, _, .nil => .nil
  | _, _, .cons h t => .cons (Is.mono e m h) (IsAll.mono e m t)
end
theorem IsAll.length : ∀ {vs : List V} {ds : List D}, IsAll L F mu vs ds → vs.length = ds.length
  | _, _, .nil => rfl
  | _, _, .cons _ t => by simp [IsAll.length t]
theorem IsAll.get : ∀ {vs : List V} {ds : List D} {i : Nat} {d : D}, IsAll L F mu vs ds → ds[i]? = some d → ∃ v, vs[i]? = some v ∧ Is L F mu v d
  | _, _, _, _, .nil, e => by simp at e
  | _, _, 0, _, .cons h _, e => by
    simp at e
    subst e
    exact ⟨_, rfl, h⟩
  | _, _, i + 1, d, .cons _ t, e => by
    obtain ⟨v, h1, h2⟩ := IsAll.get (i := i) (d := d) t (by simpa using e)
    exact ⟨v, by simpa using h1, h2⟩
theorem IsAll.get' : ∀ {vs : List V} {ds : List D} {i : Nat} {v : V}, IsAll L F mu vs ds → vs[i]? = some v → ∃ d, ds[i]? = some d ∧ Is L F mu v d
  | _, _, _, _, .nil, e => by simp at e
  | _, _, 0, _, .cons h _, e => by
    simp at e
    subst e
    exact ⟨_, rfl, h⟩
  | _, _, i + 1, d, .cons _ t, e => by
    obtain ⟨v, h1, h2⟩ := IsAll.get' (i := i) (v := d) t (by simpa using e)
    exact ⟨v, by simpa using h1, h2⟩
theorem IsAll.append : ∀ {vs ws : List V} {ds es : List D}, IsAll L F mu vs ds → IsAll L F mu ws es → IsAll L F mu (vs ++ ws) (ds ++ es)
  | _, _, _, _, .nil, s => s
  | _, _, _, _, .cons h t, s => .cons h (IsAll.append t s)
theorem IsAll.set {v : V} {d : D} (h : Is L F mu v d) : ∀ {vs : List V} {ds : List D} (i : Nat), IsAll L F mu vs ds → IsAll L F mu (vs.set i v) (ds.set i d)
  | _, _, _, .nil => .nil
  | _, _, 0, .cons _ t => .cons h t
  | _, _, i + 1, .cons q t => .cons q (IsAll.set h i t)
theorem IsAll.take : ∀ {vs : List V} {ds : List D} (n : Nat), IsAll L F mu vs ds → IsAll L F mu (vs.take n) (ds.take n)
  | _, _, 0, _ => .nil
  | _, _, _ + 1, .nil => .nil
  | _, _, n + 1, .cons h t => .cons h (IsAll.take n t)
theorem IsAll.drop : ∀ {vs : List V} {ds : List D} (n : Nat), IsAll L F mu vs ds → IsAll L F mu (vs.drop n) (ds.drop n)
  | _, _, 0, h => h
  | _, _, _ + 1, .nil => .nil
  | _, _, n + 1, .cons _ t => IsAll.drop n t
theorem IsAll.erase : ∀ {vs : List V} {ds : List D} (n : Nat), IsAll L F mu vs ds → IsAll L F mu (vs.eraseIdx n) (ds.eraseIdx n)
  | _, _, _, .nil => .nil
  | _, _, 0, .cons _ t => t
  | _, _, n + 1, .cons h t => .cons h (IsAll.erase n t)
theorem IsAll.reverse : ∀ {vs : List V} {ds : List D}, IsAll L F mu vs ds → IsAll L F mu vs.reverse ds.reverse
  | _, _, .nil => .nil
  | _, _, .cons h t => by
    rw [List.reverse_cons, List.reverse_cons]
    exact IsAll.append (IsAll.reverse t) (.cons h .nil)
theorem IsAll.flat {vs : List V} {ds : List D} (h : IsAll L F mu vs ds) : ∀ n : Nat, IsAll L F mu (List.replicate n vs).flatten (List.replicate n ds).flatten
  | 0 => .nil
  | n + 1 => by
    rw [List.replicate_succ, List.replicate_succ, List.flatten_cons, List.flatten_cons]
    exact IsAll.append h (IsAll.flat h n)
theorem IsAll.ints : ∀ {vs : List V} {ds : List D} {l : List Int}, IsAll L F mu vs ds → intsOf ds = some l → vs = l.map V.int
  | _, _, _, .nil, e => by
    cases e
    rfl
  | _, _, l, .cons h t, e => by
    rename_i v vs d ds
    cases d with
    | int i =>
      cases h
      unfold intsOf at e
      cases q : intsOf ds with
      | none => rw [q] at e; cases e
      | some r =>
        rw [q] at e
        cases e
        rw [IsAll.ints t q]
        rfl
    | _ => cases e
theorem IsAll.bls : ∀ {vs : List V} {ds : List D} {l : List Bool}, IsAll L F mu vs ds → blsOf ds = some l → vs = l.map V.bl
  | _, _, _, .nil, e => by
    cases e
    rfl
  | _, _, l, .cons h t, e => by
    rename_i v vs d ds
    cases d with
    | bl i =>
      cases h
      unfold blsOf at e
      cases q : blsOf ds with
      | none => rw [q] at e; cases e
      | some r =>
        rw [q] at e
        cases e
        rw [IsAll.bls t q]
        rfl
    | _ => cases e
theorem IsAll.of_ints : ∀ l : List Int, IsAll L F mu (l.map V.int) (l.map D.int)
  | [] => .nil
  | i :: l => .cons (.int i) (IsAll.of_ints l)
end
structure Wd where
  F : Hp
  mu : List Addr
  H : Hp
def MRep (L : Lay) (wd : Wd) (a : Addr) : MO → Prop
  | .lst xs => ∃ vs, wd.H a = some (.lst vs) ∧ IsAll L wd.F wd.mu vs xs
  | .dct ks xs => ∃ kvs, wd.H a = some (.dK kvs) ∧ kvs.map (·.1) = ks ∧ IsAll L wd.F wd.mu (kvs.map (·.2)) xs
  | .ins c ks xs => ∃ dx fs, wd.H a = some (.ins (L.ca c) dx fs) ∧ fs.map (·.1) = ks.map L.nm ∧ IsAll L wd.F wd.mu (fs.map (·.2)) xs
structure WdOk (L : Lay) (wd : Wd) (s : Sto) : Prop where
  sub : Same wd.F wd.H
  inj : ∀ (i j : Nat) a, wd.mu[i]? = some a → wd.mu[j]? = some a → i = j
  apart : ∀ (i : Nat) a, wd.mu[i]? = some a → wd.F a = none
  len : wd.mu.length = s.length
  sto : ∀ (n : Nat) m, s[n]? = some m → ∃ a, wd.mu[n]? = some a ∧ MRep L wd a m
structure Ext (wd wd' : Wd) : Prop where
  fle : Same wd.F wd'.F
  mle : ∀ (n : Nat) a, wd.mu[n]? = some a → wd'.mu[n]? = some a
  newF : ∀ a o, wd'.F a = some o → wd.F a = some o ∨ wd.H a = none
  newM : ∀ (n : Nat) a, wd'.mu[n]? = some a → wd.mu[n]? = some a ∨ wd.H a = none
  kept : ∀ a o, wd.H a = some o → (∀ n : Nat, wd.mu[n]? ≠ some a) → wd'.H a = some o
  dom : ∀ a, wd'.H a = none → wd.H a = none
theorem Ext.refl (wd : Wd) : Ext wd wd := ⟨Same.refl _, fun _ _ h => h, fun _ _ h => .inl h, fun _ _ h => .inl h, fun _ _ h _ => h, fun _ h => h⟩
theorem Ext.trans {a b c : Wd} (x : Ext a b) (y : Ext b c) : Ext a c where
  fle := x.fle.trans y.fle
  mle := fun n a h => y.mle n a (x.mle n a h)
  newF := fun p o h => by
    rcases y.newF p o h with q | q
    · exact x.newF p o q
    · exact .inr (x.dom p q)
  newM := fun n p h => by
    rcases y.newM n p h with q | q
    · exact x.newM n p q
    · exact .inr (x.dom p q)
  kept := fun p o h n => by
    refine y.kept p o (x.kept p o h n) fun k q => ?_
    rcases x.newM k p q with z | z
    · exact n k z
    · rw [h] at z
      cases z
  dom := fun p h => x.dom p (y.dom p h)
theorem Is.ext {L : Lay} {wd wd' : Wd} {v : V} {d : D} (x : Ext wd wd') (h : Is L wd.F wd.mu v d) : Is L wd'.F wd'.mu v d := h.mono x.fle x.mle
theorem IsAll.ext {L : Lay} {wd wd' : Wd} {v : List V} {d : List D} (x : Ext wd wd') (h : IsAll L wd.F wd.mu v d) : IsAll L wd'.F wd'.mu v d := h.mono x.fle x.mle
/-- a list or an instance that is ours alone -/
def OwnH (L : Lay) (wd : Wd) (a : Addr) : D → Prop
  | .lst xs => ∃ vs, wd.H a = some (.lst vs) ∧ IsAll L wd.F wd.mu vs xs
  | .obj c ks xs => ∃ dx fs, wd.H a = some (.ins (L.ca c) dx fs) ∧ fs.map (·.1) = ks.map L.nm ∧ IsAll L wd.F wd.mu (fs.map (·.2)) xs
  | _ => False
structure Own (L : Lay) (wd0 wd : Wd) (a : Addr) (d : D) : Prop where
  new : wd0.H a = none
  nF : wd.F a = none
  nM : ∀ n : Nat, wd.mu[n]? ≠ some a
  rep : OwnH L wd a d
theorem OwnH.there {L : Lay} {wd : Wd} {a : Addr} {d : D} (h : OwnH L wd a d) : ∃ o, wd.H a = some o := by
  cases d with
  | lst xs => obtain ⟨vs, e, _⟩ := h; exact ⟨_, e⟩
  | obj c ks xs => obtain ⟨dx, fs, e, _⟩ := h; exact ⟨_, e⟩
  | _ => exact h.elim
structure Slots (L : Lay) (wd0 wd : Wd) (st : L2.St) (g : En) : Prop where
  len : st.length = g.length
  sh : ∀ (i : Nat) d, g[i]? = some (.sh d) → ∃ v, st[i]? = some (some v) ∧ Is L wd.F wd.mu v d
  ow : ∀ (i : Nat) d, g[i]? = some (.ow d) → ∃ a, st[i]? = some (some (.ref a)) ∧ Own L wd0 wd a d
  dis : ∀ (i j : Nat) d e a, g[i]? = some (.ow d) → g[j]? = some (.ow e) → st[i]? = some (some (V.ref a)) → st[j]? = some (some (V.ref a)) → i = j
theorem Own.ext {L : Lay} {wd0 wd wd' : Wd} {a : Addr} {d : D} (x : Ext wd wd') (h : Own L wd0 wd a d) : Own L wd0 wd' a d := by
  obtain ⟨o, ho⟩ := h.rep.there
  refine ⟨h.new, ?_, fun n q => ?_, ?_⟩
  · cases q : wd'.F a with
    | none => rfl
    | some u =>
      rcases x.newF a u q with z | z
      · rw [h.nF] at z; cases z
      · rw [ho] at z; cases z
  · rcases x.newM n a q with z | z
    · exact h.nM n z
    · rw [ho] at z; cases z
  · have r := h.rep
    cases d with
    | lst xs =>
      obtain ⟨vs, e, i⟩ := r
      exact ⟨vs, x.kept _ _ e h.nM, i.ext x⟩
    | obj c ks xs =>
      obtain ⟨dx, fs, e, q, i⟩ := r
      exact ⟨dx, fs, x.kept _ _ e h.nM, q, i.ext x⟩
    | _ => exact r.elim
theorem Slots.ext {L : Lay} {wd0 wd wd' : Wd} {st : L2.St} {g : En} (x : Ext wd wd') (h : Slots L wd0 wd st g) : Slots L wd0 wd' st g :=
  ⟨h.len, fun i d e => let ⟨v, a, b⟩ := h.sh i d e; ⟨v, a, b.ext x⟩, fun i d e => let ⟨v, a, b⟩ := h.ow i d e; ⟨v, a, b.ext x⟩, h.dis⟩
/-- a new frozen object -/
theorem Ext.frozen {L : Lay} {wd : Wd} {s : Sto} {p : Addr} {o : HO} (k : WdOk L wd s) (h : wd.H p = none) : Ext wd ⟨upd wd.F p o, wd.mu, upd wd.H p o⟩ := by
  have hF : wd.F p = none := k.sub.free h
  refine ⟨fun a u e => ?_, fun _ _ e => e, fun a u e => ?_, fun _ _ e => .inl e, fun a u e _ => ?_, fun a e => ?_⟩
  · show upd wd.F p o a = some u
    rw [upd_ne (ne_of_none e hF)]
    exact e
  · by_cases q : a = p
    · subst q
      exact .inr h
    · refine .inl ?_
      have e2 : upd wd.F p o a = some u := e
      rw [upd_ne q] at e2
      exact e2
  · show upd wd.H p o a = some u
    rw [upd_ne (ne_of_none e h)]
    exact e
  · have e2 : upd wd.H p o a = none := e
    by_cases q : a = p
    · subst q
      rw [upd_same] at e2
      cases e2
    · rw [upd_ne q] at e2
      exact e2
theorem MRep.ext {L : Lay} {wd wd' : Wd} {a : Addr} {m : MO} (x : Ext wd wd') (e : wd'.H a = wd.H a) (h : MRep L wd a m) : MRep L wd' a m := by
  cases m with
  | lst xs =>
    obtain ⟨vs, q, i⟩ := h
    exact ⟨vs, e.trans q, i.ext x⟩
  | dct ks xs =>
    obtain ⟨kvs, q, r, i⟩ := h
    exact ⟨kvs, e.trans q, r, i.ext x⟩
  | ins c ks xs =>
    obtain ⟨dx, fs, q, r, i⟩ := h
    exact ⟨dx, fs, e.trans q, r, i.ext x⟩
theorem MRep.there {L : Lay} {wd : Wd} {a : Addr} {m : MO} (h : MRep L wd a m) : ∃ o, wd.H a = some o := by
  cases m with
  | lst xs => obtain ⟨vs, q, i⟩ := h; exact ⟨_, q⟩
  | dct ks xs => obtain ⟨kvs, q, r, i⟩ := h; exact ⟨_, q⟩
  | ins c ks xs => obtain ⟨dx, fs, q, r, i⟩ := h; exact ⟨_, q⟩
theorem WdOk.mu_there {L : Lay} {wd : Wd} {s : Sto} (k : WdOk L wd s) {n : Nat} {a : Addr} (h : wd.mu[n]? = some a) : ∃ o, wd.H a = some o := by
  have hn : n < wd.mu.length := (List.getElem?_eq_some_iff.mp h).1
  rw [k.len] at hn
  obtain ⟨m, hm⟩ : ∃ m, s[n]? = some m := ⟨s[n], List.getElem?_eq_getElem hn⟩
  obtain ⟨b, hb, r⟩ := k.sto n m hm
  rw [h] at hb
  cases hb
  exact r.there
theorem WdOk.frozen {L : Lay} {wd : Wd} {s : Sto} {p : Addr} {o : HO} (k : WdOk L wd s) (h : wd.H p = none) : WdOk L ⟨upd wd.F p o, wd.mu, upd wd.H p o⟩ s := by
  have x := Ext.frozen (o := o) k h
  have ne : ∀ (i : Nat) a, wd.mu[i]? = some a → a ≠ p := fun i a e q => by
    obtain ⟨u, hu⟩ := k.mu_there e
    rw [q, h] at hu
    cases hu
  refine ⟨fun a u e => ?_, k.inj, fun i a e => ?_, k.len, fun n m e => ?_⟩
  · have e2 : upd wd.F p o a = some u := e
    show upd wd.H p o a = some u
    by_cases q : a = p
    · subst q
      rw [upd_same] at e2 ⊢
      exact e2
    · rw [upd_ne q] at e2 ⊢
      exact k.sub a u e2
  · show upd wd.F p o a = none
    rw [upd_ne (ne i a e)]
    exact k.apart i a e
  · obtain ⟨a, e1, r⟩ := k.sto n m e
    exact ⟨a, e1, r.ext x (upd_ne (ne n a e1))⟩
/-- a new object that is not frozen -/
theorem Ext.laid {L : Lay} {wd : Wd} {s : Sto} {p : Addr} {o : HO} (k : WdOk L wd s) (h : wd.H p = none) : Ext wd ⟨wd.F, wd.mu, upd wd.H p o⟩ := by
  refine ⟨Same.refl _, fun _ _ e => e, fun a u e => .inl e, fun _ _ e => .inl e, fun a u e _ => ?_, fun a e => ?_⟩
  · show upd wd.H p o a = some u
    rw [upd_ne (ne_of_none e h)]
    exact e
  · have e2 : upd wd.H p o a = none := e
    by_cases q : a = p
    · subst q
      rw [upd_same] at e2
      cases e2
    · rw [upd_ne q] at e2
      exact e2
theorem WdOk.laid {L : Lay} {wd : Wd} {s : Sto} {p : Addr} {o : HO} (k : WdOk L wd s) (h : wd.H p = none) : WdOk L ⟨wd.F, wd.mu, upd wd.H p o⟩ s := by
  have x := Ext.laid (o := o) k h
  have ne : ∀ (i : Nat) a, wd.mu[i]? = some a → a ≠ p := fun i a e q => by
    obtain ⟨u, hu⟩ := k.mu_there e
    rw [q, h] at hu
    cases hu
  refine ⟨fun a u e => ?_, k.inj, k.apart, k.len, fun n m e => ?_⟩
  · show upd wd.H p o a = some u
    rw [upd_ne (ne_of_none (k.sub a u e) h)]
    exact k.sub a u e
  · obtain ⟨a, e1, r⟩ := k.sto n m e
    exact ⟨a, e1, r.ext x (upd_ne (ne n a e1))⟩
end Bd
namespace Bd
open PySem PySem.Spec PyProof.Rows L2
def supF : List PySem.Stmt → Option (List Str)
  | [] => some []
  | .Assign [.Attribute (.Name z _) f _] (.Name v _) _ :: r => if z = "self" ∧ v = f then (supF r).map fun l => f :: l else none
  | _ => none
def supB : List PySem.Stmt → Option (List Str)
  | .Expr (.Call (.Attribute (.Call (.Name n _) [] [] _) a p) [.Constant (.str _) _ _] [] q) _ :: r => if n = "super" ∧ a = "__init__" ∧ (p.endLine == q.line) = true then supF r else none
  | _ => none
def fnAt (K : PySem.W.Frag) (f : Addr) : Option FuncData := match K.lookup f with
  | some ⟨_, _, .func fd, _⟩ => some fd
  | _ => none
theorem fnAt_get {K : PySem.W.Frag} {f : Addr} {fd : FuncData} (h : fnAt K f = some fd) : ∃ o, K.lookup f = some o ∧ o.data = .func fd := by
  unfold fnAt at h
  split at h
  · rename_i fd' sl ho
    cases h
    exact ⟨_, ho, rfl⟩
  · cases h
def cellAt (K : PySem.W.Frag) (c C : Addr) : Bool := match K.lookup c with
  | some ⟨_, _, .cell (some (.ref D)), _⟩ => D == C
  | _ => false
theorem cellAt_get {K : PySem.W.Frag} {c C : Addr} (h : cellAt K c C = true) : ∃ o, K.lookup c = some o ∧ o.data = .cell (some (.ref C)) := by
  unfold cellAt at h
  split at h
  · rename_i D sl ho
    have e : D = C := beq_iff_eq.mp h
    subst e
    exact ⟨_, ho, rfl⟩
  · cases h
def fileAt (K : PySem.W.Frag) (c : Value) (file : Str) : Bool := match c with
  | .ref a => (match K.lookup a with
    | some ⟨_, _, .fields vs, _⟩ => (match (vs[2]? : Option Value) with
      | some (.str f _) => file == f
      | _ => false)
    | _ => false)
  | _ => false
theorem fileAt_get {K : PySem.W.Frag} {c : Value} {file : Str} (h : fileAt K c file = true) : ∃ a o vs f t, c = .ref a ∧ K.lookup a = some o ∧ o.data = .fields vs ∧ vs[2]? = some (.str f t) ∧ (file == f) = true := by
  unfold fileAt at h
  split at h
  · rename_i a
    split at h
    · rename_i vs sl ho
      split at h
      · rename_i f t hv
        exact ⟨a, _, vs, f, t, rfl, ho, rfl, hv, h⟩
      · cases h
    · cases h
  · cases h
/-- what the written part says of such a class -/
structure SupX (P : Program) (K : PySem.W.Frag) (C fI : Addr) (B newId i : String) (bmB : List Value) (fl : List Str) (fd : FuncData) : Prop where
  FB : ExcBaseFacts B newId i bmB
  SF : StoreFacts B bmB "object.__setattr__" "object"
  KF : PySem.W.KxsFacts B i
  ini : PySem.W.excInitIn K C bmB newId = true
  ovr : PySem.W.excOver K C bmB = true
  hdt : PySem.W.hasDictIn K C = true
  sa : PySem.W.findIn K (.ref C) "__setattr__" = some (some (.builtin "object.__setattr__"))
  tk : ∀ f ∈ fl, PySem.W.takerIn K C f = some none
  nd : fl.Nodup
  lt : fl.length ≤ 100
  exC : PySem.W.subIn K (.ref C) (.type "BaseException") = some true
  subB : PySem.W.subIn K (.ref C) (.type B) = some true
  tyC : PySem.W.typeIn K (.ref C) = some (.type "type")
  kC : PySem.W.keepIn K (.ref C) = true
  iC : PySem.W.findIn K (.ref C) "__init__" = some (some (.ref fI))
  tI : PySem.W.typeIn K (.ref fI) = some (.type "function")
  opq : PySem.W.nsIn K cStatics "thirdparty.any" = some none
  sup : PySem.W.ks_superIn K C C "__init__" = some (some (.builtin i))
  mroC : PySem.W.mroIn K C (.ref C) = some true
  fn : fnAt K fI = some fd
  body : ∃ b, fd.body = .stmts b ∧ supB b = some fl
  clo : ∃ cc, fd.closure.lookup ("__class__" : Str) = some cc ∧ cellAt K cc C = true
  file : fileAt K fd.code (P.main.file : Str) = true
  code : PySem.W.codeIn K fd.code fd.qualname = true
  kind : fd.scope.kind = .function
  cor : fd.scope.isCoroutine = false
  gen : fd.scope.isGenerator = false
  nsup : fd.scope.names.lookup ("super" : Str) = some .globalImplicit
  ncls : fd.scope.names.lookup ("__class__" : Str) = some .free
  nloc : ∀ x ∈ ("self" : Str) :: fl, fd.scope.names.lookup x = some .local
  nslf : ("self" : Str) ∉ fl
  ncel : ∀ x ∈ fd.scope.names, x.2 ≠ .cell
  ndbg : ∀ x ∈ ("self" : Str) :: fl, (x == ("__debug__" : Str)) = false
  par : ∃ ar : PySem.Arg, (fd.params.posonlyargs ++ fd.params.args).head? = some ar ∧ ar.arg = "self"
  glob : fd.globals = mainGlobals
  blt : fd.builtins = builtinsNs
  bnd : Binds K fd (("self" : Str) :: fl) []
  top : (P.main.scope.names.lookup ("super" : Str)).isSome = false
theorem lookup_snoc {B : Type} (f y : Str) (v : B) : ∀ l : List (Str × B), (l ++ [(f, v)]).lookup y = (l.lookup y).or (if y = f then some v else none)
  | [] => by
    by_cases h : y = f
    · subst h; simp [List.lookup]
    · have e : (y == f) = false := by simpa using h
      simp [List.lookup, e, h]
  | (k, u) :: l => by
    by_cases h : y = k
    · subst h; simp [List.lookup]
    · have e : (y == k) = false := by simpa using h
      simp only [List.cons_append, List.lookup, e]
      exact lookup_snoc f y v l
theorem lookup_out {B : Type} {f : Str} : ∀ {l : List (Str × B)}, f ∉ l.map (·.1) → l.lookup f = none
  | [], _ => rfl
  | (k, u) :: l, h => by
    simp only [List.map_cons, List.mem_cons, not_or] at h
    have e : (f == k) = false := by simpa using h.1
    simp only [List.lookup, e]
    exact lookup_out h.2
theorem lookup_in {B : Type} {f : Str} {u : B} : ∀ {l : List (Str × B)}, l.lookup f = some u → f ∈ l.map (·.1)
  | [], h => by cases h
  | (k, v) :: l, h => by
    by_cases q : f = k
    · subst q; simp
    · have e : (f == k) = false := by simpa using q
      simp only [List.lookup, e] at h
      exact List.mem_cons_of_mem _ (lookup_in h)
theorem lookup_zip_rev {ps : List Str} {us : List Value} (nd : ps.Nodup) (x : Str) : (ps.zip us).reverse.lookup x = (ps.zip us).lookup x := by
  induction ps generalizing us with
  | nil => rfl
  | cons p ps ih =>
    cases us with
    | nil => rfl
    | cons u us =>
      rw [List.nodup_cons] at nd
      rw [List.zip_cons_cons, List.reverse_cons, lookup_snoc, ih nd.2]
      by_cases h : x = p
      · subst h
        have z : (ps.zip us).lookup x = none := lookup_out fun q => nd.1 (by
          obtain ⟨y, hy, e⟩ := List.mem_map.mp q
          rw [← e]
          exact (List.of_mem_zip hy).1)
        rw [z]
        simp [List.lookup]
      · have e : (x == p) = false := by simpa using h
        rw [if_neg h]
        simp [List.lookup, e]
abbrev exR (C t : Addr) (d : Option Addr) : Obj := { cls := .ref C, dict := d, data := .fields #[.ref t, .none, .none, .none, .bool false, .none] }
/-- the exception at x has these fields; what was there is kept -/
def Done (h0 : Heap) (x C : Addr) (done : List (Str × Value)) (h : Heap) : Prop :=
  (∀ b o, b ≠ x → h0.get? b = some o → h.get? b = some o) ∧ ∃ t, (done = [] ∧ h.get? x = some (exR C t none)) ∨
    ∃ dx mA, done ≠ [] ∧ h0.get? dx = none ∧ dx ≠ x ∧ h.get? x = some (exR C t (some dx)) ∧ h.Ns1 dx mA ∧ ∀ f, mA f = done.lookup f
section
variable {P : Program} {w : World} {K : PySem.W.Frag} {C fI x L : Addr} {B newId i : String} {bmB : List Value} {fl : List Str} {fd : FuncData}
theorem store_one (S : SupX P K C fI B newId i bmB fl fd) {A : Around} {E : Value → Shared → Prop} {h0 : Heap} {s : Shared} {done : List (Str × Value)} {f : Str} {v : Value} {Q : Unit → Shared → Prop} (X0 : K.In h0)
    (hx0 : ∃ o, h0.get? x = some o) (KX : K.In s.heap) (hn : ∀ o, K.lookup x ≠ some o) (D : Done h0 x C done s.heap) (hf : f ∈ fl) (hl : done.length ≤ 200) (hnew : f ∉ done.map (·.1))
    (hq : ∀ h' tk, Done h0 x C (done ++ [(f, v)]) h' → Q () { s with heap := h', toks := tk }) : wpAny (model P w) A (setAttr (.ref x) f v) Q E s := by
  obtain ⟨k, t, D⟩ := D
  obtain ⟨cd, hc, hd'⟩ := PySem.W.any_some S.hdt
  obtain ⟨hp, g, d, tk, os⟩ := s
  rcases D with ⟨e0, hx⟩ | ⟨dx, mA, _, hz, ne, hx, hns, hm⟩
  · subst e0
    refine PySem.W.set_plain (od := none) KX ⟨hx, rfl, rfl, trivial⟩ S.sa ?_
    refine PySem.W.osa_openX (od := none) S.SF KX ⟨hx, rfl, rfl, trivial⟩ S.ovr (S.tk f hf) fun b => ?_
    have hxs : x ≠ hp.objs.size := Nat.ne_of_lt (Heap.lt_size hx)
    have hcls : PySem.W.Looks (model P w) hp (classData C) cd := PySem.W.looks_clsIn KX hc
    obtain ⟨nm, bs, mro, ns, qn, hd, sn, sb, ab, col, del⟩ := cd
    dsimp only at hd'
    subst hd'
    unfold Builtin.ObjectAttr.storeInOwnDict Builtin.ObjectAttr.ownDictForStores
    repeat (first | with_reducible refine HandSPX.store_in_new ?_ ?_ | with_reducible refine wpAny_loadPart_at hx ?_ | with_reducible refine hcls.at ?_ | wp_step)
    · exact ⟨_, #[], _, (Heap.get?_update_ne _ _ _ _ hxs.symm).trans (Heap.get?_push_at rfl rfl), rfl, fun e he => absurd he (by simp), fun _ => rfl⟩
    · intro h' tk' hn' hs
      have hx1 : (hp.push { cls := .type "dict", data := .dict #[] }).get? x = some (exR C t none) := Heap.get?_push_of_some _ hx
      refine hq h' tk' ⟨fun b o hb ho => ?_, t, .inr ⟨hp.objs.size, _, by simp, ?_, hxs.symm, ?_, hn', fun y => ?_⟩⟩
      · have ho2 := k b o hb ho
        exact (hs.2 b (Nat.ne_of_lt (Heap.lt_size ho2))).trans ((Heap.get?_update_ne _ _ _ _ hb).trans (Heap.get?_push_of_some _ ho2))
      · cases z : h0.get? hp.objs.size with
        | none => rfl
        | some o => exact absurd (Heap.lt_size (k _ _ hxs.symm z)) (Nat.lt_irrefl _)
      · exact (hs.2 x hxs).trans (Heap.get?_update_self _ hx1 rfl)
      · by_cases h : y = f
        · subst h; simp [List.lookup]
        · have e : (y == f) = false := by simpa using h
          simp [List.lookup, e, h]
  · have hw : Within mA (done.map (·.1)) := fun y hy => by
      cases z : mA y with
      | none => exact absurd z hy
      | some u => exact lookup_in ((hm y).symm.trans z)
    obtain ⟨oD, _, _, hoD, _, _⟩ := hns.count hw
    refine PySem.W.set_plain (od := some oD) KX ⟨hx, rfl, rfl, hoD⟩ S.sa ?_
    refine PySem.W.osa_openX (od := some oD) S.SF KX ⟨hx, rfl, rfl, hoD⟩ S.ovr (S.tk f hf) fun b => ?_
    have hcls : PySem.W.Looks (model P w) hp (classData C) cd := PySem.W.looks_clsIn KX hc
    obtain ⟨nm, bs, mro, ns, qn, hd, sn, sb, ab, col, del⟩ := cd
    dsimp only at hd'
    subst hd'
    unfold Builtin.ObjectAttr.storeInOwnDict Builtin.ObjectAttr.ownDictForStores
    repeat (first | with_reducible refine OEX.store_in_old hns hw (by rw [List.length_map]; omega) ?_ | with_reducible refine wpAny_loadPart_at hx ?_ | with_reducible refine hcls.at ?_ | wp_step)
    intro h' tk' hn' hs
    have keep : ∀ b o, b ≠ dx → hp.get? b = some o → h'.get? b = some o := fun b o hb ho => (hs.2 b hb).trans ho
    refine hq h' tk' ⟨fun b o hb ho => ?_, t, .inr ⟨dx, _, by simp, hz, ne, keep _ _ ne.symm hx, hn', fun y => ?_⟩⟩
    · refine keep b o (fun q => ?_) (k b o hb ho)
      rw [q, hz] at ho
      cases ho
    · rw [lookup_snoc]
      by_cases h : y = f
      · subst h
        rw [lookup_out hnew]
        simp
      · simp [h, hm]
end
end Bd
namespace Bd
open PySem PySem.Spec PyProof.Rows L2
structure FnG (P : Program) (w : World) (K : PySem.W.Frag) (mg : Str → Option Value) (base : Heap) (k : Nat) (f : Addr) (fd : FuncData) (ps : List Str) (sp : Sp) : Prop where
  len : ∀ vs H Q E, sp vs H Q E → vs.length = ps.length
  run : ∀ (A : Around) (outer : List Env) (s : Shared) (H : Hp) (args : Args) (us : List Value) (vs : List V) (Q : VK) (E : XK), Room k A → A.guards = some [] →
    Env0 P w K mg base A outer s H → BindsTo s fd args (ps.zip us) → Vals vs us → sp vs H Q E → codeAny (model P w) A (.call (.ref f) args) (CR (CX P w) outer P w H s Q E) s
def lv (n : Nat) : Nat := 3 * n + 3
section
variable {X : Cx} {W : WX} {k : Nat} {f C : Addr} {fd : FuncData} {ps : List Str} {sp : Sp}
/-- the callee runs -/
theorem runG {pins : List (Addr × Obj)} {st : L2.St} {H : Hp} {s : Shared} {Q : VK} {us : List Value} {vs : List V} (F : FnG X.prog X.w X.K X.mg X.base k f fd ps sp) (hr : Room k X.A) (gu : X.A.guards = some [])
    (hb : Binds X.K fd ps []) (tk : Takes X W) (I : Inv X pins st H s) (r : Vals vs us) (h : sp vs H Q (WE W st)) : wpAny (model X.prog X.w) X.A (call (.ref f) us) (EP X pins st Q) X.xe s := by
  have hl : (us ++ ([] : List Value)).length = ps.length := by
    rw [List.append_nil, ← r.length]
    exact F.len _ _ _ _ h
  have hb1 := hb s us I.kIn hl
  rw [List.append_nil] at hb1
  refine wpAny_call (codeAny_mono (F.run X.A X.stack s H _ us vs Q (WE W st) hr gu I.env0 hb1 r h) fun z s' hq => ?_)
  cases z with
  | error e => exact tk e s' (XE.of_call I (fun _ _ _ q => q) hq)
  | ok fl =>
    cases fl with
    | ret u => exact I.after hq
    | _ => exact hq.elim
/-- .. one level in -/
theorem runG1 {pins : List (Addr × Obj)} {st : L2.St} {H : Hp} {s : Shared} {Q : VK} {us : List Value} {vs : List V} (F : FnG X.prog X.w X.K X.mg X.base k f fd ps sp) (hr : Room (k + 1) X.A) (gu : X.A.guards = some [])
    (hb : Binds X.K fd ps []) (tk : Takes X W) (I : Inv X pins st H s) (r : Vals vs us) (h : sp vs H Q (WE W st)) : wpAny (model X.prog X.w) X.A.in1 (call (.ref f) us) (EP X pins st Q) X.xe s := by
  have hl : (us ++ ([] : List Value)).length = ps.length := by
    rw [List.append_nil, ← r.length]
    exact F.len _ _ _ _ h
  have hb1 := hb s us I.kIn hl
  rw [List.append_nil] at hb1
  refine wpAny_call (codeAny_mono (F.run X.A.in1 X.stack s H _ us vs Q (WE W st) hr.in1 gu I.env0.in1 hb1 r h) fun z s' hq => ?_)
  cases z with
  | error e => exact tk e s' (XE.of_call I (fun _ _ _ q => q) hq)
  | ok fl =>
    cases fl with
    | ret u => exact I.after hq
    | _ => exact hq.elim
theorem under_guards {A : Around} (h : A.guards = some []) (us : List Value) : (A.under (.builtin "type.__call__" ⟨.ref C :: us, []⟩)).guards = some [] := by
  simp [Around.under, h, pushGuards, Code.guards, Code.isGuard, guardIds]
/-- an instance is made -/
theorem runMake {pins : List (Addr × Obj)} {st : L2.St} {H : Hp} {s : Shared} {Q : VK} {us : List Value} {vs : List V} (M : Mk X.K C f) (F : FnG X.prog X.w X.K X.mg X.base k f fd ps sp) (hr : Room (k + 1) X.A) (gu : X.A.guards = some [])
    (hb : Binds X.K fd ps []) (tk : Takes X W) (I : Inv X pins st H s) (r : Vals vs us)
    (h : ∀ x dx, H x = none → H dx = none → dx ≠ x → sp (.ref x :: vs) (upd (upd H dx (.own x)) x (.ins C dx [])) (fun v H2 => v = .non ∧ Q (.ref x) H2) (WE W st)) :
    wpAny (model X.prog X.w) X.A (call (.ref C) us) (EP X pins st Q) X.xe s := by
  have hq := h (s.heap.objs.size + 1) s.heap.objs.size (I.hok.fresh (Nat.le_succ _)) (I.hok.fresh (Nat.le_refl _)) (Nat.ne_of_lt (Nat.lt_succ_self _))
  have I2 := Inv.made (C := C) I
  have r2 : Vals (V.ref (s.heap.objs.size + 1) :: vs) (Value.ref (s.heap.objs.size + 1) :: us) := .cons rfl r
  have hl : ((Value.ref (s.heap.objs.size + 1) :: us) ++ ([] : List Value)).length = ps.length := by
    rw [List.append_nil, ← r2.length]
    exact F.len _ _ _ _ hq
  have hb1 := hb _ (Value.ref (s.heap.objs.size + 1) :: us) I2.kIn hl
  rw [List.append_nil] at hb1
  refine wpAny_call (make_map (f := f) I.kIn M.makes M.init (beq_iff_eq.mp M.fn) (codeAny_mono (F.run _ X.stack _ _ _ _ _ _ (WE W st) (hr.make C us []) (under_guards gu us) (I2.env0.make C us []) hb1 r2 hq) fun z s' hz => ?_))
  cases z with
  | error e => exact tk e s' (XE.of_call I2 (fun _ _ _ q => q) hz)
  | ok fl =>
    cases fl with
    | ret u =>
      obtain ⟨v, H', I3, rv, ev, q3⟩ := I2.after hz
      subst ev
      exact ⟨rv, ⟨V.ref (s.heap.objs.size + 1), H', I3, rfl, q3⟩⟩
    | _ => exact hz.elim
end
def noStar : PySem.Expr → Bool
  | .Starred _ _ => false
  | _ => true
theorem star_cons {e : PySem.Expr} {es : List PySem.Expr} {env : Env} (h : noStar e = true) : starEach (e :: es) env = (false, eval e env) :: starEach es env := by
  cases e <;> first | rfl | cases h
theorem star_any {pos : Pos} {env : Env} : ∀ {es : List PySem.Expr}, es.all noStar = true → (backTo pos (starEach es env)).any (·.1) = false
  | [], _ => rfl
  | e :: es, h => by
    rw [List.all_cons, Bool.and_eq_true] at h
    rw [star_cons h.1]
    show (false || (backTo pos (starEach es env)).any (·.1)) = false
    rw [star_any h.2]
    rfl
structure Gn where
  fn : List (Str × Nat)
  cl : List (Str × Nat)
  ct : List (Str × D)
  fre : List Str
  nm : List Str
  exs : List Nat
structure Ct where
  N : List Str
  ow : List Nat
  sc : Scope
  blk : Option Scope
  calm : Bool
def vOf : D → V
  | .int i => .int i
  | .str x => .str x
  | .bl b => .bl b
  | _ => .non
def tgOk (c : Ct) (x : Str) : Bool := match c.blk with
  | none => true
  | some sc0 => (sc0.names.lookup x == some .cell) || (c.sc.names.lookup x == some .local)
/-- an exception in the air -/
def XRep (L : Lay) (wd : Wd) (a : Option Addr) (c : Nat) (xs : List D) : Prop :=
  (∃ d fs, a = some d ∧ wd.F d = some (.xd fs) ∧ fs.map (·.1) = (L.flds c).map L.nm ∧ IsAll L wd.F wd.mu (fs.map (·.2)) xs) ∨ (L.flds c = [] ∧ a = none ∧ xs = [])
def RPost {A : Type} (L : Lay) (wd : Wd) (E : XK) (P : A → Sto → Wd → Prop) (r : R A) : Prop := match r with
  | .ok a s => ∀ wd', Ext wd wd' → WdOk L wd' s → P a s wd'
  | .ex c xs s => ∀ wd' a, Ext wd wd' → WdOk L wd' s → XRep L wd' a c xs → E (.ref (L.ca c)) a wd'.H
  | .no => False
section
variable {A B : Type} {L : Lay} {wd wd1 : Wd} {E : XK} {P P' : A → Sto → Wd → Prop} {r : R A}
theorem RPost.shift (x : Ext wd wd1) (h : RPost L wd E P r) : RPost L wd1 E P r := by
  cases r with
  | ok a s => exact fun wd' y k => h wd' (x.trans y) k
  | ex c xs s => exact fun wd' a y k q => h wd' a (x.trans y) k q
  | no => exact h
theorem RPost.bind {k : B → Sto → R A} {r : R B} (h : RPost L wd E P (r.bind k)) : RPost L wd E (fun b s1 wd1 => RPost L wd1 E P (k b s1)) r := by
  cases r with
  | ok b s => exact fun wd' y _ => RPost.shift (P := P) (r := k b s) y h
  | ex c xs s => exact h
  | no => exact h
theorem RPost.mono (h : RPost L wd E P r) (m : ∀ a s wd', Ext wd wd' → WdOk L wd' s → P a s wd' → P' a s wd') : RPost L wd E P' r := by
  cases r with
  | ok a s => exact fun wd' y k => m a s wd' y k (h wd' y k)
  | ex c xs s => exact h
  | no => exact h
theorem RPost.now {a : A} {s : Sto} (k : WdOk L wd s) (h : RPost L wd E P (.ok a s)) : P a s wd := h wd (Ext.refl _) k
theorem RPost.opt {o : Option A} {s : Sto} (k : WdOk L wd s) (h : RPost L wd E P (optR o s)) : ∃ a, o = some a ∧ P a s wd := by
  cases o with
  | none => exact False.elim h
  | some a => exact ⟨a, rfl, RPost.now k h⟩
end
abbrev VP (L : Lay) (Q : VK) : D → Sto → Wd → Prop := fun d _ wd' => ∀ v, Is L wd'.F wd'.mu v d → Q v wd'.H
def BP (Q : Bool → Hp → Prop) : D → Sto → Wd → Prop := fun d _ wd' => ∃ b, d = .bl b ∧ Q b wd'.H
abbrev AllP (L : Lay) (Q : List V → Hp → Prop) : List D → Sto → Wd → Prop := fun ds _ wd' => ∀ vs, IsAll L wd'.F wd'.mu vs ds → Q vs wd'.H
/-- a value that is read at once: a shared one or an owned list -/
def IsB (L : Lay) (wd : Wd) (v : V) (d : D) : Prop := Is L wd.F wd.mu v d ∨ ∃ a vs xs, v = .ref a ∧ d = .lst xs ∧ wd.H a = some (.lst vs) ∧ IsAll L wd.F wd.mu vs xs ∧ ∀ n : Nat, wd.mu[n]? ≠ some a
theorem IsB.ext {L : Lay} {wd wd' : Wd} {v : V} {d : D} (x : Ext wd wd') (h : IsB L wd v d) : IsB L wd' v d := by
  rcases h with h | ⟨a, vs, xs, e1, e2, h1, h2, h3⟩
  · exact .inl (h.ext x)
  · refine .inr ⟨a, vs, xs, e1, e2, x.kept _ _ h1 h3, h2.ext x, fun n q => ?_⟩
    rcases x.newM n a q with z | z
    · exact h3 n z
    · rw [h1] at z
      cases z
abbrev OP (L : Lay) (Q : VK) : D → Sto → Wd → Prop := fun d _ wd' => ∀ v, IsB L wd' v d → Q v wd'.H
def spF (T : Tb) (n : Nat) (L : Lay) (f : Nat) : Sp := fun vs H Q E => ∃ F mu s ds, WdOk L ⟨F, mu, H⟩ s ∧ IsAll L F mu vs ds ∧ RPost L ⟨F, mu, H⟩ E (VP L Q) ((callsAt T n).call f ds s)
def tyNs : List String := ["NoneType", "bool", "int", "str", "list", "tuple", "dict"]
structure ClF (K : PySem.W.Frag) (L : Lay) (G : Gn) (T : Tb) (c : Nat) (d : CD) : Prop where
  cl : Cls K (L.ca c)
  ty1 : PySem.W.findIn K (.ref (L.ca c)) "__class__" = some (some (.builtin "object.__class__"))
  ty2 : PySem.W.specialIn K (.builtin "object.__class__") "__get__" = some (some (.builtin "getset_descriptor.__get__"))
  ty3 : PySem.W.takesIn K (.builtin "object.__class__") = some true
  ty4 : PySem.W.mroIn K (L.ca c) (.type "object") = some true
  no : ∀ k, 20 ≤ k → k < G.nm.length → d.meths.lookup k = none → d.props.lookup k = none → NoAttr K (L.ca c) (L.nm k)
  me : ∀ m f, d.meths.lookup m = some f → Meth K (L.ca c) (L.nm m) (L.fa f) ∧ PySem.W.fnIn K (L.fa f) = true
  pr : ∀ m f, d.props.lookup m = some f → ∃ p, PropOf K (L.ca c) (L.nm m) p (L.fa f)
  init : Mk K (L.ca c) (L.fa d.init)
  kob : ∀ n ∈ tyNs, PySem.W.kitOne K (.ref (L.ca c)) (.type n) = some false
  kbo : ∀ n ∈ tyNs, PySem.W.kitOne K (.type n) (.ref (L.ca c)) = some false
  koo : ∀ e de, T.cl.lookup e = some de → de.kind < 2 → PySem.W.kitOne K (.ref (L.ca c)) (.ref (L.ca e)) = some (decide (c = e))
  nft : ∀ n ∈ tyNs, PySem.W.notFirst K (L.ca c) (.type n) = true
  nfo : ∀ e de, T.cl.lookup e = some de → de.kind < 2 → PySem.W.notFirst K (L.ca c) (.ref (L.ca e)) = true
  nsq : PySem.W.noSeq K (L.ca c) = true
/-- built-in exceptions that isinstance is asked of -/
def xbN : List (Nat × String) := [(9001, "ValueError"), (9002, "LookupError")]
/-- an exception class of the program that may be raised -/
structure XcF (P : Program) (K : PySem.W.Frag) (L : Lay) (T : Tb) (k : Nat) (d : CD) : Prop where
  mkx : ∃ fI B newId i bmB fd, SupX P K (L.ca k) fI B newId i bmB (d.flds.map L.nm) fd
  fl : L.flds k = d.flds
  ga : PySem.W.findIn K (.ref (L.ca k)) "__getattribute__" = some (some (.builtin "BaseException.__getattribute__"))
  gg : PySem.W.findIn K (.ref (L.ca k)) "__getattr__" = some none
  c1 : PySem.W.findIn K (.ref (L.ca k)) "__class__" = some (some (.builtin "object.__class__"))
  c2 : PySem.W.specialIn K (.builtin "object.__class__") "__get__" = some (some (.builtin "getset_descriptor.__get__"))
  c3 : PySem.W.takesIn K (.builtin "object.__class__") = some true
  c4 : PySem.W.mroIn K (L.ca k) (.type "object") = some true
  no : ∀ f ∈ d.flds, PySem.W.findIn K (.ref (L.ca k)) (L.nm f) = some none
  exm : ∀ h e, T.cl.lookup h = some e → 2 ≤ e.kind → PySem.W.exmOne K (.ref (L.ca k)) (.ref (L.ca h)) = some (decide (k = h) || d.sup.contains h)
  kit : ∀ h e, T.cl.lookup h = some e → 2 ≤ e.kind → PySem.W.kitOne K (.ref (L.ca k)) (.ref (L.ca h)) = some (decide (k = h) || d.sup.contains h)
  kib : ∀ p ∈ xbN, PySem.W.kitOne K (.ref (L.ca k)) (.type p.2) = some (decide (k = p.1) || d.sup.contains p.1)
structure Xc (P : Program) (K : PySem.W.Frag) (L : Lay) (T : Tb) (mg : Str → Option Value) : Prop where
  mgs : mg "super" = none
  xcl : ∀ k d, T.cl.lookup k = some d → d.kind = 2 → XcF P K L T k d
structure Gd (G : Gn) (T : Tb) (n : Nat) (L : Lay) (c : Ct) (X : Cx) : Prop where
  hK : X.K = L.K
  hN : X.N = c.N
  nd : X.N.Nodup
  hsc : X.env.scope = c.sc
  hcalm : X.calm = c.calm
  hfn : ∀ x, tgOk c x = true → X.fn x = true ∨ X.env.scope.names.lookup x = some .local
  room : c.calm = true → Room (lv n + 2) X.A
  un : X.A.units + 100 < cLine
  gu : X.A.guards = some []
  sysm : (X.K.lookup sysModules).isSome = true
  ctv : ∀ x d, G.ct.lookup x = some d → ∃ u, X.mg x = some u ∧ RelV (vOf d) u
  fre : ∀ x, x ∈ G.fre → X.mg x = none
  fns : ∀ x f, G.fn.lookup x = some f → X.mg x = some (.ref (L.fa f)) ∧ PySem.W.keepIn X.K (.ref (L.fa f)) = true
  cls : ∀ x k, G.cl.lookup x = some k → X.mg x = some (.ref (L.ca k)) ∧ PySem.W.keepIn X.K (.ref (L.ca k)) = true
  nmi : ∀ i j, L.nm i = L.nm j → i = j
  nmn : ∀ i x, G.nm[i]? = some x → L.nm i = x
  nsp : L.nm 1 = "__eq__" ∧ L.nm 2 = "__ne__" ∧ L.nm 3 = "__len__" ∧ L.nm 4 = "__str__" ∧ L.nm 5 = "__getitem__" ∧ L.nm 6 = "__setitem__" ∧ L.nm 7 = "__call__"
  clf : ∀ k d, T.cl.lookup k = some d → d.kind < 2 → ClF X.K L G T k d
  xc : Xc X.prog X.K L T X.mg
  stk : c.blk = none → X.stack = X.env :: X.outer ∧ X.env.frame = some X.env.locals
  call : ∀ f d, T.fn.lookup f = some d → ∃ fd ps, FnG X.prog X.w X.K X.mg X.base (lv n) (L.fa f) fd ps (spF T n L f) ∧ Binds X.K fd ps []
/-- e, as x: shared values -/
def ESnd (G : Gn) (c : Ct) (e : PySem.Expr) (x : E) : Prop := ∀ (T : Tb) (n : Nat) (L : Lay) (X : Cx), Gd G T n L c X → ∀ W : WX, Takes X W → ∃ te, PE X e te ∧
  ∀ g s wd0 wd st Q, WdOk L wd s → Slots L wd0 wd st g → RPost L wd (WE W st) (VP L Q) (evE T (callsAt T n) x g s) → te st wd.H Q
/-- a value that is read at once -/
def OSnd (G : Gn) (c : Ct) (e : PySem.Expr) (x : E) : Prop := ∀ (T : Tb) (n : Nat) (L : Lay) (X : Cx), Gd G T n L c X → ∀ W : WX, Takes X W → ∃ te, PE X e te ∧
  ∀ g s wd0 wd st Q, WdOk L wd s → Slots L wd0 wd st g → RPost L wd (WE W st) (OP L Q) (evB (evE T (callsAt T n) x g s) x g s) → te st wd.H Q
/-- a test -/
def TSnd (G : Gn) (c : Ct) (e : PySem.Expr) (x : E) : Prop := ∀ (T : Tb) (n : Nat) (L : Lay) (X : Cx), Gd G T n L c X → ∀ W : WX, Takes X W → ∃ tt, PT X e tt ∧
  ∀ g s wd0 wd st Q, WdOk L wd s → Slots L wd0 wd st g → RPost L wd (WE W st) (BP Q) (evE T (callsAt T n) x g s) → tt st wd.H Q
/-- arguments -/
def ASnd (G : Gn) (c : Ct) (es : List PySem.Expr) (xs : List E) : Prop := es.all noStar = true ∧ es.length = xs.length ∧ ∀ (T : Tb) (n : Nat) (L : Lay) (X : Cx), Gd G T n L c X → ∀ W : WX, Takes X W → ∃ ta, PA X es ta ∧
  ∀ g s wd0 wd st Q, WdOk L wd s → Slots L wd0 wd st g → RPost L wd (WE W st) (AllP L Q) (evEs T (callsAt T n) xs g s) → ta st wd.H Q
end Bd
namespace Bd
open PySem PySem.Spec PyProof.Rows L2
/-- what is shown of each new tuple of xs -/
def NewT (H : Hp) (xs : List V) (Q : VK) : Prop := ∀ p o, H p = none → KTp o → Q (.ref p) (upd H p (.frz o (.tup xs)))
/-- a new tuple stands at T -/
def NewO (H H' : Hp) (T : Addr) (xs : List V) : Prop := ∃ o, H' = upd H T (.frz o (.tup xs)) ∧ KTp o
section
variable {X : Cx} {pins : List (Addr × Obj)} {st : L2.St} {H : Hp} {s : Shared}
theorem laidT {xs : List V} {us : List Value} {Q : VK} (I : Inv X pins st H s) (r : Vals xs us) (z : xs.length ≤ sizeLine) (q : NewT H xs Q) :
    EP X pins st Q (.ref s.heap.objs.size) { s with heap := s.heap.push { cls := .type "tuple", data := .seq us.toArray } } := by
  have new : (s.heap.push { cls := .type "tuple", data := .seq us.toArray }).get? s.heap.objs.size = some { cls := .type "tuple", data := .seq us.toArray } := Heap.get?_push_size _ rfl
  have I2 := I.laid (t' := s.toks) (a := s.heap.objs.size) (h' := s.heap.push { cls := .type "tuple", data := .seq us.toArray }) (o := .frz { cls := .type "tuple", data := .seq us.toArray } (.tup xs))
    (fun _ _ e => Heap.get?_push_of_some _ e) (Nat.le_refl _) ⟨new, z, us, r, ⟨_, new, rfl, _, rfl⟩⟩
  exact ⟨.ref _, _, I2, rfl, q _ _ (I.hok.fresh (Nat.le_refl _)) ⟨rfl, rfl⟩⟩
end
section
variable {X : Cx} {es : List PySem.Expr} {t : TA} {pos : Pos}
/-- a written tuple -/
def tTupK (t : TA) : TE := fun st H Q => t st H fun xs H1 => xs.length ≤ sizeLine ∧ NewT H1 xs Q
theorem pe_tupK {k1 : Nat} (h : PA X es t) : PE X (.Tuple es k1 pos) (tTupK t) := by
  refine ⟨fun pins s st H Q I hq => wpAny_Tuple_spliced (thn (h.run pos pins s st H _ I hq) fun us s1 w => ?_)⟩
  obtain ⟨xs, H1, I1, r, z, q⟩ := w
  refine ⟨?_, laidT I1 r z q⟩
  rw [← r.length]
  exact z
/-- t + u -/
def rCatK (K : PySem.W.Frag) : R2 := fun x y H Q => ∃ a b xs ys, x = .ref a ∧ y = .ref b ∧ SqT K H a xs ∧ SqT K H b ys ∧ xs.length + ys.length ≤ sizeLine ∧
  (xs = [] → Q (.ref b) H) ∧ (xs ≠ [] → ys = [] → Q (.ref a) H) ∧ (xs ≠ [] → ys ≠ [] → NewT H (xs ++ ys) Q)
theorem op_catK : OpR X (binaryOp .Add) (rCatK X.K) := by
  intro pins s st H x y v u Q I rx ry w
  obtain ⟨a, b, xs, ys, ex, ey, ha, hb, hz, w0, w1, w2⟩ := w
  subst ex ey
  cases rx
  cases ry
  obtain ⟨i1, r1, p1, _⟩ := I.tuple ha
  obtain ⟨i2, r2, p2, _⟩ := I.tuple hb
  by_cases e : xs = []
  · subst e
    cases r1
    exact cat_tup0 p1 p2 ⟨.ref _, H, I, rfl, w0 rfl⟩
  · have hl : i1.length + i2.length ≤ sizeLine := by
      rw [← r1.length, ← r2.length]
      exact hz
    refine HT.cat_tup p1 p2 (fun n => e (r1.nil_iff.mp n)) (fun n => ⟨.ref _, H, I, rfl, w1 e (r2.nil_iff.mp n)⟩) (fun n => ?_) hl
    exact laidT I (r1.append r2) (by rw [List.length_append]; exact hz) (w2 e fun m => n (r2.nil_iff.mpr m))
/-- t[lo:hi] -/
def rSlK (K : PySem.W.Frag) : V → Option Int → Option Int → Hp → VK → Prop := fun x lo hi H Q => ∃ a xs, x = .ref a ∧ SqT K H a xs ∧
  (HT.sIx xs.length 0 lo = 0 ∧ HT.sIx xs.length xs.length hi = xs.length → Q (.ref a) H) ∧ (¬ (HT.sIx xs.length 0 lo = 0 ∧ HT.sIx xs.length xs.length hi = xs.length) → NewT H (cutV xs lo hi) Q)
theorem sl_tupK : SlR X (rSlK X.K) := by
  intro pins s st H x v vl vu lo hi sl Q I rx hs pl pu w
  obtain ⟨a, xs, ex, hx, w1, w2⟩ := w
  subst ex
  cases rx
  obtain ⟨its, r, p, hz⟩ := I.tuple hx
  have e : its.toArray.size = xs.length := by
    rw [List.size_toArray]
    exact r.length.symm
  refine ⟨"tuple", _, PyProof.Rows.slot_tuple_getitem.lookup, p.typeIs, ?_⟩
  by_cases hw : HT.sIx xs.length 0 lo = 0 ∧ HT.sIx xs.length xs.length hi = xs.length
  · refine getItem_tuple_whole p hs pl pu ?_ ⟨.ref _, H, I, rfl, w1 hw⟩
    rw [e]
    exact hw
  · refine HT.getItem_tuple_cut p hs pl pu ?_ ?_ ?_
    · rw [e]
      exact hw
    · rw [e]
      exact laidT I ((r.drop (HT.sIx xs.length 0 lo)).take (HT.sIx xs.length xs.length hi - HT.sIx xs.length 0 lo)) (Nat.le_trans (cutV_length xs lo hi) hz) (w2 hw)
    · rw [e]
      exact hz
/-- tuple(x) -/
theorem call_tupleK : CallR X (.type "tuple") (fun xs H Q => ∃ p ys, xs = [.ref p] ∧ ((SqL X.K H p ys ∧ NewT H ys Q) ∨ (SqT X.K H p ys ∧ Q (.ref p) H))) := by
  intro pins s st H xs us Q I r w
  obtain ⟨p, ys, ex, w⟩ := w
  subst ex
  obtain ⟨u, eu, rx⟩ := vals1 r
  subst eu
  cases rx
  rcases w with ⟨w, q⟩ | ⟨w, q⟩
  · obtain ⟨its, r1, pl, hz⟩ := I.list w
    refine call_tuple_list pl.isList (fun h1 kp => ?_) ?_
    · exact laidT (I.kept (t' := s.toks) kp) r1 hz q
    · rw [List.size_toArray, ← r1.length]
      exact hz
  · obtain ⟨its, r1, pl, hz⟩ := I.tuple w
    exact call_tuple_same pl ⟨.ref _, H, I, rfl, q⟩
/-- t * k -/
def rRepK (K : PySem.W.Frag) : R2 := fun x y H Q => ∃ l k xs, x = .ref l ∧ y = .int k ∧ SqT K H l xs ∧ xs ≠ [] ∧ 2 ≤ k ∧ k ≤ 1000 ∧ xs.length ≤ 1000 ∧ NewT H (List.replicate k.toNat xs).flatten Q
theorem op_repK : OpR X (binaryOp .Mult) (rRepK X.K) := by
  intro pins s st H x y v u Q I rx ry w
  obtain ⟨l, k, xs, ex, ey, hT, hne, k1, k2, hz, q⟩ := w
  subst ex ey
  cases rx
  obtain ⟨tk, rfl⟩ := ry
  obtain ⟨its, r, ⟨⟨oc, dd, od, sl⟩, ho, hc, n, hd⟩, hs⟩ := I.tuple hT
  simp only at hc hd
  subst hc hd
  have e1 : its.length = xs.length := r.length.symm
  have e2 : its.toArray.isEmpty = false := by
    cases its with
    | nil => exact absurd (List.eq_nil_of_length_eq_zero e1.symm) hne
    | cons z zs => rfl
  have e3 : its.toArray.size = xs.length := by
    rw [List.size_toArray]
    exact e1
  have e4 : k.toNat * xs.length ≤ 1000 * 1000 := Nat.mul_le_mul (by omega) hz
  have e5 : ((its.toArray.size : Nat) : Int) * k ≤ 1000000 := by
    rw [e3]
    have : ((xs.length : Nat) : Int) * k ≤ 1000 * k := Int.mul_le_mul_of_nonneg_right (by omega) (by omega)
    omega
  have c0 : (decide (k < -(2 ^ 63)) || decide (k ≥ 2 ^ 63)) = false := by
    simp only [Bool.or_eq_false_iff, decide_eq_false_iff_not]
    exact ⟨by omega, by omega⟩
  have c1 : (its.toArray.isEmpty || k == 1) = false := by
    simp only [Bool.or_eq_false_iff, beq_eq_false_iff_ne]
    exact ⟨e2, by omega⟩
  have c2 : (decide (k ≤ 0) || its.toArray.isEmpty) = false := by
    simp only [Bool.or_eq_false_iff, decide_eq_false_iff_not]
    exact ⟨by omega, e2⟩
  have c4 : Builtin.Tuple.tupleTooMany (((its.toArray.size : Nat) : Int) * k) = false := by
    unfold Builtin.Tuple.tupleTooMany
    simp only [decide_eq_false_iff_not]
    rw [sizeLine_eq]
    omega
  have c5 : (List.foldl (fun x1 x2 => x1 ++ x2) #[] (List.replicate k.toNat its.toArray)).size ≤ sizeLine := by
    rw [size_rep, List.size_toArray, PyProof.Rows.lm_len_rep_flat, e1, sizeLine_eq]
    omega
  have m1 := tuple_mulW l its.toArray n dd sl k tk c0 c1 c2 (by omega) c4 c5
  have ty : s.TypeIs (.ref l) "tuple" := ⟨_, ho, rfl⟩
  refine wpAny_binaryOp_repeat_ref (U := "int") (by decide) ty (fun s2 => typeIs_int s2 k tk) noFill_tuple_mul F.fills_int_mul F.slot_int_rmul repeat_tuple F.slot_int_index.lookup ?_
  refine call_meets F.slot_int_rmul (typeIs_int s k tk) F.entry_int_rmul (F.args_int_rmul_2 _ _) (int_rmul_tuple k tk l its.toArray n dd sl) ⟨ho, rfl, ty, ?_⟩
  refine call_meets F.slot_tuple_mul ty F.entry_tuple_mul (F.args_tuple_mul_2 _ _) m1 ⟨ho, ?_⟩
  rw [size_rep]
  refine laidT I (r.rep k.toNat) ?_ q
  rw [PyProof.Rows.lm_len_rep_flat, sizeLine_eq]
  omega
/-- a tuple taken no time -/
theorem tup_none (l : Addr) (items : Array Value) (n : Nat) (dd : Option Addr) (sl : Array (Option Value)) (u : Tok) (c1 : (items.isEmpty || (0 : Int) == 1) = false) :
    Meets (Builtin.«tuple.__mul__» ⟨[.ref l, .int 0 u], []⟩) (fun _ R s => s.heap.get? l = some { cls := .type "tuple", dict := dd, data := .seq items n, slots := sl } ∧ R (.ok (.ret (Value.ref s.heap.objs.size))) { s with heap := s.heap.push { cls := .type "tuple", data := .seq #[] } }) :=
  .of_wp fun prog w A R s h => by
    obtain ⟨hp, g, d, tk, os⟩ := s
    obtain ⟨hl, h⟩ := h
    have f1 := AutoSeq1.idx_int
    have c0 : (decide ((0 : Int) < -(2 ^ 63)) || decide ((0 : Int) ≥ 2 ^ 63)) = false := by decide
    have c2 : (decide ((0 : Int) ≤ 0) || items.isEmpty) = true := by simp
    wp_walk using wpAny_loadPart' hl
    repeat (first
      | (refine wpAny_ite_false (decide_eq_false (by rw [c0]; exact Bool.false_ne_true)) ?_; wp_walk using wpAny_loadPart' hl)
      | (refine wpAny_ite_false (decide_eq_false (by rw [c1]; exact Bool.false_ne_true)) ?_; wp_walk using wpAny_loadPart' hl)
      | (refine wpAny_ite_true (decide_eq_true (by rw [c2])) ?_; wp_walk using wpAny_loadPart' hl))
    exact ⟨_, rfl, h⟩
def rRep0 (K : PySem.W.Frag) : R2 := fun x y H Q => ∃ l xs, x = .ref l ∧ y = .int 0 ∧ SqT K H l xs ∧ xs ≠ [] ∧ NewT H [] Q
theorem op_rep0 : OpR X (binaryOp .Mult) (rRep0 X.K) := by
  intro pins s st H x y v u Q I rx ry w
  obtain ⟨l, xs, ex, ey, hT, hne, q⟩ := w
  subst ex ey
  cases rx
  obtain ⟨tk, rfl⟩ := ry
  obtain ⟨its, r, ⟨⟨oc, dd, od, sl⟩, ho, hc, n, hd⟩, hs⟩ := I.tuple hT
  simp only at hc hd
  subst hc hd
  have e1 : its.length = xs.length := r.length.symm
  have c1 : (its.toArray.isEmpty || (0 : Int) == 1) = false := by
    cases its with
    | nil => exact absurd (List.eq_nil_of_length_eq_zero e1.symm) hne
    | cons z zs => rfl
  have ty : s.TypeIs (.ref l) "tuple" := ⟨_, ho, rfl⟩
  refine wpAny_binaryOp_repeat_ref (U := "int") (by decide) ty (fun s2 => typeIs_int s2 0 tk) noFill_tuple_mul F.fills_int_mul F.slot_int_rmul repeat_tuple F.slot_int_index.lookup ?_
  refine call_meets F.slot_int_rmul (typeIs_int s 0 tk) F.entry_int_rmul (F.args_int_rmul_2 _ _) (int_rmul_tuple 0 tk l its.toArray n dd sl) ⟨ho, rfl, ty, ?_⟩
  refine call_meets F.slot_tuple_mul ty F.entry_tuple_mul (F.args_tuple_mul_2 _ _) (tup_none l its.toArray n dd sl tk c1) ⟨ho, ?_⟩
  exact laidT I (xs := []) (us := []) .nil (by simp) q
end
end Bd
namespace Bd
open PySem PySem.Spec PyProof.Rows L2
def NewL (L : Lay) (wd : Wd) (xs : List D) (Q : VK) : Prop := ∀ p vs, wd.H p = none → IsAll L wd.F wd.mu vs xs → Q (.ref p) (upd wd.H p (.lst vs))
def Res (L : Lay) (wd : Wd) (s : Sto) (d : D) (Q : VK) : Prop := match d with
  | .lst xs => NewL L wd xs Q
  | d => ∀ wd' v, Ext wd wd' → WdOk L wd' s → Is L wd'.F wd'.mu v d → Q v wd'.H
theorem newL_of {L : Lay} {wd : Wd} {s : Sto} {xs : List D} {Q : VK} (k : WdOk L wd s) (h : ∀ wd' v, Ext wd wd' → WdOk L wd' s → Is L wd'.F wd'.mu v (.lst xs) → Q v wd'.H) : NewL L wd xs Q := fun p vs hp hv => by
  refine h ⟨upd wd.F p (.lst vs), wd.mu, upd wd.H p (.lst vs)⟩ (.ref p) (Ext.frozen k hp) (k.frozen hp) (.lst (vs := vs) upd_same (hv.ext (Ext.frozen k hp)))
theorem res_of {L : Lay} {wd : Wd} {s : Sto} {d : D} {Q : VK} (k : WdOk L wd s) (h : ∀ wd' v, Ext wd wd' → WdOk L wd' s → Is L wd'.F wd'.mu v d → Q v wd'.H) : Res L wd s d Q := by
  cases d with
  | lst xs => exact newL_of k h
  | _ => exact h
/-- a result that is at hand -/
theorem Res.here {L : Lay} {wd : Wd} {s : Sto} {d : D} {Q : VK} {v : V} (k : WdOk L wd s) (hd : ∀ xs, d ≠ .lst xs) (i : Is L wd.F wd.mu v d) (h : Res L wd s d Q) : Q v wd.H := by
  cases d with
  | lst xs => exact absurd rfl (hd xs)
  | _ => exact h wd v (Ext.refl _) k i
/-- a new tuple -/
theorem Res.tup {L : Lay} {wd : Wd} {s : Sto} {ds : List D} {vs : List V} {Q : VK} {p : Addr} (k : WdOk L wd s) (i : IsAll L wd.F wd.mu vs ds) (hp : wd.H p = none) {o : Obj} (hk : KTp o) (h : Res L wd s (.tup ds) Q) : Q (.ref p) (upd wd.H p (.frz o (.tup vs))) :=
  h ⟨upd wd.F p (.frz o (.tup vs)), wd.mu, upd wd.H p (.frz o (.tup vs))⟩ (.ref p) (Ext.frozen k hp) (k.frozen hp) (.tup ⟨o, upd_same, hk⟩ (i.ext (Ext.frozen k hp)))
theorem Res.nl {L : Lay} {wd : Wd} {s : Sto} {ds : List D} {vs : List V} {Q : VK} {p : Addr} (i : IsAll L wd.F wd.mu vs ds) (hp : wd.H p = none) (h : Res L wd s (.lst ds) Q) : Q (.ref p) (upd wd.H p (.lst vs)) := h p vs hp i
section
variable {L : Lay} {wd : Wd} {s : Sto} {v : V}
theorem IsB.int {i : Int} (h : IsB L wd v (.int i)) : v = .int i := by
  rcases h with h | ⟨_, _, _, _, e, _⟩
  · cases h; rfl
  · cases e
theorem IsB.str {x : Str} (h : IsB L wd v (.str x)) : v = .str x := by
  rcases h with h | ⟨_, _, _, _, e, _⟩
  · cases h; rfl
  · cases e
theorem IsB.bl {b : Bool} (h : IsB L wd v (.bl b)) : v = .bl b := by
  rcases h with h | ⟨_, _, _, _, e, _⟩
  · cases h; rfl
  · cases e
theorem IsB.tup {ds : List D} (k : WdOk L wd s) (h : IsB L wd v (.tup ds)) : ∃ a vs, v = .ref a ∧ KT wd.H a vs ∧ IsAll L wd.F wd.mu vs ds := by
  rcases h with h | ⟨_, _, _, _, e, _⟩
  · cases h with
    | tup h1 h2 => exact ⟨_, _, rfl, h1.mono k.sub, h2⟩
  · cases e
theorem IsB.lst {ds : List D} (k : WdOk L wd s) (h : IsB L wd v (.lst ds)) : ∃ a vs, v = .ref a ∧ wd.H a = some (.lst vs) ∧ IsAll L wd.F wd.mu vs ds := by
  rcases h with h | ⟨a, vs, xs, e1, e, h1, h2, _⟩
  · cases h with
    | lst h1 h2 => exact ⟨_, _, rfl, k.sub _ _ h1, h2⟩
  · cases e
    exact ⟨a, vs, e1, h1, h2⟩
theorem IsB.scr {ns : List Int} (k : WdOk L wd s) (h : IsB L wd v (.scr ns)) : ∃ a, v = .ref a ∧ SqL L.K wd.H a (ns.map V.int) := by
  rcases h with h | ⟨_, _, _, _, e, _⟩
  · cases h with
    | scr h1 => exact ⟨_, rfl, k.sub.seq h1⟩
  · cases e
/-- what may be walked: a list or a tuple -/
theorem IsB.seq {d : D} {ds : List D} (k : WdOk L wd s) (h : IsB L wd v d) (e : seqOf d = some ds) : ∃ a vs, v = .ref a ∧ (SqL L.K wd.H a vs ∨ SqT L.K wd.H a vs) ∧ IsAll L wd.F wd.mu vs ds := by
  cases d with
  | tup xs =>
    cases e
    obtain ⟨a, vs, e1, h1, h2⟩ := h.tup k
    exact ⟨a, vs, e1, .inr h1.sq, h2⟩
  | lst xs =>
    cases e
    obtain ⟨a, vs, e1, h1, h2⟩ := h.lst k
    exact ⟨a, vs, e1, .inl (SqL.of h1), h2⟩
  | scr ns =>
    cases e
    obtain ⟨a, e1, h1⟩ := h.scr k
    exact ⟨a, _, e1, .inl h1, IsAll.of_ints ns⟩
  | _ => cases e
end
theorem small_le {n : Nat} (h : small n = true) : n ≤ sizeLine := by
  rw [sizeLine_eq]
  exact Nat.le_of_ble_eq_true h
theorem mul_ok {i j : Int} (h : mulOk i j = true) : CMul i j := by
  unfold mulOk at h
  rw [Bool.or_eq_true, decide_eq_true_eq, decide_eq_true_eq] at h
  rcases h with h | h
  · exact .inl ⟨by omega, by omega⟩
  · exact .inr ⟨by omega, by omega⟩
def BinOk (X : Cx) (L : Lay) (op : Operator) (r : R2) : Prop := OpR X (binaryOp op) r ∧ ∀ wd s x y a b d (Q : VK), WdOk L wd s → IsB L wd x a → IsB L wd y b → binD op a b = some d → Res L wd s d Q → r x y wd.H Q
theorem ite_some {A : Type} {b : Bool} {x y : A} (h : (if b = true then some x else none) = some y) : b = true ∧ x = y := by
  cases b with
  | true => exact ⟨rfl, Option.some.inj h⟩
  | false => cases h
theorem bin_add {X : Cx} {L : Lay} (hK : X.K = L.K) : ∃ r, BinOk X L .Add r := by
  refine ⟨_, (op_add.or op_add_str).or (op_catK.or op_cat), fun wd s x y a b d Q k ha hb e h => ?_⟩
  cases a with
  | int i =>
    cases b with
    | int j =>
      cases e
      have := ha.int
      have := hb.int
      subst x y
      exact .inl (.inl ⟨i, j, rfl, rfl, h.here k (by intro _ q; cases q) (.int _)⟩)
    | _ => cases e
  | str i =>
    cases b with
    | str j =>
      obtain ⟨e1, rfl⟩ := ite_some e
      have := ha.str
      have := hb.str
      subst x y
      exact .inl (.inr ⟨i, j, rfl, rfl, small_le e1, h.here k (by intro _ q; cases q) (.str _)⟩)
    | _ => cases e
  | tup i =>
    cases b with
    | tup j =>
      obtain ⟨e1, rfl⟩ := ite_some e
      obtain ⟨p, vs, rfl, h1, h2⟩ := ha.tup k
      obtain ⟨q, ws, rfl, g1, g2⟩ := hb.tup k
      have l1 := h2.length
      have l2 := g2.length
      refine .inr (.inl ⟨p, q, vs, ws, rfl, rfl, h1.sq, g1.sq, ?_, fun z => ?_, fun _ z => ?_, fun _ _ p o hp ho => Res.tup k (h2.append g2) hp ho h⟩)
      · rw [l1, l2]
        exact small_le e1
      · subst z
        cases h2
        rcases hb with hb | ⟨_, _, _, _, e, _⟩
        · exact h.here k (by intro _ q; cases q) hb
        · cases e
      · subst z
        cases g2
        rw [List.append_nil] at h
        rcases ha with hb | ⟨_, _, _, _, e, _⟩
        · exact h.here k (by intro _ q; cases q) hb
        · cases e
    | _ => cases e
  | lst i =>
    cases b with
    | lst j =>
      obtain ⟨e1, rfl⟩ := ite_some e
      obtain ⟨p, vs, rfl, h1, h2⟩ := ha.lst k
      obtain ⟨q, ws, rfl, g1, g2⟩ := hb.lst k
      refine .inr (.inr ⟨p, q, vs, ws, rfl, rfl, h1, g1, ?_, fun p hp => h.nl (h2.append g2) hp⟩)
      rw [h2.length, g2.length]
      exact small_le e1
    | _ => cases e
  | _ => cases e
theorem bin_sub {X : Cx} {L : Lay} : ∃ r, BinOk X L .Sub r := by
  refine ⟨_, op_sub, fun wd s x y a b d Q k ha hb e h => ?_⟩
  cases a with
  | int i =>
    cases b with
    | int j =>
      cases e
      have := ha.int
      have := hb.int
      subst x y
      exact ⟨i, j, rfl, rfl, h.here k (by intro _ q; cases q) (.int _)⟩
    | _ => cases e
  | _ => cases e
/-- a tuple taken once, or the empty one taken so often: the same object -/
theorem tup_once (l : Addr) (items : Array Value) (n : Nat) (dd : Option Addr) (sl : Array (Option Value)) (x : Int) (u : Tok) (c0 : (decide (x < -(2 ^ 63)) || decide (x ≥ 2 ^ 63)) = false) (c1 : (items.isEmpty || x == 1) = true) :
    Meets (Builtin.«tuple.__mul__» ⟨[.ref l, .int x u], []⟩) (fun _ R s => s.heap.get? l = some { cls := .type "tuple", dict := dd, data := .seq items n, slots := sl } ∧ R (.ok (.ret (Value.ref l))) s) :=
  .of_wp fun prog w A R s h => by
    obtain ⟨hp, g, d, tk, os⟩ := s
    obtain ⟨hl, h⟩ := h
    have f1 := AutoSeq1.idx_int
    wp_walk using wpAny_loadPart' hl
    repeat (first
      | (refine wpAny_ite_false (decide_eq_false (by rw [c0]; exact Bool.false_ne_true)) ?_; wp_walk using wpAny_loadPart' hl)
      | (refine wpAny_ite_true (decide_eq_true (by rw [c1])) ?_; wp_walk using wpAny_loadPart' hl))
    exact ⟨_, rfl, h⟩
def rOnce (K : PySem.W.Frag) : R2 := fun x y H Q => ∃ l k xs, x = .ref l ∧ y = .int k ∧ SqT K H l xs ∧ (xs = [] ∨ k = 1) ∧ 0 ≤ k ∧ k ≤ 1000 ∧ Q (.ref l) H
theorem op_once {X : Cx} : OpR X (binaryOp .Mult) (rOnce X.K) := by
  intro pins s st H x y v u Q I rx ry h
  obtain ⟨l, k, xs, rfl, rfl, hT, hor, h1, h2, q⟩ := h
  cases rx
  obtain ⟨t, rfl⟩ := ry
  obtain ⟨its, r, ⟨⟨cls, dd, data, sl⟩, ho, hc, n, hd⟩, hs⟩ := I.tuple hT
  simp only at hc hd
  subst hc hd
  have hle : its.length = xs.length := r.length.symm
  have c0 : (decide (k < -(2 ^ 63)) || decide (k ≥ 2 ^ 63)) = false := by
    rw [decide_eq_false (by omega), decide_eq_false (by omega)] <;> rfl
  have c1 : (its.toArray.isEmpty || k == 1) = true := by
    rcases hor with z | z
    · have : its = [] := by
        rw [z] at hle
        exact List.eq_nil_of_length_eq_zero hle
      rw [this]
      rfl
    · rw [z]
      exact Bool.or_true _
  refine wpAny_binaryOp_repeat_ref (T := "tuple") (U := "int") (by decide) ⟨_, ho, rfl⟩ (fun s' => typeIs_int s' k t) noFill_tuple_mul F.fills_int_mul F.slot_int_rmul repeat_tuple F.slot_int_index.lookup
    (call_meets F.slot_int_rmul (typeIs_int s k t) F.entry_int_rmul (F.args_int_rmul_2 _ _) (int_rmul_tuple k t l its.toArray n dd sl)
      ⟨ho, rfl, ⟨_, ho, rfl⟩, call_meets F.slot_tuple_mul ⟨_, ho, rfl⟩ F.entry_tuple_mul (F.args_tuple_mul_2 _ _) (tup_once l its.toArray n dd sl k t c0 c1) ⟨ho, ?_⟩⟩)
  exact ⟨.ref l, H, I, rfl, q⟩
def rRepS : R2 := fun x y H Q => ∃ (a : Str) (k : Int), x = .str a ∧ y = .int k ∧ 2 ≤ k ∧ k ≤ 1000 ∧ 1 ≤ a.length ∧ a.length ≤ 1000 ∧ Q (.str (repS a k.toNat)) H
theorem rep_len (x : Array Nat) : ∀ (n : Nat) (acc : Array Nat), ((List.replicate n x).foldl (· ++ ·) acc).size = acc.size + n * x.size
  | 0, acc => by simp
  | n + 1, acc => by
    rw [List.replicate_succ, List.foldl_cons, rep_len x n, Array.size_append, Nat.succ_mul]
    omega
theorem op_repS {X : Cx} : OpR X (binaryOp .Mult) rRepS := by
  intro pins s st H x y v u Q I rx ry h
  obtain ⟨a, k, rfl, rfl, h1, h2, h3, h4, q⟩ := h
  obtain ⟨t, rfl⟩ := rx
  obtain ⟨t2, rfl⟩ := ry
  have hm : a.length * k.toNat ≤ 1000 * 1000 := Nat.mul_le_mul h4 (by omega)
  have hz : (k == 1 || a.length == 0) = false := by
    rw [Bool.or_eq_false_iff]
    exact ⟨by simp; omega, by simp; omega⟩
  refine PySem.P.mul_str ?_ (fun _ _ => ?_) (fun _ _ => ?_) ?_
  · rw [decide_eq_false (by omega), decide_eq_false (by omega)] <;> rfl
  · have h5 : 9000 ≤ (2 ^ 63 - 1) / k := Int.le_ediv_of_mul_le (by omega) (by omega)
    omega
  · unfold Builtin.Str.tooLong
    rw [decide_eq_false]
    intro z
    have z2 : 16777216 < a.length * k.toNat := z
    omega
  · rw [if_neg (by omega), hz, if_neg Bool.false_ne_true]
    refine ⟨?_, ?_⟩
    · show ((List.replicate k.toNat a.cps).foldl (· ++ ·) #[]).size ≤ 16777216
      rw [rep_len]
      have e : a.length = a.cps.size := rfl
      rw [e, Nat.mul_comm] at hm
      show 0 + k.toNat * a.cps.size ≤ _
      omega
    · exact ⟨.str (repS a k.toNat), H, I.tok _, ⟨_, rfl⟩, q⟩
theorem big_ok {i j : Int} (h : bigOk i j = true) : CMulW i j := by
  unfold bigOk at h
  rw [Bool.and_eq_true, decide_eq_true_eq, decide_eq_true_eq] at h
  exact wide_mul h.1 h.2 (by omega) (by omega) (by omega)
theorem bin_mul {X : Cx} {L : Lay} (hK : X.K = L.K) : ∃ r, BinOk X L .Mult r := by
  refine ⟨_, (op_mul.or op_mulW).or (op_repK.or (op_rep.or (op_once.or (op_rep0.or op_repS)))), fun wd s x y a b d Q k ha hb e h => ?_⟩
  cases a with
  | int i =>
    cases b with
    | int j =>
      have := ha.int
      have := hb.int
      subst x y
      have e : (if mulOk i j then some (D.int (i * j)) else if bigOk i j then some (D.int (i * j)) else none) = some d := e
      cases e0 : mulOk i j with
      | true =>
        rw [e0] at e
        cases e
        exact .inl (.inl ⟨i, j, rfl, rfl, mul_ok e0, h.here k (by intro _ q; cases q) (.int _)⟩)
      | false =>
        rw [e0] at e
        obtain ⟨e1, rfl⟩ := ite_some e
        exact .inl (.inr ⟨i, j, rfl, rfl, big_ok e1, h.here k (by intro _ q; cases q) (.int _)⟩)
    | _ => cases e
  | tup i =>
    cases b with
    | int j =>
      obtain ⟨e1, rfl⟩ := ite_some e
      simp only [Bool.and_eq_true, decide_eq_true_eq] at e1
      have := hb.int
      subst y
      obtain ⟨p, vs, rfl, h1, h2⟩ := ha.tup k
      have l1 := h2.length
      by_cases hz : i = [] ∨ j = 1
      · refine .inr (.inr (.inr (.inl ⟨p, j, vs, rfl, rfl, h1.sq, ?_, e1.1.1, e1.1.2, ?_⟩)))
        · rcases hz with z | z
          · subst z
            exact .inl (List.eq_nil_of_length_eq_zero l1)
          · exact .inr z
        · have e9 : (List.replicate j.toNat i).flatten = i := by
            rcases hz with z | z
            · subst z
              simp
            · subst z
              simp
          rw [e9] at h
          refine h.here k (by intro _ q; cases q) ?_
          rcases ha with z | ⟨_, _, _, _, z, _⟩
          · exact z
          · cases z
      · have hvn : vs ≠ [] := fun z => by
          subst z
          exact hz (.inl (List.eq_nil_of_length_eq_zero l1.symm))
        by_cases hj : j = 0
        · subst hj
          exact .inr (.inr (.inr (.inr (.inl ⟨p, vs, rfl, rfl, h1.sq, hvn, fun p o hp ho => Res.tup k (vs := []) (ds := []) .nil hp ho h⟩))))
        · exact .inr (.inl ⟨p, j, vs, rfl, rfl, h1.sq, hvn, by omega, e1.1.2, by omega, fun p o hp ho => Res.tup k (h2.flat _) hp ho h⟩)
    | _ => cases e
  | str i =>
    cases b with
    | int j =>
      obtain ⟨e1, rfl⟩ := ite_some e
      simp only [Bool.and_eq_true, decide_eq_true_eq] at e1
      have := hb.int
      have := ha.str
      subst x y
      exact .inr (.inr (.inr (.inr (.inr ⟨i, j, rfl, rfl, e1.1.1.1, e1.1.1.2, e1.1.2, e1.2, h.here k (by intro _ q; cases q) (.str _)⟩))))
    | _ => cases e
  | lst i =>
    cases b with
    | int j =>
      obtain ⟨e1, rfl⟩ := ite_some e
      simp only [Bool.and_eq_true, decide_eq_true_eq] at e1
      have := hb.int
      subst y
      obtain ⟨p, vs, rfl, h1, h2⟩ := ha.lst k
      refine .inr (.inr (.inl ⟨p, j, vs, rfl, rfl, h1, by omega, by omega, ?_, fun p hp => h.nl (h2.flat _) hp⟩))
      rw [h2.length]
      exact small_le e1.2
    | _ => cases e
  | _ => cases e
/-- floor division, by a negative number too -/
def CDivN (i j : Int) : Prop := j ≠ 0 ∧ j.natAbs.log2 < 9000
theorem op_fdivN {X : Cx} : OpR X (binaryOp .FloorDiv) (rI CDivN fun i j => .int (Int.fdiv i j)) := opI fun i j _ _ _ _ _ hc q => floordiv_int hc.1 q (.inl (PyProof.noPylong_of_log2 hc.2))
theorem log_9000 {j : Int} (h0 : j ≠ 0) (h1 : -j < 2 ^ 9000) (h2 : j < 2 ^ 9000) : j.natAbs.log2 < 9000 := by
  have h3 : (2 : Int) ^ 9000 = (((2 : Nat) ^ 9000 : Nat) : Int) := by rw [Int.natCast_pow]; rfl
  rw [h3] at h1 h2
  have : j.natAbs < 2 ^ 9000 := by
    generalize (2 : Nat) ^ 9000 = B at *
    omega
  exact (Nat.log2_lt (by omega)).mpr this
theorem neg_lt9 {j : Int} (h : 0 < j) : -j < 2 ^ 9000 := by
  have : (0 : Int) < 2 ^ 9000 := Int.pow_pos (by decide)
  exact Int.lt_trans (by omega) this
theorem pos_lt9 {j : Int} (h : j < 0) : j < 2 ^ 9000 := by
  have : (0 : Int) < 2 ^ 9000 := Int.pow_pos (by decide)
  exact Int.lt_trans h this
theorem bin_fdiv {X : Cx} {L : Lay} : ∃ r, BinOk X L .FloorDiv r := by
  refine ⟨_, op_fdivN, fun wd s x y a b d Q k ha hb e h => ?_⟩
  cases a with
  | int i =>
    cases b with
    | int j =>
      have := ha.int
      have := hb.int
      subst x y
      have e0 : (if (decide (0 < j) && decide (j < 2 ^ 9000)) = true then some (D.int (i / j)) else if (decide (j < 0) && decide (-j < 2 ^ 9000)) = true then some (D.int (Int.fdiv i j)) else none) = some d := e
      by_cases q : (decide (0 < j) && decide (j < 2 ^ 9000)) = true
      · rw [if_pos q] at e0
        cases e0
        rw [Bool.and_eq_true, decide_eq_true_eq, decide_eq_true_eq] at q
        refine ⟨i, j, rfl, rfl, ⟨Int.ne_of_gt q.1, log_9000 (Int.ne_of_gt q.1) (neg_lt9 q.1) q.2⟩, ?_⟩
        show Q (.int (Int.fdiv i j)) wd.H
        rw [Int.fdiv_eq_ediv_of_nonneg i (Int.le_of_lt q.1)]
        exact h.here k (by intro _ q; cases q) (.int _)
      · rw [if_neg q] at e0
        obtain ⟨e1, rfl⟩ := ite_some e0
        rw [Bool.and_eq_true, decide_eq_true_eq, decide_eq_true_eq] at e1
        exact ⟨i, j, rfl, rfl, ⟨Int.ne_of_lt e1.1, log_9000 (Int.ne_of_lt e1.1) e1.2 (pos_lt9 e1.1)⟩, h.here k (by intro _ q; cases q) (.int _)⟩
    | _ => cases e
  | _ => cases e
theorem bin_mod {X : Cx} {L : Lay} : ∃ r, BinOk X L .Mod r := by
  refine ⟨_, op_mod, fun wd s x y a b d Q k ha hb e h => ?_⟩
  cases a with
  | int i =>
    cases b with
    | int j =>
      obtain ⟨e1, rfl⟩ := ite_some e
      rw [decide_eq_true_eq] at e1
      have := ha.int
      have := hb.int
      subst x y
      exact ⟨i, j, rfl, rfl, e1, h.here k (by intro _ q; cases q) (.int _)⟩
    | _ => cases e
  | _ => cases e
theorem bin_pow {X : Cx} {L : Lay} : ∃ r, BinOk X L .Pow r := by
  refine ⟨_, op_pow, fun wd s x y a b d Q k ha hb e h => ?_⟩
  cases a with
  | int i =>
    cases b with
    | int j =>
      obtain ⟨e1, rfl⟩ := ite_some e
      simp only [Bool.and_eq_true, decide_eq_true_eq] at e1
      have := ha.int
      have := hb.int
      subst x y
      exact ⟨i, j, rfl, rfl, ⟨e1.1.1, by omega, e1.2⟩, h.here k (by intro _ q; cases q) (.int _)⟩
    | _ => cases e
  | _ => cases e
theorem bin_any {X : Cx} {L : Lay} (hK : X.K = L.K) (op : Operator) : ∃ r, BinOk X L op r := by
  have no : (∀ a b, binD op a b = none) → ∃ r, BinOk X L op r := fun h => ⟨fun _ _ _ _ => False, fun _ _ _ _ _ _ _ _ _ _ _ _ q => q.elim, fun wd s x y a b d Q k ha hb e _ => by rw [h] at e; cases e⟩
  cases op with
  | Add => exact bin_add hK
  | Sub => exact bin_sub
  | Mult => exact bin_mul hK
  | FloorDiv => exact bin_fdiv
  | Mod => exact bin_mod
  | Pow => exact bin_pow
  | _ => exact no fun a b => rfl
end Bd
namespace Bd
open PySem PySem.Spec PyProof.Rows L2
theorem pe_ex {X : Cx} {e : PySem.Expr} {J : Type} {t : J → TE} (h : ∀ j, PE X e (t j)) : PE X e (fun st H Q => ∃ j, t j st H Q) :=
  ⟨fun pins s st H Q I ⟨j, q⟩ => (h j).run pins s st H Q I q⟩
theorem pe_alt {X : Cx} {e : PySem.Expr} {t u : TE} (h : PE X e t) (h' : PE X e u) : PE X e (fun st H Q => t st H Q ∨ u st H Q) :=
  ⟨fun pins s st H Q I q => q.elim (fun q => h.run pins s st H Q I q) fun q => h'.run pins s st H Q I q⟩
theorem pe_no {X : Cx} {e : PySem.Expr} : PE X e (fun _ _ _ => False) := ⟨fun _ _ _ _ _ _ q => q.elim⟩
/-- e, as x: a new list or a shared value -/
def GSnd (G : Gn) (c : Ct) (e : PySem.Expr) (x : E) : Prop := ∀ (T : Tb) (n : Nat) (L : Lay) (X : Cx), Gd G T n L c X → ∀ W : WX, Takes X W → ∃ te, PE X e te ∧
  ∀ g s wd0 wd st Q, WdOk L wd s → Slots L wd0 wd st g → RPost L wd (WE W st) (fun d s' wd' => Res L wd' s' d Q) (evE T (callsAt T n) x g s) → te st wd.H Q
/-- a new list -/
def FSnd (G : Gn) (c : Ct) (e : PySem.Expr) (x : E) : Prop := ∀ (T : Tb) (n : Nat) (L : Lay) (X : Cx), Gd G T n L c X → ∀ W : WX, Takes X W → ∃ te, PE X e te ∧
  ∀ g s wd0 wd st Q, WdOk L wd s → Slots L wd0 wd st g → RPost L wd (WE W st) (fun d _ wd' => ∃ xs, d = .lst xs ∧ NewL L wd' xs Q) (evE T (callsAt T n) x g s) → te st wd.H Q
theorem RPost.res {L : Lay} {wd : Wd} {E : XK} {Q : VK} {r : R D} (h : RPost L wd E (VP L Q) r) : RPost L wd E (fun d s' wd' => Res L wd' s' d Q) r := by
  cases r with
  | ok d s => exact fun wd1 x1 k1 => res_of k1 fun wd2 v x2 k2 i => h wd2 (x1.trans x2) k2 v i
  | ex c xs s => exact h
  | no => exact h
/-- the same at every later world -/
theorem RPost.vp {L : Lay} {wd : Wd} {E : XK} {Q : VK} {d : D} {s : Sto} (h : RPost L wd E (VP L Q) (.ok d s)) : ∀ wd' v, Ext wd wd' → WdOk L wd' s → Is L wd'.F wd'.mu v d → Q v wd'.H := fun wd' v x k i => h wd' x k v i
section
variable {G : Gn} {c : Ct} {e a b t : PySem.Expr} {x y z : E} {pos : Pos}
theorem GSnd.es (h : GSnd G c e x) : ESnd G c e x := fun T n L X gd W tk => by
  obtain ⟨te, p, q⟩ := h T n L X gd W tk
  exact ⟨te, p, fun g s wd0 wd st Q k sl r => q g s wd0 wd st Q k sl r.res⟩
theorem GSnd.fs (h : GSnd G c e x) : FSnd G c e x := fun T n L X gd W tk => by
  obtain ⟨te, p, q⟩ := h T n L X gd W tk
  refine ⟨te, p, fun g s wd0 wd st Q k sl r => q g s wd0 wd st Q k sl (r.mono fun d s' wd' _ _ ⟨xs, e, h⟩ => ?_)⟩
  subst e
  exact h
def notBrw : E → Bool
  | .brw _ => false
  | _ => true
theorem evB_not {r : R D} {x : E} {g : En} {s : Sto} (h : notBrw x = true) : evB r x g s = r := by
  cases x <;> first | rfl | cases h
theorem ESnd.os (h : ESnd G c e x) (hx : notBrw x = true) : OSnd G c e x := fun T n L X gd W tk => by
  obtain ⟨te, p, q⟩ := h T n L X gd W tk
  refine ⟨te, p, fun g s wd0 wd st Q k sl r => q g s wd0 wd st Q k sl ?_⟩
  rw [evB_not hx] at r
  exact r.mono fun d s' wd' _ _ z v i => z v (.inl i)
def visB (sc : Scope) (x : Str) : Bool := match sc.names.lookup x with
  | some .local => true
  | some .cell => true
  | some .free => true
  | _ => false
def plainN (x : Str) : Bool := !(x == ("__debug__" : Str)) && !(x == ("__classdict__" : Str))
theorem vis_of {sc : Scope} {x : Str} (h : visB sc x = true) : Vis sc x := by
  unfold visB at h
  split at h <;> first | exact .inl (by assumption) | exact .inr (.inl (by assumption)) | exact .inr (.inr (by assumption)) | cases h
theorem pn1 {x : Str} (h : plainN x = true) : (x == ("__debug__" : Str)) = false := by
  unfold plainN at h
  rw [Bool.and_eq_true] at h
  simpa using h.1
theorem pn2 {x : Str} (h : plainN x = true) : (x == ("__classdict__" : Str)) = false := by
  unfold plainN at h
  rw [Bool.and_eq_true] at h
  simpa using h.2
theorem pe_slot {T : Tb} {n : Nat} {L : Lay} {X : Cx} {i : Nat} {x : Str} (gd : Gd G T n L c X) (hi : c.N[i]? = some x) (hv : visB c.sc x = true) (hp : plainN x = true) : PE X (.Name x pos) (tVar i) :=
  pe_var (by rw [gd.hN]; exact hi) (by rw [gd.hsc]; exact vis_of hv) (pn1 hp) (pn2 hp)
theorem s_var {i : Nat} {x : Str} (hi : c.N[i]? = some x) (hv : visB c.sc x = true) (hp : plainN x = true) : ESnd G c (.Name x pos) (.var i) := fun T n L X gd W tk => by
  refine ⟨_, pe_slot gd hi hv hp, fun g s wd0 wd st Q k sl r => ?_⟩
  unfold evE at r
  split at r
  · rename_i d e
    obtain ⟨v, h1, h2⟩ := sl.sh i d e
    exact ⟨v, h1, r.now k v h2⟩
  · exact r.elim
theorem s_brw {i : Nat} {x : Str} (hi : c.N[i]? = some x) (hv : visB c.sc x = true) (hp : plainN x = true) : OSnd G c (.Name x pos) (.brw i) := fun T n L X gd W tk => by
  refine ⟨_, pe_slot gd hi hv hp, fun g s wd0 wd st Q k sl r => ?_⟩
  obtain ⟨d, e, h⟩ := RPost.opt k (show RPost L wd _ _ (optR (brwD g i) s) from r)
  unfold brwD at e
  split at e
  · rename_i xs q
    cases e
    obtain ⟨p, h1, h2⟩ := sl.ow i _ q
    obtain ⟨vs, h3, h4⟩ := h2.rep
    exact ⟨.ref p, h1, h _ (.inr ⟨p, vs, xs, rfl, rfl, h3, h4, h2.nM⟩)⟩
  · rename_i xs q
    cases e
    obtain ⟨v, h1, h2⟩ := sl.sh i _ q
    exact ⟨v, h1, h _ (.inl h2)⟩
  · cases e
theorem s_cst {d : D} {v : V} (h : ∀ X : Cx, PE X e (tC v)) (hi : ∀ L F mu, Is L F mu v d) : ESnd G c e (.cst d) := fun T n L X gd W tk => by
  refine ⟨_, h X, fun g s wd0 wd st Q k sl r => ?_⟩
  unfold evE at r
  exact r.now k v (hi _ _ _)
theorem s_int {i : Int} {j : Nat} : ESnd G c (.Constant (.int i) j pos) (.cst (.int i)) := s_cst (fun _ => pe_int) fun _ _ _ => .int _
theorem s_bl {i : Bool} {j : Nat} : ESnd G c (.Constant (.bool i) j pos) (.cst (.bl i)) := s_cst (fun _ => pe_bl) fun _ _ _ => .bl _
theorem s_non {j : Nat} : ESnd G c (.Constant .none j pos) (.cst .non) := s_cst (fun _ => pe_non) fun _ _ _ => .non
theorem s_str {i : Str} {j : Nat} : ESnd G c (.Constant (.str i) j pos) (.cst (.str i)) := s_cst (fun _ => pe_str) fun _ _ _ => .str _
def globB (sc : Scope) (x : Str) : Bool := match sc.names.lookup x with
  | some .globalImplicit => true
  | _ => false
theorem glob_of {T : Tb} {n : Nat} {L : Lay} {X : Cx} {x : Str} (gd : Gd G T n L c X) (h : globB c.sc x = true) : L2.Gl X x := by
  show X.env.scope.names.lookup x = some .globalImplicit
  rw [gd.hsc]
  unfold globB at h
  split at h
  · assumption
  · cases h
def flatC : D → Bool
  | .int _ => true
  | .str _ => true
  | .bl _ => true
  | _ => false
theorem s_glob {x : Str} {d : D} (hg : globB c.sc x = true) (hd : G.ct.lookup x = some d) (hf : flatC d = true) (hp : plainN x = true) : ESnd G c (.Name x pos) (.cst d) := fun T n L X gd W tk => by
  obtain ⟨u, h1, h2⟩ := gd.ctv x d hd
  refine ⟨_, pe_glob (glob_of gd hg) h1 h2 (pn1 hp), fun g s wd0 wd st Q k sl r => ?_⟩
  unfold evE at r
  refine r.now k _ ?_
  cases d <;> first | exact .int _ | exact .str _ | exact .bl _ | cases hf
theorem s_nil : ASnd G c [] [] := ⟨rfl, rfl, fun T n L X gd W tk => ⟨_, pa_nil, fun g s wd0 wd st Q k sl r => by
  unfold evEs at r
  exact r.now k [] .nil⟩⟩
theorem s_cons {es : List PySem.Expr} {xs : List E} (h : ESnd G c e x) (hs : noStar e = true) (t : ASnd G c es xs) : ASnd G c (e :: es) (x :: xs) := by
  refine ⟨by rw [List.all_cons, hs, t.1] <;> rfl, by rw [List.length_cons, List.length_cons, t.2.1], fun T n L X gd W tk => ?_⟩
  obtain ⟨te, p1, q1⟩ := h T n L X gd W tk
  obtain ⟨ta, p2, q2⟩ := t.2.2 T n L X gd W tk
  refine ⟨_, pa_cons p1 p2 (star_cons hs), fun g s wd0 wd st Q k sl r => ?_⟩
  unfold evEs at r
  refine q1 g s wd0 wd st _ k sl (r.bind.mono fun d s1 wd1 x1 k1 r1 v i => ?_)
  refine q2 g s1 wd0 wd1 st _ k1 (sl.ext x1) (r1.bind.mono fun ds s2 wd2 x2 k2 r2 vs is => ?_)
  exact r2.now k2 _ (.cons (i.ext x2) is)
theorem evEs_len {T : Tb} {C : Calls} : ∀ {xs : List E} {g : En} {s s' : Sto} {ds : List D}, evEs T C xs g s = .ok ds s' → ds.length = xs.length
  | [], g, s, s', ds, h => by
    unfold evEs at h
    cases h
    rfl
  | x :: xs, g, s, s', ds, h => by
    unfold evEs at h
    cases q : evE T C x g s with
    | ok d s1 =>
      rw [q] at h
      simp only [R.bind] at h
      cases q2 : evEs T C xs g s1 with
      | ok ds2 s2 =>
        rw [q2] at h
        simp only at h
        cases h
        rw [List.length_cons, List.length_cons, evEs_len q2]
      | ex c ys s2 => rw [q2] at h; cases h
      | no => rw [q2] at h; cases h
    | ex c ys s2 => rw [q] at h; cases h
    | no => rw [q] at h; cases h
theorem s_tup {es : List PySem.Expr} {xs : List E} {k1 : Nat} (h : ASnd G c es xs) (hl : small xs.length = true) : ESnd G c (.Tuple es k1 pos) (.tup xs) := fun T n L X gd W tk => by
  obtain ⟨ta, p, q⟩ := h.2.2 T n L X gd W tk
  refine ⟨_, pe_tupK p, fun g s wd0 wd st Q k sl r => ?_⟩
  unfold evE at r
  refine q g s wd0 wd st _ k sl ?_
  cases e : evEs T (callsAt T n) xs g s with
  | ok ds s1 =>
    rw [e] at r
    refine fun wd1 x1 k1 vs is => ⟨?_, fun p o hp ho => ?_⟩
    · rw [is.length, evEs_len e]
      exact small_le hl
    · exact Res.tup k1 is hp ho (res_of k1 fun wd2 v x2 k2 i => r wd2 (x1.trans x2) k2 v i)
  | ex c ys s1 => rw [e] at r; exact r
  | no => rw [e] at r; exact r
theorem s_lst {es : List PySem.Expr} {xs : List E} (h : ASnd G c es xs) (hl : small xs.length = true) : GSnd G c (.List es pos) (.lst xs) := fun T n L X gd W tk => by
  obtain ⟨ta, p, q⟩ := h.2.2 T n L X gd W tk
  refine ⟨_, pe_lst p, fun g s wd0 wd st Q k sl r => ?_⟩
  unfold evE at r
  refine q g s wd0 wd st _ k sl ?_
  cases e : evEs T (callsAt T n) xs g s with
  | ok ds s1 =>
    rw [e] at r
    refine fun wd1 x1 k1 vs is => ⟨?_, fun p hp => ?_⟩
    · rw [is.length, evEs_len e]
      exact small_le hl
    · exact Res.nl (s := s1) is hp (r wd1 x1 k1)
  | ex c ys s1 => rw [e] at r; exact r
  | no => rw [e] at r; exact r
theorem s_bin {op : Operator} (ha : OSnd G c a x) (hb : OSnd G c b y) : GSnd G c (.BinOp a op b pos) (.bin op x y) := fun T n L X gd W tk => by
  obtain ⟨ta, p1, q1⟩ := ha T n L X gd W tk
  obtain ⟨tb, p2, q2⟩ := hb T n L X gd W tk
  obtain ⟨r0, o1, o2⟩ := bin_any (L := L) gd.hK op
  refine ⟨_, pe_op o1 p1 p2, fun g s wd0 wd st Q k sl r => ?_⟩
  unfold evE at r
  refine q1 g s wd0 wd st _ k sl (r.bind.mono fun d s1 wd1 x1 k1 r1 v i => ?_)
  refine q2 g s1 wd0 wd1 st _ k1 (sl.ext x1) (r1.bind.mono fun d2 s2 wd2 x2 k2 r2 v2 i2 => ?_)
  obtain ⟨d3, e3, h3⟩ := RPost.opt k2 r2
  exact o2 wd2 s2 v v2 d d2 d3 Q k2 (i.ext x2) i2 e3 h3
theorem s_neg (ha : ESnd G c a x) : ESnd G c (.UnaryOp .USub a pos) (.neg x) := fun T n L X gd W tk => by
  obtain ⟨ta, p1, q1⟩ := ha T n L X gd W tk
  refine ⟨_, pe_un un_neg p1, fun g s wd0 wd st Q k sl r => ?_⟩
  unfold evE at r
  refine q1 g s wd0 wd st _ k sl (r.bind.mono fun d s1 wd1 x1 k1 r1 v i => ?_)
  cases d with
  | int j =>
    cases i
    exact ⟨j, rfl, r1.now k1 _ (.int _)⟩
  | _ => exact r1.elim
theorem tst_post {A : Type} {L : Lay} {wd : Wd} {E : XK} {P : A → Sto → Wd → Prop} {d : D} {u v : R A} (h : RPost L wd E P (tstR d u v)) : ∃ b, d = .bl b ∧ RPost L wd E P (if b = true then u else v) := by
  cases d with
  | bl b => cases b with
    | true => exact ⟨true, rfl, h⟩
    | false => exact ⟨false, rfl, h⟩
  | _ => exact h.elim
theorem s_not (ha : ESnd G c a x) : ESnd G c (.UnaryOp .Not a pos) (.not x) := fun T n L X gd W tk => by
  obtain ⟨ta, p1, q1⟩ := ha T n L X gd W tk
  refine ⟨_, pe_not p1, fun g s wd0 wd st Q k sl r => ?_⟩
  unfold evE at r
  refine q1 g s wd0 wd st _ k sl (r.bind.mono fun d s1 wd1 x1 k1 r1 v i => ?_)
  obtain ⟨b, rfl, r2⟩ := tst_post r1
  cases i
  refine ⟨b, rfl, ?_⟩
  cases b with
  | true => exact RPost.now k1 (show RPost L wd1 _ (VP L Q) (.ok (.bl false) s1) from r2) _ (.bl _)
  | false => exact RPost.now k1 (show RPost L wd1 _ (VP L Q) (.ok (.bl true) s1) from r2) _ (.bl _)
theorem t_not (ha : TSnd G c a x) : TSnd G c (.UnaryOp .Not a pos) (.not x) := fun T n L X gd W tk => by
  obtain ⟨ta, p1, q1⟩ := ha T n L X gd W tk
  refine ⟨_, pt_not p1, fun g s wd0 wd st Q k sl r => ?_⟩
  unfold evE at r
  refine q1 g s wd0 wd st _ k sl (r.bind.mono fun d s1 wd1 x1 k1 r1 => ?_)
  obtain ⟨b, rfl, r2⟩ := tst_post r1
  refine ⟨b, rfl, ?_⟩
  cases b with
  | true =>
    obtain ⟨b', e, q⟩ := RPost.now k1 (show RPost L wd1 _ (BP Q) (.ok (.bl false) s1) from r2)
    cases e
    exact q
  | false =>
    obtain ⟨b', e, q⟩ := RPost.now k1 (show RPost L wd1 _ (BP Q) (.ok (.bl true) s1) from r2)
    cases e
    exact q
theorem s_ife (ht : TSnd G c t z) (ha : ESnd G c a x) (hb : ESnd G c b y) : ESnd G c (.IfExp t a b pos) (.ife z x y) := fun T n L X gd W tk => by
  obtain ⟨tt, p0, q0⟩ := ht T n L X gd W tk
  obtain ⟨ta, p1, q1⟩ := ha T n L X gd W tk
  obtain ⟨tb, p2, q2⟩ := hb T n L X gd W tk
  refine ⟨_, pe_ifExp p0 p1 p2, fun g s wd0 wd st Q k sl r => ?_⟩
  unfold evE at r
  refine q0 g s wd0 wd st _ k sl (r.bind.mono fun d s1 wd1 x1 k1 r1 => ?_)
  obtain ⟨b, rfl, r2⟩ := tst_post r1
  refine ⟨b, rfl, ?_⟩
  cases b with
  | true => exact iteT (q1 g s1 wd0 wd1 st _ k1 (sl.ext x1) r2)
  | false => exact iteF (q2 g s1 wd0 wd1 st _ k1 (sl.ext x1) r2)
/-- and, or: as values -/
theorem s_one {op : BoolOp} (ha : ESnd G c a x) : ESnd G c (.BoolOp op [a] pos) x := fun T n L X gd W tk => by
  obtain ⟨ta, p1, q1⟩ := ha T n L X gd W tk
  exact ⟨_, pe_one p1, q1⟩
theorem s_and {rest : List PySem.Expr} (ha : ESnd G c a x) (hb : ESnd G c (.BoolOp .And (b :: rest) pos) y) : ESnd G c (.BoolOp .And (a :: b :: rest) pos) (.and x y) := fun T n L X gd W tk => by
  obtain ⟨ta, p1, q1⟩ := ha T n L X gd W tk
  obtain ⟨tb, p2, q2⟩ := hb T n L X gd W tk
  refine ⟨_, pe_and p1 p2, fun g s wd0 wd st Q k sl r => ?_⟩
  unfold evE at r
  refine q1 g s wd0 wd st _ k sl (r.bind.mono fun d s1 wd1 x1 k1 r1 v i => ?_)
  obtain ⟨b, rfl, r2⟩ := tst_post r1
  cases i
  refine ⟨b, rfl, ?_⟩
  cases b with
  | true => exact iteT (q2 g s1 wd0 wd1 st _ k1 (sl.ext x1) r2)
  | false => exact iteF (RPost.now k1 (show RPost L wd1 _ (VP L Q) (.ok (.bl false) s1) from r2) _ (.bl _))
theorem s_or {rest : List PySem.Expr} (ha : ESnd G c a x) (hb : ESnd G c (.BoolOp .Or (b :: rest) pos) y) : ESnd G c (.BoolOp .Or (a :: b :: rest) pos) (.or x y) := fun T n L X gd W tk => by
  obtain ⟨ta, p1, q1⟩ := ha T n L X gd W tk
  obtain ⟨tb, p2, q2⟩ := hb T n L X gd W tk
  refine ⟨_, pe_or p1 p2, fun g s wd0 wd st Q k sl r => ?_⟩
  unfold evE at r
  refine q1 g s wd0 wd st _ k sl (r.bind.mono fun d s1 wd1 x1 k1 r1 v i => ?_)
  obtain ⟨b, rfl, r2⟩ := tst_post r1
  cases i
  refine ⟨b, rfl, ?_⟩
  cases b with
  | true => exact iteT (RPost.now k1 (show RPost L wd1 _ (VP L Q) (.ok (.bl true) s1) from r2) _ (.bl _))
  | false => exact iteF (q2 g s1 wd0 wd1 st _ k1 (sl.ext x1) r2)
theorem s_orv {rest : List PySem.Expr} (ha : ESnd G c a x) (hb : ESnd G c (.BoolOp .Or (b :: rest) pos) y) : ESnd G c (.BoolOp .Or (a :: b :: rest) pos) (.orv x y) := fun T n L X gd W tk => by
  obtain ⟨ta, p1, q1⟩ := ha T n L X gd W tk
  obtain ⟨tb, p2, q2⟩ := hb T n L X gd W tk
  refine ⟨_, pe_orT p1 p2, fun g s wd0 wd st Q k sl r => ?_⟩
  unfold evE at r
  refine q1 g s wd0 wd st _ k sl (r.bind.mono fun d s1 wd1 x1 k1 r1 v i => ?_)
  cases d with
  | int j =>
    cases i
    refine ⟨j != 0, rfl, ?_⟩
    by_cases h : j = 0
    · subst h
      exact q2 g s1 wd0 wd1 st _ k1 (sl.ext x1) r1
    · have r2 : RPost L wd1 (WE W st) (VP L Q) (.ok (.int j) s1) := by
        unfold orvR at r1
        simp only at r1
        rw [if_neg h] at r1
        exact r1
      rw [if_pos (bne_iff_ne.mpr h)]
      exact RPost.now k1 r2 _ (.int _)
  | _ => exact False.elim r1
/-- .. as tests -/
def WSnd (G : Gn) (c : Ct) (e : PySem.Expr) (x : E) : Prop := ∀ (T : Tb) (n : Nat) (L : Lay) (X : Cx), Gd G T n L c X → ∀ W : WX, Takes X W → ∃ tt, PW X e tt ∧
  ∀ g s wd0 wd st Q, WdOk L wd s → Slots L wd0 wd st g → RPost L wd (WE W st) (BP Q) (evE T (callsAt T n) x g s) → tt st wd.H Q
theorem WSnd.ts (h : WSnd G c e x) : TSnd G c e x := fun T n L X gd W tk => by
  obtain ⟨ta, p1, q1⟩ := h T n L X gd W tk
  exact ⟨_, p1.pt, q1⟩
theorem w_and1 (ha : TSnd G c a x) : WSnd G c (.BoolOp .And [a] pos) x := fun T n L X gd W tk => by
  obtain ⟨ta, p1, q1⟩ := ha T n L X gd W tk
  exact ⟨_, pw_and1 p1, q1⟩
theorem w_or1 (ha : TSnd G c a x) : WSnd G c (.BoolOp .Or [a] pos) x := fun T n L X gd W tk => by
  obtain ⟨ta, p1, q1⟩ := ha T n L X gd W tk
  exact ⟨_, pw_or1 p1, q1⟩
theorem w_and {rest : List PySem.Expr} (ha : TSnd G c a x) (hb : WSnd G c (.BoolOp .And (b :: rest) pos) y) : WSnd G c (.BoolOp .And (a :: b :: rest) pos) (.and x y) := fun T n L X gd W tk => by
  obtain ⟨ta, p1, q1⟩ := ha T n L X gd W tk
  obtain ⟨tb, p2, q2⟩ := hb T n L X gd W tk
  refine ⟨_, pw_and p1 p2, fun g s wd0 wd st Q k sl r => ?_⟩
  unfold evE at r
  refine q1 g s wd0 wd st _ k sl (r.bind.mono fun d s1 wd1 x1 k1 r1 => ?_)
  obtain ⟨b, rfl, r2⟩ := tst_post r1
  refine ⟨b, rfl, ?_⟩
  cases b with
  | true => exact iteT (q2 g s1 wd0 wd1 st _ k1 (sl.ext x1) r2)
  | false =>
    obtain ⟨b', e, q⟩ := RPost.now k1 (show RPost L wd1 _ (BP Q) (.ok (.bl false) s1) from r2)
    cases e
    exact iteF q
theorem w_or {rest : List PySem.Expr} (ha : TSnd G c a x) (hb : WSnd G c (.BoolOp .Or (b :: rest) pos) y) : WSnd G c (.BoolOp .Or (a :: b :: rest) pos) (.or x y) := fun T n L X gd W tk => by
  obtain ⟨ta, p1, q1⟩ := ha T n L X gd W tk
  obtain ⟨tb, p2, q2⟩ := hb T n L X gd W tk
  refine ⟨_, pw_or p1 p2, fun g s wd0 wd st Q k sl r => ?_⟩
  unfold evE at r
  refine q1 g s wd0 wd st _ k sl (r.bind.mono fun d s1 wd1 x1 k1 r1 => ?_)
  obtain ⟨b, rfl, r2⟩ := tst_post r1
  refine ⟨b, rfl, ?_⟩
  cases b with
  | true =>
    obtain ⟨b', e, q⟩ := RPost.now k1 (show RPost L wd1 _ (BP Q) (.ok (.bl true) s1) from r2)
    cases e
    exact iteT q
  | false => exact iteF (q2 g s1 wd0 wd1 st _ k1 (sl.ext x1) r2)
/-- a value that is a test -/
def plainT : PySem.Expr → Bool
  | .UnaryOp .Not _ _ => false
  | .BoolOp _ _ _ => false
  | .IfExp _ _ _ _ => false
  | .Compare _ _ _ _ => false
  | _ => true
theorem plainT_eq (h : plainT e = true) (env : Env) : ∀ whole, isTrue e env whole = (do let v ← whole; standAt e.pos; holding [v] (truthy v)) := by
  intro whole
  cases e with
  | UnaryOp op x p => cases op <;> first | rfl | cases h
  | BoolOp => cases h
  | IfExp => cases h
  | Compare => cases h
  | _ => rfl
theorem RPost.bv {L : Lay} {wd : Wd} {E : XK} {Q : Bool → Hp → Prop} {r : R D} (h : RPost L wd E (BP Q) r) : RPost L wd E (VP L fun v H => ∃ b, v = .bl b ∧ Q b H) r := h.mono fun d s1 wd1 x1 k1 z v i => by
  obtain ⟨b, rfl, q⟩ := z
  cases i
  exact ⟨b, rfl, q⟩
theorem t_val (ha : ESnd G c e x) (h : plainT e = true) : TSnd G c e x := fun T n L X gd W tk => by
  obtain ⟨ta, p1, q1⟩ := ha T n L X gd W tk
  exact ⟨_, pt_val p1 (plainT_eq h X.env), fun g s wd0 wd st Q k sl r => q1 g s wd0 wd st _ k sl r.bv⟩
end
end Bd
namespace Bd
open PySem PySem.Spec PyProof.Rows L2
mutual
theorem Is.dp {L : Lay} {F H : Hp} {mu : List Addr} (k : Same F H) : ∀ (d : D) (v : V) (p : PyData), Is L F mu v d → toPy d = some p → Dp L.K H v p
  | .non, _, _, .non, e => by cases e; exact .non
  | .bl b, _, _, .bl _, e => by cases e; exact .bl _
  | .int i, _, _, .int _, e => by cases e; exact .int _
  | .str x, _, _, .str _, e => by cases e; exact .str _
  | .tup xs, _, p, .tup h1 h2, e => by
    unfold toPy at e
    cases q : toPys xs with
    | none => rw [q] at e; cases e
    | some ps =>
      rw [q] at e
      cases e
      exact .tup (h1.mono k).sq (IsAll.dp k xs _ ps h2 q)
  | .lst xs, _, p, .lst h1 h2, e => by
    unfold toPy at e
    cases q : toPys xs with
    | none => rw [q] at e; cases e
    | some ps =>
      rw [q] at e
      cases e
      exact .lst (SqL.of (k _ _ h1)) (IsAll.dp k xs _ ps h2 q)
  | .dct _ _, _, _, _, e => by cases e
  | .obj _ _ _, _, _, _, e => by cases e
  | .exn _ _, _, _, _, e => by cases e
  | .loc _, _, _, _, e => by cases e
  | .scr _, _, _, _, e => by cases e
theorem IsAll.dp {L : Lay} {F H : Hp} {mu : List Addr} (k : Same F H) : ∀ (ds : List D) (vs : List V) (ps : List PyData), IsAll L F mu vs ds → toPys ds = some ps → DpAll L.K H vs ps
  | [], _, _, .nil, e => by cases e; exact .nil
  | d :: ds, _, ps, .cons h t, e => by
    unfold toPys at e
    cases q1 : toPy d with
    | none => rw [q1] at e; cases e
    | some p =>
      rw [q1] at e
      cases q2 : toPys ds with
      | none => rw [q2] at e; cases e
      | some ps2 =>
        rw [q2] at e
        cases e
        exact .cons (Is.dp k d _ p h q1) (IsAll.dp k ds _ ps2 t q2)
end
theorem IsB.dp {L : Lay} {wd : Wd} {s : Sto} {v : V} {d : D} {p : PyData} (k : WdOk L wd s) (h : IsB L wd v d) (e : toPy d = some p) : Dp L.K wd.H v p := by
  rcases h with h | ⟨a, vs, xs, rfl, rfl, h1, h2, _⟩
  · exact h.dp k.sub _ _ _ e
  · unfold toPy at e
    cases q : toPys xs with
    | none => rw [q] at e; cases e
    | some ps =>
      rw [q] at e
      cases e
      exact .lst (SqL.of h1) (IsAll.dp k.sub xs _ ps h2 q)
theorem eqP_some {a b : D} {r : Bool} (h : eqP a b = some r) : ∃ p q, toPy a = some p ∧ toPy b = some q ∧ SeqAt.shaped p = true ∧ SeqAt.shaped q = true ∧ r = PyData.eqv p q := by
  unfold eqP at h
  split at h
  · rename_i p q e1 e2
    obtain ⟨h1, h2⟩ := ite_some h
    rw [Bool.and_eq_true] at h1
    exact ⟨p, q, e1, e2, h1.1, h1.2, h2.symm⟩
  · cases h
theorem eqD_some {a b : D} {r : Bool} (h : eqD a b = some r) : (∃ p q, toPy a = some p ∧ toPy b = some q ∧ SeqAt.shaped p = true ∧ SeqAt.shaped q = true ∧ r = PyData.eqv p q) ∨ ∃ x y, a = .str x ∧ b = .str y ∧ r = decide (x = y) := by
  unfold eqD at h
  cases a with
  | str x => cases b with
    | str y =>
      cases h
      exact .inr ⟨x, y, rfl, rfl, rfl⟩
    | _ => exact .inl (eqP_some h)
  | _ => exact .inl (eqP_some h)
theorem isB_str {L : Lay} {wd : Wd} {v : V} {x : Str} (h : IsB L wd v (.str x)) : v = .str x := by
  rcases h with h | ⟨a, vs, xs, _, e, _⟩
  · cases h
    rfl
  · cases e
theorem dec_str {x y : Str} : decide (V.str x = V.str y) = decide (x = y) := by
  rw [decide_eq_decide]
  exact ⟨fun h => by cases h; rfl, fun h => by rw [h]⟩
theorem inD_some {x : D} {ys : List D} {r : Bool} (h : inD x ys = some r) : ∃ p qs, toPy x = some p ∧ toPys ys = some qs ∧ SeqAt.shaped p = true ∧ SeqAt.shaped (.list qs) = true ∧ r = qs.any fun z => PyData.eqv z p := by
  unfold inD at h
  split at h
  · rename_i p q e1 e2
    obtain ⟨h1, h2⟩ := ite_some h
    rw [Bool.and_eq_true] at h1
    exact ⟨p, q, e1, e2, h1.1, h1.2, h2.symm⟩
  · cases h
def btN : Bt → String
  | .non => "NoneType"
  | .bool => "bool"
  | .int => "int"
  | .str => "str"
  | .list => "list"
  | .tuple => "tuple"
  | .dict => "dict"
theorem btN_mem (b : Bt) : btN b ∈ tyNs := by cases b <;> decide
def tgV (L : Lay) : Tg → Value
  | .b t => .type (btN t)
  | .o c => .ref (L.ca c)
  | .x c => .ref (L.ca c)
theorem isCl_some {T : Tb} {c : Nat} (h : isCl T c = true) : ∃ d, T.cl.lookup c = some d ∧ d.kind < 2 := by
  unfold isCl at h
  split at h
  · rename_i d e
    exact ⟨d, e, of_decide_eq_true h⟩
  · cases h
section
variable {G : Gn} {T : Tb} {n : Nat} {L : Lay} {c : Ct} {X : Cx}
/-- where an instance stands -/
theorem ins_at {wd : Wd} {s : Sto} {v : V} {d : D} {k : Nat} (ok : WdOk L wd s) (h : IsB L wd v d) (e : clsOf d s = some k) : ∃ a dx fs, v = .ref a ∧ wd.H a = some (.ins (L.ca k) dx fs) := by
  rcases h with h | ⟨a, vs, xs, rfl, rfl, _⟩
  · cases d with
    | obj c ks xs =>
      cases e
      cases h with
      | obj h1 h2 h3 => exact ⟨_, _, _, rfl, ok.sub _ _ h1⟩
    | loc m =>
      cases h with
      | loc h1 =>
        unfold clsOf at e
        simp only at e
        split at e
        · rename_i c ks xs q
          cases e
          obtain ⟨a, e1, dx, fs, e2, _⟩ := ok.sto _ _ q
          rw [h1] at e1
          cases e1
          exact ⟨_, dx, fs, rfl, e2⟩
        · cases e
    | _ => cases e
  · cases e
theorem cls_tag {d : D} {s : Sto} {k : Nat} (e : clsOf d s = some k) : tagD d s = some (.o k) := by
  cases d with
  | obj c ks xs => cases e; rfl
  | loc m =>
    unfold clsOf at e
    simp only at e
    unfold tagD
    simp only
    split at e
    · rename_i c ks xs q
      cases e
      rw [q]
    · cases e
  | _ => cases e
theorem ty_of (gd : Gd G T n L c X) {wd : Wd} {s : Sto} {v : V} {d : D} {tg : Tg} (ok : WdOk L wd s) (h : IsB L wd v d) (e : tagD d s = some tg) (ht : tgOkB T tg = true) : TyX X.K wd.H v (tgV L tg) := by
  have own : ∀ k, tg = .o k → clsOf d s = some k → TyX X.K wd.H v (tgV L tg) := fun k e1 e2 => by
    subst e1
    obtain ⟨dd, h1, h2⟩ := isCl_some ht
    obtain ⟨a, dx, fs, rfl, h3⟩ := ins_at ok h e2
    have f := gd.clf _ _ h1 h2
    exact .base (.ins h3 f.cl f.ty1 f.ty2 f.ty3 f.ty4)
  cases d with
  | non => cases e; rcases h with h | ⟨_, _, _, _, e, _⟩ <;> first | (cases e; done) | (cases h; exact .base .non)
  | bl b => cases e; rw [h.bl]; exact .base (.bl _)
  | int i => cases e; rw [h.int]; exact .base (.int _)
  | str x => cases e; rw [h.str]; exact .base (.str _)
  | tup xs =>
    cases e
    obtain ⟨a, vs, rfl, ⟨o, h1, _⟩, _⟩ := h.tup ok
    exact .fTuple h1
  | lst xs =>
    cases e
    obtain ⟨a, vs, rfl, h1, _⟩ := h.lst ok
    exact .base (.lst h1)
  | dct ks xs =>
    cases e
    rcases h with h | ⟨_, _, _, _, e, _⟩
    · cases h with
      | dct h1 h2 h3 => exact .base (.dK (ok.sub _ _ h1))
    · cases e
  | obj k ks xs => cases e; exact own k rfl rfl
  | exn k xs => cases e; cases ht
  | loc m =>
    rcases h with h | ⟨_, _, _, _, e, _⟩
    · have h' := h
      cases h' with
      | loc h1 =>
        unfold tagD at e
        simp only at e
        split at e
        · rename_i k ks xs q
          cases e
          refine own k rfl ?_
          unfold clsOf
          simp only [q]
        · rename_i xs q
          cases e
          obtain ⟨a, e1, vs, e2, _⟩ := ok.sto _ _ q
          rw [h1] at e1
          cases e1
          exact .base (.lst e2)
        · rename_i ks xs q
          cases e
          obtain ⟨a, e1, vs, e2, _⟩ := ok.sto _ _ q
          rw [h1] at e1
          cases e1
          exact .base (.dK e2)
        · cases e
    · cases e
  | scr ns => cases e
theorem looks_of {pins : List (Addr × Obj)} {st : L2.St} {H : Hp} {s : Shared} {x : V} {u t : Value} (I : Inv X pins st H s) (rx : RelV x u) (ty : TyX X.K H x t) : PySem.W.Looks (model X.prog X.w) s.heap (typeOf u) t := by
  obtain ⟨P, Z, p, _⟩ := kit_of I rx ty
  exact Z.ty _ _ I.kIn p
def W0 : WX := fun _ _ _ _ => False
theorem calm_post {A : Type} {wd : Wd} {E : XK} {P : A → Sto → Wd → Prop} {r : R A} (h : RPost L wd E P r.calm) : RPost L wd (fun _ _ _ => False) P r := by
  cases r with
  | ok a s => exact h
  | ex c xs s => exact h.elim
  | no => exact h
/-- x op y by x's own method -/
theorem own_cmp (gd : Gd G T n L c X) (hc : c.calm = true) {op : CmpOp} {m : Nat} (hop : ∀ x y, compareOp op x y = richCompare op x y) (hm : L.nm m = (cmpInfo op).2.1) :
    OpR X (compareOp op) (fun x y H Q => ∃ k d f a dx fs tg, T.cl.lookup k = some d ∧ d.kind < 2 ∧ d.meths.lookup m = some f ∧ (∃ fd, T.fn.lookup f = some fd) ∧ x = .ref a ∧ H a = some (.ins (L.ca k) dx fs) ∧ TyX X.K H y (tgV L tg) ∧ tgOkB T tg = true ∧
      spF T n L f [x, y] H Q (fun _ _ _ => False)) := by
  intro pins s st H x y u v Q I rx ry h
  obtain ⟨k, d, f, a, dx, fs, tg, h1, h2, h3, ⟨fd0, h0⟩, rfl, h4, h5, h6, h7⟩ := h
  cases rx
  have F := gd.clf k d h1 h2
  obtain ⟨mA, O, _⟩ := ins_get I.hok h4
  obtain ⟨od, J, _⟩ := O.look
  obtain ⟨mf, hF⟩ := I.fr
  obtain ⟨fd, ps, FG, hb⟩ := gd.call f fd0 h0
  have M := (F.me m f h3).1
  rw [hop]
  have hn : PySem.W.notFirst X.K (L.ca k) (tgV L tg) = true := by
    cases tg with
    | b t => exact F.nft _ (btN_mem t)
    | o e =>
      obtain ⟨de, q1, q2⟩ := isCl_some h6
      exact F.nfo e de q1 q2
    | x e => cases h6
  refine PySem.W.cmp_K (op := op) (by have := gd.un; omega) hF I.ok.mod.kin J (looks_of I ry h5) hn (by rw [← hm]; exact M.at_) M.fn ?_
  refine thn (runG (W := W0) FG ((gd.room hc).mono (by omega)) gd.gu hb takes0 I (vs := [.ref a, y]) (.cons rfl (.cons ry .nil)) h7) fun w s' z => ?_
  obtain ⟨v', H', I', rv, q⟩ := z
  cases w with
  | notImplemented => cases v' <;> first | (obtain ⟨t, e⟩ := rv; cases e) | cases rv
  | _ => exact ⟨v', H', I', rv, q⟩
theorem OpR.no {f : Value → Value → Sem Value} : OpR X f (fun _ _ _ _ => False) := fun _ _ _ _ _ _ _ _ _ _ _ _ q => q.elim
theorem is_non {wd : Wd} {v : V} {d : D} (h : IsB L wd v d) : decide (v = .non) = isNon d := by
  rcases h with h | ⟨a, vs, xs, rfl, rfl, _⟩
  · cases h <;> rfl
  · rfl
/-- a comparison of plain data -/
def CmpBOk (L : Lay) (X : Cx) (op : CmpOp) (r : R2) : Prop := OpR X (compareOp op) r ∧ ∀ wd s x y a b z (Q : VK), WdOk L wd s → IsB L wd x a → IsB L wd y b → cmpB op a b = some z → Q (.bl z) wd.H → r x y wd.H Q
/-- by order: tuples of data -/
def rOrdT (K : PySem.W.Frag) (g : PyData → PyData → Bool) : R2 := fun x y H Q => ∃ ps qs, Dp K H x (.tuple ps) ∧ Dp K H y (.tuple qs) ∧ SeqAt.shaped (.tuple ps) = true ∧ SeqAt.shaped (.tuple qs) = true ∧ PySem.W.alike (.tuple ps) (.tuple qs) = true ∧ Q (.bl (g (.tuple ps) (.tuple qs))) H
theorem room_ord {A : Around} {p q : PyData} (h : SeqAt.shaped p = true) (hu : A.units + 100 < cLine) : A.units + min p.depth q.depth < cLine := by
  have : p.depth ≤ 64 := by
    simp only [SeqAt.shaped, Bool.and_eq_true, decide_eq_true_eq] at h
    omega
  omega
theorem op_ordT (hu : X.A.units + 100 < cLine) : OpR X (compareOp .Lt) (rOrdT X.K fun p q => PySem.W.dataLt p q) ∧ OpR X (compareOp .LtE) (rOrdT X.K fun p q => !PySem.W.dataLt q p) ∧ OpR X (compareOp .Gt) (rOrdT X.K fun p q => PySem.W.dataLt q p) ∧ OpR X (compareOp .GtE) (rOrdT X.K fun p q => !PySem.W.dataLt p q) := by
  refine ⟨?_, ?_, ?_, ?_⟩
  all_goals
    intro pins s st H x y v u Q I rx ry w
    obtain ⟨ps, qs, d1, d2, s1, s2, al, q⟩ := w
    obtain ⟨as, r1⟩ := Dp.reads I (.tuple ps) x v d1 rx
    obtain ⟨bs, r2⟩ := Dp.reads I (.tuple qs) y u d2 ry
  · exact PySem.W.lt_data r1 r2 al (by simp) (room_ord s1 hu) ⟨.bl _, H, I, rfl, q⟩
  · exact PySem.W.le_data r1 r2 al (by simp) (room_ord s1 hu) ⟨.bl _, H, I, rfl, q⟩
  · exact PySem.W.gt_data r1 r2 al (by simp) (room_ord s1 hu) ⟨.bl _, H, I, rfl, q⟩
  · exact PySem.W.ge_data r1 r2 al (by simp) (room_ord s1 hu) ⟨.bl _, H, I, rfl, q⟩
theorem ordT_some {op : CmpOp} {xs ys : List D} {z : Bool} (h : ordT op xs ys = some z) : ∃ ps qs, toPys xs = some ps ∧ toPys ys = some qs ∧ SeqAt.shaped (.tuple ps) = true ∧ SeqAt.shaped (.tuple qs) = true ∧ PySem.W.alike (.tuple ps) (.tuple qs) = true ∧ ordP op (.tuple ps) (.tuple qs) = some z := by
  unfold ordT at h
  split at h
  · rename_i ps qs e1 e2
    split at h
    · rename_i c
      simp only [Bool.and_eq_true] at c
      exact ⟨ps, qs, e1, e2, c.1.1, c.1.2, c.2, h⟩
    · cases h
  · cases h
theorem ord_ok {op : CmpOp} {f : Int → Int → Bool} {g : PyData → PyData → Bool} (hK : X.K = L.K) (hr : OpR X (compareOp op) (rI0 fun i j => .bl (f i j))) (hr2 : OpR X (compareOp op) (rOrdT X.K g)) (hg : ∀ p q, ordP op p q = some (g p q))
    (hb : ∀ a b z, cmpB op a b = some z → (∃ i j, a = .int i ∧ b = .int j ∧ z = f i j) ∨ ∃ xs ys, a = .tup xs ∧ b = .tup ys ∧ ordT op xs ys = some z) : ∃ r, CmpBOk L X op r := by
  refine ⟨_, hr.or hr2, fun wd s x y a b z Q k ha hb' e q => ?_⟩
  rcases hb a b z e with ⟨i, j, rfl, rfl, rfl⟩ | ⟨xs, ys, rfl, rfl, e2⟩
  · exact .inl ⟨i, j, ha.int, hb'.int, q⟩
  · obtain ⟨ps, qs, e3, e4, s1, s2, al, e5⟩ := ordT_some e2
    have d1 := ha.dp k (show toPy (.tup xs) = some (.tuple ps) by unfold toPy; rw [e3]; rfl)
    have d2 := hb'.dp k (show toPy (.tup ys) = some (.tuple qs) by unfold toPy; rw [e4]; rfl)
    rw [hg] at e5
    cases e5
    rw [← hK] at d1 d2
    exact .inr ⟨ps, qs, d1, d2, s1, s2, al, q⟩
theorem ord_of {op : CmpOp} {f : Int → Int → Bool} (h1 : ∀ a b, cmpB op a b = (match a, b with
    | .int i, .int j => ordD op i j
    | .tup xs, .tup ys => ordT op xs ys
    | _, _ => none)) (h2 : ∀ i j, ordD op i j = some (f i j)) : ∀ a b z, cmpB op a b = some z → (∃ i j, a = .int i ∧ b = .int j ∧ z = f i j) ∨ ∃ xs ys, a = .tup xs ∧ b = .tup ys ∧ ordT op xs ys = some z := fun a b z e => by
  rw [h1] at e
  split at e
  · rename_i i j
    rw [h2] at e
    exact .inl ⟨i, j, rfl, rfl, (Option.some.inj e).symm⟩
  · rename_i xs ys
    exact .inr ⟨xs, ys, rfl, rfl, e⟩
  · cases e
theorem map_not {o : Option Bool} {z : Bool} (h : o.map (fun r => !r) = some z) : ∃ r, o = some r ∧ z = !r := by
  cases o with
  | none => cases h
  | some r => exact ⟨r, rfl, (Option.some.inj h).symm⟩
theorem isBl_some {a b : D} {z : Bool} (h : isBl a b = some z) : ∃ u v, a = .bl u ∧ b = .bl v ∧ z = decide (u = v) := by
  unfold isBl at h
  split at h
  · rename_i u v
    exact ⟨u, v, rfl, rfl, (Option.some.inj h).symm⟩
  · cases h
theorem op_isBl : OpR X (compareOp .Is) (fun x y H Q => ∃ u v : Bool, x = .bl u ∧ y = .bl v ∧ Q (.bl (decide (u = v))) H) := by
  intro pins s st H x y v u Q I rx ry w
  obtain ⟨a, b, rfl, rfl, q⟩ := w
  cases rx
  cases ry
  refine wpAny_is_plain rfl ?_
  have e : (Value.bool a == Value.bool b) = decide (a = b) := by cases a <;> cases b <;> rfl
  rw [e]
  exact ⟨.bl _, H, I, rfl, q⟩
theorem op_notBl : OpR X (compareOp .IsNot) (fun x y H Q => ∃ u v : Bool, x = .bl u ∧ y = .bl v ∧ Q (.bl (!decide (u = v))) H) := by
  intro pins s st H x y v u Q I rx ry w
  obtain ⟨a, b, rfl, rfl, q⟩ := w
  cases rx
  cases ry
  refine wpAny_isNot_plain rfl ?_
  have e : (Value.bool a == Value.bool b) = decide (a = b) := by cases a <;> cases b <;> rfl
  rw [e]
  exact ⟨.bl _, H, I, rfl, q⟩
theorem inS_some {x z : Str} {r : Bool} (h : inS x z = some r) : ∃ c, x = ⟨#[c]⟩ ∧ r = decide (c ∈ z.cps.toList) := by
  unfold inS at h
  split at h
  · rename_i c e
    refine ⟨c, ?_, (Option.some.inj h).symm⟩
    obtain ⟨⟨l⟩⟩ := x
    have e2 : l = [c] := e
    rw [e2]
  · cases h
theorem inTup (hu : X.A.units + 65 < cLine) : OpR X (compareOp .In) (fun x y H Q => ∃ d ds, Dp X.K H x d ∧ Dp X.K H y (.tuple ds) ∧ SeqAt.shaped d = true ∧ SeqAt.shaped (.list ds) = true ∧ Q (.bl (ds.any fun z => PyData.eqv z d)) H) := by
  intro pins s st H x y v u Q I rx ry h
  obtain ⟨d, ds, hd, he, sd, se, q⟩ := h
  obtain ⟨as, r1⟩ := Dp.reads I d x v hd rx
  obtain ⟨bs, r2⟩ := Dp.reads I (.tuple ds) y u he ry
  exact SeqAt.in_tuple_reads r2 r1 (SeqAt.canLay_of_shaped se) (SeqAt.canLay_of_shaped sd) (room_in_shaped sd hu) ⟨.bl _, H, I, rfl, q⟩
theorem notInTup (hu : X.A.units + 65 < cLine) : OpR X (compareOp .NotIn) (fun x y H Q => ∃ d ds, Dp X.K H x d ∧ Dp X.K H y (.tuple ds) ∧ SeqAt.shaped d = true ∧ SeqAt.shaped (.list ds) = true ∧ Q (.bl (!ds.any fun z => PyData.eqv z d)) H) := by
  intro pins s st H x y v u Q I rx ry h
  obtain ⟨d, ds, hd, he, sd, se, q⟩ := h
  obtain ⟨as, r1⟩ := Dp.reads I d x v hd rx
  obtain ⟨bs, r2⟩ := Dp.reads I (.tuple ds) y u he ry
  exact SeqAt.notIn_tuple_reads r2 r1 (SeqAt.canLay_of_shaped se) (SeqAt.canLay_of_shaped sd) (room_in_shaped sd hu) ⟨.bl _, H, I, rfl, q⟩
theorem dp_tup {wd : Wd} {s : Sto} {v : V} {ds : List D} {ps : List PyData} (k : WdOk L wd s) (h : IsB L wd v (.tup ds)) (e : toPys ds = some ps) : Dp L.K wd.H v (.tuple ps) := h.dp k (by unfold toPy; rw [e]; rfl)
theorem dp_lst {wd : Wd} {s : Sto} {v : V} {ds : List D} {ps : List PyData} (k : WdOk L wd s) (h : IsB L wd v (.lst ds)) (e : toPys ds = some ps) : Dp L.K wd.H v (.list ps) := h.dp k (by unfold toPy; rw [e]; rfl)
theorem cmpB_any (gd : Gd G T n L c X) (op : CmpOp) : ∃ r, CmpBOk L X op r := by
  have hu := gd.un
  have hK := gd.hK
  cases op with
  | Lt => exact ord_ok hK op_lt (op_ordT hu).1 (fun _ _ => rfl) (ord_of (fun a b => rfl) fun i j => rfl)
  | LtE => exact ord_ok hK op_le (op_ordT hu).2.1 (fun _ _ => rfl) (ord_of (fun a b => rfl) fun i j => rfl)
  | Gt => exact ord_ok hK op_gt (op_ordT hu).2.2.1 (fun _ _ => rfl) (ord_of (fun a b => rfl) fun i j => rfl)
  | GtE => exact ord_ok hK op_ge (op_ordT hu).2.2.2 (fun _ _ => rfl) (ord_of (fun a b => rfl) fun i j => rfl)
  | Eq =>
    refine ⟨_, (op_eqD (by omega)).or op_eq, fun wd s x y a b z Q k ha hb e q => ?_⟩
    rcases eqD_some e with ⟨p, p2, e1, e2, s1, s2, rfl⟩ | ⟨t, u, rfl, rfl, rfl⟩
    · have d1 := ha.dp k e1
      have d2 := hb.dp k e2
      rw [← hK] at d1 d2
      exact .inl ⟨p, p2, d1, d2, s1, s2, q⟩
    · obtain rfl := isB_str ha
      obtain rfl := isB_str hb
      refine .inr ⟨rfl, ?_⟩
      rw [dec_str]
      exact q
  | NotEq =>
    refine ⟨_, (op_neD (by omega)).or op_ne, fun wd s x y a b z Q k ha hb e q => ?_⟩
    obtain ⟨r, e9, rfl⟩ := map_not (show (eqD a b).map (fun r => !r) = some z from e)
    rcases eqD_some e9 with ⟨p, p2, e1, e2, s1, s2, rfl⟩ | ⟨t, u, rfl, rfl, rfl⟩
    · have d1 := ha.dp k e1
      have d2 := hb.dp k e2
      rw [← hK] at d1 d2
      exact .inl ⟨p, p2, d1, d2, s1, s2, q⟩
    · obtain rfl := isB_str ha
      obtain rfl := isB_str hb
      refine .inr ⟨rfl, ?_⟩
      rw [dec_str]
      exact q
  | Is =>
    refine ⟨_, op_isN.or op_isBl, fun wd s x y a b z Q k ha hb e q => ?_⟩
    have e : (if isNon b = true then some (isNon a) else isBl a b) = some z := e
    by_cases e1 : isNon b = true
    · rw [if_pos e1] at e
      cases e
      refine .inl ⟨of_decide_eq_true ((is_non hb).trans e1), ?_⟩
      rw [is_non ha]
      exact q
    · rw [if_neg e1] at e
      obtain ⟨u, v, rfl, rfl, rfl⟩ := isBl_some e
      exact .inr ⟨u, v, ha.bl, hb.bl, q⟩
  | IsNot =>
    refine ⟨_, op_notN.or op_notBl, fun wd s x y a b z Q k ha hb e q => ?_⟩
    have e : (if isNon b = true then some (!isNon a) else (isBl a b).map fun r => !r) = some z := e
    by_cases e1 : isNon b = true
    · rw [if_pos e1] at e
      cases e
      refine .inl ⟨of_decide_eq_true ((is_non hb).trans e1), ?_⟩
      rw [is_non ha]
      exact q
    · rw [if_neg e1] at e
      obtain ⟨r, e2, rfl⟩ := map_not e
      obtain ⟨u, v, rfl, rfl, rfl⟩ := isBl_some e2
      exact .inr ⟨u, v, ha.bl, hb.bl, q⟩
  | In =>
    refine ⟨_, ((op_inD (by omega)).or (inTup (by omega))).or op_in_sign, fun wd s x y a b z Q k ha hb e q => ?_⟩
    cases b with
    | lst ys =>
      obtain ⟨p, qs, e1, e2, s1, s2, rfl⟩ := inD_some (show inD a ys = some z from e)
      have d1 := ha.dp k e1
      have d2 := dp_lst k hb e2
      rw [← hK] at d1 d2
      exact .inl (.inl ⟨p, qs, d1, d2, s1, s2, q⟩)
    | tup ys =>
      obtain ⟨p, qs, e1, e2, s1, s2, rfl⟩ := inD_some (show inD a ys = some z from e)
      have d1 := ha.dp k e1
      have d2 := dp_tup k hb e2
      rw [← hK] at d1 d2
      exact .inl (.inr ⟨p, qs, d1, d2, s1, s2, q⟩)
    | str t =>
      cases a with
      | str x =>
        obtain ⟨c, rfl, rfl⟩ := inS_some (show inS x t = some z from e)
        exact .inr ⟨c, t, ha.str, hb.str, q⟩
      | _ => cases e
    | _ => cases e
  | NotIn =>
    refine ⟨_, ((op_notInD (by omega)).or (notInTup (by omega))).or op_notIn_sign, fun wd s x y a b z Q k ha hb e q => ?_⟩
    cases b with
    | lst ys =>
      obtain ⟨r, e9, rfl⟩ := map_not (show (inD a ys).map (fun r => !r) = some z from e)
      obtain ⟨p, qs, e1, e2, s1, s2, rfl⟩ := inD_some e9
      have d1 := ha.dp k e1
      have d2 := dp_lst k hb e2
      rw [← hK] at d1 d2
      exact .inl (.inl ⟨p, qs, d1, d2, s1, s2, q⟩)
    | tup ys =>
      obtain ⟨r, e9, rfl⟩ := map_not (show (inD a ys).map (fun r => !r) = some z from e)
      obtain ⟨p, qs, e1, e2, s1, s2, rfl⟩ := inD_some e9
      have d1 := ha.dp k e1
      have d2 := dp_tup k hb e2
      rw [← hK] at d1 d2
      exact .inl (.inr ⟨p, qs, d1, d2, s1, s2, q⟩)
    | str t =>
      cases a with
      | str x =>
        obtain ⟨r, e9, rfl⟩ := map_not (show (inS x t).map (fun r => !r) = some z from e)
        obtain ⟨c, rfl, rfl⟩ := inS_some e9
        exact .inr ⟨c, t, ha.str, hb.str, q⟩
      | _ => cases e
    | _ => cases e
/-- with own methods -/
def CmpOk (T : Tb) (n : Nat) (L : Lay) (X : Cx) (op : CmpOp) (r : R2) : Prop := OpR X (compareOp op) r ∧ ∀ wd s x y a b (Q : VK) (E : XK), WdOk L wd s → Is L wd.F wd.mu x a → Is L wd.F wd.mu y b →
  RPost L wd E (VP L Q) (cmpD T (callsAt T n) op a b s) → r x y wd.H Q
theorem blR_post {wd : Wd} {s : Sto} {E : XK} {Q : VK} {o : Option Bool} (k : WdOk L wd s) (h : RPost L wd E (VP L Q) (blR o s)) : ∃ z, o = some z ∧ Q (.bl z) wd.H := by
  cases o with
  | none => exact False.elim h
  | some z => exact ⟨z, rfl, RPost.now k h _ (.bl _)⟩
theorem ownC_post {m : Nat} {wd : Wd} {s : Sto} {x y : V} {a b : D} {Q : VK} {E : XK} (gd : Gd G T n L c X) (k : WdOk L wd s) (ha : Is L wd.F wd.mu x a) (hb : Is L wd.F wd.mu y b) (h : RPost L wd E (VP L Q) (ownC T (callsAt T n) m a b s)) :
    ∃ k d f a dx fs tg, T.cl.lookup k = some d ∧ d.kind < 2 ∧ d.meths.lookup m = some f ∧ (∃ fd, T.fn.lookup f = some fd) ∧ x = .ref a ∧ wd.H a = some (.ins (L.ca k) dx fs) ∧ TyX X.K wd.H y (tgV L tg) ∧ tgOkB T tg = true ∧
      spF T n L f [x, y] wd.H Q (fun _ _ _ => False) := by
  unfold ownC at h
  cases e1 : clsOf a s with
  | none => rw [e1] at h; exact False.elim h
  | some kk =>
    rw [e1] at h
    simp only at h
    cases e2 : T.meth kk m with
    | none => rw [e2] at h; exact False.elim h
    | some f =>
      rw [e2] at h
      simp only at h
      by_cases e3 : (isCl T kk && (T.fn.lookup f).isSome && tgOkO T (tagD b s)) = true
      · rw [if_pos e3] at h
        simp only [Bool.and_eq_true] at e3
        obtain ⟨⟨e3, e4⟩, e5⟩ := e3
        obtain ⟨d, q1, q2⟩ := isCl_some e3
        obtain ⟨p, dx, fs, rfl, q3⟩ := ins_at k (.inl ha) e1
        obtain ⟨fd, q4⟩ := Option.isSome_iff_exists.mp e4
        have q5 : d.meths.lookup m = some f := by
          unfold Tb.meth at e2
          rw [q1] at e2
          exact e2
        cases q6 : tagD b s with
        | none => rw [q6] at e5; cases e5
        | some tg =>
          rw [q6] at e5
          exact ⟨kk, d, f, p, dx, fs, tg, q1, q2, q5, ⟨fd, q4⟩, rfl, q3, ty_of gd k (.inl hb) q6 e5, e5, wd.F, wd.mu, s, [a, b], k, .cons ha (.cons hb .nil), calm_post h⟩
      · rw [if_neg e3] at h
        exact False.elim h
theorem cmp_any (gd : Gd G T n L c X) (hc : c.calm = true) (op : CmpOp) : ∃ r, CmpOk T n L X op r := by
  obtain ⟨r0, o1, o2⟩ := cmpB_any gd op
  by_cases h1 : op = .Eq
  · subst h1
    refine ⟨_, o1.or (own_cmp gd hc (op := .Eq) (m := nEq) (fun x y => rfl) (by rw [show L.nm nEq = _ from gd.nsp.1] <;> rfl)), fun wd s x y a b Q E k ha hb h => ?_⟩
    unfold cmpD at h
    simp only at h
    split at h
    · exact .inr (ownC_post gd k ha hb h)
    · obtain ⟨z, e, q⟩ := blR_post k h
      exact .inl (o2 wd s x y a b z Q k (.inl ha) (.inl hb) e q)
  · by_cases h2 : op = .NotEq
    · subst h2
      refine ⟨_, o1.or (own_cmp gd hc (op := .NotEq) (m := nNe) (fun x y => rfl) (by rw [show L.nm nNe = _ from gd.nsp.2.1] <;> rfl)), fun wd s x y a b Q E k ha hb h => ?_⟩
      unfold cmpD at h
      simp only at h
      split at h
      · exact .inr (ownC_post gd k ha hb h)
      · obtain ⟨z, e, q⟩ := blR_post k h
        exact .inl (o2 wd s x y a b z Q k (.inl ha) (.inl hb) e q)
    · refine ⟨_, o1, fun wd s x y a b Q E k ha hb h => ?_⟩
      have h3 : RPost L wd E (VP L Q) (blR (cmpB op a b) s) := by
        cases op <;> first | exact absurd rfl h1 | exact absurd rfl h2 | exact h
      obtain ⟨z, e, q⟩ := blR_post k h3
      exact o2 wd s x y a b z Q k (.inl ha) (.inl hb) e q
end
section
variable {G : Gn} {c : Ct} {e a b t : PySem.Expr} {x y z : E} {pos : Pos}
def markOk (op : CmpOp) (b : PySem.Expr) : Bool := !behindInMarks op b
theorem mark_of {op : CmpOp} {b : PySem.Expr} (h : markOk op b = true) : behindInMarks op b = false := by
  unfold markOk at h
  simpa using h
theorem s_cmp {op : CmpOp} (hc : c.calm = true) (ha : ESnd G c a x) (hb : ESnd G c b y) (hm : markOk op b = true) : ESnd G c (.Compare a [op] [b] pos) (.cmp op x y) := fun T n L X gd W tk => by
  obtain ⟨ta, p1, q1⟩ := ha T n L X gd W tk
  obtain ⟨tb, p2, q2⟩ := hb T n L X gd W tk
  obtain ⟨r0, o1, o2⟩ := cmp_any gd hc op
  refine ⟨_, pe_cmpR o1 p1 p2 (mark_of hm), fun g s wd0 wd st Q k sl r => ?_⟩
  unfold evE at r
  refine q1 g s wd0 wd st _ k sl (r.bind.mono fun d s1 wd1 x1 k1 r1 v i => ?_)
  refine q2 g s1 wd0 wd1 st _ k1 (sl.ext x1) (r1.bind.mono fun d2 s2 wd2 x2 k2 r2 v2 i2 => ?_)
  exact o2 wd2 s2 v v2 d d2 Q _ k2 (i.ext x2) i2 r2
theorem t_cmp {op : CmpOp} (hc : c.calm = true) (ha : ESnd G c a x) (hb : ESnd G c b y) (hm : markOk op b = true) : TSnd G c (.Compare a [op] [b] pos) (.cmp op x y) := fun T n L X gd W tk => by
  obtain ⟨ta, p1, q1⟩ := ha T n L X gd W tk
  obtain ⟨tb, p2, q2⟩ := hb T n L X gd W tk
  obtain ⟨r0, o1, o2⟩ := cmp_any gd hc op
  refine ⟨_, pt_cmpR o1 p1 p2 (mark_of hm), fun g s wd0 wd st Q k sl r => ?_⟩
  unfold evE at r
  refine q1 g s wd0 wd st _ k sl (r.bind.mono fun d s1 wd1 x1 k1 r1 v i => ?_)
  refine q2 g s1 wd0 wd1 st _ k1 (sl.ext x1) (r1.bind.mono fun d2 s2 wd2 x2 k2 r2 v2 i2 => ?_)
  exact o2 wd2 s2 v v2 d d2 _ _ k2 (i.ext x2) i2 r2.bv
theorem s_cmpb {op : CmpOp} (ha : OSnd G c a x) (hb : OSnd G c b y) (hm : markOk op b = true) : ESnd G c (.Compare a [op] [b] pos) (.cmpb op x y) := fun T n L X gd W tk => by
  obtain ⟨ta, p1, q1⟩ := ha T n L X gd W tk
  obtain ⟨tb, p2, q2⟩ := hb T n L X gd W tk
  obtain ⟨r0, o1, o2⟩ := cmpB_any gd op
  refine ⟨_, pe_cmpR o1 p1 p2 (mark_of hm), fun g s wd0 wd st Q k sl r => ?_⟩
  unfold evE at r
  refine q1 g s wd0 wd st _ k sl (r.bind.mono fun d s1 wd1 x1 k1 r1 v i => ?_)
  refine q2 g s1 wd0 wd1 st _ k1 (sl.ext x1) (r1.bind.mono fun d2 s2 wd2 x2 k2 r2 v2 i2 => ?_)
  obtain ⟨z, e, q⟩ := blR_post k2 r2
  exact o2 wd2 s2 v v2 d d2 z Q k2 (i.ext x2) i2 e q
theorem t_cmpb {op : CmpOp} (ha : OSnd G c a x) (hb : OSnd G c b y) (hm : markOk op b = true) : TSnd G c (.Compare a [op] [b] pos) (.cmpb op x y) := fun T n L X gd W tk => by
  obtain ⟨ta, p1, q1⟩ := ha T n L X gd W tk
  obtain ⟨tb, p2, q2⟩ := hb T n L X gd W tk
  obtain ⟨r0, o1, o2⟩ := cmpB_any gd op
  refine ⟨_, pt_cmpR o1 p1 p2 (mark_of hm), fun g s wd0 wd st Q k sl r => ?_⟩
  unfold evE at r
  refine q1 g s wd0 wd st _ k sl (r.bind.mono fun d s1 wd1 x1 k1 r1 v i => ?_)
  refine q2 g s1 wd0 wd1 st _ k1 (sl.ext x1) (r1.bind.mono fun d2 s2 wd2 x2 k2 r2 v2 i2 => ?_)
  obtain ⟨z, e, q⟩ := blR_post k2 r2.bv
  exact o2 wd2 s2 v v2 d d2 z _ k2 (i.ext x2) i2 e q
end
end Bd
namespace Bd
open PySem PySem.Spec PyProof.Rows L2
section
variable {G : Gn} {c : Ct} {e a b t o : PySem.Expr} {x y z : E} {pos p apos : Pos} {es : List PySem.Expr} {xs : List E}
def marks2 (op op' : CmpOp) (b t : PySem.Expr) : Bool := !lastMarks [op, op'] [b, t]
theorem marks2_of {op op' : CmpOp} (h : marks2 op op' b t = true) : lastMarks [op, op'] [b, t] = false := by
  unfold marks2 at h
  simpa using h
theorem s_cmp2 {op op' : CmpOp} (ha : ESnd G c a x) (hb : ESnd G c b y) (ht : ESnd G c t z) (hm : marks2 op op' b t = true) : ESnd G c (.Compare a [op, op'] [b, t] pos) (.cmp2 op op' x y z) := fun T n L X gd W tk => by
  obtain ⟨ta, p1, q1⟩ := ha T n L X gd W tk
  obtain ⟨tb, p2, q2⟩ := hb T n L X gd W tk
  obtain ⟨tt, p3, q3⟩ := ht T n L X gd W tk
  obtain ⟨r0, o1, o2⟩ := cmpB_any gd op
  obtain ⟨r0', o1', o2'⟩ := cmpB_any gd op'
  refine ⟨_, pe_chain o1 o1' p1 p2 p3 (marks2_of hm), fun g s wd0 wd st Q k sl r => ?_⟩
  unfold evE at r
  refine q1 g s wd0 wd st _ k sl (r.bind.mono fun d s1 wd1 x1 k1 r1 v i => ?_)
  refine q2 g s1 wd0 wd1 st _ k1 (sl.ext x1) (r1.bind.mono fun d2 s2 wd2 x2 k2 r2 v2 i2 => ?_)
  obtain ⟨b1, e1, r3⟩ := RPost.opt k2 r2.bind
  refine o2 wd2 s2 v v2 d d2 b1 _ k2 (.inl (i.ext x2)) (.inl i2) e1 ⟨b1, rfl, ?_⟩
  cases b1 with
  | true =>
    refine iteT (q3 g s2 wd0 wd2 st _ k2 ((sl.ext x1).ext x2) ((RPost.bind (show RPost L wd2 _ (VP L Q) (R.bind (evE T (callsAt T n) z g s2) _) from r3)).mono fun d3 s3 wd3 x3 k3 r4 v3 i3 => ?_))
    obtain ⟨z, e, q⟩ := blR_post k3 r4
    exact o2' wd3 s3 v2 v3 d2 d3 z Q k3 (.inl (i2.ext x3)) (.inl i3) e q
  | false => exact iteF (RPost.now k2 (show RPost L wd2 _ (VP L Q) (.ok (.bl false) s2) from r3) _ (.bl _))
theorem t_cmp2 {op op' : CmpOp} (ha : ESnd G c a x) (hb : ESnd G c b y) (ht : ESnd G c t z) (hm : marks2 op op' b t = true) : TSnd G c (.Compare a [op, op'] [b, t] pos) (.cmp2 op op' x y z) := fun T n L X gd W tk => by
  obtain ⟨ta, p1, q1⟩ := ha T n L X gd W tk
  obtain ⟨tb, p2, q2⟩ := hb T n L X gd W tk
  obtain ⟨tt, p3, q3⟩ := ht T n L X gd W tk
  obtain ⟨r0, o1, o2⟩ := cmpB_any gd op
  obtain ⟨r0', o1', o2'⟩ := cmpB_any gd op'
  refine ⟨_, pt_chain o1 o1' p1 p2 p3 (marks2_of hm), fun g s wd0 wd st Q0 k sl r0 => ?_⟩
  have r := r0.bv
  unfold evE at r
  refine q1 g s wd0 wd st _ k sl (r.bind.mono fun d s1 wd1 x1 k1 r1 v i => ?_)
  refine q2 g s1 wd0 wd1 st _ k1 (sl.ext x1) (r1.bind.mono fun d2 s2 wd2 x2 k2 r2 v2 i2 => ?_)
  obtain ⟨b1, e1, r3⟩ := RPost.opt k2 r2.bind
  refine o2 wd2 s2 v v2 d d2 b1 _ k2 (.inl (i.ext x2)) (.inl i2) e1 ⟨b1, rfl, ?_⟩
  cases b1 with
  | true =>
    refine iteT (q3 g s2 wd0 wd2 st _ k2 ((sl.ext x1).ext x2) ((RPost.bind (show RPost L wd2 _ (VP L _) (R.bind (evE T (callsAt T n) z g s2) _) from r3)).mono fun d3 s3 wd3 x3 k3 r4 v3 i3 => ?_))
    obtain ⟨z, e, q⟩ := blR_post k3 r4
    exact o2' wd3 s3 v2 v3 d2 d3 z _ k3 (.inl (i2.ext x3)) (.inl i3) e q
  | false => exact iteF (RPost.now k2 (show RPost L wd2 _ (VP L _) (.ok (.bl false) s2) from r3) _ (.bl _))
theorem bt_name {n : String} {b : Bt} (hb : b = .bool ∨ b = .int ∨ b = .str ∨ b = .list ∨ b = .tuple ∨ b = .dict) (hn : n = btN b) : bootBuiltins (Str.ofString n) = some (.type n) := by
  subst hn
  rcases hb with rfl | rfl | rfl | rfl | rfl | rfl <;> decide +kernel
def btOf (x : Str) : Option Bt := if x = "int" then some .int else if x = "bool" then some .bool else if x = "str" then some .str else if x = "tuple" then some .tuple else if x = "list" then some .list else if x = "dict" then some .dict else none
theorem btOf_boot {x : Str} {b : Bt} (h : btOf x = some b) : bootBuiltins x = some (.type (btN b)) ∧ x ≠ "__name__" ∧ (x == ("__debug__" : Str)) = false := by
  unfold btOf at h
  split at h
  · rename_i e; subst e; cases h; refine ⟨by decide +kernel, by decide +kernel, by decide +kernel⟩
  split at h
  · rename_i e; subst e; cases h; refine ⟨by decide +kernel, by decide +kernel, by decide +kernel⟩
  split at h
  · rename_i e; subst e; cases h; refine ⟨by decide +kernel, by decide +kernel, by decide +kernel⟩
  split at h
  · rename_i e; subst e; cases h; refine ⟨by decide +kernel, by decide +kernel, by decide +kernel⟩
  split at h
  · rename_i e; subst e; cases h; refine ⟨by decide +kernel, by decide +kernel, by decide +kernel⟩
  split at h
  · rename_i e; subst e; cases h; refine ⟨by decide +kernel, by decide +kernel, by decide +kernel⟩
  cases h
theorem kit_bt (a b : Bt) : kitB (btN a) (btN b) = some (subBt a b) := by
  cases a <;> cases b <;> decide +kernel
theorem tgIs_kit {T : Tb} {n : Nat} {L : Lay} {X : Cx} (gd : Gd G T n L c X) {tg : Tg} (h1 : tgOkB T tg = true) :
    (∀ bt r, tgIs T tg (.bt bt) = some r → PySem.W.kitOne X.K (tgV L tg) (.type (btN bt)) = some r) ∧ (∀ k r, tgIs T tg (.own k) = some r → PySem.W.kitOne X.K (tgV L tg) (.ref (L.ca k)) = some r) := by
  cases tg with
  | b t =>
    refine ⟨fun bt r e => ?_, fun k r e => ?_⟩
    · cases e
      exact kit_ty (kit_bt t bt)
    · obtain ⟨e1, rfl⟩ := ite_some (show (if isCl T k = true then some false else none) = some r from e)
      obtain ⟨d, q1, q2⟩ := isCl_some e1
      exact (gd.clf k d q1 q2).kbo _ (btN_mem t)
  | o k0 =>
    obtain ⟨d0, q1, q2⟩ := isCl_some h1
    refine ⟨fun bt r e => ?_, fun k r e => ?_⟩
    · obtain ⟨e1, rfl⟩ := ite_some (show (if isCl T k0 = true then some false else none) = some r from e)
      exact (gd.clf k0 d0 q1 q2).kob _ (btN_mem bt)
    · obtain ⟨e1, rfl⟩ := ite_some (show (if (isCl T k0 && isCl T k) = true then some (decide (k0 = k)) else none) = some r from e)
      rw [Bool.and_eq_true] at e1
      obtain ⟨d, q3, q4⟩ := isCl_some e1.2
      exact (gd.clf k0 d0 q1 q2).koo k d q3 q4
  | x k => cases h1
theorem isT_tag {T : Tb} {t : Ty} {d : D} {s : Sto} {r : Bool} (h : isT T t d s = some r) : ∃ tg, tagD d s = some tg ∧ tgIs T tg t = some r := by
  unfold isT at h
  cases q : tagD d s with
  | none => rw [q] at h; cases h
  | some tg => rw [q] at h; exact ⟨tg, rfl, h⟩
def tgPlain : Tg → Bool
  | .x _ => false
  | _ => true
theorem tg_ok {T : Tb} {tg : Tg} {t : Ty} {r : Bool} (h : tgIs T tg t = some r) (hp : tgPlain tg = true) : tgOkB T tg = true := by
  cases tg with
  | b t => rfl
  | o k =>
    cases t with
    | bt b => exact (ite_some (show (if isCl T k = true then some false else none) = some r from h)).1
    | own e =>
      have := (ite_some (show (if (isCl T k && isCl T e) = true then some (decide (k = e)) else none) = some r from h)).1
      rw [Bool.and_eq_true] at this
      exact this.1
    | exc m => cases h
  | x k => cases hp
/-- the class as it is written -/
def TyNm (G : Gn) (c : Ct) (x : Str) (t : Ty) : Prop := globB c.sc x = true ∧ plainN x = true ∧ ((∃ b, t = .bt b ∧ btOf x = some b ∧ x ∈ G.fre) ∨ ∃ k, t = .own k ∧ G.cl.lookup x = some k)
theorem isi_name : bootBuiltins "isinstance" = some (.builtin "isinstance") := by decide +kernel
theorem pe_tyn {T : Tb} {n : Nat} {L : Lay} {X : Cx} (gd : Gd G T n L c X) {x : Str} {t : Ty} (h : TyNm G c x t) : ∃ v u, PE X (.Name x pos) (tC v) ∧ ClsV v u ∧ (∀ bt, t = .bt bt → u = .type (btN bt)) ∧ (∀ k, t = .own k → u = .ref (L.ca k)) := by
  obtain ⟨h1, h2, h3⟩ := h
  rcases h3 with ⟨b, rfl, h4, h5⟩ | ⟨k, rfl, h4⟩
  · obtain ⟨q1, q2, q3⟩ := btOf_boot h4
    exact ⟨.ty (btN b), _, pe_bltn (glob_of gd h1) (gd.fre x h5) q1 rfl q2 q3, .ty _, fun bt e => (by cases e; rfl), fun k e => (by cases e)⟩
  · exact ⟨.ref (L.ca k), _, pe_glob (glob_of gd h1) (gd.cls x k h4).1 rfl (pn1 h2), .own _, fun bt e => (by cases e), fun k e => (by cases e; rfl)⟩
theorem s_isi {x2 : Str} {ty : Ty} {p2 : Pos} (hg : globB c.sc "isinstance" = true) (hf : ("isinstance" : Str) ∈ G.fre) (ha : ESnd G c a x) (hs : noStar a = true) (ht : TyNm G c x2 ty) :
    ESnd G c (.Call (.Name "isinstance" p) [a, .Name x2 p2] [] pos) (.isi x ty) := fun T n L X gd W tk => by
  obtain ⟨ta, p1, q1⟩ := ha T n L X gd W tk
  obtain ⟨v2, u2, p3, cv, cb, co⟩ := pe_tyn (pos := p2) gd ht
  refine ⟨_, pe_callB call_isi (glob_of gd hg) (gd.fre _ hf) isi_name (pa_cons p1 (pa_cons p3 pa_nil (star_cons rfl)) (star_cons hs)) (by decide +kernel) (by decide +kernel) (star_cons hs) (star_any (by rfl)), fun g s wd0 wd st Q k sl r => ?_⟩
  unfold evE at r
  refine q1 g s wd0 wd st _ k sl (r.bind.mono fun d s1 wd1 x1 k1 r1 v i => ?_)
  obtain ⟨bb, e1, r3⟩ := RPost.opt k1 r1.bind
  have q := r3.now k1 _ (.bl _)
  obtain ⟨tg, e2, e3⟩ := isT_tag e1
  by_cases hp : tgPlain tg = true
  · have ok := tg_ok e3 hp
    have ty1 := ty_of gd k1 (.inl i) e2 ok
    obtain ⟨kb, ko⟩ := tgIs_kit gd ok
    refine ⟨v, v2, tgV L tg, u2, bb, rfl, cv, ty1, ?_, q⟩
    cases ty with
    | bt b => rw [cb b rfl]; exact kb b bb e3
    | own k2 => rw [co k2 rfl]; exact ko k2 bb e3
    | exc m =>
      obtain ⟨_, _, h3⟩ := ht
      rcases h3 with ⟨b, e, _⟩ | ⟨k, e, _⟩ <;> cases e
  · cases tg with
    | x k3 => cases ty <;> cases e3
    | _ => exact absurd rfl hp
theorem call_no {T : Tb} {n f : Nat} {ds : List D} {s : Sto} (h : T.fn.lookup f = none) : (callsAt T n).call f ds s = .no := by
  cases n with
  | zero => rfl
  | succ n =>
    show callF T (callsAt T n) f ds s = .no
    unfold callF
    rw [h]
theorem call_some {T : Tb} {n f : Nat} {ds : List D} {s : Sto} {L : Lay} {wd : Wd} {E : XK} {P : D → Sto → Wd → Prop} (h : RPost L wd E P ((callsAt T n).call f ds s)) : ∃ fd, T.fn.lookup f = some fd := by
  cases q : T.fn.lookup f with
  | none => rw [call_no q] at h; exact False.elim h
  | some fd => exact ⟨fd, rfl⟩
/-- arguments, then the call -/
theorem args_run (ha : ASnd G c es xs) {T : Tb} {n : Nat} {L : Lay} {X : Cx} (gd : Gd G T n L c X) {W : WX} (tk : Takes X W) (pos : Pos) : ∃ ta : TA,
    (∀ (pins : List (Addr × Obj)) (s : Shared) (st : L2.St) (H : Hp) (R : List V → Hp → Prop) (f : Value) (first : List Value) (Q : Value → Shared → Prop), Inv X pins st H s → PySem.W.keepIn X.K f = true → ta st H R →
      (∀ us s1, AP X pins st R us s1 → wpAny (model X.prog X.w) X.A (call f (first ++ us)) Q X.xe s1) → wpAny (model X.prog X.w) X.A (callWith pos f first (backTo pos (starEach es X.env)) []) Q X.xe s) ∧
    ∀ g s wd0 wd st Q, WdOk L wd s → Slots L wd0 wd st g → RPost L wd (WE W st) (AllP L Q) (evEs T (callsAt T n) xs g s) → ta st wd.H Q := by
  obtain ⟨ta, p1, q1⟩ := ha.2.2 T n L X gd W tk
  cases es with
  | nil =>
    have hx : xs = [] := List.eq_nil_of_length_eq_zero ha.2.1.symm
    subst hx
    refine ⟨tNil, fun pins s st H R f first Q I hk h fin => ?_, fun g s wd0 wd st Q k sl r => ?_⟩
    · exact PySem.W.callWith_K0 I.kIn hk (fin [] s ⟨[], H, I, .nil, h⟩)
    · unfold evEs at r
      exact r.now k [] .nil
  | cons e es =>
    have hst := ha.1
    rw [List.all_cons, Bool.and_eq_true] at hst
    refine ⟨ta, fun pins s st H R f first Q I hk h fin => ?_, q1⟩
    exact PySem.W.callWith_K (h₀ := X.base) I.ok.mod.kin hk (thn (p1.run pos pins s st H _ I h) fun us s1 z => ⟨let ⟨_, _, I1, _⟩ := z; I1.kIn, fin us s1 z⟩) (star_cons hst.1) (star_any hst.2)
theorem s_call {nm : Str} {f : Nat} (hc : c.calm = true) (hg : globB c.sc nm = true) (hp : plainN nm = true) (hf : G.fn.lookup nm = some f) (ha : ASnd G c es xs) : ESnd G c (.Call (.Name nm p) es [] pos) (.call f xs) := fun T n L X gd W tk => by
  obtain ⟨ta, p1, q1⟩ := args_run ha gd tk pos
  obtain ⟨m1, m2⟩ := gd.fns nm f hf
  refine ⟨fun st H Q => ta st H fun vs H1 => (∃ d, T.fn.lookup f = some d) ∧ spF T n L f vs H1 Q (WE W st), ⟨fun pins s st H Q I h => ?_⟩, fun g s wd0 wd st Q k sl r => ?_⟩
  · refine wpAny_Call_Name_kw (ld_glob I (glob_of gd hg) m1 ?_ (pn1 hp))
    refine p1 pins s st H _ _ [] _ I m2 h fun us s1 ⟨vs, H1, I1, r, ⟨d, h0⟩, q⟩ => ?_
    obtain ⟨fd, ps, FG, hb⟩ := gd.call f d h0
    exact runG FG ((gd.room hc).mono (by omega)) gd.gu hb tk I1 r q
  · unfold evE at r
    exact q1 g s wd0 wd st _ k sl (r.bind.mono fun ds s1 wd1 x1 k1 r1 vs is => ⟨call_some r1, wd1.F, wd1.mu, s1, ds, k1, is, r1⟩)
theorem make_some {T : Tb} {n k : Nat} {ds : List D} {s : Sto} {L : Lay} {wd : Wd} {E : XK} {P : D → Sto → Wd → Prop} (h : RPost L wd E P ((callsAt T n).make k ds s)) : ∃ d fd n', n = n' + 1 ∧ T.cl.lookup k = some d ∧ T.fn.lookup d.init = some fd ∧ d.kind < 2 := by
  cases n with
  | zero => exact False.elim h
  | succ n =>
    have h1 : RPost L wd E P (mkF T (callsAt T n) k ds s) := h
    unfold mkF at h1
    cases q : T.cl.lookup k with
    | none => rw [q] at h1; exact False.elim h1
    | some d =>
      rw [q] at h1
      simp only at h1
      cases q2 : T.fn.lookup d.init with
      | none => rw [q2] at h1; exact False.elim h1
      | some fd =>
        rw [q2] at h1
        simp only at h1
        refine ⟨d, fd, n, rfl, rfl, q2, ?_⟩
        by_cases e0 : d.kind = 0
        · omega
        · rw [if_neg e0] at h1
          by_cases e1 : d.kind = 1
          · omega
          · rw [if_neg e1] at h1
            exact False.elim h1
/-- a new object of the store -/
theorem Ext.newLoc {L : Lay} {wd : Wd} {s : Sto} {p dx : Addr} {k : Nat} (ok : WdOk L wd s) (h : wd.H p = none) (hd : wd.H dx = none) (ne : dx ≠ p) :
    Ext wd ⟨wd.F, wd.mu ++ [p], upd (upd wd.H dx (.own p)) p (.ins (L.ca k) dx [])⟩ ∧ WdOk L ⟨wd.F, wd.mu ++ [p], upd (upd wd.H dx (.own p)) p (.ins (L.ca k) dx [])⟩ (s ++ [.ins k [] []]) := by
  have keep : ∀ a u, wd.H a = some u → upd (upd wd.H dx (.own p)) p (.ins (L.ca k) dx []) a = some u := fun a u e => by
    rw [upd_ne (ne_of_none e h), upd_ne (ne_of_none e hd)]
    exact e
  have mu1 : ∀ (i : Nat) a, wd.mu[i]? = some a → (wd.mu ++ [p])[i]? = some a := fun i a e => by
    have := (List.getElem?_eq_some_iff.mp e).1
    rw [List.getElem?_append_left this]
    exact e
  have mu2 : ∀ (i : Nat) a, (wd.mu ++ [p])[i]? = some a → wd.mu[i]? = some a ∨ (i = wd.mu.length ∧ a = p) := fun i a e => by
    by_cases hi : i < wd.mu.length
    · rw [List.getElem?_append_left hi] at e
      exact .inl e
    · rw [List.getElem?_append_right (by omega)] at e
      refine .inr ?_
      have : i - wd.mu.length < 1 := (List.getElem?_eq_some_iff.mp e).1
      have hi2 : i = wd.mu.length := by omega
      subst hi2
      rw [Nat.sub_self] at e
      exact ⟨rfl, (Option.some.inj e).symm⟩
  have x : Ext wd ⟨wd.F, wd.mu ++ [p], upd (upd wd.H dx (.own p)) p (.ins (L.ca k) dx [])⟩ := by
    refine ⟨Same.refl _, mu1, fun a u e => .inl e, fun i a e => ?_, fun a u e _ => keep a u e, fun a e => ?_⟩
    · rcases mu2 i a e with z | ⟨_, rfl⟩
      · exact .inl z
      · exact .inr h
    · cases q : wd.H a with
      | none => rfl
      | some u =>
        have e2 : upd (upd wd.H dx (.own p)) p (.ins (L.ca k) dx []) a = none := e
        rw [keep a u q] at e2
        cases e2
  refine ⟨x, fun a u e => keep a u (ok.sub a u e), fun i j a e1 e2 => ?_, fun i a e => ?_, ?_, fun m o e => ?_⟩
  · rcases mu2 i a e1 with z | ⟨z, rfl⟩
    · rcases mu2 j a e2 with z2 | ⟨z2, rfl⟩
      · exact ok.inj i j a z z2
      · obtain ⟨o, ho⟩ := ok.mu_there z
        rw [h] at ho
        cases ho
    · rcases mu2 j a e2 with z2 | ⟨z2, _⟩
      · obtain ⟨o, ho⟩ := ok.mu_there z2
        rw [h] at ho
        cases ho
      · omega
  · rcases mu2 i a e with z | ⟨z, rfl⟩
    · exact ok.apart i a z
    · exact ok.sub.free h
  · show (wd.mu ++ [p]).length = (s ++ [MO.ins k [] []]).length
    rw [List.length_append, List.length_append, ok.len]
    rfl
  · by_cases hm : m < s.length
    · rw [List.getElem?_append_left hm] at e
      obtain ⟨a, e1, r⟩ := ok.sto m o e
      refine ⟨a, mu1 m a e1, r.ext x ?_⟩
      obtain ⟨u, hu⟩ := r.there
      rw [hu]
      exact keep a u hu
    · rw [List.getElem?_append_right (by omega)] at e
      have : m - s.length < 1 := (List.getElem?_eq_some_iff.mp e).1
      have hm2 : m = s.length := by omega
      subst hm2
      rw [Nat.sub_self] at e
      cases Option.some.inj e
      refine ⟨p, ?_, dx, [], upd_same, rfl, .nil⟩
      show (wd.mu ++ [p])[s.length]? = some p
      rw [← ok.len]
      simp
section
variable {L : Lay} {F : Hp} {mu : List Addr}
theorem take_at {n m : Nat} {a : Addr} (h : m < n) (e : mu[m]? = some a) : (mu.take n)[m]? = some a := by
  rw [List.getElem?_take_of_lt h]
  exact e
mutual
theorem Is.cut {n : Nat} : ∀ {v : V} {d : D}, Is L F mu v d → locLt n d = true → Is L F (mu.take n) v d
  | _, _, .non, _ => .non
  | _, _, .bl b, _ => .bl b
  | _, _, .int i, _ => .int i
  | _, _, .str x, _ => .str x
  | _, _, .tup h1 h2, h => .tup h1 (IsAll.cut h2 (by unfold locLt at h; exact h))
  | _, _, .lst h1 h2, h => .lst h1 (IsAll.cut h2 (by unfold locLt at h; exact h))
  | _, _, .scr h1, _ => .scr h1
  | _, _, .dct h1 h2 h3, h => .dct h1 h2 (IsAll.cut h3 (by unfold locLt at h; exact h))
  | _, _, .obj h1 h2 h3, h => .obj h1 h2 (IsAll.cut h3 (by unfold locLt at h; exact h))
  | _, _, .exn h1 h2 h3 h4, h => .exn h1 h2 h3 (IsAll.cut h4 (by unfold locLt at h; exact h))
  | _, _, .exz h1 h2, h => .exz h1 h2
  | _, _, .loc h1, h => .loc (take_at (by unfold locLt at h; exact of_decide_eq_true h) h1)
theorem IsAll.cut {n : Nat} : ∀ {vs : List V} {ds : List D}, IsAll L F mu vs ds → locsLt n ds = true → IsAll L F (mu.take n) vs ds
  | _, _, .nil, _ => .nil
  | _, _, .cons a b, h => by
    unfold locsLt at h
    rw [Bool.and_eq_true] at h
    exact .cons (Is.cut a h.1) (IsAll.cut b h.2)
end
mutual
theorem Is.locs : ∀ {v : V} {d : D}, Is L F mu v d → locLt mu.length d = true
  | _, _, .non => by unfold locLt; rfl
  | _, _, .bl b => by unfold locLt; rfl
  | _, _, .int i => by unfold locLt; rfl
  | _, _, .str x => by unfold locLt; rfl
  | _, _, .tup h1 h2 => by unfold locLt; exact IsAll.locs h2
  | _, _, .lst h1 h2 => by unfold locLt; exact IsAll.locs h2
  | _, _, .scr h1 => by unfold locLt; rfl
  | _, _, .dct h1 h2 h3 => by unfold locLt; exact IsAll.locs h3
  | _, _, .obj h1 h2 h3 => by unfold locLt; exact IsAll.locs h3
  | _, _, .exn h1 h2 h3 h4 => by unfold locLt; exact IsAll.locs h4
  | _, _, .exz h1 h2 => by unfold locLt; rfl
  | _, _, .loc h1 => by unfold locLt; exact decide_eq_true (List.getElem?_eq_some_iff.mp h1).1
theorem IsAll.locs : ∀ {vs : List V} {ds : List D}, IsAll L F mu vs ds → locsLt mu.length ds = true
  | _, _, .nil => by unfold locsLt; rfl
  | _, _, .cons a b => by unfold locsLt; rw [Is.locs a, IsAll.locs b]; rfl
end
def moLt (n : Nat) : MO → Bool
  | .lst xs => locsLt n xs
  | .dct _ xs => locsLt n xs
  | .ins _ _ xs => locsLt n xs
theorem MRep.locs {wd : Wd} {a : Addr} {m : MO} (h : MRep L wd a m) : moLt wd.mu.length m = true := by
  cases m with
  | lst xs => obtain ⟨vs, _, i⟩ := h; exact i.locs
  | dct ks xs => obtain ⟨kvs, _, _, i⟩ := h; exact i.locs
  | ins k ks xs => obtain ⟨dx, fs, _, _, i⟩ := h; exact i.locs
/-- the places from n on let go; the frozen part may grow -/
theorem MRep.cut {wd : Wd} {F' : Hp} {a : Addr} {m : MO} {n : Nat} (e : Same wd.F F') (h : MRep L wd a m) (hm : moLt n m = true) : MRep L ⟨F', wd.mu.take n, wd.H⟩ a m := by
  cases m with
  | lst xs => obtain ⟨vs, q, i⟩ := h; exact ⟨vs, q, (i.cut hm).mono e fun _ _ z => z⟩
  | dct ks xs => obtain ⟨kvs, q, r, i⟩ := h; exact ⟨kvs, q, r, (i.cut hm).mono e fun _ _ z => z⟩
  | ins k ks xs => obtain ⟨dx, fs, q, r, i⟩ := h; exact ⟨dx, fs, q, r, (i.cut hm).mono e fun _ _ z => z⟩
end
/-- behind an __init__ of a frozen class: wd ahead, wd2 behind; q the instance -/
theorem cut_world {L : Lay} {wd wd2 : Wd} {s s' : Sto} {p : Addr} (k : WdOk L wd s) (x : Ext wd wd2) (k2 : WdOk L wd2 s') (hp : wd.H p = none) (hm : wd2.mu[s.length]? = some p) (ht : s'.take s.length = s) (F' : Hp) (e : Same wd2.F F')
    (hF : ∀ a u, F' a = some u → wd2.F a = some u ∨ (a = p ∧ wd2.H p = some u)) : Ext wd ⟨F', wd2.mu.take s.length, wd2.H⟩ ∧ WdOk L ⟨F', wd2.mu.take s.length, wd2.H⟩ s := by
  have len2 : s.length < wd2.mu.length := (List.getElem?_eq_some_iff.mp hm).1
  have tk : ∀ (i : Nat) a, (wd2.mu.take s.length)[i]? = some a → wd2.mu[i]? = some a ∧ i < s.length := fun i a h => by
    have hi : i < (wd2.mu.take s.length).length := (List.getElem?_eq_some_iff.mp h).1
    rw [List.length_take] at hi
    have hi2 : i < s.length := by omega
    rw [List.getElem?_take_of_lt hi2] at h
    exact ⟨h, hi2⟩
  refine ⟨⟨x.fle.trans e, fun i a h => ?_, fun a o h => ?_, fun i a h => x.newM i a (tk i a h).1, x.kept, x.dom⟩, ⟨fun a u h => ?_, fun i j a h1 h2 => k2.inj i j a (tk i a h1).1 (tk j a h2).1, fun i a h => ?_, ?_, fun m o h => ?_⟩⟩
  · have hi : i < wd.mu.length := (List.getElem?_eq_some_iff.mp h).1
    rw [k.len] at hi
    exact take_at hi (x.mle i a h)
  · rcases hF a o h with z | ⟨rfl, _⟩
    · exact x.newF a o z
    · exact .inr hp
  · rcases hF a u h with z | ⟨rfl, z⟩
    · exact k2.sub a u z
    · exact z
  · obtain ⟨h1, h2⟩ := tk i a h
    have q := k2.apart i a h1
    show F' a = none
    cases z : F' a with
    | none => rfl
    | some u =>
      rcases hF a u z with y | ⟨rfl, _⟩
      · rw [q] at y
        cases y
      · have := k2.inj i s.length a h1 hm
        omega
  · show (wd2.mu.take s.length).length = s.length
    rw [List.length_take]
    omega
  · have hml : m < s.length := (List.getElem?_eq_some_iff.mp h).1
    have h' : s'[m]? = some o := by
      rw [← ht, List.getElem?_take_of_lt hml] at h
      exact h
    obtain ⟨a, e1, r1⟩ := k2.sto m o h'
    refine ⟨a, take_at hml e1, r1.cut e ?_⟩
    obtain ⟨b, _, r0⟩ := k.sto m o h
    have := r0.locs
    rw [k.len] at this
    exact this
theorem insAt_some {s : Sto} {n c : Nat} {ks : List Nat} {xs : List D} (h : insAt s n = some (c, ks, xs)) : s[n]? = some (.ins c ks xs) := by
  unfold insAt at h
  split at h
  · rename_i e
    cases h
    exact e
  · cases h
theorem frz_post {L : Lay} {wd : Wd} {s : Sto} {p dx : Addr} {k0 : Nat} {E : XK} {Q : VK} {r : R D} (k : WdOk L wd s) (a1 : wd.H p = none) (a2 : wd.H dx = none) (a3 : dx ≠ p) (h : RPost L wd E (VP L Q) (frzR s r)) :
    RPost L ⟨wd.F, wd.mu ++ [p], upd (upd wd.H dx (.own p)) p (.ins (L.ca k0) dx [])⟩ E (VP L fun v H2 => v = .non ∧ Q (.ref p) H2) r := by
  obtain ⟨x1, k1⟩ := Ext.newLoc (k := k0) k a1 a2 a3
  have hp1 : (wd.mu ++ [p])[s.length]? = some p := by
    rw [← k.len]
    simp
  cases r with
  | no => exact h
  | ok d s' =>
    intro wd2 x2 k2 v i
    unfold frzR at h
    simp only at h
    cases q : insAt s' s.length with
    | none => rw [q] at h; exact False.elim h
    | some t =>
      obtain ⟨c, ks, xs⟩ := t
      rw [q] at h
      simp only at h
      split at h
      · rename_i hh
        obtain ⟨h1, h2, h3, h4⟩ := hh
        have e := insAt_some q
        have hp2 : wd2.mu[s.length]? = some p := x2.mle _ _ hp1
        obtain ⟨a, e1, dx2, fs, e2, e3, e4⟩ := k2.sto _ _ e
        rw [hp2] at e1
        cases e1
        have nF : wd2.F p = none := k2.apart _ _ hp2
        have sm : Same wd2.F (upd wd2.F p (.ins (L.ca c) dx2 fs)) := fun a u z => by
          rw [upd_ne (ne_of_none z nF)]
          exact z
        obtain ⟨y, ky⟩ := cut_world k (x1.trans x2) k2 a1 hp2 h2 (upd wd2.F p (.ins (L.ca c) dx2 fs)) sm (fun a u z => by
          by_cases w : a = p
          · subst w
            rw [upd_same] at z
            cases z
            exact .inr ⟨rfl, e2⟩
          · rw [upd_ne w] at z
            exact .inl z)
        have ev := is_non (L := L) (wd := wd2) (.inl i)
        rw [h1] at ev
        refine ⟨of_decide_eq_true ev, ?_⟩
        exact h _ y ky (.ref p) (.obj upd_same e3 ((e4.cut h4).mono sm fun _ _ z => z))
      · exact False.elim h
  | ex c xs s' =>
    intro wd2 a x2 k2 xr
    unfold frzR at h
    simp only at h
    split at h
    · rename_i hh
      obtain ⟨h2, h3, h4⟩ := hh
      have hp2 : wd2.mu[s.length]? = some p := x2.mle _ _ hp1
      obtain ⟨y, ky⟩ := cut_world k (x1.trans x2) k2 a1 hp2 h2 wd2.F (Same.refl _) (fun a u z => .inl z)
      refine h ⟨wd2.F, wd2.mu.take s.length, wd2.H⟩ a y ky ?_
      rcases xr with ⟨d, fs, r1, r2, r3, r4⟩ | r1
      · exact .inl ⟨d, fs, r1, r2, r3, r4.cut h4⟩
      · exact .inr r1
    · exact False.elim h
theorem s_mk {nm : Str} {k0 : Nat} (hc : c.calm = true) (hg : globB c.sc nm = true) (hp : plainN nm = true) (hf : G.cl.lookup nm = some k0) (ha : ASnd G c es xs) : ESnd G c (.Call (.Name nm p) es [] pos) (.mk k0 xs) := fun T n L X gd W tk => by
  obtain ⟨ta, p1, q1⟩ := args_run ha gd tk pos
  obtain ⟨m1, m2⟩ := gd.cls nm k0 hf
  refine ⟨fun st H Q => ta st H fun vs H1 => ∃ d fd n', n = n' + 1 ∧ T.cl.lookup k0 = some d ∧ T.fn.lookup d.init = some fd ∧ d.kind < 2 ∧
    ∀ x dx, H1 x = none → H1 dx = none → dx ≠ x → spF T n L d.init (.ref x :: vs) (upd (upd H1 dx (.own x)) x (.ins (L.ca k0) dx [])) (fun v H2 => v = .non ∧ Q (.ref x) H2) (WE W st), ⟨fun pins s st H Q I h => ?_⟩, fun g s wd0 wd st Q k sl r => ?_⟩
  · refine wpAny_Call_Name_kw (ld_glob I (glob_of gd hg) m1 ?_ (pn1 hp))
    have hkp : ∀ d, T.cl.lookup k0 = some d → d.kind < 2 → Mk X.K (L.ca k0) (L.fa d.init) := fun d q1 q2 => (gd.clf k0 d q1 q2).init
    refine p1 pins s st H _ _ [] _ I m2 h fun us s1 ⟨vs, H1, I1, r, d, fd, n', en, e1, e2, e3, q⟩ => ?_
    have M := hkp d e1 e3
    obtain ⟨fdd, ps, FG, hb⟩ := gd.call d.init fd e2
    exact runMake M FG ((gd.room hc).mono (by omega)) gd.gu hb tk I1 r q
  · unfold evE at r
    refine q1 g s wd0 wd st _ k sl (r.bind.mono fun ds s1 wd1 x1 k1 r1 vs is => ?_)
    obtain ⟨d, fd, n', rfl, e1, e2, e3⟩ := make_some r1
    refine ⟨d, fd, n', rfl, e1, e2, e3, fun q dx a1 a2 a3 => ?_⟩
    obtain ⟨x2, k2⟩ := Ext.newLoc (k := k0) k1 a1 a2 a3
    refine ⟨wd1.F, wd1.mu ++ [q], s1 ++ [.ins k0 [] []], .loc s1.length :: ds, k2, .cons (.loc ?_) (is.ext x2), ?_⟩
    · rw [← k1.len]
      simp
    · have r2 : RPost L wd1 (WE W st) (VP L Q) (mkF T (callsAt T n') k0 ds s1) := r1
      unfold mkF at r2
      rw [e1] at r2
      simp only [e2] at r2
      by_cases hk : d.kind = 0
      · rw [if_pos hk] at r2
        exact frz_post k1 a1 a2 a3 r2
      · rw [if_neg hk, if_pos (by omega)] at r2
        refine ((r2.bind.shift x2).mono fun d2 s2 wd2 x3 k3 z v i => ?_)
        by_cases hn : isNon d2 = true
        · rw [if_pos hn] at z
          have ev := is_non (L := L) (wd := wd2) (.inl i)
          rw [hn] at ev
          refine ⟨of_decide_eq_true ev, z.now k3 _ (.loc (x3.mle _ _ ?_))⟩
          show (wd1.mu ++ [q])[s1.length]? = some q
          rw [← k1.len]
          simp
        · rw [if_neg hn] at z
          exact False.elim z
end
end Bd
namespace Bd
open PySem PySem.Spec PyProof.Rows L2
section
variable {L : Lay} {F : Hp} {mu : List Addr}
theorem look_some (inj : ∀ i j, L.nm i = L.nm j → i = j) {a : Nat} : ∀ {fs : List (Str × V)} {ks : List Nat} {xs : List D} {d : D}, fs.map (·.1) = ks.map L.nm → IsAll L F mu (fs.map (·.2)) xs → lookK a ks xs = some d → ∃ v, fs.lookup (L.nm a) = some v ∧ Is L F mu v d
  | [], [], xs, d, _, _, e => by cases xs <;> cases e
  | [], k :: ks, xs, d, h, _, _ => by cases h
  | f :: fs, [], xs, d, h, _, _ => by cases h
  | (x, v) :: fs, k :: ks, xs, d, h, i, e => by
    cases i with
    | cons i1 i2 =>
      rename_i d0 ds
      have h1 : x = L.nm k := (List.cons.inj h).1
      have h2 := (List.cons.inj h).2
      unfold lookK at e
      by_cases hk : k = a
      · rw [if_pos hk] at e
        cases e
        subst hk
        exact ⟨v, by rw [h1, List.lookup_cons, beq_self_eq_true], i1⟩
      · rw [if_neg hk] at e
        obtain ⟨w, q1, q2⟩ := look_some inj h2 i2 e
        refine ⟨w, ?_, q2⟩
        have : (L.nm a == x) = false := beq_eq_false_iff_ne.mpr fun z => hk (inj _ _ (h1.symm.trans z.symm))
        rw [List.lookup_cons, this]
        exact q1
theorem look_none (inj : ∀ i j, L.nm i = L.nm j → i = j) {a : Nat} : ∀ {fs : List (Str × V)} {ks : List Nat} {xs : List D}, fs.map (·.1) = ks.map L.nm → IsAll L F mu (fs.map (·.2)) xs → lookK a ks xs = none → fs.lookup (L.nm a) = none
  | [], [], xs, _, _, e => rfl
  | [], k :: ks, xs, h, _, _ => by cases h
  | f :: fs, [], xs, h, _, _ => by cases h
  | (x, v) :: fs, k :: ks, xs, h, i, e => by
    cases i with
    | cons i1 i2 =>
      have h1 : x = L.nm k := (List.cons.inj h).1
      have h2 := (List.cons.inj h).2
      unfold lookK at e
      by_cases hk : k = a
      · rw [if_pos hk] at e
        cases e
      · rw [if_neg hk] at e
        have q1 := look_none inj h2 i2 e
        have : (L.nm a == x) = false := beq_eq_false_iff_ne.mpr fun z => hk (inj _ _ (h1.symm.trans z.symm))
        rw [List.lookup_cons, this]
        exact q1
end
section
variable {G : Gn} {c : Ct} {e a b t o : PySem.Expr} {x y z : E} {pos p apos : Pos} {es : List PySem.Expr} {xs : List E}
def plainBase : PySem.Expr → Bool
  | .Call (.Name _ _) [] [] _ => false
  | _ => true
theorem base_eq {f : Str} {env : Env} {whole : Sem Value} (h : plainBase e = true) : attributeBase e f env whole = whole := by
  cases e with
  | Call fn as ks p =>
    cases fn with
    | Name id p1 =>
      cases as with
      | nil =>
        cases ks with
        | nil => cases h
        | cons => rfl
      | cons => rfl
    | _ => rfl
  | _ => rfl
/-- an instance and its fields -/
theorem ins_flds {L : Lay} {wd : Wd} {s : Sto} {v : V} {d : D} {k : Nat} (ok : WdOk L wd s) (h : Is L wd.F wd.mu v d) (e : clsOf d s = some k) :
    ∃ a dx fs, v = .ref a ∧ wd.H a = some (.ins (L.ca k) dx fs) ∧ fs.map (·.1) = (fldsOf d s).1.map L.nm ∧ IsAll L wd.F wd.mu (fs.map (·.2)) (fldsOf d s).2 := by
  cases d with
  | obj c ks xs =>
    cases e
    cases h with
    | obj h1 h2 h3 => exact ⟨_, _, _, rfl, ok.sub _ _ h1, h2, h3⟩
  | loc m =>
    cases h with
    | loc h1 =>
      unfold clsOf at e
      simp only at e
      split at e
      · rename_i c ks xs q
        cases e
        obtain ⟨a, e1, dx, fs, e2, e3, e4⟩ := ok.sto _ _ q
        rw [h1] at e1
        cases e1
        refine ⟨_, dx, fs, rfl, e2, ?_, ?_⟩
        · unfold fldsOf
          simp only [q]
          exact e3
        · unfold fldsOf
          simp only [q]
          exact e4
      · cases e
  | _ => cases e
theorem attD_eq {T : Tb} {C : Calls} {a : Nat} {d : D} {s : Sto} {L : Lay} {wd : Wd} {E : XK} {P : D → Sto → Wd → Prop} (h : RPost L wd E P (attD T C a d s)) : ∃ k, clsOf d s = some k ∧ RPost L wd E P (attO T C a k (fldsOf d s).1 (fldsOf d s).2 d s) := by
  cases d with
  | obj c ks xs => exact ⟨c, rfl, h⟩
  | loc m =>
    unfold attD at h
    simp only at h
    cases q : s[m]? with
    | none => rw [q] at h; exact False.elim h
    | some mo =>
      rw [q] at h
      cases mo with
      | ins c ks xs =>
        refine ⟨c, ?_, ?_⟩
        · unfold clsOf
          simp only [q]
        · unfold fldsOf
          simp only [q]
          exact h
      | _ => exact False.elim h
  | _ => exact False.elim h
theorem getprop {T : Tb} {n : Nat} {L : Lay} {X : Cx} (gd : Gd G T n L c X) (hc : c.calm = true) {pins : List (Addr × Obj)} {st : L2.St} {H : Hp} {s : Shared} {Q : VK} {bb : Bool} {q dx pp : Addr} {fs : List (Str × V)} {k f m : Nat} {cd : CD} {fd0 : FD}
    (I : Inv X pins st H s) (ea : H q = some (.ins (L.ca k) dx fs)) (h1 : T.cl.lookup k = some cd) (h2 : cd.kind < 2) (hp : PropOf X.K (L.ca k) (L.nm m) pp (L.fa f)) (h3 : T.fn.lookup f = some fd0)
    (h : spF T n L f [.ref q] H Q (fun _ _ _ => False)) : wpAny (model X.prog X.w) X.A (getAttr (.ref q) (L.nm m) bb) (EP X pins st Q) X.xe s := by
  obtain ⟨fd, ps, FG, hb⟩ := gd.call f fd0 h3
  have cl := (gd.clf k cd h1 h2).cl
  obtain ⟨mA, O, _, _, _, _⟩ := ins_get I.hok ea
  obtain ⟨od, J, _⟩ := O.look
  obtain ⟨rest, hrec⟩ := hp.rec_
  have I1 := I.tok (s.toks + 1)
  have hcl : (PySem.W.clsIn X.K (L.ca k)).isSome = true := by
    obtain ⟨cd, hcd, _⟩ := PySem.W.any_some cl.hd
    rw [hcd]
    rfl
  have pg := PySem.W.plainGet_of (cl.get (L.nm m))
  refine PySem.W.get_bind I.kIn J pg.1 (PySem.W.findObj_data hcl hp.at_ hp.get hp.tak) pg.2 (wpAny_call (PySem.W.prop_get (s := { s with toks := s.toks + 1 }) I.kIn hrec ?_))
  have hl : ([Value.ref q] ++ ([] : List Value)).length = ps.length := by
    rw [← FG.len _ _ _ _ h]
    rfl
  have hb1 := hb { s with toks := s.toks + 1 } [.ref q] I1.kIn hl
  rw [List.append_nil] at hb1
  refine codeAny_mono (FG.run X.A.in1 X.stack { s with toks := s.toks + 1 } H _ [.ref q] [.ref q] Q _ ((gd.room hc).mono (by omega) : Room (lv n + 1) X.A).in1 gd.gu I1.env0.in1 hb1 (.cons rfl .nil) h) fun z s' hz => ?_
  cases z with
  | error er => exact False.elim (takes0 (X := X.nox) er s' (XE.of_call (I1.wish _) (fun _ _ _ w => w) hz))
  | ok fl =>
    cases fl with
    | ret u =>
      obtain ⟨v, H', I3, rv, q3⟩ := I1.after hz
      show wpAny _ _ (handedOut u) _ _ _
      rw [PySem.W.handedOut_of (handed_of rv)]
      exact wpAny_pure ⟨v, H', I3, rv, q3⟩
    | _ => exact hz.elim
theorem s_att {nm : Str} {m : Nat} (hc : c.calm = true) (hm : G.nm[m]? = some nm) (h20 : 20 ≤ m) (hb : plainBase a = true) (ha : ESnd G c a x) : ESnd G c (.Attribute a nm pos) (.att m x) := fun T n L X gd W tk => by
  obtain ⟨ta, p1, q1⟩ := ha T n L X gd W tk
  have en := gd.nmn m nm hm
  have hlt : m < G.nm.length := (List.getElem?_eq_some_iff.mp hm).1
  subst en
  refine ⟨_, pe_alt (pe_fld p1 (base_eq hb)) (⟨fun pins s st H Q I h => ?_⟩ : PE X (.Attribute a (L.nm m) pos) (fun st H Q => ta st H fun v H1 => ∃ q dx fs k f cd fd0, v = .ref q ∧ H1 q = some (.ins (L.ca k) dx fs) ∧ T.cl.lookup k = some cd ∧ cd.kind < 2 ∧ cd.props.lookup m = some f ∧ T.fn.lookup f = some fd0 ∧ spF T n L f [.ref q] H1 Q (fun _ _ _ => False))), fun g s wd0 wd st Q k sl r => ?_⟩
  · refine attr_of (base_eq hb) (thn (p1.run pins s st H _ I h) fun u s1 ⟨v, H1, I1, rx, q, dx, fs, k, f, cd, fd0, ex, ea, e1, e2, e3, e4, z⟩ => ?_)
    subst ex
    obtain rfl : u = Value.ref q := rx
    obtain ⟨pp, hp⟩ := (gd.clf k cd e1 e2).pr m f e3
    exact getprop gd hc I1 ea e1 e2 hp e4 z
  · unfold evE at r
    -- decide by the class of the value
    cases ev : evE T (callsAt T n) x g s with
    | no => rw [ev] at r; exact False.elim r
    | ex c2 xs2 s2 =>
      rw [ev] at r
      refine .inl (q1 g s wd0 wd st _ k sl ?_)
      rw [ev]
      exact r
    | ok d s1 =>
      rw [ev] at r
      by_cases hp : ∃ k0 f, clsOf d s1 = some k0 ∧ T.prop k0 m = some f
      · obtain ⟨k0, f, hk0, hf⟩ := hp
        refine .inr (q1 g s wd0 wd st _ k sl ?_)
        rw [ev]
        intro wd1 x1 k1 v i
        have r1 : RPost L wd1 (WE W st) (VP L Q) (attD T (callsAt T n) m d s1) := RPost.shift x1 r
        obtain ⟨kk, e0, r2⟩ := attD_eq r1
        rw [hk0] at e0
        cases e0
        unfold attO at r2
        rw [hf] at r2
        simp only at r2
        by_cases hcl : isCl T k0 = true
        · rw [if_pos hcl] at r2
          obtain ⟨cd, z1, z2⟩ := isCl_some hcl
          obtain ⟨q, dx, fs, rfl, z3, _⟩ := ins_flds k1 i hk0
          have r3 := calm_post r2
          obtain ⟨fd0, z4⟩ := call_some r3
          have z5 : cd.props.lookup m = some f := by
            unfold Tb.prop at hf
            rw [z1] at hf
            exact hf
          exact ⟨q, dx, fs, k0, f, cd, fd0, rfl, z3, z1, z2, z5, z4, wd1.F, wd1.mu, s1, [d], k1, .cons i .nil, r3⟩
        · rw [if_neg hcl] at r2
          exact False.elim r2
      · refine .inl (q1 g s wd0 wd st _ k sl ?_)
        rw [ev]
        intro wd1 x1 k1 v i
        have r1 : RPost L wd1 (WE W st) (VP L Q) (attD T (callsAt T n) m d s1) := RPost.shift x1 r
        obtain ⟨kk, e0, r2⟩ := attD_eq r1
        unfold attO at r2
        cases hf : T.prop kk m with
        | some f => exact absurd ⟨kk, f, e0, hf⟩ hp
        | none =>
          rw [hf] at r2
          simp only at r2
          by_cases hfo : fldOk T kk m = true
          · rw [if_pos hfo] at r2
            obtain ⟨dv, e1, q⟩ := RPost.opt k1 r2
            obtain ⟨pa, dx, fs, rfl, z3, z4, z5⟩ := ins_flds k1 i e0
            obtain ⟨w, l1, l2⟩ := look_some gd.nmi z4 z5 e1
            unfold fldOk at hfo
            cases hcl : T.cl.lookup kk with
            | none => rw [hcl] at hfo; cases hfo
            | some cd =>
              rw [hcl] at hfo
              simp only [Bool.and_eq_true, decide_eq_true_eq, Option.isNone_iff_eq_none] at hfo
              have CF := gd.clf kk cd hcl hfo.1.1
              exact ⟨pa, L.ca kk, dx, fs, w, rfl, z3, CF.cl, CF.no m h20 hlt hfo.1.2 hfo.2, l1, q w l2⟩
          · rw [if_neg hfo] at r2
            exact False.elim r2
theorem all_plain {pos : Pos} {env : Env} (h : es.all noStar = true) : (backTo pos (starEach es env)).all (fun q => !q.1) = true := by
  have h1 := star_any (pos := pos) (env := env) h
  rw [List.all_eq_not_any_not]
  simp only [Bool.not_not]
  rw [h1]
  rfl
theorem star_len {env : Env} : ∀ {es : List PySem.Expr}, es.all noStar = true → (starEach es env).length = es.length
  | [], _ => rfl
  | e :: es, h => by
    rw [List.all_cons, Bool.and_eq_true] at h
    rw [star_cons h.1, List.length_cons, List.length_cons, star_len h.2]
theorem meth_eval {X : Cx} {nm : Str} (hb : plainBase o = true) (hs : es.all noStar = true) (hl : es.length < 20) (hp : (apos.endLine == pos.line) = true) :
    eval (.Call (.Attribute o nm apos) es [] pos) X.env = (do
      let ov ← eval o X.env
      standAt apos.atName
      let (f, first) ← holding [ov] (getMethod ov nm (plainOf o X.env))
      callWith pos f first (backTo pos (starEach es X.env)) (backToKw pos (keywordEach [] X.env))) := by
  have h1 : eval (.Call (.Attribute o nm apos) es [] pos) X.env = (do
      let ov ← attributeBase o nm X.env (eval o X.env)
      standAt apos.atName
      methodCall o nm apos pos X.env ov (es.length + 0) (backTo pos (starEach es X.env)) (backToKw pos (keywordEach [] X.env))) := by
    simp only [eval] <;> rfl
  rw [h1, base_eq hb]
  congr
  funext ov
  congr
  funext _
  refine mcall_line ?_ hp
  unfold methodCallForm
  rw [all_plain hs]
  have : (backToKw pos (keywordEach [] X.env)) = [] := rfl
  rw [this]
  simp
  omega
theorem s_meth {nm : Str} {m : Nat} (hc : c.calm = true) (hm : G.nm[m]? = some nm) (hb : plainBase o = true) (hl : es.length < 20) (hp : (apos.endLine == pos.line) = true) (ho : ESnd G c o x) (ha : ASnd G c es xs) :
    ESnd G c (.Call (.Attribute o nm apos) es [] pos) (.meth m x xs) := fun T n L X gd W tk => by
  obtain ⟨to, p0, q0⟩ := ho T n L X gd W tk
  obtain ⟨ta, p1, q1⟩ := args_run ha gd tk pos
  have en := gd.nmn m nm hm
  subst en
  refine ⟨fun st H Q => to st H fun v H1 => ∃ q dx fs k cd f, v = .ref q ∧ H1 q = some (.ins (L.ca k) dx fs) ∧ T.cl.lookup k = some cd ∧ cd.kind < 2 ∧ cd.meths.lookup m = some f ∧ fs.lookup (L.nm m) = none ∧
    ta st H1 fun vs H2 => (∃ fd0, T.fn.lookup f = some fd0) ∧ spF T n L f (v :: vs) H2 Q (WE W st), ⟨fun pins s st H Q I h => ?_⟩, fun g s wd0 wd st Q k sl r => ?_⟩
  · refine PySem.W.methodCall_KW (pl := plainOf o X.env) (thn (p0.run pins s st H _ I h) fun u s1 ⟨v, H1, I1, rx, q, dx, fs, k, cd, f, ex, ea, e1, e2, e3, e4, z⟩ => ?_) (meth_eval hb ha.1 hl hp)
    subst ex
    obtain rfl : u = Value.ref q := rx
    have CF := gd.clf k cd e1 e2
    have M := (CF.me m f e3).1
    refine getmeth_ok I1 ea CF.cl M e4 ?_
    refine p1 pins s1 st H1 _ _ [.ref q] _ I1 M.kp z fun us s2 ⟨vs, H2, I2, rr, ⟨fd0, h0⟩, q2⟩ => ?_
    obtain ⟨fd, ps, FG, hb2⟩ := gd.call f fd0 h0
    exact runG (us := .ref q :: us) (vs := .ref q :: vs) FG ((gd.room hc).mono (by omega)) gd.gu hb2 tk I2 (.cons rfl rr) q2
  · unfold evE at r
    refine q0 g s wd0 wd st _ k sl (r.bind.mono fun d s1 wd1 x1 k1 r1 v i => ?_)
    obtain ⟨f, e1, r2⟩ := RPost.opt k1 r1.bind
    unfold methF at e1
    cases e0 : clsOf d s1 with
    | none => rw [e0] at e1; cases e1
    | some kk =>
      rw [e0] at e1
      simp only [Option.bind_some] at e1
      cases e2 : T.meth kk m with
      | none => rw [e2] at e1; cases e1
      | some f2 =>
        rw [e2] at e1
        simp only [Option.bind_some] at e1
        obtain ⟨e3, rfl⟩ := ite_some e1
        rw [Bool.and_eq_true, Option.isNone_iff_eq_none] at e3
        obtain ⟨cd, z1, z2⟩ := isCl_some e3.1
        obtain ⟨q, dx, fs, rfl, z3, z4, z5⟩ := ins_flds k1 i e0
        have z6 : cd.meths.lookup m = some f2 := by
          unfold Tb.meth at e2
          rw [z1] at e2
          exact e2
        refine ⟨q, dx, fs, kk, cd, f2, rfl, z3, z1, z2, z6, look_none gd.nmi z4 z5 e3.2, ?_⟩
        refine q1 g s1 wd0 wd1 st _ k1 (sl.ext x1) (r2.bind.mono fun ds s2 wd2 x2 k2 r3 vs is => ⟨call_some r3, wd2.F, wd2.mu, s2, d :: ds, k2, .cons (i.ext x2) is, r3⟩)
end
end Bd
namespace Bd
open PySem PySem.Spec PyProof.Rows L2
section
variable {L : Lay} {F : Hp} {mu : List Addr}
theorem lookD_some {k : Key} : ∀ {kvs : List (Key × V)} {xs : List D} {d : D}, IsAll L F mu (kvs.map (·.2)) xs → lookD k (kvs.map (·.1)) xs = some d → ∃ v, valV kvs k = some v ∧ Is L F mu v d
  | [], xs, d, _, e => by cases xs <;> cases e
  | (a, v) :: kvs, xs, d, i, e => by
    cases i with
    | cons i1 i2 =>
      rename_i d0 ds
      have e2 : (if a = k then some d0 else lookD k (kvs.map (·.1)) ds) = some d := e
      unfold valV
      rw [List.find?_cons]
      by_cases hk : a = k
      · rw [if_pos hk] at e2
        cases e2
        rw [decide_eq_true hk]
        exact ⟨v, rfl, i1⟩
      · rw [if_neg hk] at e2
        obtain ⟨w, q1, q2⟩ := lookD_some i2 e2
        rw [decide_eq_false hk]
        exact ⟨w, q1, q2⟩
theorem keyOf_kV {d : D} {k : Key} {v : V} (h : Is L F mu v d) (e : keyOf d = some k) : v = kV k := by
  cases d with
  | int i => cases e; cases h; rfl
  | str x => cases e; cases h; rfl
  | _ => cases e
theorem atI_of {vs : List V} {ds : List D} {i : Int} {d : D} (h : IsAll L F mu vs ds) (e : ((ixN ds.length i).bind fun j => ds[j]?) = some d) : ∃ v, atI vs i = some v ∧ Is L F mu v d := by
  unfold atI
  rw [h.length]
  cases q : ixN ds.length i with
  | none => rw [q] at e; cases e
  | some j =>
    rw [q] at e
    exact h.get e
theorem cutV_of {vs : List V} {ds : List D} (h : IsAll L F mu vs ds) (lo hi : Option Int) : IsAll L F mu (cutV vs lo hi) (cutL ds lo hi) := by
  unfold cutV cutL
  rw [h.length]
  exact (h.drop _).take _
end
section
variable {G : Gn} {c : Ct} {e a b t o : PySem.Expr} {x y z : E} {pos p apos : Pos} {es : List PySem.Expr} {xs : List E}
def noSlice : PySem.Expr → Bool
  | .Slice _ _ _ _ => false
  | _ => true
theorem plainIx_of (h : noSlice b = true) : PlainIx b := by
  cases b <;> first | (intro _ _; rfl) | cases h
theorem noSl_of (h : noSlice b = true) : NoSl b := by
  cases b <;> first | (intro _ _; rfl) | cases h
theorem sub_true (h : noSlice b = true) (u v : Value) : subscripted b true u v = runValue (.builtin "lifetime.subscript" ⟨[u, v], []⟩) := by
  cases b <;> first | rfl | cases h
theorem s_idx (hc : c.calm = true) (hs : noSlice b = true) (ha : OSnd G c a x) (hb : ESnd G c b y) : ESnd G c (.Subscript a b pos) (.idx x y) := fun T n L X gd W tk => by
  obtain ⟨ta, p1, q1⟩ := ha T n L X gd W tk
  obtain ⟨tb, p2, q2⟩ := hb T n L X gd W tk
  have hu : X.A.units + 1 < cLine := by have := gd.un; omega
  refine ⟨_, pe_alt (pe_alt (pe_ix ix_seq p1 p2 (plainIx_of hs)) (pe_dget hu p1 p2 (noSl_of hs)))
    (⟨fun pins s st H Q I h => ?_⟩ : PE X (.Subscript a b pos) (fun st H Q => ta st H fun v H1 => tb st H1 fun w H2 => ∃ q dx fs k cd f, v = .ref q ∧ H2 q = some (.ins (L.ca k) dx fs) ∧ T.cl.lookup k = some cd ∧ cd.kind < 2 ∧ cd.meths.lookup nGet = some f ∧ (∃ fd0, T.fn.lookup f = some fd0) ∧ spF T n L f [v, w] H2 Q (WE W st))), fun g s wd0 wd st Q k sl r => ?_⟩
  · refine Subscript_ (thn (p1.run pins s st H _ I h) fun u s1 ⟨v, H1, I1, r1, z1⟩ => thn (p2.run pins s1 st H1 _ I1 z1) fun u2 s2 ⟨w, H2, I2, r2, q, dx, fs, k, cd, f, ex, ea, e1, e2, e3, ⟨fd0, e4⟩, z⟩ => ?_)
    subst ex
    obtain rfl : u = Value.ref q := r1
    have CF := gd.clf k cd e1 e2
    obtain ⟨M, fi⟩ := CF.me nGet f e3
    obtain ⟨mA, O, _⟩ := ins_get I2.hok ea
    obtain ⟨od, J, _⟩ := O.look
    obtain ⟨mf, hF⟩ := I2.fr
    obtain ⟨fd, ps, FG, hb2⟩ := gd.call f fd0 e4
    have M2 := M.at_
    rw [show L.nm nGet = "__getitem__" from gd.nsp.2.2.2.2.1] at M2
    exact PySem.W.sub_K hF I2.ok.mod.kin J M2 fi M.fn (runG1 (vs := [.ref q, w]) FG ((gd.room hc).mono (by omega)) gd.gu hb2 tk I2 (.cons rfl (.cons r2 .nil)) z) (sub_true hs _ _)
  · unfold evE at r
    cases ev : evB (evE T (callsAt T n) x g s) x g s with
    | no => rw [ev] at r; exact False.elim r
    | ex c2 xs2 s2 =>
      rw [ev] at r
      refine .inl (.inl (q1 g s wd0 wd st _ k sl ?_))
      rw [ev]
      exact r
    | ok d s1 =>
      rw [ev] at r
      have r0 : RPost L wd (WE W st) (VP L Q) ((evE T (callsAt T n) y g s1).bind fun y s => idxD T (callsAt T n) d y s) := r
      cases ev2 : evE T (callsAt T n) y g s1 with
      | no => rw [ev2] at r0; exact False.elim r0
      | ex c2 xs2 s2 =>
        rw [ev2] at r0
        refine .inl (.inl (q1 g s wd0 wd st _ k sl ?_))
        rw [ev]
        intro wd1 x1 k1 v i
        refine q2 g s1 wd0 wd1 st _ k1 (sl.ext x1) ?_
        rw [ev2]
        exact RPost.shift (r := R.ex c2 xs2 s2) (P := VP L Q) x1 r0
      | ok di s2 =>
        rw [ev2] at r0
        have r1 : RPost L wd (WE W st) (VP L Q) (idxD T (callsAt T n) d di s2) := r0
        have go : ∀ (R : V → V → Hp → VK → Prop), (∀ wd2 v w, Ext wd wd2 → WdOk L wd2 s2 → IsB L wd2 v d → Is L wd2.F wd2.mu w di → R v w wd2.H Q) → ta st wd.H (fun v H1 => tb st H1 fun w H2 => R v w H2 Q) := fun R hR => by
          refine q1 g s wd0 wd st _ k sl ?_
          rw [ev]
          intro wd1 x1 k1 v i
          refine q2 g s1 wd0 wd1 st _ k1 (sl.ext x1) ?_
          rw [ev2]
          intro wd2 x2 k2 w iw
          exact hR wd2 v w (x1.trans x2) k2 (i.ext x2) iw
        unfold idxD at r1
        cases hcl : clsOf d s2 with
        | some kk =>
          rw [hcl] at r1
          simp only at r1
          cases hf : T.meth kk nGet with
          | none => rw [hf] at r1; exact False.elim r1
          | some f =>
            rw [hf] at r1
            simp only at r1
            by_cases hi : isCl T kk = true
            · rw [if_pos hi] at r1
              obtain ⟨cd, z1, z2⟩ := isCl_some hi
              refine .inr (go (fun v w H2 Q => ∃ q dx fs k cd f, v = .ref q ∧ H2 q = some (.ins (L.ca k) dx fs) ∧ T.cl.lookup k = some cd ∧ cd.kind < 2 ∧ cd.meths.lookup nGet = some f ∧ (∃ fd0, T.fn.lookup f = some fd0) ∧ spF T n L f [v, w] H2 Q (WE W st)) fun wd2 v w x2 k2 i iw => ?_)
              have i' : Is L wd2.F wd2.mu v d := by
                rcases i with i | ⟨_, _, _, _, e, _⟩
                · exact i
                · subst e
                  cases hcl
              obtain ⟨q, dx, fs, rfl, z3, _⟩ := ins_flds k2 i' hcl
              have r3 := RPost.shift x2 r1
              have z5 : cd.meths.lookup nGet = some f := by
                unfold Tb.meth at hf
                rw [z1] at hf
                exact hf
              exact ⟨q, dx, fs, kk, cd, f, rfl, z3, z1, z2, z5, call_some r3, wd2.F, wd2.mu, s2, [d, di], k2, .cons i' (.cons iw .nil), r3⟩
            · rw [if_neg hi] at r1
              exact False.elim r1
        | none =>
          rw [hcl] at r1
          simp only at r1
          have hK := gd.hK
          have seq : ∀ (P : Prop), P → P := fun _ h => h
          cases d with
          | tup ds =>
            refine .inl (.inl (go (rIx X.K) fun wd2 v w x2 k2 i iw => ?_))
            obtain ⟨dv, e1, q⟩ := RPost.opt k2 (RPost.shift x2 r1)
            cases di with
            | int j =>
              obtain ⟨q0, vs, rfl, h1, h2⟩ := i.tup k2
              cases iw
              obtain ⟨vv, h3, h4⟩ := atI_of h2 e1
              exact .inr (.inl ⟨q0, vs, j, vv, rfl, rfl, h1.sq, h3, q _ h4⟩)
            | _ => cases e1
          | lst ds =>
            refine .inl (.inl (go (rIx X.K) fun wd2 v w x2 k2 i iw => ?_))
            obtain ⟨dv, e1, q⟩ := RPost.opt k2 (RPost.shift x2 r1)
            cases di with
            | int j =>
              obtain ⟨q0, vs, rfl, h1, h2⟩ := i.lst k2
              cases iw
              obtain ⟨vv, h3, h4⟩ := atI_of h2 e1
              exact .inl ⟨q0, vs, j, vv, rfl, rfl, SqL.of h1, h3, q _ h4⟩
            | _ => cases e1
          | str t =>
            refine .inl (.inl (go (rIx X.K) fun wd2 v w x2 k2 i iw => ?_))
            obtain ⟨dv, e1, q⟩ := RPost.opt k2 (RPost.shift x2 r1)
            cases di with
            | int j =>
              obtain ⟨e2, e3⟩ := (show small t.length = true ∧ ((ixN t.cps.toList.length j).bind fun m => t.cps.toList[m]?).map (fun c => D.str ⟨#[c]⟩) = some dv by
                have e4 : (if small t.length = true then ((ixN t.cps.toList.length j).bind fun m => t.cps.toList[m]?).map (fun c => D.str ⟨#[c]⟩) else none) = some dv := e1
                by_cases h : small t.length = true
                · rw [if_pos h] at e4
                  exact ⟨h, e4⟩
                · rw [if_neg h] at e4
                  cases e4)
              have := i.str
              subst this
              cases iw
              cases q5 : ((ixN t.cps.toList.length j).bind fun m => t.cps.toList[m]?) with
              | none => rw [q5] at e3; cases e3
              | some cc =>
                rw [q5] at e3
                cases e3
                exact .inr (.inr ⟨t, j, cc, rfl, rfl, small_le e2, q5, q _ (.str _)⟩)
            | _ => cases e1
          | dct ks ds =>
            refine .inl (.inr (go (fun v w H2 Q => ∃ q vv, v = .ref q ∧ DGet H2 q w (some vv) ∧ Q vv H2) fun wd2 v w x2 k2 i iw => ?_))
            obtain ⟨dv, e1, q⟩ := RPost.opt k2 (RPost.shift x2 r1)
            rcases i with i | ⟨_, _, _, _, e, _⟩
            · cases i with
              | dct h1 h2 h3 =>
                rename_i q0 kvs
                have e2 : ((keyOf di).bind fun k => lookD k ks ds) = some dv := e1
                cases hk : keyOf di with
                | none => rw [hk] at e2; cases e2
                | some kk =>
                  rw [hk] at e2
                  subst h2
                  obtain ⟨vv, h4, h5⟩ := lookD_some h3 e2
                  refine ⟨q0, vv, rfl, ?_, q _ h5⟩
                  rw [keyOf_kV iw hk, ← h4]
                  exact DGet.k (k2.sub _ _ h1)
            · cases e
          | loc m =>
            cases q9 : s2[m]? with
            | none =>
              unfold idxB at r1
              simp only [q9] at r1
              exact False.elim r1
            | some mo =>
              cases mo with
              | ins k9 ks9 xs9 =>
                unfold clsOf at hcl
                simp only [q9] at hcl
                cases hcl
              | lst ds =>
                refine .inl (.inl (go (rIx X.K) fun wd2 v w x2 k2 i iw => ?_))
                obtain ⟨dv, e1, q⟩ := RPost.opt k2 (RPost.shift x2 r1)
                unfold idxB at e1
                simp only [q9] at e1
                rcases i with i | ⟨_, _, _, _, e, _⟩
                · cases i with
                  | loc h0 =>
                    obtain ⟨q0, e0, vs, h1, h2⟩ := k2.sto _ _ q9
                    rw [h0] at e0
                    cases e0
                    cases di with
                    | int j =>
                      cases iw
                      obtain ⟨vv, h3, h4⟩ := atI_of h2 e1
                      exact .inl ⟨_, vs, j, vv, rfl, rfl, SqL.of h1, h3, q _ h4⟩
                    | _ => cases e1
                · cases e
              | dct ks ds =>
                refine .inl (.inr (go (fun v w H2 Q => ∃ q vv, v = .ref q ∧ DGet H2 q w (some vv) ∧ Q vv H2) fun wd2 v w x2 k2 i iw => ?_))
                obtain ⟨dv, e1, q⟩ := RPost.opt k2 (RPost.shift x2 r1)
                unfold idxB at e1
                simp only [q9] at e1
                rcases i with i | ⟨_, _, _, _, e, _⟩
                · cases i with
                  | loc h0 =>
                    obtain ⟨q0, e0, kvs, h1, h2, h3⟩ := k2.sto _ _ q9
                    rw [h0] at e0
                    cases e0
                    cases hk : keyOf di with
                    | none => rw [hk] at e1; cases e1
                    | some kk =>
                      rw [hk] at e1
                      subst h2
                      obtain ⟨vv, h4, h5⟩ := lookD_some h3 e1
                      refine ⟨_, vv, rfl, ?_, q _ h5⟩
                      rw [keyOf_kV iw hk, ← h4]
                      exact DGet.k h1
                · cases e
          | _ => exact False.elim r1
/-- a part of a slice -/
def PSnd (G : Gn) (c : Ct) (e : Option PySem.Expr) (x : Option E) : Prop := ∀ (T : Tb) (n : Nat) (L : Lay) (X : Cx), Gd G T n L c X → ∀ W : WX, Takes X W → ∃ to, PO X e to ∧
  ∀ g s wd0 wd st (Q : Option Int → Hp → Prop), WdOk L wd s → Slots L wd0 wd st g → RPost L wd (WE W st) (fun o _ wd' => Q o wd'.H) (evOp T (callsAt T n) x g s) → to st wd.H Q
theorem s_pn : PSnd G c none none := fun T n L X gd W tk => ⟨_, po_none, fun g s wd0 wd st Q k sl r => by
  unfold evOp at r
  exact r.now k⟩
theorem s_ps (ha : ESnd G c a x) : PSnd G c (some a) (some x) := fun T n L X gd W tk => by
  obtain ⟨ta, p1, q1⟩ := ha T n L X gd W tk
  refine ⟨_, po_some p1, fun g s wd0 wd st Q k sl r => ?_⟩
  unfold evOp at r
  refine q1 g s wd0 wd st _ k sl (r.bind.mono fun d s1 wd1 x1 k1 r1 v i => ?_)
  cases d with
  | int j =>
    cases i
    exact ⟨j, rfl, r1.now k1⟩
  | _ => exact False.elim r1
theorem s_slc {l u : Option PySem.Expr} {xl xu : Option E} {p2 : Pos} (ha : OSnd G c a x) (hl : PSnd G c l xl) (hu : PSnd G c u xu) : GSnd G c (.Subscript a (.Slice l u none p2) pos) (.slc x xl xu) := fun T n L X gd W tk => by
  obtain ⟨ta, p1, q1⟩ := ha T n L X gd W tk
  obtain ⟨tl, p2, q2⟩ := hl T n L X gd W tk
  obtain ⟨tu, p3, q3⟩ := hu T n L X gd W tk
  refine ⟨_, pe_slice ((sl_list.or sl_tupK).or sl_str) p1 p2 p3, fun g s wd0 wd st Q k sl r => ?_⟩
  unfold evE at r
  refine q1 g s wd0 wd st _ k sl (r.bind.mono fun d s1 wd1 x1 k1 r1 v i => ?_)
  refine q2 g s1 wd0 wd1 st _ k1 (sl.ext x1) (r1.bind.mono fun lo s2 wd2 x2 k2 r2 => ?_)
  refine q3 g s2 wd0 wd2 st _ k2 ((sl.ext x1).ext x2) (r2.bind.mono fun hi s3 wd3 x3 k3 r3 => ?_)
  obtain ⟨d2, e, h⟩ := RPost.opt k3 r3
  have i3 := (i.ext x2).ext x3
  have hK := gd.hK
  cases d with
  | tup ds =>
    cases e
    obtain ⟨q0, vs, rfl, h1, h2⟩ := i3.tup k3
    refine .inl (.inr ⟨q0, vs, rfl, h1.sq, fun hw => ?_, fun _ p o hp ho => Res.tup k3 (cutV_of h2 lo hi) hp ho h⟩)
    have ec : cutL ds lo hi = ds := by
      unfold cutL
      rw [← h2.length, hw.1, hw.2, List.drop_zero, Nat.sub_zero, h2.length, List.take_length]
    rw [ec] at h
    rcases i3 with i3 | ⟨_, _, _, _, e, _⟩
    · exact h.here k3 (by intro _ q; cases q) i3
    · cases e
  | lst ds =>
    cases e
    obtain ⟨q0, vs, rfl, h1, h2⟩ := i3.lst k3
    exact .inl (.inl ⟨q0, vs, rfl, SqL.of h1, fun p hp => h.nl (cutV_of h2 lo hi) hp⟩)
  | scr ns =>
    cases e
    obtain ⟨q0, rfl, h1⟩ := i3.scr k3
    rw [← hK] at h1
    refine .inl (.inl ⟨q0, _, rfl, h1, fun p hp => h.nl ?_ hp⟩)
    have e2 : (cutL ns lo hi).map D.int = cutL (ns.map D.int) lo hi := by
      unfold cutL
      rw [List.map_take, List.map_drop, List.length_map]
    rw [e2]
    exact cutV_of (IsAll.of_ints ns) lo hi
  | str t =>
    obtain ⟨e1, rfl⟩ := ite_some (show (if small t.length = true then some (D.str ⟨(cutL t.cps.toList lo hi).toArray⟩) else none) = some d2 from e)
    have := i3.str
    subst this
    refine .inr ⟨t, rfl, small_le e1, ?_⟩
    have q := h.here k3 (by intro _ q; cases q) (.str _)
    exact q
  | _ => cases e
end
end Bd
namespace Bd
open PySem PySem.Spec PyProof.Rows L2
section
variable {X : Cx} {W : WX} {k : Nat} {f C : Addr} {fd : FuncData} {ps : List Str} {sp : Sp}
theorem runG2 {pins : List (Addr × Obj)} {st : L2.St} {H : Hp} {s : Shared} {Q : VK} {us : List Value} {vs : List V} (F : FnG X.prog X.w X.K X.mg X.base k f fd ps sp) (hr : Room (k + 2) X.A) (gu : X.A.guards = some [])
    (hb : Binds X.K fd ps []) (tk : Takes X W) (I : Inv X pins st H s) (r : Vals vs us) (h : sp vs H Q (WE W st)) : wpAny (model X.prog X.w) X.A.in1.in1 (call (.ref f) us) (EP X pins st Q) X.xe s := by
  have hl : (us ++ ([] : List Value)).length = ps.length := by
    rw [List.append_nil, ← r.length]
    exact F.len _ _ _ _ h
  have hb1 := hb s us I.kIn hl
  rw [List.append_nil] at hb1
  refine wpAny_call (codeAny_mono (F.run X.A.in1.in1 X.stack s H _ us vs Q (WE W st) (Room.in1 (hr.in1 : Room (k + 1) X.A.in1)) gu I.env0.in1.in1 hb1 r h) fun z s' hq => ?_)
  cases z with
  | error e => exact tk e s' (XE.of_call I (fun _ _ _ q => q) hq)
  | ok fl =>
    cases fl with
    | ret u => exact I.after hq
    | _ => exact hq.elim
end
section
variable {G : Gn} {c : Ct} {T : Tb} {n : Nat} {L : Lay} {X : Cx}
/-- what a built-in call is worth -/
def BiOk (T : Tb) (n : Nat) (L : Lay) (X : Cx) (f : Value) (b : Bi) (m : Nat) : Prop := ∃ r, CallR X f r ∧ ∀ wd s vs ds (Q : VK) (E : XK), WdOk L wd s → ds.length = m → Paired (IsB L wd) vs ds → RPost L wd E (fun d s' wd' => Res L wd' s' d Q) (biD T (callsAt T n) b ds s) → r vs wd.H Q
theorem pr1 {R : V → D → Prop} {vs : List V} {ds : List D} (h : ds.length = 1) (p : Paired R vs ds) : ∃ v d, vs = [v] ∧ ds = [d] ∧ R v d := by
  cases p with
  | nil => cases h
  | cons r t =>
    cases t with
    | nil => exact ⟨_, _, rfl, rfl, r⟩
    | cons r2 t2 => simp at h
theorem pr2 {R : V → D → Prop} {vs : List V} {ds : List D} (h : ds.length = 2) (p : Paired R vs ds) : ∃ v w d d2, vs = [v, w] ∧ ds = [d, d2] ∧ R v d ∧ R w d2 := by
  cases p with
  | nil => cases h
  | cons r t =>
    cases t with
    | nil => cases h
    | cons r2 t2 =>
      cases t2 with
      | nil => exact ⟨_, _, _, _, rfl, rfl, r, r2⟩
      | cons r3 t3 => simp at h
theorem res_now {wd : Wd} {s : Sto} {E : XK} {Q : VK} {d : D} {v : V} (k : WdOk L wd s) (hd : ∀ xs, d ≠ .lst xs) (i : Is L wd.F wd.mu v d) (h : RPost L wd E (fun d s' wd' => Res L wd' s' d Q) (.ok d s)) : Q v wd.H := (h.now k).here k hd i
theorem is_of_cls {wd : Wd} {s : Sto} {v : V} {d : D} {kk : Nat} (i : IsB L wd v d) (e : clsOf d s = some kk) : Is L wd.F wd.mu v d := by
  rcases i with i | ⟨_, _, _, _, q, _⟩
  · exact i
  · subst q
    cases e
theorem bi_len (gd : Gd G T n L c X) (hc : c.calm = true) : BiOk T n L X (.builtin "len") .len 1 := by
  have own : CallR X (.builtin "len") (fun xs H Q => ∃ q dx fs k cd f, xs = [.ref q] ∧ H q = some (.ins (L.ca k) dx fs) ∧ T.cl.lookup k = some cd ∧ cd.kind < 2 ∧ cd.meths.lookup nLen = some f ∧ (∃ fd0, T.fn.lookup f = some fd0) ∧
      spF T n L f [.ref q] H (fun v H' => ∃ i, v = .int i ∧ (0 ≤ i ∧ i < 2 ^ 63) ∧ Q (.int i) H') (fun _ _ _ => False)) := by
    intro pins s st H xs us Q I r h
    obtain ⟨q, dx, fs, k, cd, f, rfl, ea, e1, e2, e3, ⟨fd0, e4⟩, z⟩ := h
    obtain ⟨u, rfl, ru⟩ := vals1 r
    cases ru
    have CF := gd.clf k cd e1 e2
    obtain ⟨M, fi⟩ := CF.me nLen f e3
    obtain ⟨mA, O, _⟩ := ins_get I.hok ea
    obtain ⟨od, J, _⟩ := O.look
    obtain ⟨mf, hF⟩ := I.fr
    obtain ⟨fd, ps, FG, hb2⟩ := gd.call f fd0 e4
    have M2 := M.at_
    rw [show L.nm nLen = "__len__" from gd.nsp.2.2.1] at M2
    refine PySem.W.len_K hF I.ok.mod.kin J M2 M.fn (thn (runG1 (W := W0) (vs := [.ref q]) FG ((gd.room hc).mono (by omega)) gd.gu hb2 takes0 I (.cons rfl .nil) z) fun w s' hz => ?_)
    obtain ⟨v', H', I', rv, i, rfl, hi, q'⟩ := hz
    obtain ⟨t, rfl⟩ := rv
    exact ⟨hi, .int i, H', I'.tok _, ⟨_, rfl⟩, q'⟩
  refine ⟨_, call_len.or own, fun wd s vs ds Q E k hl hp h => ?_⟩
  obtain ⟨v, d, rfl, rfl, i⟩ := pr1 hl hp
  unfold biD at h
  simp only at h
  cases hcl : clsOf d s with
  | some kk =>
    rw [hcl] at h
    simp only at h
    cases hf : T.meth kk nLen with
    | none => rw [hf] at h; exact False.elim h
    | some f =>
      rw [hf] at h
      simp only at h
      by_cases hi : isCl T kk = true
      · rw [if_pos hi] at h
        obtain ⟨cd, z1, z2⟩ := isCl_some hi
        have i' := is_of_cls i hcl
        obtain ⟨q, dx, fs, rfl, z3, _⟩ := ins_flds k i' hcl
        have r3 := calm_post h.bind
        have z5 : cd.meths.lookup nLen = some f := by
          unfold Tb.meth at hf
          rw [z1] at hf
          exact hf
        refine .inr ⟨q, dx, fs, kk, cd, f, rfl, z3, z1, z2, z5, call_some r3, wd.F, wd.mu, s, [d], k, .cons i' .nil, r3.mono fun d2 s2 wd2 x2 k2 z v2 i2 => ?_⟩
        cases d2 with
        | int j =>
          cases i2
          by_cases hj : (decide (0 ≤ j) && decide (j < 2 ^ 63)) = true
          · have z' : RPost L wd2 E _ (if (decide (0 ≤ j) && decide (j < 2 ^ 63)) = true then R.ok (D.int j) s2 else R.no) := z
            rw [if_pos hj] at z'
            rw [Bool.and_eq_true, decide_eq_true_eq, decide_eq_true_eq] at hj
            exact ⟨j, rfl, hj, res_now k2 (by intro _ q; cases q) (.int _) z'⟩
          · have z' : RPost L wd2 E _ (if (decide (0 ≤ j) && decide (j < 2 ^ 63)) = true then R.ok (D.int j) s2 else R.no) := z
            rw [if_neg hj] at z'
            exact False.elim z'
        | _ => exact False.elim z
      · rw [if_neg hi] at h
        exact False.elim h
  | none =>
    rw [hcl] at h
    simp only at h
    have hK := gd.hK
    cases d with
    | tup xs =>
      obtain ⟨q0, vs, rfl, h1, h2⟩ := i.tup k
      refine .inl ⟨.ref q0, xs.length, rfl, .inr ⟨vs, h1.sq, h2.length.symm⟩, res_now k (by intro _ q; cases q) (.int _) h⟩
    | lst xs =>
      obtain ⟨q0, vs, rfl, h1, h2⟩ := i.lst k
      refine .inl ⟨.ref q0, xs.length, rfl, .inl ⟨vs, SqL.of h1, h2.length.symm⟩, res_now k (by intro _ q; cases q) (.int _) h⟩
    | scr ns =>
      obtain ⟨q0, rfl, h1⟩ := i.scr k
      rw [← hK] at h1
      refine .inl ⟨.ref q0, ns.length, rfl, .inl ⟨_, h1, by rw [List.length_map]⟩, res_now k (by intro _ q; cases q) (.int _) h⟩
    | str t =>
      have := i.str
      subst this
      by_cases hs : small t.length = true
      · have h' : RPost L wd E _ (if small t.length = true then R.ok (D.int t.length) s else R.no) := h
        rw [if_pos hs] at h'
        exact .inl ⟨.str t, t.length, rfl, ⟨small_le hs, rfl⟩, res_now k (by intro _ q; cases q) (.int _) h'⟩
      · have h' : RPost L wd E _ (if small t.length = true then R.ok (D.int t.length) s else R.no) := h
        rw [if_neg hs] at h'
        exact False.elim h'
    | _ => exact False.elim h
theorem bi_abs : BiOk T n L X (.builtin "abs") .abs 1 := by
  refine ⟨_, call_abs, fun wd s vs ds Q E k hl hp h => ?_⟩
  obtain ⟨v, d, rfl, rfl, i⟩ := pr1 hl hp
  cases d with
  | int j =>
    have := i.int
    subst this
    exact ⟨j, rfl, res_now k (by intro _ q; cases q) (.int _) h⟩
  | _ => exact False.elim h
theorem bi_min (gd : Gd G T n L c X) (hc : c.calm = true) : BiOk T n L X (.builtin "min") .min 2 := by
  refine ⟨_, call_min2 (gd.hcalm.trans hc), fun wd s vs ds Q E k hl hp h => ?_⟩
  obtain ⟨v, w, d, d2, rfl, rfl, i, i2⟩ := pr2 hl hp
  cases d with
  | int j =>
    cases d2 with
    | int j2 =>
      have := i.int
      have := i2.int
      subst v w
      exact ⟨j, j2, rfl, res_now k (by intro _ q; cases q) (.int _) h⟩
    | _ => exact False.elim h
  | _ => exact False.elim h
theorem bi_max (gd : Gd G T n L c X) (hc : c.calm = true) : BiOk T n L X (.builtin "max") .max 2 := by
  refine ⟨_, call_max2 (gd.hcalm.trans hc), fun wd s vs ds Q E k hl hp h => ?_⟩
  obtain ⟨v, w, d, d2, rfl, rfl, i, i2⟩ := pr2 hl hp
  cases d with
  | int j =>
    cases d2 with
    | int j2 =>
      have := i.int
      have := i2.int
      subst v w
      exact ⟨j, j2, rfl, res_now k (by intro _ q; cases q) (.int _) h⟩
    | _ => exact False.elim h
  | _ => exact False.elim h
theorem prT3 {R : V → D → Prop} {vs : List V} {ds : List D} (h : ds.length = 3) (p : Paired R vs ds) : ∃ v w u d d2 d3, vs = [v, w, u] ∧ ds = [d, d2, d3] ∧ R v d ∧ R w d2 ∧ R u d3 := by
  cases p with
  | nil => cases h
  | cons r t =>
    obtain ⟨w, u, d2, d3, rfl, rfl, r2, r3⟩ := pr2 (by simpa using h) t
    exact ⟨_, _, _, _, _, _, rfl, rfl, r, r2, r3⟩
theorem bi_max3 (gd : Gd G T n L c X) (hc : c.calm = true) : BiOk T n L X (.builtin "max") .max 3 := by
  refine ⟨_, call_max3Nu (gd.hcalm.trans hc), fun wd s vs ds Q E k hl hp h => ?_⟩
  obtain ⟨v, w, u, d, d2, d3, rfl, rfl, i, i2, i3⟩ := prT3 hl hp
  cases d with
  | int j =>
    cases d2 with
    | int j2 =>
      cases d3 with
      | int j3 =>
        have := i.int
        have := i2.int
        have := i3.int
        subst v w u
        refine ⟨_, _, _, .int (if (if j2 > j then j2 else j) < j3 then j3 else if j2 > j then j2 else j), rfl, ?_, res_now k (by intro _ q; cases q) (.int _) h⟩
        by_cases a : j < j2
        · by_cases b : j2 < j3 <;> simp [nuMax3, nuMax2, nuLt, nuCB, a, b]
        · by_cases b : j < j3 <;> simp [nuMax3, nuMax2, nuLt, nuCB, a, b]
      | _ => exact False.elim h
    | _ => exact False.elim h
  | _ => exact False.elim h
theorem bi_all (gd : Gd G T n L c X) (hc : c.calm = true) : BiOk T n L X (.builtin "all") .all 1 := by
  refine ⟨_, cr_all (gd.hcalm.trans hc), fun wd s vs ds Q E k hl hp h => ?_⟩
  obtain ⟨v, d, rfl, rfl, i⟩ := pr1 hl hp
  cases d with
  | lst xs =>
    obtain ⟨l, e, h2⟩ := RPost.opt k h.bind
    obtain ⟨q0, vs, rfl, h1, h3⟩ := i.lst k
    have := h3.bls e
    subst this
    exact ⟨q0, l, rfl, SqL.of h1, res_now k (by intro _ q; cases q) (.bl _) h2⟩
  | _ => exact False.elim h
theorem bi_any (gd : Gd G T n L c X) (hc : c.calm = true) : BiOk T n L X (.builtin "any") .any 1 := by
  refine ⟨_, cr_any (gd.hcalm.trans hc), fun wd s vs ds Q E k hl hp h => ?_⟩
  obtain ⟨v, d, rfl, rfl, i⟩ := pr1 hl hp
  cases d with
  | lst xs =>
    obtain ⟨l, e, h2⟩ := RPost.opt k h.bind
    obtain ⟨q0, vs, rfl, h1, h3⟩ := i.lst k
    have := h3.bls e
    subst this
    exact ⟨q0, l, rfl, SqL.of h1, res_now k (by intro _ q; cases q) (.bl _) h2⟩
  | _ => exact False.elim h
theorem bi_int : BiOk T n L X (.type "int") .int 1 := by
  refine ⟨_, call_int1.or call_int_str, fun wd s vs ds Q E k hl hp h => ?_⟩
  obtain ⟨v, d, rfl, rfl, i⟩ := pr1 hl hp
  cases d with
  | int j =>
    have := i.int
    subst this
    exact .inl (.inl ⟨j, rfl, res_now k (by intro _ q; cases q) (.int _) h⟩)
  | bl j =>
    have := i.bl
    subst this
    exact .inl (.inr ⟨j, rfl, res_now k (by intro _ q; cases q) (.int _) h⟩)
  | str x =>
    have := i.str
    subst this
    obtain ⟨m, e, h2⟩ := RPost.opt k (show RPost L wd E (fun d s' wd' => Res L wd' s' d Q) ((optR (if Nat.ble x.length 640 then PySem.intText? x else none) s).bind fun i s => .ok (.int i) s) from h).bind
    obtain ⟨h640, hm⟩ : Nat.ble x.length 640 = true ∧ PySem.intText? x = some m := by
      by_cases c : Nat.ble x.length 640 = true
      · rw [if_pos c] at e
        exact ⟨c, e⟩
      · rw [if_neg c] at e
        cases e
    exact .inr ⟨x, m, rfl, hm, Nat.le_of_ble_eq_true h640, res_now k (by intro _ q; cases q) (.int _) h2⟩
  | _ => exact False.elim h
theorem bi_tuple (gd : Gd G T n L c X) : BiOk T n L X (.type "tuple") .tuple 1 := by
  refine ⟨_, call_tupleK, fun wd s vs ds Q E k hl hp h => ?_⟩
  obtain ⟨v, d, rfl, rfl, i⟩ := pr1 hl hp
  have hK := gd.hK
  cases d with
  | tup xs =>
    have r := RPost.now k (show RPost L wd E (fun d s' wd' => Res L wd' s' d Q) (.ok (.tup xs) s) from h)
    obtain ⟨q0, vs, rfl, h1, h3⟩ := i.tup k
    refine ⟨q0, vs, rfl, .inr ⟨h1.sq, ?_⟩⟩
    rcases i with i | ⟨_, _, _, _, q, _⟩
    · exact r.here k (by intro _ q; cases q) i
    · cases q
  | lst xs =>
    have r := RPost.now k (show RPost L wd E (fun d s' wd' => Res L wd' s' d Q) (.ok (.tup xs) s) from h)
    obtain ⟨q0, vs, rfl, h1, h3⟩ := i.lst k
    exact ⟨q0, vs, rfl, .inl ⟨SqL.of h1, fun p o hp ho => Res.tup k h3 hp ho r⟩⟩
  | scr ns =>
    have r := RPost.now k (show RPost L wd E (fun d s' wd' => Res L wd' s' d Q) (.ok (.tup (ns.map .int)) s) from h)
    obtain ⟨q0, rfl, h1⟩ := i.scr k
    rw [← hK] at h1
    exact ⟨q0, _, rfl, .inl ⟨h1, fun p o hp ho => Res.tup k (IsAll.of_ints ns) hp ho r⟩⟩
  | loc m =>
    have h' : RPost L wd E (fun d s' wd' => Res L wd' s' d Q) (match s[m]? with
      | some (.lst xs) => .ok (.tup xs) s
      | _ => .no) := h
    cases hm : s[m]? with
    | none => rw [hm] at h'; exact False.elim h'
    | some o =>
      rw [hm] at h'
      cases o with
      | lst xs =>
        have r := h'.now k
        obtain ⟨a, e1, vs, e2, is⟩ := k.sto m _ hm
        rcases i with i | ⟨_, _, _, _, q, _⟩
        · cases i with
          | loc e3 =>
            rw [e1] at e3
            cases e3
            exact ⟨a, vs, rfl, .inl ⟨SqL.of e2, fun p o hp ho => Res.tup k is hp ho r⟩⟩
        · cases q
      | dct ks xs => exact False.elim h'
      | ins c ks xs => exact False.elim h'
  | non => exact False.elim h
  | bl b => exact False.elim h
  | int b => exact False.elim h
  | str b => exact False.elim h
  | dct ks b => exact False.elim h
  | obj c ks b => exact False.elim h
  | exn c b => exact False.elim h
theorem toPys_map : ∀ {xs : List D} {ps : List PyData}, toPys xs = some ps → ps = xs.map encD
  | [], ps, e => by cases e; rfl
  | x :: xs, ps, e => by
    unfold toPys at e
    cases q1 : toPy x with
    | none => rw [q1] at e; cases e
    | some p =>
      rw [q1] at e
      cases q2 : toPys xs with
      | none => rw [q2] at e; cases e
      | some ps2 =>
        rw [q2] at e
        cases e
        rw [toPys_map q2]
        simp [encD, q1]
theorem toPys_mem : ∀ {xs : List D} {ps : List PyData}, toPys xs = some ps → ∀ x ∈ xs, toPy x = some (encD x)
  | [], _, _, x, m => by simp at m
  | y :: xs, ps, e, x, m => by
    unfold toPys at e
    cases q1 : toPy y with
    | none => rw [q1] at e; cases e
    | some p =>
      rw [q1] at e
      cases q2 : toPys xs with
      | none => rw [q2] at e; cases e
      | some ps2 =>
        rcases List.mem_cons.mp m with rfl | m
        · simp [encD, q1]
        · exact toPys_mem q2 x m
structure SortO (xs : List D) : Prop where
  py : toPys xs = some (xs.map encD)
  ok : ∀ x ∈ xs, toPy x = some (encD x)
  tup : ∀ x ∈ xs, ∃ y r, encD x = .tuple (y :: r)
  al : PySem.W.AllAlike (xs.map encD)
  dep : ∀ x ∈ xs, (encD x).depth ≤ 64
  lay : ∀ x ∈ xs, (encD x).canLay0 = true
theorem depth_all : ∀ {ps : List PyData} {p : PyData}, p ∈ ps → p.depth ≤ PyData.depthAll ps
  | [], _, h => by simp at h
  | q :: ps, p, h => by
    rcases List.mem_cons.mp h with rfl | h
    · simp only [PyData.depthAll]
      omega
    · have := depth_all h
      simp only [PyData.depthAll]
      omega
theorem lay_all : ∀ {ps : List PyData} {p : PyData}, PyData.canLayAll0 ps = true → p ∈ ps → p.canLay0 = true
  | [], _, _, h => by simp at h
  | q :: ps, p, e, h => by
    simp only [PyData.canLayAll0, Bool.and_eq_true] at e
    rcases List.mem_cons.mp h with rfl | h
    · exact e.1
    · exact lay_all e.2 h
theorem sortO_of {xs : List D} (h : sortOk xs = true) : SortO xs := by
  unfold sortOk at h
  cases e : toPys xs with
  | none => rw [e] at h; cases h
  | some ps =>
    rw [e] at h
    have e2 := toPys_map e
    subst e2
    simp only [Bool.and_eq_true, List.all_eq_true] at h
    obtain ⟨⟨h1, h2⟩, h3⟩ := h
    simp only [SeqAt.shaped, Bool.and_eq_true, decide_eq_true_eq] at h3
    obtain ⟨h3, h4⟩ := h3
    simp only [PyData.depth] at h4
    refine ⟨e, toPys_mem e, fun x m => ?_, fun p hp q hq => h2 p hp q hq, fun x m => ?_, fun x m => ?_⟩
    · have := h1 (encD x) (List.mem_map.mpr ⟨x, m, rfl⟩)
      unfold tupP at this
      split at this
      · rename_i y r e
        exact ⟨y, r, e⟩
      · cases this
    · have := depth_all (List.mem_map.mpr ⟨x, m, rfl⟩ : encD x ∈ xs.map encD)
      omega
    · exact lay_all (by simpa [PyData.canLay0] using h3) (List.mem_map.mpr ⟨x, m, rfl⟩)
theorem each_is1 {L : Lay} {F : Hp} {mu : List Addr} : ∀ {vs : List V} {ds : List D}, PySem.W.EachIs (fun v d => Is L F mu v d) vs ds → IsAll L F mu vs ds
  | _, _, .nil => .nil
  | _, _, .cons a b => .cons a (each_is1 b)
theorem each_is2 {L : Lay} {F : Hp} {mu : List Addr} : ∀ (vs : List V) (ds : List D), IsAll L F mu vs ds → PySem.W.EachIs (fun v d => Is L F mu v d) vs ds
  | _, _, .nil => .nil
  | _, _, .cons a b => .cons a (each_is2 _ _ b)
theorem each_vals {R : V → D → Prop} : ∀ {vs : List V} {us : List Value} {ds : List D}, Vals vs us → PySem.W.EachIs R vs ds → PySem.W.EachIs (fun u d => ∃ v, RelV v u ∧ R v d) us ds
  | [], _, _, .nil, h => by cases h; exact .nil
  | v :: vs, _, _, .cons a b, h => by
    cases h with
    | cons c d => exact .cons ⟨v, a, c⟩ (each_vals b d)
theorem vals_each {R : V → D → Prop} : ∀ {us : List Value} {ds : List D}, PySem.W.EachIs (fun u d => ∃ v, RelV v u ∧ R v d) us ds → ∃ vs, Vals vs us ∧ PySem.W.EachIs R vs ds
  | _, _, .nil => ⟨[], .nil, .nil⟩
  | _, _, .cons ⟨v, a, c⟩ t => by
    obtain ⟨vs, h1, h2⟩ := vals_each t
    exact ⟨v :: vs, .cons a h1, .cons c h2⟩
theorem each_memD {R : V → D → Prop} : ∀ {us : List V} {ds : List D}, PySem.W.EachIs R us ds → PySem.W.EachIs (fun u d => R u d ∧ d ∈ ds) us ds
  | _, _, .nil => .nil
  | _, _, .cons a t => .cons ⟨a, by simp⟩ ((each_memD t).mono fun _ _ ⟨x, y⟩ => ⟨x, by simp [y]⟩)
def rSortD (K : PySem.W.Frag) : List V → Hp → VK → Prop := fun xs H Q => ∃ (l : Addr) (vs : List V) (ds : List D) (R : V → D → Prop), xs = [.ref l] ∧ SqL K H l vs ∧ PySem.W.EachIs R vs ds ∧ (∀ v d, R v d → d ∈ ds → Dp K H v (encD d)) ∧ SortO ds ∧ ∀ a vs', H a = none → PySem.W.EachIs R vs' (ds.mergeSort (PySem.W.dataLe false encD)) → Q (.ref a) (upd H a (.lst vs'))
theorem cr_sortedD {X : Cx} (hu : X.A.units + 100 < cLine) : CallR X (.builtin "sorted") (rSortD X.K) := by
  intro pins s σ H xs us Q I r h
  obtain ⟨l, vs, ds, R, rfl, hs, he, hd, hO, q⟩ := h
  obtain ⟨its, rv, hl, hz⟩ := I.list hs
  rw [Vals.ref1 r]
  have e1 := each_vals rv (each_memD he)
  have er : PySem.W.EachIs (fun u d => ∃ as, Reads s.heap u (encD d) as) its ds := e1.mono fun u d ⟨v, a, b, m⟩ => Dp.reads I (encD d) v u (hd v d b m) a
  have e2 : PySem.W.EachIs (fun u d => ∃ v, RelV v u ∧ R v d) its ds := e1.mono fun u d ⟨v, a, b, _⟩ => ⟨v, a, b⟩
  have hlen : vs.length = its.length := rv.length
  have hld : its.length = ds.length := e2.length
  refine PySem.W.sorted_data (vs := its) (bs := ds) (enc := encD) (R := fun u d => ∃ v, RelV v u ∧ R v d) hl.isList e2 er hO.al (.inl fun d hd => ?_) (by omega) (fun d m => ?_) fun out ho ho2 => ?_
  · obtain ⟨x, m, rfl⟩ := List.mem_map.mp hd
    exact hO.tup x m
  · have := hO.dep d m
    omega
  · obtain ⟨vs', k1, k2⟩ := vals_each ho2
    obtain ⟨ep, he'⟩ := PyProof.Rows.sortedAll_at s.heap its out.toArray
    have hl2 : vs'.length ≤ sizeLine := by
      rw [k1.length]
      omega
    exact ⟨.ref _, upd H (s.heap.objs.size + 1) (.lst vs'), I.laid (t' := s.toks) (fun _ _ => PyProof.Rows.sortedAll_old) (Nat.le_succ _) ⟨hl2, out, ep, k1, he'⟩, rfl, q _ _ (I.hok.fresh (Nat.le_succ _)) k2⟩
mutual
theorem toPy_inj : ∀ (a b : D) (p : PyData), toPy a = some p → toPy b = some p → a = b
  | .non, b, p, h1, h2 => by
    cases h1
    cases b with
    | non => rfl
    | tup ys => unfold toPy at h2; cases q : toPys ys <;> rw [q] at h2 <;> cases h2
    | lst ys => unfold toPy at h2; cases q : toPys ys <;> rw [q] at h2 <;> cases h2
    | _ => cases h2
  | .bl x, b, p, h1, h2 => by
    cases h1
    cases b with
    | bl y => cases h2; rfl
    | tup ys => unfold toPy at h2; cases q : toPys ys <;> rw [q] at h2 <;> cases h2
    | lst ys => unfold toPy at h2; cases q : toPys ys <;> rw [q] at h2 <;> cases h2
    | _ => cases h2
  | .int x, b, p, h1, h2 => by
    cases h1
    cases b with
    | int y => cases h2; rfl
    | tup ys => unfold toPy at h2; cases q : toPys ys <;> rw [q] at h2 <;> cases h2
    | lst ys => unfold toPy at h2; cases q : toPys ys <;> rw [q] at h2 <;> cases h2
    | _ => cases h2
  | .str x, b, p, h1, h2 => by
    cases h1
    cases b with
    | str y => cases h2; rfl
    | tup ys => unfold toPy at h2; cases q : toPys ys <;> rw [q] at h2 <;> cases h2
    | lst ys => unfold toPy at h2; cases q : toPys ys <;> rw [q] at h2 <;> cases h2
    | _ => cases h2
  | .tup xs, b, p, h1, h2 => by
    unfold toPy at h1
    cases q1 : toPys xs with
    | none => rw [q1] at h1; cases h1
    | some ps =>
      rw [q1] at h1
      cases h1
      cases b with
      | tup ys =>
        unfold toPy at h2
        cases q : toPys ys with
        | none => rw [q] at h2; cases h2
        | some qs =>
          rw [q] at h2
          cases h2
          rw [toPys_inj xs ys _ q1 q]
      | lst ys => unfold toPy at h2; cases q : toPys ys <;> rw [q] at h2 <;> cases h2
      | _ => cases h2
  | .lst xs, b, p, h1, h2 => by
    unfold toPy at h1
    cases q1 : toPys xs with
    | none => rw [q1] at h1; cases h1
    | some ps =>
      rw [q1] at h1
      cases h1
      cases b with
      | lst ys =>
        unfold toPy at h2
        cases q : toPys ys with
        | none => rw [q] at h2; cases h2
        | some qs =>
          rw [q] at h2
          cases h2
          rw [toPys_inj xs ys _ q1 q]
      | tup ys => unfold toPy at h2; cases q : toPys ys <;> rw [q] at h2 <;> cases h2
      | _ => cases h2
  | .dct _ _, _, _, h1, _ => by cases h1
  | .obj _ _ _, _, _, h1, _ => by cases h1
  | .exn _ _, _, _, h1, _ => by cases h1
  | .loc _, _, _, h1, _ => by cases h1
  | .scr _, _, _, h1, _ => by cases h1
theorem toPys_inj : ∀ (xs ys : List D) (ps : List PyData), toPys xs = some ps → toPys ys = some ps → xs = ys
  | [], ys, ps, h1, h2 => by
    cases h1
    cases ys with
    | nil => rfl
    | cons y ys =>
      unfold toPys at h2
      cases q : toPy y with
      | none => rw [q] at h2; cases h2
      | some p =>
        rw [q] at h2
        cases q2 : toPys ys <;> rw [q2] at h2 <;> cases h2
  | x :: xs, ys, ps, h1, h2 => by
    unfold toPys at h1
    cases q1 : toPy x with
    | none => rw [q1] at h1; cases h1
    | some p =>
      rw [q1] at h1
      cases q2 : toPys xs with
      | none => rw [q2] at h1; cases h1
      | some ps2 =>
        rw [q2] at h1
        cases h1
        cases ys with
        | nil => cases h2
        | cons y ys =>
          unfold toPys at h2
          cases r1 : toPy y with
          | none => rw [r1] at h2; cases h2
          | some p3 =>
            rw [r1] at h2
            cases r2 : toPys ys with
            | none => rw [r2] at h2; cases h2
            | some ps3 =>
              rw [r2] at h2
              cases h2
              rw [toPy_inj x y _ q1 r1, toPys_inj xs ys _ q2 r2]
end
def minDD (x : D) (r : List D) : D := r.foldl (fun a y => if PySem.W.dataLt (encD y) (encD a) then y else a) x
theorem minDD_mem : ∀ (r : List D) (x : D), minDD x r ∈ x :: r
  | [], x => by simp [minDD]
  | y :: r, x => by
    have e : minDD x (y :: r) = minDD (if PySem.W.dataLt (encD y) (encD x) then y else x) r := rfl
    rw [e]
    have ih := minDD_mem r (if PySem.W.dataLt (encD y) (encD x) then y else x)
    rcases List.mem_cons.mp ih with q | q
    · rw [q]
      split <;> simp
    · simp [q]
theorem minDD_enc : ∀ (r : List D) (x : D), PySem.W.minD (encD x) (r.map encD) = encD (minDD x r)
  | [], x => rfl
  | y :: r, x => by
    have e : minDD x (y :: r) = minDD (if PySem.W.dataLt (encD y) (encD x) then y else x) r := rfl
    rw [e, ← minDD_enc r]
    show PySem.W.minD (if PySem.W.dataLt (encD y) (encD x) = true then encD y else encD x) (r.map encD) = _
    split <;> rfl
theorem each_at {A B : Type} {R : A → B → Prop} : ∀ {us : List A} {ds : List B}, PySem.W.EachIs R us ds → ∀ (i : Nat) (u : A), us[i]? = some u → ∃ d, ds[i]? = some d ∧ R u d
  | _, _, .nil, i, u, h => by simp at h
  | _, _, .cons a t, 0, u, h => by
    simp at h
    subst h
    exact ⟨_, rfl, a⟩
  | _, _, .cons a t, i + 1, u, h => by
    obtain ⟨d, h1, h2⟩ := each_at t i u (by simpa using h)
    exact ⟨d, by simpa using h1, h2⟩
def rMinDD (K : PySem.W.Frag) : List V → Hp → VK → Prop := fun xs H Q => ∃ (l : Addr) (vs : List V) (x : D) (r : List D) (R : V → D → Prop), xs = [.ref l] ∧ SqL K H l vs ∧ PySem.W.EachIs R vs (x :: r) ∧ (∀ v d, R v d → d ∈ x :: r → Dp K H v (encD d)) ∧ SortO (x :: r) ∧ ∀ v, R v (minDD x r) → Q v H
theorem cr_minDD {X : Cx} (hc : X.calm = true) (hu : X.A.units + 100 < cLine) : CallR X (.builtin "min") (rMinDD X.K) := by
  intro pins s st H xs us Q I r h
  obtain ⟨l, vs, x, rr, R, rfl, hs, he, hd, hO, q⟩ := h
  obtain ⟨its, rv, hl, hz⟩ := I.list hs
  rw [Vals.ref1 r]
  have e1 := each_vals rv (each_memD he)
  have er : PySem.W.EachIs (fun u d => ∃ as, Reads s.heap u (encD d) as) its (x :: rr) := e1.mono fun u d ⟨v, a, b, m⟩ => Dp.reads I (encD d) v u (hd v d b m) a
  obtain ⟨as, hra⟩ := PySem.W.each_readsAll encD er
  rw [List.map_cons] at hra
  have hdep : PyData.depthAll (encD x :: rr.map encD) ≤ 64 := by
    have key : ∀ ds : List D, (∀ d ∈ ds, (encD d).depth ≤ 64) → PyData.depthAll (ds.map encD) ≤ 64 := fun ds => by
      induction ds with
      | nil => intro _; simp [PyData.depthAll]
      | cons d ds ih =>
        intro h
        have h1 := h d (by simp)
        have h2 := ih fun y m => h y (by simp [m])
        simp only [List.map_cons, PyData.depthAll]
        omega
    exact key (x :: rr) hO.dep
  refine PySem.W.min_list_data (I.ok.hd hc) hl.isList hra ⟨fun a ha b hb => ?_, fun a ha => ?_⟩ (by omega) fun i v h' tk bs hiv hrd hk => ?_
  · rw [← List.map_cons (f := encD)] at ha hb
    exact hO.al a ha b hb
  · rw [← List.map_cons (f := encD)] at ha
    obtain ⟨d, m, rfl⟩ := List.mem_map.mp ha
    obtain ⟨y, r', e⟩ := hO.tup d m
    rw [e]
    exact fun e => nomatch e
  · have hiv2 : its[i]? = some v := by simpa using hiv
    obtain ⟨d, hdi, vv, hrel, hR, hm⟩ := each_at e1 i v hiv2
    obtain ⟨as2, hr2⟩ := Dp.reads I (encD d) vv v (hd vv d hR hm) hrel
    rw [minDD_enc] at hrd
    have hmm := minDD_mem rr x
    have eq : encD d = encD (minDD x rr) := PySem.W.alike_unique _ _ _ _ _ (hO.al _ (List.mem_map.mpr ⟨d, hm, rfl⟩) _ (List.mem_map.mpr ⟨_, hmm, rfl⟩)) (Reads.keeps hk hr2) hrd
    have ed : d = minDD x rr := toPy_inj _ _ _ (hO.ok d hm) (by rw [eq]; exact hO.ok _ hmm)
    subst ed
    exact ⟨vv, H, I.kept hk, hrel, q vv hR⟩
theorem bi_min1 (gd : Gd G T n L c X) (hc : c.calm = true) : BiOk T n L X (.builtin "min") .min 1 := by
  refine ⟨_, (cr_min (gd.hcalm.trans hc)).or (cr_minDD (gd.hcalm.trans hc) (by have := gd.un; omega)), fun wd s vs ds Q E k hl hp h => ?_⟩
  obtain ⟨v, d, rfl, rfl, i⟩ := pr1 hl hp
  cases d with
  | lst xs =>
    obtain ⟨m, e, h2⟩ := RPost.opt k h.bind
    obtain ⟨q0, vs, rfl, h1, h3⟩ := i.lst k
    unfold minX at e
    cases e1 : intsOf xs with
    | none =>
      rw [e1] at e
      simp only at e
      by_cases hso : sortOk xs = true
      rotate_left
      · rw [if_neg hso] at e
        cases e
      rw [if_pos hso] at e
      have e3 := e
      have hO := sortO_of hso
      cases xs with
      | nil => cases e3
      | cons x r =>
        cases e3
        refine .inr ⟨q0, vs, x, r, fun v d => Is L wd.F wd.mu v d, rfl, SqL.of h1, each_is2 _ _ h3, fun v d hi m => ?_, hO, fun v hv => ?_⟩
        · rw [gd.hK]
          exact hi.dp k.sub _ _ _ (hO.ok d m)
        · refine res_now k (fun zs ez => ?_) hv h2
          obtain ⟨y, r', e4⟩ := hO.tup _ (minDD_mem r x)
          have e5 := hO.ok _ (minDD_mem r x)
          have e6 : minDD x r = .lst zs := ez
          rw [e4, e6] at e5
          unfold toPy at e5
          cases q : toPys zs <;> rw [q] at e5 <;> cases e5
    | some l =>
      rw [e1] at e
      have e' : l.min?.map D.int = some m := e
      clear e
      obtain ⟨m', hm, rfl⟩ : ∃ m', l.min? = some m' ∧ .int m' = m := by
        have e := e'
        cases q : l.min? with
        | none => rw [q] at e; cases e
        | some z => rw [q] at e; cases e; exact ⟨z, rfl, rfl⟩
      have := h3.ints e1
      subst this
      obtain ⟨m1, m2⟩ := List.min?_eq_some_iff.mp hm
      refine .inl ⟨q0, l, rfl, SqL.of h1, List.length_pos_of_mem m1, fun m'' hm1 hm2 => ?_⟩
      have : m'' = m' := Int.le_antisymm (hm2 m' m1) (m2 m'' hm1)
      subst this
      exact res_now k (by intro _ q; cases q) (.int _) h2
  | _ => exact False.elim h
theorem bi_max1 (gd : Gd G T n L c X) (hc : c.calm = true) : BiOk T n L X (.builtin "max") .max 1 := by
  have tup : CallR X (.builtin "max") (fun vs H Q => ∃ (a : Addr) (n : Int) (ns : List Int), vs = [V.ref a] ∧ SqT X.K H a ((n :: ns).map V.int) ∧ Q (.int (ns.foldl max n)) H) := by
    intro pins s st H vs us Q I r h
    obtain ⟨a, n, ns, rfl, hs, q⟩ := h
    obtain ⟨its, rv, hl, _⟩ := I.tuple hs
    obtain ⟨u, rfl, ru⟩ := vals1 r
    cases ru
    have hra := ints_readAll s.heap rv.ints
    rw [List.map_cons] at hra
    refine PySem.W.max_tuple_data (I.ok.hd (gd.hcalm.trans hc)) hl hra ⟨?_, ?_⟩ ?_ fun i v h' tk bs _ hrd hk => ?_
    · intro x hx y hy
      rw [← List.map_cons (f := PyData.int)] at hx hy
      obtain ⟨a, _, rfl⟩ := List.mem_map.mp hx
      obtain ⟨b, _, rfl⟩ := List.mem_map.mp hy
      rfl
    · intro x hx
      rw [← List.map_cons (f := PyData.int)] at hx
      obtain ⟨a, _, rfl⟩ := List.mem_map.mp hx
      exact fun e => nomatch e
    · rw [← List.map_cons (f := PyData.int), PySem.W.depth_ints]
      have := gd.un
      show X.A.units + 1 + 0 < cLine
      omega
    · rw [PySem.W.maxD_ints] at hrd
      cases hrd
      exact ⟨.int _, H, I.kept hk, ⟨_, rfl⟩, q⟩
  refine ⟨_, (cr_max (gd.hcalm.trans hc)).or tup, fun wd s vs ds Q E k hl hp h => ?_⟩
  obtain ⟨v, d, rfl, rfl, i⟩ := pr1 hl hp
  cases d with
  | lst xs =>
    obtain ⟨m, e, h2⟩ := RPost.opt k h.bind
    obtain ⟨q0, vs, rfl, h1, h3⟩ := i.lst k
    cases e1 : intsOf xs with
    | none => rw [e1] at e; cases e
    | some l =>
      rw [e1] at e
      have hm : l.max? = some m := e
      have := h3.ints e1
      subst this
      obtain ⟨m1, m2⟩ := List.max?_eq_some_iff.mp hm
      refine .inl ⟨q0, l, rfl, SqL.of h1, List.length_pos_of_mem m1, fun m' hm1 hm2 => ?_⟩
      have : m' = m := Int.le_antisymm (m2 m' hm1) (hm2 m m1)
      subst this
      exact res_now k (by intro _ q; cases q) (.int _) h2
  | tup xs =>
    obtain ⟨m, e, h2⟩ := RPost.opt k h.bind
    obtain ⟨q0, vs, rfl, h1, h3⟩ := i.tup k
    cases e1 : intsOf xs with
    | none => rw [e1] at e; cases e
    | some l =>
      rw [e1] at e
      have := h3.ints e1
      subst this
      cases l with
      | nil => cases e
      | cons n ns =>
        have em : some (ns.foldl max n) = some m := e
        cases em
        exact .inr ⟨q0, n, ns, rfl, h1.sq, res_now k (by intro _ q; cases q) (.int _) h2⟩
  | _ => exact False.elim h
theorem bi_list (gd : Gd G T n L c X) : BiOk T n L X (.type "list") .list 1 := by
  refine ⟨_, call_list_of, fun wd s vs ds Q E k hl hp h => ?_⟩
  obtain ⟨v, d, rfl, rfl, i⟩ := pr1 hl hp
  obtain ⟨l, e, h2⟩ := RPost.opt k (show RPost L wd E _ ((optR (seqOf d) s).bind _) from h).bind
  have r := h2.now k
  have hK := gd.hK
  obtain ⟨q0, vs, rfl, h1, h3⟩ := i.seq k e
  rw [← hK] at h1
  exact ⟨q0, vs, rfl, h1, fun p hp => r.nl h3 hp⟩
theorem isort_eq {l l' : List Int} (hp : l'.Perm l) (hs : l'.Pairwise (· ≤ ·)) : l' = isort l := by
  unfold isort
  have h1 : (l.mergeSort fun a b => decide (a ≤ b)).Perm l := List.mergeSort_perm l _
  have h2 : (l.mergeSort fun a b => decide (a ≤ b)).Pairwise (fun a b => decide (a ≤ b) = true) := List.pairwise_mergeSort (by intro a b c; simp; omega) (by intro a b; simp; omega) l
  have h3 : (l.mergeSort fun a b => decide (a ≤ b)).Pairwise (· ≤ ·) := h2.imp fun h => of_decide_eq_true h
  exact List.Perm.eq_of_pairwise (fun a b _ _ h1 h2 => by omega) hs h3 (hp.trans h1.symm)
theorem bi_sorted (gd : Gd G T n L c X) : BiOk T n L X (.builtin "sorted") .sorted 1 := by
  refine ⟨_, cr_sortedI.or (cr_sortedD (by have := gd.un; omega)), fun wd s vs ds Q E k hl hp h => ?_⟩
  obtain ⟨v, d, rfl, rfl, i⟩ := pr1 hl hp
  cases d with
  | lst xs =>
    obtain ⟨ys, e, h2⟩ := RPost.opt k h.bind
    obtain ⟨q0, vs, rfl, h1, h3⟩ := i.lst k
    unfold sortX at e
    cases e1 : intsOf xs with
    | some l =>
      rw [e1] at e
      cases e
      have := h3.ints e1
      subst this
      refine .inl ⟨q0, l, rfl, SqL.of h1, fun ns' p hp hs hn => ?_⟩
      rw [isort_eq hp hs]
      exact (h2.now k).nl (IsAll.of_ints _) hn
    | none =>
      rw [e1] at e
      simp only at e
      obtain ⟨hso, rfl⟩ := ite_some e
      have hO := sortO_of hso
      refine .inr ⟨q0, vs, xs, fun v d => Is L wd.F wd.mu v d, rfl, SqL.of h1, each_is2 _ _ h3, fun v d hi m => ?_, hO, fun a vs' ha he => ?_⟩
      · rw [gd.hK]
        exact hi.dp k.sub _ _ _ (hO.ok d m)
      · exact (h2.now k).nl (each_is1 he) ha
  | _ => exact False.elim h
theorem preSum_list (ns : List Int) : ∀ m, m ≤ ns.length → preSum (fun i => ns.getD i 0) m = (ns.take m).sum
  | 0, _ => by simp [preSum]
  | m + 1, h => by
    have h2 := preSum_list ns m (by omega)
    have h3 : ns.take (m + 1) = ns.take m ++ [ns[m]] := by
      rw [List.take_succ, List.getElem?_eq_getElem (by omega)]
      rfl
    rw [h3, List.sum_append, ← h2]
    simp only [preSum, List.sum_cons, List.sum_nil, Int.add_zero]
    congr 1
    rw [List.getD_eq_getElem?_getD, List.getElem?_eq_getElem (by omega)]
    rfl
theorem sum_tup {prog : Program} {w : World} {A : Around} {E : Value → Shared → Prop} {s : Shared} {l : Addr} {its : List Value} {ns : List Int} {Q : Value → Shared → Prop} (hh : A.handled = none) (hl : IsTup s.heap l its.toArray) (hi : Vals (ns.map V.int) its)
    (h : ∀ h' tk t', (∀ b o, s.heap.get? b = some o → h'.get? b = some o) → Q (.int ns.sum t') { s with heap := h', toks := tk }) : wpAny (model prog w) A (call (.builtin "sum") [.ref l]) Q E s := by
  have hls : s.heap.IsTuple l its.toArray := hl
  have hlt : l < s.heap.objs.size := hl.lt
  have hlen : its.length = ns.length := by
    have := hi.length
    rw [List.length_map] at this
    exact this.symm
  refine call_sum_walkG (wpAny_pyIter_tuple hls ?_)
  refine ⟨s.heap.objs.size, _, _, _, _, _, fun i => ns.getD i 0, rfl, Walks.tuple (A := A.in1) hh _ l (Nat.ne_of_lt hlt) its.toArray, ⟨⟨_, Heap.get?_push_size _ rfl, rfl, rfl⟩, hls.at fun o e => Heap.get?_push_of_some _ e⟩, fun b hb => ?_, fun i v hv => ?_, fun h' tk t' hk => ?_⟩
  · show b < (s.heap.push _).objs.size
    rw [Heap.size_push]
    rcases List.mem_cons.mp hb with e | hb
    · subst e
      exact Nat.lt_succ_self _
    · have := List.mem_singleton.mp hb
      subst this
      exact Nat.lt_succ_of_lt hlt
  · have hv2 : its[i]? = some v := by simpa using hv
    have hi2 : i < its.length := (List.getElem?_eq_some_iff.mp hv2).1
    obtain ⟨u, e1, e2⟩ := hi.get (i := i) (x := .int (ns.getD i 0)) (by
      rw [List.getElem?_map, List.getD_eq_getElem?_getD, List.getElem?_eq_getElem (by omega)]
      rfl)
    rw [hv2] at e1
    cases e1
    exact e2
  · have e : preSum (fun i => ns.getD i 0) its.toArray.size = ns.sum := by
      rw [List.size_toArray, hlen, preSum_list ns _ (Nat.le_refl _), List.take_length]
    rw [e]
    refine h h' tk t' fun b o q => hk b o ?_ (Heap.get?_push_of_some _ q)
    intro hb
    have := List.mem_singleton.mp hb
    subst this
    exact Nat.lt_irrefl _ (Heap.lt_size q)
theorem bi_sum (gd : Gd G T n L c X) (hc : c.calm = true) : BiOk T n L X (.builtin "sum") .sum 1 := by
  have tup : CallR X (.builtin "sum") (fun vs H Q => ∃ (a : Addr) (ns : List Int), vs = [V.ref a] ∧ SqT X.K H a (ns.map V.int) ∧ Q (.int ns.sum) H) := by
    intro pins s st H vs us Q I r h
    obtain ⟨a, ns, rfl, hs, q⟩ := h
    obtain ⟨its, rv, hl, _⟩ := I.tuple hs
    obtain ⟨u, rfl, ru⟩ := vals1 r
    cases ru
    exact sum_tup (I.ok.hd (gd.hcalm.trans hc)) hl rv fun h' tk t' hk => ⟨.int _, H, I.kept hk, ⟨_, rfl⟩, q⟩
  refine ⟨_, (cr_sum (gd.hcalm.trans hc)).or tup, fun wd s vs ds Q E k hl hp h => ?_⟩
  obtain ⟨v, d, rfl, rfl, i⟩ := pr1 hl hp
  cases d with
  | lst xs =>
    obtain ⟨l, e, h2⟩ := RPost.opt k h.bind
    obtain ⟨q0, vs, rfl, h1, h3⟩ := i.lst k
    have := h3.ints e
    subst this
    exact .inl ⟨q0, l, rfl, SqL.of h1, res_now k (by intro _ q; cases q) (.int _) h2⟩
  | tup xs =>
    obtain ⟨l, e, h2⟩ := RPost.opt k h.bind
    obtain ⟨q0, vs, rfl, h1, h3⟩ := i.tup k
    have := h3.ints e
    subst this
    exact .inr ⟨q0, l, rfl, h1.sq, res_now k (by intro _ q; cases q) (.int _) h2⟩
  | _ => exact False.elim h
theorem log_of {i : Int} (h : smallI i = true) : i.natAbs.log2 < 1920 := by
  unfold smallI at h
  have h2 := of_decide_eq_true h
  by_cases h0 : i.natAbs = 0
  · rw [h0]
    decide
  · have := (Nat.log2_lt h0).mpr h2
    omega
theorem bi_str (gd : Gd G T n L c X) (hc : c.calm = true) : BiOk T n L X (.type "str") .str 1 := by
  have own : CallR X (.type "str") (fun xs H Q => ∃ q dx fs k cd f, xs = [.ref q] ∧ H q = some (.ins (L.ca k) dx fs) ∧ T.cl.lookup k = some cd ∧ cd.kind < 2 ∧ cd.meths.lookup nStr = some f ∧ (∃ fd0, T.fn.lookup f = some fd0) ∧
      spF T n L f [.ref q] H (fun v H' => ∃ t, v = .str t ∧ Q (.str t) H') (fun _ _ _ => False)) := by
    intro pins s st H xs us Q I r h
    obtain ⟨q, dx, fs, k, cd, f, rfl, ea, e1, e2, e3, ⟨fd0, e4⟩, z⟩ := h
    obtain ⟨u, rfl, ru⟩ := vals1 r
    cases ru
    have CF := gd.clf k cd e1 e2
    obtain ⟨M, fi⟩ := CF.me nStr f e3
    obtain ⟨mA, O, _⟩ := ins_get I.hok ea
    obtain ⟨od, J, _⟩ := O.look
    obtain ⟨fd, ps, FG, hb2⟩ := gd.call f fd0 e4
    have M2 := M.at_
    rw [show L.nm nStr = "__str__" from gd.nsp.2.2.2.1] at M2
    refine PySem.W.kso_call (by have := gd.un; show X.A.units + 1 + 1 < cLine; omega) I.kIn J M2 M.fn (thn (runG2 (W := W0) (vs := [.ref q]) FG (gd.room hc) gd.gu hb2 takes0 I (.cons rfl .nil) z) fun w s' hz => ?_)
    obtain ⟨v', H', I', rv, t, rfl, q'⟩ := hz
    obtain ⟨tt, rfl⟩ := rv
    exact ⟨.str t, H', I', ⟨_, rfl⟩, q'⟩
  refine ⟨_, (call_str_int.or SkE.call_str_str).or own, fun wd s vs ds Q E k hl hp h => ?_⟩
  obtain ⟨v, d, rfl, rfl, i⟩ := pr1 hl hp
  unfold biD at h
  simp only at h
  cases hcl : clsOf d s with
  | some kk =>
    rw [hcl] at h
    simp only at h
    cases hf : T.meth kk nStr with
    | none => rw [hf] at h; exact False.elim h
    | some f =>
      rw [hf] at h
      simp only at h
      by_cases hi : isCl T kk = true
      · rw [if_pos hi] at h
        obtain ⟨cd, z1, z2⟩ := isCl_some hi
        have i' := is_of_cls i hcl
        obtain ⟨q, dx, fs, rfl, z3, _⟩ := ins_flds k i' hcl
        have r3 := calm_post h.bind
        have z5 : cd.meths.lookup nStr = some f := by
          unfold Tb.meth at hf
          rw [z1] at hf
          exact hf
        refine .inr ⟨q, dx, fs, kk, cd, f, rfl, z3, z1, z2, z5, call_some r3, wd.F, wd.mu, s, [d], k, .cons i' .nil, r3.mono fun d2 s2 wd2 x2 k2 z v2 i2 => ?_⟩
        cases d2 with
        | str j =>
          cases i2
          exact ⟨j, rfl, res_now k2 (by intro _ q; cases q) (.str _) z⟩
        | _ => exact False.elim z
      · rw [if_neg hi] at h
        exact False.elim h
  | none =>
    rw [hcl] at h
    simp only at h
    cases d with
    | int j =>
      have := i.int
      subst this
      by_cases hs : smallI j = true
      · have h' : RPost L wd E _ (if smallI j = true then R.ok (D.str (toString j)) s else R.no) := h
        rw [if_pos hs] at h'
        exact .inl (.inl ⟨j, rfl, log_of hs, res_now k (by intro _ q; cases q) (.str _) h'⟩)
      · have h' : RPost L wd E _ (if smallI j = true then R.ok (D.str (toString j)) s else R.no) := h
        rw [if_neg hs] at h'
        exact False.elim h'
    | str t =>
      have := i.str
      subst this
      exact .inl (.inr ⟨t, rfl, res_now k (by intro _ q; cases q) (.str _) h⟩)
    | _ => exact False.elim h
end
end Bd
namespace Bd
open PySem PySem.Spec PyProof.Rows L2
theorem reads_append {h : Heap} {us : List Value} {ps : List PyData} {as : List Addr} (r : ReadsAll h us ps as) : us.length = ps.length := by
  induction us generalizing ps as with
  | nil => cases r; rfl
  | cons u us ih =>
    cases r with
    | cons a b => simp [ih b]
/-- a key is read -/
theorem key_reads {h : Heap} {k : Key} {v : Value} (e : keyIs k v = true) : Reads h v (keyPy k) [] := by
  rcases keyIs_shape e with ⟨i, t, rfl, rfl⟩ | ⟨x, t, rfl, rfl⟩
  · exact .int _ _
  · exact .str _ _
theorem keys_reads {P : Program} {w : World} {h : Heap} : ∀ {es : List DictEntry} {kvs : List (Key × Value)}, Pairs (mixKind P w) es kvs → ReadsAll h (es.map (·.key)) (kvs.map fun p => keyPy p.1) [] ∧ es.map (·.val) = kvs.map (·.2)
  | _, _, .nil => ⟨.nil, rfl⟩
  | _, _, .cons a b c => by
    obtain ⟨h1, h2⟩ := keys_reads (h := h) c
    refine ⟨ReadsAll.cons (as := []) (key_reads a) h1, ?_⟩
    simp [b, h2]
theorem kv_fst {κ : Type} : ∀ {kvs : List (κ × V)} {vs : List (κ × Value)}, KV kvs vs → kvs.map (·.1) = vs.map (·.1) ∧ Vals (kvs.map (·.2)) (vs.map (·.2))
  | _, _, .nil => ⟨rfl, .nil⟩
  | _, _, .cons a b => by
    obtain ⟨h1, h2⟩ := kv_fst b
    refine ⟨?_, .cons a.2 h2⟩
    simp [a.1, h1]
theorem zip_fst {A B : Type} : ∀ {l : List A} {m : List B}, l.length = m.length → (l.zip m).map (·.1) = l
  | [], [], _ => rfl
  | a :: l, b :: m, h => by
    have h2 : l.length = m.length := Nat.succ.inj h
    simp [zip_fst h2]
theorem zip_snd {A B : Type} : ∀ {l : List A} {m : List B}, l.length = m.length → (l.zip m).map (·.2) = m
  | [], [], _ => rfl
  | a :: l, b :: m, h => by
    have h2 : l.length = m.length := Nat.succ.inj h
    simp [zip_snd h2]
theorem toPzs_len : ∀ {ds : List D} {ps : List PyData}, toPzs ds = some ps → ds.length = ps.length
  | [], _, e => by cases e; rfl
  | d :: ds, ps, e => by
    unfold toPzs at e
    cases q1 : toPz d with
    | none => rw [q1] at e; cases e
    | some p =>
      rw [q1] at e
      cases q2 : toPzs ds with
      | none => rw [q2] at e; cases e
      | some ps2 =>
        rw [q2] at e
        cases e
        simp [toPzs_len q2]
section
variable {L : Lay} {P : Program} {w : World} {F H : Hp} {h : Heap} {mu : List Addr}
mutual
theorem Is.reads (k : Same F H) (ok : HOk P w H h) : ∀ (d : D) (v : V) (u : Value) (p : PyData), Is L F mu v d → RelV v u → toPz d = some p → ∃ as, Reads h u p as ∧ ∀ a ∈ as, H a ≠ none
  | .non, _, u, _, .non, r, e => by cases e; cases r; exact ⟨[], .none, by simp⟩
  | .bl b, _, u, _, .bl _, r, e => by cases e; cases r; exact ⟨[], .bool _, by simp⟩
  | .int i, _, u, _, .int _, r, e => by cases e; obtain ⟨t, rfl⟩ := r; exact ⟨[], .int _ _, by simp⟩
  | .str x, _, u, _, .str _, r, e => by cases e; obtain ⟨t, rfl⟩ := r; exact ⟨[], .str _ _, by simp⟩
  | .tup xs, _, u, p, .tup h1 h2, r, e => by
    unfold toPz at e
    cases q : toPzs xs with
    | none => rw [q] at e; cases e
    | some ps =>
      rw [q] at e
      cases e
      cases r
      obtain ⟨o9, h9, _⟩ := h1
      obtain ⟨_, _, its, rv, o, ho, hc, n, hd⟩ := ok _ _ (k _ _ h9)
      obtain ⟨as, r1, r2⟩ := IsAll.reads k ok xs _ its ps h2 rv q
      exact ⟨as, .tuple ho hc hd r1, r2⟩
  | .lst xs, _, u, p, .lst h1 h2, r, e => by
    unfold toPz at e
    cases q : toPzs xs with
    | none => rw [q] at e; cases e
    | some ps =>
      rw [q] at e
      cases e
      cases r
      obtain ⟨_, its, n, rv, ho⟩ := ok _ _ (k _ _ h1)
      obtain ⟨as, r1, r2⟩ := IsAll.reads k ok xs _ its ps h2 rv q
      refine ⟨_, .list ho rfl rfl r1, fun b hb => ?_⟩
      rcases List.mem_cons.mp hb with rfl | hb
      · rw [k _ _ h1]
        exact fun z => nomatch z
      · exact r2 b hb
  | .dct ks xs, _, u, p, .dct (kvs := kvs) h1 h3 h2, r, e => by
    unfold toPz at e
    cases q : toPzs xs with
    | none => rw [q] at e; cases e
    | some ps =>
      rw [q] at e
      cases e
      cases r
      obtain ⟨_, _, vs, rkv, o, es, ep, ho, hx, hd, _, hp, _⟩ := ok _ _ (k _ _ h1)
      obtain ⟨f1, f2⟩ := kv_fst rkv
      obtain ⟨g1, g2⟩ := keys_reads (h := h) hp
      obtain ⟨as, r1, r2⟩ := IsAll.reads k ok xs _ _ ps h2 f2 q
      have hl : (ks.map keyPy).length = ps.length := by
        rw [List.length_map, ← h3, ← toPzs_len q, ← h2.length, List.length_map, List.length_map]
      refine ⟨_, .dict ho hx.1 hd (kvs := (ks.map keyPy).zip ps) (as := []) (bs := as) ?_ ?_, fun b hb => ?_⟩
      · rw [zip_fst hl, ← h3, f1, List.map_map]
        exact g1
      · rw [zip_snd hl, g2]
        exact r1
      · rw [List.mem_append] at hb
        rcases hb with hb | hb
        · have := List.mem_singleton.mp hb
          subst this
          rw [k _ _ h1]
          exact fun z => nomatch z
        · exact r2 b hb
  | .obj _ _ _, _, _, _, _, _, e => by cases e
  | .exn _ _, _, _, _, _, _, e => by cases e
  | .loc _, _, _, _, _, _, e => by cases e
  | .scr _, _, _, _, _, _, e => by cases e
theorem IsAll.reads (k : Same F H) (ok : HOk P w H h) : ∀ (ds : List D) (vs : List V) (us : List Value) (ps : List PyData), IsAll L F mu vs ds → Vals vs us → toPzs ds = some ps → ∃ as, ReadsAll h us ps as ∧ ∀ a ∈ as, H a ≠ none
  | [], _, _, _, .nil, r, e => by cases e; cases r; exact ⟨[], .nil, by simp⟩
  | d :: ds, _, us, ps, .cons h1 t, r, e => by
    unfold toPzs at e
    cases q1 : toPz d with
    | none => rw [q1] at e; cases e
    | some p =>
      rw [q1] at e
      cases q2 : toPzs ds with
      | none => rw [q2] at e; cases e
      | some ps2 =>
        rw [q2] at e
        cases e
        cases r with
        | cons ra rb =>
          obtain ⟨as, r1, r2⟩ := Is.reads k ok d _ _ p h1 ra q1
          obtain ⟨bs, r3, r4⟩ := IsAll.reads k ok ds _ _ ps2 t rb q2
          exact ⟨as ++ bs, .cons r1 r3, fun b hb => (List.mem_append.mp hb).elim (r2 b) (r4 b)⟩
end
theorem IsB.reads {wd : Wd} {s : Sto} {v : V} {u : Value} {d : D} {p : PyData} (k : WdOk L wd s) (ok : HOk P w wd.H h) (i : IsB L wd v d) (r : RelV v u) (e : toPz d = some p) : ∃ as, Reads h u p as ∧ ∀ a ∈ as, wd.H a ≠ none := by
  rcases i with i | ⟨a, vs, xs, rfl, rfl, h1, h2, _⟩
  · exact i.reads k.sub ok d v u p r e
  · unfold toPz at e
    cases q : toPzs xs with
    | none => rw [q] at e; cases e
    | some ps =>
      rw [q] at e
      cases e
      cases r
      obtain ⟨_, its, n, rv, ho⟩ := ok _ _ h1
      obtain ⟨as, r1, r2⟩ := IsAll.reads k.sub ok xs _ its ps h2 rv q
      refine ⟨_, .list ho rfl rfl r1, fun b hb => ?_⟩
      rcases List.mem_cons.mp hb with rfl | hb
      · rw [h1]
        exact fun z => nomatch z
      · exact r2 b hb
end
section
variable {G : Gn} {c : Ct} {T : Tb} {n : Nat} {L : Lay} {X : Cx}
theorem reprD_some {d : D} {x : Str} (h : reprD d = some x) : ∃ p, toPz d = some p ∧ p.showable = true ∧ p.depth ≤ 60 ∧ p.shown.length ≤ sizeLine ∧ x = p.shown := by
  unfold reprD at h
  cases q : toPz d with
  | none => rw [q] at h; cases h
  | some p =>
    rw [q] at h
    obtain ⟨h1, h2⟩ := ite_some (show (if (p.showable && Nat.ble p.depth 60 && small p.shown.length) = true then some p.shown else none) = some x from h)
    rw [Bool.and_eq_true, Bool.and_eq_true] at h1
    exact ⟨p, rfl, h1.1.1, Nat.le_of_ble_eq_true h1.1.2, small_le h1.2, h2.symm⟩
theorem bi_repr (gd : Gd G T n L c X) : BiOk T n L X (.builtin "repr") .repr 1 := by
  refine ⟨fun vs H Q => ∃ v d wd s x, vs = [v] ∧ H = wd.H ∧ WdOk L wd s ∧ IsB L wd v d ∧ reprD d = some x ∧ Q (.str x) H, fun pins s st H vs us Q I r h => ?_, fun wd s vs ds Q E k hl hp h => ?_⟩
  · obtain ⟨v, d, wd, sto, x, rfl, rfl, k, i, e, q⟩ := h
    obtain ⟨u, rfl, ru⟩ := vals1 r
    obtain ⟨p, e1, e2, e3, e4, rfl⟩ := reprD_some e
    obtain ⟨as, r1, r2⟩ := i.reads k I.hok ru e1
    have hun := gd.un
    have big : ∀ a, u = .ref a → wpAny (model X.prog X.w) X.A (call (.builtin "repr") [u]) (EP X pins st Q) X.xe s := fun a ea => by
      subst ea
      refine repr_of_reads' r1 e2 (fun _ hm => ?_) gd.gu (by omega) (fun _ _ z => z) (fun h' u' tk hk => ⟨.str _, wd.H, I.kept hk, ⟨_, rfl⟩, q⟩) e4
      have hs := gd.sysm
      cases hl : X.K.lookup sysModules with
      | none => rw [hl] at hs; cases hs
      | some o => exact r2 _ hm ((I.bs _ o (I.ok.mod.kin _ o hl)).2)
    cases r1 with
    | none => exact PySem.P.repr_of_none ⟨.str _, wd.H, I.tok _, ⟨_, rfl⟩, q⟩
    | bool b => exact PySem.P.repr_of_bool ⟨.str _, wd.H, I.tok _, ⟨_, rfl⟩, q⟩
    | int i t => exact PySem.P.repr_of_int (by simpa [PyData.showable] using e2) ⟨.str _, wd.H, I.tok _, ⟨_, rfl⟩, q⟩
    | str x t => exact PySem.P.repr_of_str ⟨.str _, wd.H, I.tok _, ⟨_, rfl⟩, q⟩ e4
    | list _ _ _ _ => exact big _ rfl
    | tuple _ _ _ _ => exact big _ rfl
    | dict _ _ _ _ _ => exact big _ rfl
  · obtain ⟨v, d, rfl, rfl, i⟩ := pr1 hl hp
    obtain ⟨x, e, h2⟩ := RPost.opt k (show RPost L wd E _ ((optR (reprD d) s).bind _) from h).bind
    exact ⟨v, d, wd, s, x, rfl, rfl, k, i, e, res_now k (by intro _ q; cases q) (.str _) h2⟩
/-- arguments that are read at once -/
def BSnd (G : Gn) (c : Ct) (es : List PySem.Expr) (xs : List E) : Prop := es.all noStar = true ∧ es.length = xs.length ∧ ∀ (T : Tb) (n : Nat) (L : Lay) (X : Cx), Gd G T n L c X → ∀ W : WX, Takes X W → ∃ ta, PA X es ta ∧
  ∀ g s wd0 wd st Q, WdOk L wd s → Slots L wd0 wd st g → RPost L wd (WE W st) (fun ds _ wd' => ∀ vs, Paired (IsB L wd') vs ds → Q vs wd'.H) (evOs T (callsAt T n) xs g s) → ta st wd.H Q
theorem b_nil : BSnd G c [] [] := ⟨rfl, rfl, fun T n L X gd W tk => ⟨_, pa_nil, fun g s wd0 wd st Q k sl r => by
  unfold evOs at r
  exact r.now k [] .nil⟩⟩
theorem b_cons {e : PySem.Expr} {x : E} {es : List PySem.Expr} {xs : List E} (h : OSnd G c e x) (hs : noStar e = true) (t : BSnd G c es xs) : BSnd G c (e :: es) (x :: xs) := by
  refine ⟨by rw [List.all_cons, hs, t.1] <;> rfl, by rw [List.length_cons, List.length_cons, t.2.1], fun T n L X gd W tk => ?_⟩
  obtain ⟨te, p1, q1⟩ := h T n L X gd W tk
  obtain ⟨ta, p2, q2⟩ := t.2.2 T n L X gd W tk
  refine ⟨_, pa_cons p1 p2 (star_cons hs), fun g s wd0 wd st Q k sl r => ?_⟩
  unfold evOs at r
  refine q1 g s wd0 wd st _ k sl (r.bind.mono fun d s1 wd1 x1 k1 r1 v i => ?_)
  refine q2 g s1 wd0 wd1 st _ k1 (sl.ext x1) (r1.bind.mono fun ds s2 wd2 x2 k2 r2 vs is => ?_)
  exact r2.now k2 _ (.cons (i.ext x2) is)
theorem evOs_len {T : Tb} {C : Calls} : ∀ {xs : List E} {g : En} {s s' : Sto} {ds : List D}, evOs T C xs g s = .ok ds s' → ds.length = xs.length
  | [], g, s, s', ds, h => by
    unfold evOs at h
    cases h
    rfl
  | x :: xs, g, s, s', ds, h => by
    unfold evOs at h
    cases q : evB (evE T C x g s) x g s with
    | ok d s1 =>
      rw [q] at h
      simp only [R.bind] at h
      cases q2 : evOs T C xs g s1 with
      | ok ds2 s2 =>
        rw [q2] at h
        simp only at h
        cases h
        rw [List.length_cons, List.length_cons, evOs_len q2]
      | ex c ys s2 => rw [q2] at h; cases h
      | no => rw [q2] at h; cases h
    | ex c ys s2 => rw [q] at h; cases h
    | no => rw [q] at h; cases h
/-- the built-ins by their names -/
def biTab : List (Str × Bi × Value × Nat) :=
  [("len", .len, .builtin "len", 1), ("abs", .abs, .builtin "abs", 1), ("min", .min, .builtin "min", 2), ("max", .max, .builtin "max", 2), ("sum", .sum, .builtin "sum", 1), ("all", .all, .builtin "all", 1), ("any", .any, .builtin "any", 1),
   ("int", .int, .type "int", 1), ("str", .str, .type "str", 1), ("repr", .repr, .builtin "repr", 1), ("tuple", .tuple, .type "tuple", 1), ("list", .list, .type "list", 1), ("sorted", .sorted, .builtin "sorted", 1)]
/-- of one list -/
def biTab1 : List (Str × Bi × Value × Nat) := [("min", .min, .builtin "min", 1), ("max", .max, .builtin "max", 1)]
def biTab3 : List (Str × Bi × Value × Nat) := [("max", .max, .builtin "max", 3)]
def biOf (x : Str) (k : Nat) : Option (Bi × Value × Nat) := if k = 3 then biTab3.lookup x else if k = 1 then (match biTab1.lookup x with
  | some r => some r
  | none => biTab.lookup x) else biTab.lookup x
theorem biOf_mem {x : Str} {k : Nat} {r : Bi × Value × Nat} (h : biOf x k = some r) : ((x, r) ∈ biTab ∨ (x, r) ∈ biTab1) ∨ (x, r) ∈ biTab3 := by
  unfold biOf at h
  split at h
  · exact .inr (PySem.mem_of_lookup h)
  refine .inl ?_
  split at h
  · split at h
    · rename_i e
      cases h
      exact .inr (PySem.mem_of_lookup e)
    · exact .inl (PySem.mem_of_lookup h)
  · exact .inl (PySem.mem_of_lookup h)
theorem biTab_ok (gd : Gd G T n L c X) (hc : c.calm = true) : ∀ p ∈ biTab, BiOk T n L X p.2.2.1 p.2.1 p.2.2.2 := by
  unfold biTab
  refine List.forall_mem_cons.mpr ⟨bi_len gd hc, List.forall_mem_cons.mpr ⟨bi_abs, List.forall_mem_cons.mpr ⟨bi_min gd hc, List.forall_mem_cons.mpr ⟨bi_max gd hc, List.forall_mem_cons.mpr ⟨bi_sum gd hc, List.forall_mem_cons.mpr ⟨bi_all gd hc, List.forall_mem_cons.mpr ⟨bi_any gd hc, ?_⟩⟩⟩⟩⟩⟩⟩
  refine List.forall_mem_cons.mpr ⟨bi_int, List.forall_mem_cons.mpr ⟨bi_str gd hc, List.forall_mem_cons.mpr ⟨bi_repr gd, List.forall_mem_cons.mpr ⟨bi_tuple gd, List.forall_mem_cons.mpr ⟨bi_list gd, List.forall_mem_cons.mpr ⟨bi_sorted gd, fun p hp => nomatch hp⟩⟩⟩⟩⟩⟩
def isFun : Value → Bool
  | .builtin _ => true
  | .type _ => true
  | _ => false
theorem biTab1_ok (gd : Gd G T n L c X) (hc : c.calm = true) : ∀ p ∈ biTab1, BiOk T n L X p.2.2.1 p.2.1 p.2.2.2 := by
  unfold biTab1
  exact List.forall_mem_cons.mpr ⟨bi_min1 gd hc, List.forall_mem_cons.mpr ⟨bi_max1 gd hc, fun p hp => nomatch hp⟩⟩
theorem biTab3_ok (gd : Gd G T n L c X) (hc : c.calm = true) : ∀ p ∈ biTab3, BiOk T n L X p.2.2.1 p.2.1 p.2.2.2 := by
  unfold biTab3
  exact List.forall_mem_cons.mpr ⟨bi_max3 gd hc, fun p hp => nomatch hp⟩
theorem biTab_boot : (((biTab ++ biTab1) ++ biTab3).all fun p => decide (bootBuiltins p.1 = some p.2.2.1) && decide (p.1 ≠ "__name__") && !(p.1 == ("__debug__" : Str)) && isFun p.2.2.1) = true := by decide +kernel
theorem biOf_ok {x : Str} {k : Nat} {b : Bi} {f : Value} {m : Nat} (h : biOf x k = some (b, f, m)) (gd : Gd G T n L c X) (hc : c.calm = true) : BiOk T n L X f b m ∧ bootBuiltins x = some f ∧ x ≠ "__name__" ∧ (x == ("__debug__" : Str)) = false := by
  have hm := biOf_mem h
  have h2 := List.all_eq_true.mp biTab_boot _ (List.mem_append.mpr (hm.imp_left List.mem_append.mpr))
  simp only [Bool.and_eq_true, decide_eq_true_eq, Bool.not_eq_true'] at h2
  refine ⟨?_, h2.1.1.1, h2.1.1.2, h2.1.2⟩
  rcases hm with (hm | hm) | hm
  · exact biTab_ok gd hc _ hm
  · exact biTab1_ok gd hc _ hm
  · exact biTab3_ok gd hc _ hm
theorem biOf_fun {x : Str} {k : Nat} {b : Bi} {f : Value} {m : Nat} (h : biOf x k = some (b, f, m)) : (∃ i, f = .builtin i) ∨ ∃ i, f = .type i := by
  have hm := biOf_mem h
  have h2 := List.all_eq_true.mp biTab_boot _ (List.mem_append.mpr (hm.imp_left List.mem_append.mpr))
  simp only [Bool.and_eq_true] at h2
  have h3 := h2.2
  cases f <;> first | exact .inl ⟨_, rfl⟩ | exact .inr ⟨_, rfl⟩ | cases h3
theorem s_bi {nm : Str} {kk : Nat} {p pos : Pos} {b : Bi} {f : Value} {m : Nat} {e : PySem.Expr} {es : List PySem.Expr} {xs : List E} (hc : c.calm = true) (hb : biOf nm kk = some (b, f, m)) (hg : globB c.sc nm = true) (hf : nm ∈ G.fre) (ha : BSnd G c (e :: es) xs) (hl : xs.length = m) :
    GSnd G c (.Call (.Name nm p) (e :: es) [] pos) (.bi b xs) := fun T n L X gd W tk => by
  obtain ⟨ta, p1, q1⟩ := ha.2.2 T n L X gd W tk
  obtain ⟨⟨r0, c1, c2⟩, h1, h2, h3⟩ := biOf_ok hb gd hc
  have hst := ha.1
  rw [List.all_cons, Bool.and_eq_true] at hst
  have fin : ∀ g s wd0 wd st Q, WdOk L wd s → Slots L wd0 wd st g → RPost L wd (WE W st) (fun d s' wd' => Res L wd' s' d Q) (evE T (callsAt T n) (.bi b xs) g s) → tCB r0 ta st wd.H Q := fun g s wd0 wd st Q k sl r => by
    unfold evE at r
    refine q1 g s wd0 wd st _ k sl ?_
    cases e1 : evOs T (callsAt T n) xs g s with
    | ok ds s1 =>
      rw [e1] at r
      intro wd1 x1 k1 vs is
      exact c2 wd1 s1 vs ds Q (WE W st) k1 (by rw [evOs_len e1]; exact hl) is (RPost.shift x1 r)
    | ex c ys s1 => rw [e1] at r; exact r
    | no => rw [e1] at r; exact r
  rcases biOf_fun hb with ⟨i, rfl⟩ | ⟨i, rfl⟩
  · exact ⟨_, pe_callB c1 (glob_of gd hg) (gd.fre nm hf) h1 p1 h2 h3 (star_cons hst.1) (star_any hst.2), fin⟩
  · exact ⟨_, pe_callTy c1 (glob_of gd hg) (gd.fre nm hf) h1 p1 h2 h3 (star_cons hst.1) (star_any hst.2), fin⟩
end
end Bd
namespace HT
open PySem PySem.Spec PyProof.Rows
section
variable {prog : Program} {w : World} {A : Around} {E : Value → Shared → Prop} {s : Shared}
theorem bd_adjust (n : Nat) : Builtin.Slice.sliceAdjust none none (-1) (n : Int) = ((n : Int) - 1, -1) := by
  unfold Builtin.Slice.sliceAdjust
  have h1 : ((-1 : Int) < 0) := by omega
  simp only [h1, if_true]
theorem bd_places (n : Nat) : Builtin.Slice.slicePlaces ((n : Int) - 1) (-1) (-1) = n := by
  unfold Builtin.Slice.slicePlaces
  have h1 : ¬ ((-1 : Int) > 0) := by omega
  simp only [h1, if_false]
  have e : ∀ z : Int, z / (- -1 : Int) = z := fun z => by
    rw [show (- -1 : Int) = 1 by decide, Int.ediv_one]
  rw [e]
  split <;> omega
theorem bd_applied {sl : Addr} {vs : Value} {n : Nat} {Q : Int × Int × Nat → Shared → Prop} (hs : s.heap.IsSliceOf sl .none .none vs) (ps : IsPart vs (some (-1)))
    (h : Q ((n : Int) - 1, -1, n) s) : wpAny (model prog w) A (Builtin.Slice.sliceApplied (.ref sl) (pure (n : Int))) Q E s := by
  obtain ⟨os, hos, hcs, hds⟩ := id hs
  unfold Builtin.Slice.sliceApplied Builtin.Slice.sliceFields
  refine wpAny_bind (wpAny_bind (wpAny_field hos hds (x := .none) rfl (wpAny_bind (wpAny_field hos hds (x := .none) rfl (wpAny_bind (wpAny_field hos hds (x := vs) rfl (wpAny_pure ?_)))))))
  refine wpAny_bind (slicePart_ ps ?_)
  show wpAny _ _ (if ((-1 : Int) == 0) = true then _ else _) _ _ s
  rw [if_neg (by decide)]
  refine wpAny_bind (slicePart_ .none (wpAny_bind (slicePart_ .none (wpAny_bind (wpAny_pure ?_)))))
  show wpAny _ _ (match Builtin.Slice.sliceAdjust none none (-1) (n : Int) with | (lo, hi) => pure (lo, (-1 : Int), Builtin.Slice.slicePlaces lo hi (-1))) _ _ s
  rw [bd_adjust n]
  show wpAny _ _ (pure ((n : Int) - 1, (-1 : Int), Builtin.Slice.slicePlaces ((n : Int) - 1) (-1) (-1))) _ _ s
  rw [bd_places]
  exact wpAny_pure h
theorem bd_pick (xs : Array Value) : ((List.range xs.size).filterMap fun (m : Nat) => xs[(((xs.size : Nat) : Int) - 1 + (m : Int) * (-1)).toNat]?).toArray = xs.toList.reverse.toArray := by
  have e : (fun (m : Nat) => xs[(((xs.size : Nat) : Int) - 1 + (m : Int) * (-1)).toNat]?) = fun m => xs[xs.size - 1 - m]? := by
    funext m
    have : (((xs.size : Nat) : Int) - 1 + (m : Int) * (-1)).toNat = xs.size - 1 - m := by omega
    rw [this]
  rw [e]
  have h := PySem.W.krv_range xs.size
  have h2 := PySem.W.krv_all xs
  have e2 : (List.range xs.size).filterMap (fun m => xs[xs.size - 1 - m]?) = ((List.range xs.size).map fun k => xs.size - 1 - k).filterMap (xs[·]?) := by
    rw [List.filterMap_map]
    rfl
  rw [e2, h, List.filterMap_reverse, h2]
theorem bd_rev {t sl : Addr} {items : Array Value} {vs : Value} {Q : Value → Shared → Prop} (ht : IsTup s.heap t items) (hs : s.heap.IsSliceOf sl .none .none vs) (ps : IsPart vs (some (-1)))
    (h : Q (.ref s.heap.objs.size) { s with heap := s.heap.push { cls := .type "tuple", data := .seq items.toList.reverse.toArray } })
    (hsz : items.size ≤ sizeLine) : wpAny (model prog w) A (getItem (.ref t) (.ref sl)) Q E s := by
  have htake : sizeOk (.seq items.toList.reverse.toArray) := by
    show items.toList.reverse.toArray.size ≤ sizeLine
    rw [List.size_toArray, List.length_reverse, Array.length_toList]
    exact hsz
  obtain ⟨os, hos, hcs, hds⟩ := id hs
  have hTs : s.TypeIs (.ref sl) "slice" := ⟨os, hos, hcs⟩
  unfold getItem
  try with_reducible refine wpAny_holding ?_
  first | refine wpAny_bind (wpAny_pure ?_) | skip
  refine wpAny_bind (wpAny_sequenceKey ht.typeIs (by decide) ?_)
  refine wpAny_bind (wpAny_callSpecial?_slot (name := Str.ofString "__getitem__") ht.typeIs PyProof.Rows.slot_tuple_getitem
    (wpAny_call_entry PyProof.Rows.slot_tuple_getitem ht.typeIs entry_tuple_getitem ?_ (args_tuple_getitem _ _)))
  show wpAny _ _ (Builtin.Tuple.tupleItemsOf (.ref t) >>= _) _ _ s
  refine wpAny_bind (tupleItemsOf_ ht ?_)
  refine wpAny_bind (wpAny_typeOf hTs ?_)
  rw [if_pos (by decide)]
  refine wpAny_bind (bd_applied hs ps ?_)
  have hno : ¬ ((((items.size : Nat) : Int) - 1 == 0 && (-1 : Int) == 1 && items.size == items.size) = true) := by
    intro q
    rw [Bool.and_eq_true, Bool.and_eq_true] at q
    exact absurd q.1.2 (by decide)
  show wpAny _ _ (if (((items.size : Nat) : Int) - 1 == 0 && (-1 : Int) == 1 && items.size == items.size) = true then _ else _) _ _ s
  rw [if_neg hno, bd_pick]
  first
    | exact wpAny_bind (m := Builtin.Tuple.tupleExact _) (wpAny_newObj_type (wpAny_pure ⟨_, rfl, wpAny_pure h⟩) htake)
    | exact wpAny_bind (m := Builtin.Tuple.tupleExact _) (wpAny_newObj_type (wpAny_bind (wpAny_pure (wpAny_pure ⟨_, rfl, wpAny_pure h⟩))) htake)
    | exact wpAny_bind (wpAny_bind (m := Builtin.Tuple.tupleExact _) (wpAny_newObj_type (wpAny_pure (wpAny_pure ⟨_, rfl, wpAny_pure h⟩)) htake))
    | exact wpAny_bind (wpAny_bind (m := Builtin.Tuple.tupleExact _) (wpAny_newObj_type (wpAny_pure ⟨_, rfl, wpAny_pure h⟩) htake))
end
end HT
namespace Bd
open PySem PySem.Spec PyProof.Rows L2
/-- x[::-1], a tuple -/
def tRevT (K : PySem.W.Frag) (te : TE) : TE := fun st H Q => te st H fun x H1 => ∃ a xs, x = .ref a ∧ SqT K H1 a xs ∧ NewT H1 xs.reverse Q
theorem pe_revT {X : Cx} {e : PySem.Expr} {te : TE} {k : Nat} {p1 p2 p3 pos : Pos} (he : PE X e te) : PE X (.Subscript e (.Slice none none (some (.UnaryOp .USub (.Constant (.int 1) k p1) p2)) p3) pos) (tRevT X.K te) := by
  refine ⟨fun pins s st H Q I h => ?_⟩
  refine Subscript_ (thn (he.run pins s st H _ I h) fun v s1 ⟨x, H1, I1, r1, q1⟩ => ?_)
  obtain ⟨a, xs, ex, hx, q⟩ := q1
  subst ex
  cases r1
  have hst : PO X (some (.UnaryOp .USub (.Constant (.int 1) k p1) p2)) (tPart (tUn (rU fun i => .int (-i)) (tC (.int 1)))) := po_some (pe_un un_neg pe_int)
  refine wpAny_Slice (thn (po_none.run pins s1 st H1 (fun o H2 => o = none ∧ H2 = H1) I1 ⟨rfl, rfl⟩) fun vl s2 ⟨l, H2, I2, pl, el, e2⟩ => ?_)
  subst el e2
  refine thn (po_none.run pins s2 st H2 (fun o H3 => o = none ∧ H3 = H2) I2 ⟨rfl, rfl⟩) fun vu s3 ⟨u, H3, I3, pu, eu, e3⟩ => ?_
  subst eu e3
  refine thn (hst.run pins s3 st H3 (fun o H4 => o = some (-1) ∧ H4 = H3) I3 ⟨1, rfl, -1, rfl, rfl, rfl⟩) fun vs s4 ⟨o, H4, I4, ps, eo, e4⟩ => ?_
  subst eo e4
  cases pl
  cases pu
  have I5 : Inv X pins st H4 { s4 with heap := s4.heap.push { cls := .type "slice", data := .fields #[.none, .none, vs] } } := I4.kept (t' := s4.toks) fun b ob q => Heap.get?_push_of_some _ q
  obtain ⟨its, r, ht, hz⟩ := I5.tuple hx
  have hlen := r.length
  show wpAny (model X.prog X.w) X.A (subscriptTail e (.Slice none none (some (.UnaryOp .USub (.Constant (.int 1) k p1) p2)) p3) (.ref a) (.ref s4.heap.objs.size)) (EP X pins st Q) X.xe { s4 with heap := s4.heap.push { cls := .type "slice", data := .fields #[.none, .none, vs] } }
  refine PyProof.Rows.tail_any (ops := [.ref a, .ref s4.heap.objs.size]) ht.typeIs PyProof.Rows.slot_tuple_getitem.lookup ?_ (by with_unfolding_all rfl)
  refine HT.bd_rev ht (Heap.IsSliceOf.new _ .none .none vs) ps ?_ (by rw [List.size_toArray]; omega)
  exact laidT I5 r.reverse (by rw [List.length_reverse]; exact hz) q
section
variable {G : Gn} {c : Ct} {a : PySem.Expr} {x : E}
theorem s_rev {k : Nat} {p1 p2 p3 pos : Pos} (ha : OSnd G c a x) : GSnd G c (.Subscript a (.Slice none none (some (.UnaryOp .USub (.Constant (.int 1) k p1) p2)) p3) pos) (.rev x) := fun T n L X gd W tk => by
  obtain ⟨ta, h1, q1⟩ := ha T n L X gd W tk
  refine ⟨_, pe_alt (pe_revL h1) (pe_revT h1), fun g s wd0 wd st Q k sl r => ?_⟩
  unfold evE at r
  have hr := r
  cases e0 : evB (evE T (callsAt T n) x g s) x g s with
  | no => rw [e0] at r; exact False.elim r
  | ex k xs s1 =>
    rw [e0] at hr
    refine .inl (q1 g s wd0 wd st _ (by assumption) sl ?_)
    rw [e0]
    exact hr
  | ok d s1 =>
    rw [e0] at hr
    cases d with
    | tup ys =>
      refine .inr (q1 g s wd0 wd st _ (by assumption) sl ?_)
      rw [e0]
      intro wd1 x1 k1 v i
      obtain ⟨q0, vs, rfl, h2, h3⟩ := i.tup k1
      exact ⟨q0, vs, rfl, h2.sq, fun p o hp ho => Res.tup k1 h3.reverse hp ho (hr wd1 x1 k1)⟩
    | lst ys =>
      refine .inl (q1 g s wd0 wd st _ (by assumption) sl ?_)
      rw [e0]
      intro wd1 x1 k1 v i
      obtain ⟨q0, vs, rfl, h2, h3⟩ := i.lst k1
      exact ⟨q0, vs, rfl, SqL.of h2, fun p hp => Res.nl h3.reverse hp (hr wd1 x1 k1)⟩
    | _ => exact False.elim hr
end
structure Fresh (wd0 wd : Wd) (p : Addr) : Prop where
  new : wd0.H p = none
  nF : wd.F p = none
  nM : ∀ n : Nat, wd.mu[n]? ≠ some p
theorem Own.fresh {L : Lay} {wd0 wd : Wd} {a : Addr} {d : D} (h : Own L wd0 wd a d) : Fresh wd0 wd a := ⟨h.new, h.nF, h.nM⟩
section
variable {L : Lay} {wd0 wd : Wd} {s : Sto} {p : Addr} {o : HO}
theorem Fresh.write (f : Fresh wd0 wd p) (x : Ext wd0 wd) : Ext wd0 ⟨wd.F, wd.mu, upd wd.H p o⟩ := by
  refine ⟨x.fle, x.mle, x.newF, x.newM, fun a u e n => ?_, fun a e => ?_⟩
  · show upd wd.H p o a = some u
    rw [upd_ne (ne_of_none e f.new)]
    exact x.kept a u e n
  · have e2 : upd wd.H p o a = none := e
    by_cases q : a = p
    · subst q
      rw [upd_same] at e2
      cases e2
    · rw [upd_ne q] at e2
      exact x.dom a e2
theorem Fresh.writeOk (f : Fresh wd0 wd p) (k : WdOk L wd s) : WdOk L ⟨wd.F, wd.mu, upd wd.H p o⟩ s := by
  refine ⟨fun a u e => ?_, k.inj, k.apart, k.len, fun n m e => ?_⟩
  · show upd wd.H p o a = some u
    have : a ≠ p := fun z => by rw [z, f.nF] at e; cases e
    rw [upd_ne this]
    exact k.sub a u e
  · obtain ⟨a, e1, r⟩ := k.sto n m e
    have ne : a ≠ p := fun z => f.nM n (by rw [← z]; exact e1)
    refine ⟨a, e1, ?_⟩
    have eH : upd wd.H p o a = wd.H a := upd_ne ne
    cases m with
    | lst xs => obtain ⟨vs, q, i⟩ := r; exact ⟨vs, eH.trans q, i⟩
    | dct ks xs => obtain ⟨kvs, q, r, i⟩ := r; exact ⟨kvs, eH.trans q, r, i⟩
    | ins c ks xs => obtain ⟨dx, fs, q, r, i⟩ := r; exact ⟨dx, fs, eH.trans q, r, i⟩
theorem Fresh.freeze (f : Fresh wd0 wd p) (x : Ext wd0 wd) (h : wd.H p = some o) : Ext wd0 ⟨upd wd.F p o, wd.mu, wd.H⟩ := by
  refine ⟨fun a u e => ?_, x.mle, fun a u e => ?_, x.newM, x.kept, x.dom⟩
  · show upd wd.F p o a = some u
    have e2 := x.fle a u e
    rw [upd_ne (ne_of_none e2 f.nF)]
    exact e2
  · have e2 : upd wd.F p o a = some u := e
    by_cases q : a = p
    · subst q
      exact .inr f.new
    · rw [upd_ne q] at e2
      exact x.newF a u e2
theorem Fresh.freezeOk (f : Fresh wd0 wd p) (k : WdOk L wd s) (h : wd.H p = some o) : WdOk L ⟨upd wd.F p o, wd.mu, wd.H⟩ s := by
  have sm : Same wd.F (upd wd.F p o) := fun a u e => by
    rw [upd_ne (ne_of_none e f.nF)]
    exact e
  refine ⟨fun a u e => ?_, k.inj, fun i a e => ?_, k.len, fun n m e => ?_⟩
  · have e2 : upd wd.F p o a = some u := e
    by_cases q : a = p
    · subst q
      rw [upd_same] at e2
      cases e2
      exact h
    · rw [upd_ne q] at e2
      exact k.sub a u e2
  · show upd wd.F p o a = none
    have : a ≠ p := fun z => f.nM i (by rw [← z]; exact e)
    rw [upd_ne this]
    exact k.apart i a e
  · obtain ⟨a, e1, r⟩ := k.sto n m e
    refine ⟨a, e1, ?_⟩
    cases m with
    | lst xs => obtain ⟨vs, q, i⟩ := r; exact ⟨vs, q, i.mono sm fun _ _ z => z⟩
    | dct ks xs => obtain ⟨kvs, q, r, i⟩ := r; exact ⟨kvs, q, r, i.mono sm fun _ _ z => z⟩
    | ins c ks xs => obtain ⟨dx, fs, q, r, i⟩ := r; exact ⟨dx, fs, q, r, i.mono sm fun _ _ z => z⟩
/-- into the store -/
theorem Fresh.store {m : MO} (f : Fresh wd0 wd p) (x : Ext wd0 wd) (k : WdOk L wd s) (h : wd.H p = some o) (r : MRep L wd p m) : Ext wd0 ⟨wd.F, wd.mu ++ [p], wd.H⟩ ∧ WdOk L ⟨wd.F, wd.mu ++ [p], wd.H⟩ (s ++ [m]) := by
  have mu1 : ∀ (i : Nat) a, wd.mu[i]? = some a → (wd.mu ++ [p])[i]? = some a := fun i a e => by
    have := (List.getElem?_eq_some_iff.mp e).1
    rw [List.getElem?_append_left this]
    exact e
  have mu2 : ∀ (i : Nat) a, (wd.mu ++ [p])[i]? = some a → wd.mu[i]? = some a ∨ (i = wd.mu.length ∧ a = p) := fun i a e => by
    by_cases hi : i < wd.mu.length
    · rw [List.getElem?_append_left hi] at e
      exact .inl e
    · rw [List.getElem?_append_right (by omega)] at e
      refine .inr ?_
      have : i - wd.mu.length < 1 := (List.getElem?_eq_some_iff.mp e).1
      have hi2 : i = wd.mu.length := by omega
      subst hi2
      rw [Nat.sub_self] at e
      exact ⟨rfl, (Option.some.inj e).symm⟩
  have up : ∀ {a : Addr} {m : MO}, MRep L wd a m → MRep L ⟨wd.F, wd.mu ++ [p], wd.H⟩ a m := fun {a m} r => by
    cases m with
    | lst xs => obtain ⟨vs, q, i⟩ := r; exact ⟨vs, q, i.mono (Same.refl _) mu1⟩
    | dct ks xs => obtain ⟨kvs, q, r, i⟩ := r; exact ⟨kvs, q, r, i.mono (Same.refl _) mu1⟩
    | ins c ks xs => obtain ⟨dx, fs, q, r, i⟩ := r; exact ⟨dx, fs, q, r, i.mono (Same.refl _) mu1⟩
  refine ⟨⟨x.fle, fun n a e => mu1 n a (x.mle n a e), x.newF, fun n a e => ?_, x.kept, x.dom⟩, ⟨k.sub, fun i j a e1 e2 => ?_, fun i a e => ?_, ?_, fun n m' e => ?_⟩⟩
  · rcases mu2 n a e with z | ⟨_, rfl⟩
    · exact x.newM n a z
    · exact .inr f.new
  · rcases mu2 i a e1 with z | ⟨z, rfl⟩
    · rcases mu2 j a e2 with z2 | ⟨z2, rfl⟩
      · exact k.inj i j a z z2
      · exact absurd z (f.nM i)
    · rcases mu2 j a e2 with z2 | ⟨z2, _⟩
      · exact absurd z2 (f.nM j)
      · omega
  · rcases mu2 i a e with z | ⟨z, rfl⟩
    · exact k.apart i a z
    · exact f.nF
  · show (wd.mu ++ [p]).length = (s ++ [m]).length
    rw [List.length_append, List.length_append, k.len]
    rfl
  · by_cases hm : n < s.length
    · rw [List.getElem?_append_left hm] at e
      obtain ⟨a, e1, r1⟩ := k.sto n m' e
      exact ⟨a, mu1 n a e1, up r1⟩
    · rw [List.getElem?_append_right (by omega)] at e
      have : n - s.length < 1 := (List.getElem?_eq_some_iff.mp e).1
      have hm2 : n = s.length := by omega
      subst hm2
      rw [Nat.sub_self] at e
      cases Option.some.inj e
      refine ⟨p, ?_, up r⟩
      show (wd.mu ++ [p])[s.length]? = some p
      rw [← k.len]
      simp
/-- a new thing, laid -/
theorem Fresh.of_laid (k : WdOk L wd s) (h : wd.H p = none) : Fresh wd ⟨wd.F, wd.mu, upd wd.H p o⟩ p := ⟨h, k.sub.free h, fun n e => by
  obtain ⟨u, hu⟩ := k.mu_there e
  rw [h] at hu
  cases hu⟩
theorem Fresh.ext {wd1 : Wd} (f : Fresh wd0 wd p) (h : wd.H p = some o) (x : Ext wd wd1) : Fresh wd0 wd1 p ∧ wd1.H p = some o := by
  refine ⟨⟨f.new, ?_, fun n q => ?_⟩, x.kept p o h f.nM⟩
  · cases q : wd1.F p with
    | none => rfl
    | some u =>
      rcases x.newF p u q with z | z
      · rw [f.nF] at z; cases z
      · rw [h] at z; cases z
  · rcases x.newM n p q with z | z
    · exact f.nM n z
    · rw [h] at z; cases z
end
def keyE : Option PySem.Expr → Option Key
  | some (.Constant (.str x) _ _) => some (.inr x)
  | some (.Constant (.int i) _ _) => some (.inl i)
  | _ => none
theorem keyE_ok {e : Option PySem.Expr} {k : Key} (h : keyE e = some k) : ∃ e', e = some e' ∧ ∀ X : Cx, PE X e' (tC (kV k)) := by
  unfold keyE at h
  split at h
  · cases h
    exact ⟨_, rfl, fun X => pe_str⟩
  · cases h
    exact ⟨_, rfl, fun X => pe_int⟩
  · cases h
theorem putK_new : ∀ {kvs : List (Key × V)} {k : Key} {v : V}, (∀ p ∈ kvs, p.1 ≠ k) → L2.putK kvs k v = kvs ++ [(k, v)] := by
  intro kvs k v h
  unfold L2.putK
  have : (kvs.any fun p => decide (p.1 = k)) = false := by
    rw [List.any_eq_false]
    intro p hp
    simpa using h p hp
  simp [this]
theorem merge_nodup : ∀ (more kvs : List (Key × V)), ((kvs ++ more).map (·.1)).Nodup → mergeK kvs more = kvs ++ more
  | [], kvs, _ => by simp [mergeK]
  | p :: r, kvs, h => by
    have h1 : ∀ q ∈ kvs, q.1 ≠ p.1 := fun q hq e => by
      rw [List.map_append, List.map_cons] at h
      have h2 := (List.nodup_append.mp h).2.2 q.1 (List.mem_map_of_mem hq) p.1 List.mem_cons_self
      exact h2 e
    show mergeK (L2.putK kvs p.1 p.2) r = _
    rw [putK_new h1, merge_nodup r (kvs ++ [(p.1, p.2)]) (by simpa using h)]
    simp
section
variable {G : Gn} {c : Ct} {pos : Pos}
/-- the pairs of a display -/
def DSnd (G : Gn) (c : Ct) (keys : List (Option PySem.Expr)) (values : List PySem.Expr) (ks : List Key) (xs : List E) : Prop := keys.all (·.isSome) = true ∧ keys.length = values.length ∧ keys.length = ks.length ∧ ks.length = xs.length ∧
  ∀ (T : Tb) (n : Nat) (L : Lay) (X : Cx), Gd G T n L c X → ∀ W : WX, Takes X W → ∃ trs, (∀ pos, PPs X pos keys values trs) ∧
  ∀ g s wd0 wd st Q, WdOk L wd s → Slots L wd0 wd st g → RPost L wd (WE W st) (AllP L fun vs H => Q ((ks.zip vs).map fun kv => (kV kv.1, kv.2)) H) (evEs T (callsAt T n) xs g s) → tPairs trs st wd.H Q
theorem d_nil : DSnd G c [] [] [] [] := ⟨rfl, rfl, rfl, rfl, fun T n L X gd W tk => ⟨_, fun _ => pps_nil, fun g s wd0 wd st Q k sl r => by
  unfold evEs at r
  exact r.now k [] .nil⟩⟩
theorem d_cons {e : Option PySem.Expr} {v : PySem.Expr} {k0 : Key} {x : E} {keys : List (Option PySem.Expr)} {values : List PySem.Expr} {ks : List Key} {xs : List E} (hk : keyE e = some k0) (h : ESnd G c v x) (t : DSnd G c keys values ks xs) : DSnd G c (e :: keys) (v :: values) (k0 :: ks) (x :: xs) := by
  obtain ⟨t1, t2, t3, t4, t5⟩ := t
  obtain ⟨e', rfl, pk⟩ := keyE_ok hk
  refine ⟨by simpa using t1, by simp [t2], by simp [t3], by simp [t4], fun T n L X gd W tk => ?_⟩
  obtain ⟨te, p1, q1⟩ := h T n L X gd W tk
  obtain ⟨trs, p2, q2⟩ := t5 T n L X gd W tk
  refine ⟨_, fun pos => pps_cons (pk X) p1 (p2 pos), fun g s wd0 wd st Q k sl r => ?_⟩
  unfold evEs at r
  show te st wd.H _
  refine q1 g s wd0 wd st _ k sl (r.bind.mono fun d s1 wd1 x1 k1 r1 v i => ?_)
  refine q2 g s1 wd0 wd1 st _ k1 (sl.ext x1) (r1.bind.mono fun ds s2 wd2 x2 k2 r2 vs is => ?_)
  exact r2.now k2 _ (.cons (i.ext x2) is)
/-- both forms of a display at once: what is wanted of the new dict -/
theorem disp_run {keys : List (Option PySem.Expr)} {values : List PySem.Expr} {ks : List Key} {xs : List E} (h : DSnd G c keys values ks xs) (h15 : Nat.ble ks.length 15 = true) (nd : decide ks.Nodup = true) {T : Tb} {n : Nat} {L : Lay} {X : Cx} (gd : Gd G T n L c X) {W : WX} (tk : Takes X W) :
    ∃ te, PE X (.Dict keys values pos) te ∧ ∀ g s wd0 wd st Q, WdOk L wd s → Slots L wd0 wd st g → RPost L wd (WE W st) (fun ds s' wd' => ∀ wd2 p kvs, Ext wd wd2 → WdOk L wd2 s' → Fresh wd wd2 p → wd2.H p = some (.dK kvs) → kvs.map (·.1) = ks → IsAll L wd2.F wd2.mu (kvs.map (·.2)) ds → Q (.ref p) wd2.H)
      (evEs T (callsAt T n) xs g s) → te st wd.H Q := by
  obtain ⟨t1, t2, t3, t4, t5⟩ := h
  obtain ⟨trs, p2, q2⟩ := t5 T n L X gd W tk
  have hle := Nat.le_of_ble_eq_true h15
  have hnd := of_decide_eq_true nd
  have fin : ∀ g s wd0 wd st Q, WdOk L wd s → Slots L wd0 wd st g → RPost L wd (WE W st) (fun ds s' wd' => ∀ wd2 p kvs, Ext wd wd2 → WdOk L wd2 s' → Fresh wd wd2 p → wd2.H p = some (.dK kvs) → kvs.map (·.1) = ks → IsAll L wd2.F wd2.mu (kvs.map (·.2)) ds → Q (.ref p) wd2.H)
      (evEs T (callsAt T n) xs g s) → tDisp trs st wd.H Q := fun g s wd0 wd st Q k sl r p hp => by
    have x1 := Ext.laid (o := .dK []) k hp
    have f1 : Fresh wd ⟨wd.F, wd.mu, upd wd.H p (.dK [])⟩ p := Fresh.of_laid (o := .dK []) k hp
    refine q2 g s wd0 ⟨wd.F, wd.mu, upd wd.H p (.dK [])⟩ st _ (k.laid hp) (sl.ext x1) ?_
    cases e : evEs T (callsAt T n) xs g s with
    | no => rw [e] at r; exact r
    | ex k0 ys s1 => rw [e] at r; exact fun wd' a y => r wd' a (x1.trans y)
    | ok ds s1 =>
      rw [e] at r
      intro wd2 x2 k2 vs is
      obtain ⟨f2, e2⟩ := f1.ext upd_same x2
      have hl : ks.length = vs.length := by
        rw [is.length, evEs_len e]
        exact t4
      refine ⟨e2, ks.zip vs, rfl, ?_, ?_⟩
      · rw [List.length_zip]
        omega
      · have m1 : mergeK [] (ks.zip vs) = ks.zip vs := by
          rw [merge_nodup _ _ (by rw [List.nil_append, zip_fst hl]; exact hnd)]
          rfl
        rw [m1]
        refine r wd2 (x1.trans x2) k2 ⟨wd2.F, wd2.mu, upd wd2.H p (.dK (ks.zip vs))⟩ p (ks.zip vs) (f2.write (x1.trans x2)) (f2.writeOk k2) ⟨f2.new, f2.nF, f2.nM⟩ upd_same (zip_fst hl) ?_
        rw [zip_snd hl]
        exact is
  cases keys with
  | nil =>
    have hv : values = [] := List.eq_nil_of_length_eq_zero (by rw [← t2]; rfl)
    have hk : ks = [] := List.eq_nil_of_length_eq_zero (by rw [← t3]; rfl)
    have hx : xs = [] := List.eq_nil_of_length_eq_zero (by rw [← t4, hk]; rfl)
    subst hv hk hx
    refine ⟨_, pe_dnewK, fun g s wd0 wd st Q k sl r p hp => ?_⟩
    unfold evEs at r
    exact r wd (Ext.refl _) k ⟨wd.F, wd.mu, upd wd.H p (.dK [])⟩ p [] (Ext.laid k hp) (k.laid hp) (Fresh.of_laid (o := .dK []) k hp) upd_same rfl .nil
  | cons e0 es => exact ⟨_, pe_disp (p2 pos) t1 t2 (by intro z; cases z) (by rw [t3]; exact hle), fin⟩
theorem s_dsp {keys : List (Option PySem.Expr)} {values : List PySem.Expr} {ks : List Key} {xs : List E} (h : DSnd G c keys values ks xs) (h15 : Nat.ble ks.length 15 = true) (nd : decide ks.Nodup = true) : ESnd G c (.Dict keys values pos) (.dsp ks xs) := fun T n L X gd W tk => by
  obtain ⟨te, p1, q1⟩ := disp_run (pos := pos) h h15 nd gd tk
  refine ⟨te, p1, fun g s wd0 wd st Q k sl r => q1 g s wd0 wd st Q k sl ?_⟩
  unfold evE at r
  cases e : evEs T (callsAt T n) xs g s with
  | no => rw [e] at r; exact r
  | ex k0 ys s1 => rw [e] at r; exact r
  | ok ds s1 =>
    rw [e] at r
    intro wd1 _ _ wd2 p kvs x2 k2 f e1 e2 is
    have sm : Same wd2.F (upd wd2.F p (.dK kvs)) := fun a u z => by
      rw [upd_ne (ne_of_none z f.nF)]
      exact z
    exact r ⟨upd wd2.F p (.dK kvs), wd2.mu, wd2.H⟩ (f.freeze x2 e1) (f.freezeOk k2 e1) (.ref p) (.dct upd_same e2 (is.mono sm fun _ _ z => z))
theorem s_dsn {keys : List (Option PySem.Expr)} {values : List PySem.Expr} {ks : List Key} {xs : List E} (h : DSnd G c keys values ks xs) (h15 : Nat.ble ks.length 15 = true) (nd : decide ks.Nodup = true) : ESnd G c (.Dict keys values pos) (.dsn ks xs) := fun T n L X gd W tk => by
  obtain ⟨te, p1, q1⟩ := disp_run (pos := pos) h h15 nd gd tk
  refine ⟨te, p1, fun g s wd0 wd st Q k sl r => q1 g s wd0 wd st Q k sl ?_⟩
  unfold evE at r
  cases e : evEs T (callsAt T n) xs g s with
  | no => rw [e] at r; exact r
  | ex k0 ys s1 => rw [e] at r; exact r
  | ok ds s1 =>
    rw [e] at r
    intro wd1 _ _ wd2 p kvs x2 k2 f e1 e2 is
    obtain ⟨x3, k3⟩ := f.store (m := .dct ks ds) x2 k2 e1 ⟨kvs, e1, e2, is⟩
    refine r ⟨wd2.F, wd2.mu ++ [p], wd2.H⟩ x3 k3 (.ref p) (.loc ?_)
    show (wd2.mu ++ [p])[s1.length]? = some p
    rw [← k2.len]
    simp
theorem s_lsn {es : List PySem.Expr} {xs : List E} (h : ASnd G c es xs) (hl : small xs.length = true) : ESnd G c (.List es pos) (.lsn xs) := fun T n L X gd W tk => by
  obtain ⟨ta, p, q⟩ := h.2.2 T n L X gd W tk
  refine ⟨_, pe_lst p, fun g s wd0 wd st Q k sl r => ?_⟩
  unfold evE at r
  refine q g s wd0 wd st _ k sl ?_
  cases e : evEs T (callsAt T n) xs g s with
  | ok ds s1 =>
    rw [e] at r
    refine fun wd1 x1 k1 vs is => ⟨?_, fun p hp => ?_⟩
    · rw [is.length, evEs_len e]
      exact small_le hl
    · have f : Fresh wd ⟨wd1.F, wd1.mu, upd wd1.H p (.lst vs)⟩ p := by
        have f1 : Fresh wd1 ⟨wd1.F, wd1.mu, upd wd1.H p (.lst vs)⟩ p := Fresh.of_laid (o := .lst vs) k1 hp
        exact ⟨x1.dom p hp, f1.nF, f1.nM⟩
      have x2 : Ext wd ⟨wd1.F, wd1.mu, upd wd1.H p (.lst vs)⟩ := x1.trans (Ext.laid k1 hp)
      obtain ⟨x3, k3⟩ := f.store (m := .lst ds) x2 (k1.laid hp) upd_same ⟨vs, upd_same, is⟩
      refine r ⟨wd1.F, wd1.mu ++ [p], upd wd1.H p (.lst vs)⟩ x3 k3 (.ref p) (.loc ?_)
      show (wd1.mu ++ [p])[s1.length]? = some p
      rw [← k1.len]
      simp
  | ex c ys s1 => rw [e] at r; exact r
  | no => rw [e] at r; exact r
end
end Bd
namespace Bd
theorem evy_range {A : Type} : ∀ ys : List A, (List.range ((ys.length + 1) / 2)).filterMap (fun m => ys[2 * m]?) = evy ys
  | [] => by simp [evy]
  | [x] => by simp [evy]
  | x :: y :: r => by
    have ih := evy_range r
    rw [show ((x :: y :: r).length + 1) / 2 = (r.length + 1) / 2 + 1 by simp only [List.length_cons]; omega, List.range_succ_eq_map, List.filterMap_cons]
    simp only [Nat.mul_zero, List.getElem?_cons_zero, evy, List.filterMap_map]
    congr 1
theorem fm_congr {A B : Type} {f g : A → Option B} : ∀ {l : List A}, (∀ a ∈ l, f a = g a) → l.filterMap f = l.filterMap g
  | [], _ => rfl
  | x :: l, h => by
    rw [List.filterMap_cons, List.filterMap_cons, h x (by simp), fm_congr (l := l) fun a m => h a (by simp [m])]
theorem evy_len {A : Type} : ∀ ys : List A, (evy ys).length ≤ ys.length
  | [] => by simp [evy]
  | [x] => by simp [evy]
  | x :: y :: r => by
    have := evy_len r
    simp [evy]
    omega
end Bd
namespace HT
open PySem PySem.Spec PyProof.Rows Bd
section
variable {prog : Program} {w : World} {A : Around} {E : Value → Shared → Prop} {s : Shared}
def loO (o : Bool) : Option Int := if o then some 1 else none
def loN (o : Bool) (n : Nat) : Nat := if o then min 1 n else 0
theorem b2_adjust (o : Bool) (n : Nat) : Builtin.Slice.sliceAdjust (loO o) none 2 (n : Int) = (((loN o n : Nat) : Int), (n : Int)) := by
  unfold Builtin.Slice.sliceAdjust
  have h1 : ¬ ((2 : Int) < 0) := by omega
  have h2 : ¬ ((1 : Int) < 0) := by omega
  cases o
  · simp [loO, loN]
  · simp only [loO, loN, h1, h2, if_true, if_false]
    congr 1
    omega
theorem b2_places (o : Bool) (n : Nat) : Builtin.Slice.slicePlaces ((loN o n : Nat) : Int) (n : Int) 2 = (n - loN o n + 1) / 2 := by
  unfold Builtin.Slice.slicePlaces
  have h1 : ((2 : Int) > 0) := by omega
  simp only [h1, if_true]
  have : loN o n ≤ n := by
    unfold loN
    split <;> omega
  split <;> omega
theorem b2_applied {sl : Addr} {vl vs : Value} {o : Bool} {n : Nat} {Q : Int × Int × Nat → Shared → Prop} (hs : s.heap.IsSliceOf sl vl .none vs) (pl : IsPart vl (loO o)) (ps : IsPart vs (some 2))
    (h : Q (((loN o n : Nat) : Int), 2, (n - loN o n + 1) / 2) s) : wpAny (model prog w) A (Builtin.Slice.sliceApplied (.ref sl) (pure (n : Int))) Q E s := by
  obtain ⟨os, hos, hcs, hds⟩ := id hs
  unfold Builtin.Slice.sliceApplied Builtin.Slice.sliceFields
  refine wpAny_bind (wpAny_bind (wpAny_field hos hds (x := vl) rfl (wpAny_bind (wpAny_field hos hds (x := .none) rfl (wpAny_bind (wpAny_field hos hds (x := vs) rfl (wpAny_pure ?_)))))))
  refine wpAny_bind (slicePart_ ps ?_)
  show wpAny _ _ (if ((2 : Int) == 0) = true then _ else _) _ _ s
  rw [if_neg (by decide)]
  refine wpAny_bind (slicePart_ pl (wpAny_bind (slicePart_ .none (wpAny_bind (wpAny_pure ?_)))))
  show wpAny _ _ (match Builtin.Slice.sliceAdjust (loO o) none 2 (n : Int) with | (lo, hi) => pure (lo, (2 : Int), Builtin.Slice.slicePlaces lo hi 2)) _ _ s
  rw [b2_adjust o n]
  show wpAny _ _ (pure (((loN o n : Nat) : Int), (2 : Int), Builtin.Slice.slicePlaces ((loN o n : Nat) : Int) (n : Int) 2)) _ _ s
  rw [b2_places]
  exact wpAny_pure h
theorem b2_pick (o : Bool) (xs : Array Value) : ((List.range ((xs.size - loN o xs.size + 1) / 2)).filterMap fun (m : Nat) => xs[(((loN o xs.size : Nat) : Int) + (m : Int) * 2).toNat]?).toArray = (evy (xs.toList.drop (if o then 1 else 0))).toArray := by
  congr 1
  rw [← evy_range]
  have hl : loN o xs.size = min (if o then 1 else 0) xs.size := by
    unfold loN
    split <;> omega
  have e1 : (xs.toList.drop (if o then 1 else 0)).length = xs.size - loN o xs.size := by
    rw [List.length_drop, Array.length_toList, hl]
    omega
  rw [e1]
  apply fm_congr
  intro m hm
  have e2 : (((loN o xs.size : Nat) : Int) + (m : Int) * 2).toNat = loN o xs.size + 2 * m := by omega
  rw [e2, List.getElem?_drop]
  simp at hm
  have : loN o xs.size = (if o then 1 else 0) := by
    rw [hl]
    rw [hl] at hm
    omega
  rw [this]
  simp
theorem b2_step {t sl : Addr} {items : Array Value} {o : Bool} {vl vs : Value} {Q : Value → Shared → Prop} (ht : IsTup s.heap t items) (hs : s.heap.IsSliceOf sl vl .none vs) (pl : IsPart vl (loO o)) (ps : IsPart vs (some 2))
    (h : Q (.ref s.heap.objs.size) { s with heap := s.heap.push { cls := .type "tuple", data := .seq (evy (items.toList.drop (if o then 1 else 0))).toArray } })
    (hsz : items.size ≤ sizeLine) : wpAny (model prog w) A (getItem (.ref t) (.ref sl)) Q E s := by
  have htake : sizeOk (.seq (evy (items.toList.drop (if o then 1 else 0))).toArray) := by
    show (evy (items.toList.drop (if o then 1 else 0))).length ≤ sizeLine
    have h1 := evy_len (items.toList.drop (if o then 1 else 0))
    have h2 : (items.toList.drop (if o then 1 else 0)).length ≤ items.size := by
      rw [List.length_drop, Array.length_toList]
      exact Nat.sub_le _ _
    omega
  obtain ⟨os, hos, hcs, hds⟩ := id hs
  have hTs : s.TypeIs (.ref sl) "slice" := ⟨os, hos, hcs⟩
  unfold getItem
  try with_reducible refine wpAny_holding ?_
  first | refine wpAny_bind (wpAny_pure ?_) | skip
  refine wpAny_bind (wpAny_sequenceKey ht.typeIs (by decide) ?_)
  refine wpAny_bind (wpAny_callSpecial?_slot (name := Str.ofString "__getitem__") ht.typeIs PyProof.Rows.slot_tuple_getitem
    (wpAny_call_entry PyProof.Rows.slot_tuple_getitem ht.typeIs entry_tuple_getitem ?_ (args_tuple_getitem _ _)))
  show wpAny _ _ (Builtin.Tuple.tupleItemsOf (.ref t) >>= _) _ _ s
  refine wpAny_bind (tupleItemsOf_ ht ?_)
  refine wpAny_bind (wpAny_typeOf hTs ?_)
  rw [if_pos (by decide)]
  refine wpAny_bind (b2_applied hs pl ps ?_)
  have hno : ¬ ((((loN o items.size : Nat) : Int) == 0 && (2 : Int) == 1 && (items.size - loN o items.size + 1) / 2 == items.size) = true) := by
    intro q
    rw [Bool.and_eq_true, Bool.and_eq_true] at q
    exact absurd q.1.2 (by decide)
  show wpAny _ _ (if (((loN o items.size : Nat) : Int) == 0 && (2 : Int) == 1 && (items.size - loN o items.size + 1) / 2 == items.size) = true then _ else _) _ _ s
  rw [if_neg hno, b2_pick]
  first
    | exact wpAny_bind (m := Builtin.Tuple.tupleExact _) (wpAny_newObj_type (wpAny_pure ⟨_, rfl, wpAny_pure h⟩) htake)
    | exact wpAny_bind (m := Builtin.Tuple.tupleExact _) (wpAny_newObj_type (wpAny_bind (wpAny_pure (wpAny_pure ⟨_, rfl, wpAny_pure h⟩))) htake)
    | exact wpAny_bind (wpAny_bind (m := Builtin.Tuple.tupleExact _) (wpAny_newObj_type (wpAny_pure (wpAny_pure ⟨_, rfl, wpAny_pure h⟩)) htake))
    | exact wpAny_bind (wpAny_bind (m := Builtin.Tuple.tupleExact _) (wpAny_newObj_type (wpAny_pure ⟨_, rfl, wpAny_pure h⟩) htake))
end
end HT
namespace Bd
open PySem PySem.Spec PyProof.Rows L2
theorem vals_evy : ∀ {n : Nat} {xs : List V} {its : List Value}, its.length ≤ n → Vals xs its → Vals (evy xs) (evy its)
  | 0, _, [], _, .nil => .nil
  | 0, _, _ :: _, h, _ => by simp at h
  | n + 1, _, _, _, .nil => .nil
  | n + 1, _, _, _, .cons r .nil => .cons r .nil
  | n + 1, _, _, h, .cons r (.cons r2 t) => .cons r (vals_evy (n := n) (by simp at h; omega) t)
theorem vals_drop {xs : List V} {its : List Value} (r : Vals xs its) (o : Bool) : Vals (xs.drop (if o then 1 else 0)) (its.drop (if o then 1 else 0)) := by
  cases o
  · simpa using r
  · cases r with
    | nil => exact .nil
    | cons r t => simpa using t
/-- x[::2], x[1::2], a tuple -/
def tStp (K : PySem.W.Frag) (o : Bool) (te : TE) : TE := fun st H Q => te st H fun x H1 => ∃ a xs, x = .ref a ∧ SqT K H1 a xs ∧ NewT H1 (evy (xs.drop (if o then 1 else 0))) Q
theorem stp_core {X : Cx} {e : PySem.Expr} {te : TE} {o : Bool} {lo : Option PySem.Expr} {tl : TO} {k2 : Nat} {p2 p3 pos : Pos} (he : PE X e te) (hlo : PO X lo tl) (hl : ∀ st H Q, Q (HT.loO o) H → tl st H Q) : PE X (.Subscript e (.Slice lo none (some (.Constant (.int 2) k2 p2)) p3) pos) (tStp X.K o te) := by
  refine ⟨fun pins s st H Q I h => ?_⟩
  refine Subscript_ (thn (he.run pins s st H _ I h) fun v s1 ⟨x, H1, I1, r1, q1⟩ => ?_)
  obtain ⟨a, xs, ex, hx, q⟩ := q1
  subst ex
  cases r1
  have hst : PO X (some (.Constant (.int 2) k2 p2)) (tPart (tC (.int 2))) := po_some pe_int
  refine wpAny_Slice (thn (hlo.run pins s1 st H1 (fun z H2 => z = HT.loO o ∧ H2 = H1) I1 (hl _ _ _ ⟨rfl, rfl⟩)) fun vl s2 ⟨l, H2, I2, pl, el, e2⟩ => ?_)
  subst el e2
  refine thn (po_none.run pins s2 st H2 (fun o H3 => o = none ∧ H3 = H2) I2 ⟨rfl, rfl⟩) fun vu s3 ⟨u, H3, I3, pu, eu, e3⟩ => ?_
  subst eu e3
  refine thn (hst.run pins s3 st H3 (fun o H4 => o = some 2 ∧ H4 = H3) I3 ⟨2, rfl, rfl, rfl⟩) fun vs s4 ⟨z, H4, I4, ps, eo, e4⟩ => ?_
  subst eo e4
  cases pu
  have I5 : Inv X pins st H4 { s4 with heap := s4.heap.push { cls := .type "slice", data := .fields #[vl, .none, vs] } } := I4.kept (t' := s4.toks) fun b ob q => Heap.get?_push_of_some _ q
  obtain ⟨its, r, ht, hz⟩ := I5.tuple hx
  have hlen := r.length
  show wpAny (model X.prog X.w) X.A (subscriptTail e (.Slice lo none (some (.Constant (.int 2) k2 p2)) p3) (.ref a) (.ref s4.heap.objs.size)) (EP X pins st Q) X.xe { s4 with heap := s4.heap.push { cls := .type "slice", data := .fields #[vl, .none, vs] } }
  refine PyProof.Rows.tail_any (ops := [.ref a, .ref s4.heap.objs.size]) ht.typeIs PyProof.Rows.slot_tuple_getitem.lookup ?_ (by with_unfolding_all rfl)
  refine HT.b2_step ht (Heap.IsSliceOf.new _ vl .none vs) pl ps ?_ (by rw [List.size_toArray]; omega)
  exact laidT I5 (vals_evy (Nat.le_refl _) (vals_drop r o)) (Nat.le_trans (evy_len _) (Nat.le_trans (by rw [List.length_drop]; exact Nat.sub_le _ _) hz)) q
section
variable {L : Lay} {F : Hp} {mu : List Addr}
theorem is_evy : ∀ {n : Nat} {vs : List V} {ds : List D}, ds.length ≤ n → IsAll L F mu vs ds → IsAll L F mu (evy vs) (evy ds)
  | 0, _, [], _, .nil => .nil
  | 0, _, _ :: _, h, _ => by simp at h
  | n + 1, _, _, _, .nil => .nil
  | n + 1, _, _, _, .cons r .nil => .cons r .nil
  | n + 1, _, _, h, .cons r (.cons r2 t) => .cons r (is_evy (n := n) (by simp at h; omega) t)
end
section
variable {G : Gn} {c : Ct} {a : PySem.Expr} {x : E}
theorem s_stp {o : Bool} {lo : Option PySem.Expr} {k2 : Nat} {p2 p3 pos : Pos} (ha : OSnd G c a x) (hlo : (o = false ∧ lo = none) ∨ (o = true ∧ ∃ k p, lo = some (.Constant (.int 1) k p))) : GSnd G c (.Subscript a (.Slice lo none (some (.Constant (.int 2) k2 p2)) p3) pos) (.stp o x) := fun T n L X gd W tk => by
  obtain ⟨ta, h1, q1⟩ := ha T n L X gd W tk
  have hp : PE X (.Subscript a (.Slice lo none (some (.Constant (.int 2) k2 p2)) p3) pos) (tStp X.K o ta) := by
    rcases hlo with ⟨rfl, rfl⟩ | ⟨rfl, k, p, rfl⟩
    · exact stp_core h1 po_none fun st H Q h => h
    · exact stp_core h1 (po_some pe_int) fun st H Q h => ⟨1, rfl, h⟩
  refine ⟨_, hp, fun g s wd0 wd st Q k sl r => ?_⟩
  unfold evE at r
  have hr := r
  cases e0 : evB (evE T (callsAt T n) x g s) x g s with
  | no => rw [e0] at r; exact False.elim r
  | ex k xs s1 =>
    rw [e0] at hr
    refine q1 g s wd0 wd st _ (by assumption) sl ?_
    rw [e0]
    exact hr
  | ok d s1 =>
    rw [e0] at hr
    cases d with
    | tup ys =>
      refine q1 g s wd0 wd st _ (by assumption) sl ?_
      rw [e0]
      intro wd1 x1 k1 v i
      obtain ⟨q0, vs, rfl, h2, h3⟩ := i.tup k1
      exact ⟨q0, vs, rfl, h2.sq, fun p o hp ho => Res.tup k1 (is_evy (Nat.le_refl _) (h3.drop _)) hp ho (hr wd1 x1 k1)⟩
    | _ => exact False.elim hr
end
end Bd
namespace HT
open PySem PySem.Spec PyProof.Rows Bd
section
variable {prog : Program} {w : World} {A : Around} {E : Value → Shared → Prop} {s : Shared}
theorem b1_adjust (n : Nat) : Builtin.Slice.sliceAdjust none none 1 (n : Int) = (0, (n : Int)) := by
  unfold Builtin.Slice.sliceAdjust
  have h1 : ¬ ((1 : Int) < 0) := by omega
  simp [h1]
theorem b1_places (n : Nat) : Builtin.Slice.slicePlaces 0 (n : Int) 1 = n := by
  unfold Builtin.Slice.slicePlaces
  have h1 : ((1 : Int) > 0) := by omega
  simp only [h1, if_true]
  split <;> omega
theorem b1_applied {sl : Addr} {vs : Value} {n : Nat} {Q : Int × Int × Nat → Shared → Prop} (hs : s.heap.IsSliceOf sl .none .none vs) (ps : IsPart vs (some 1))
    (h : Q (0, 1, n) s) : wpAny (model prog w) A (Builtin.Slice.sliceApplied (.ref sl) (pure (n : Int))) Q E s := by
  obtain ⟨os, hos, hcs, hds⟩ := id hs
  unfold Builtin.Slice.sliceApplied Builtin.Slice.sliceFields
  refine wpAny_bind (wpAny_bind (wpAny_field hos hds (x := .none) rfl (wpAny_bind (wpAny_field hos hds (x := .none) rfl (wpAny_bind (wpAny_field hos hds (x := vs) rfl (wpAny_pure ?_)))))))
  refine wpAny_bind (slicePart_ ps ?_)
  show wpAny _ _ (if ((1 : Int) == 0) = true then _ else _) _ _ s
  rw [if_neg (by decide)]
  refine wpAny_bind (slicePart_ .none (wpAny_bind (slicePart_ .none (wpAny_bind (wpAny_pure ?_)))))
  show wpAny _ _ (match Builtin.Slice.sliceAdjust none none 1 (n : Int) with | (lo, hi) => pure (lo, (1 : Int), Builtin.Slice.slicePlaces lo hi 1)) _ _ s
  rw [b1_adjust n]
  show wpAny _ _ (pure (0, (1 : Int), Builtin.Slice.slicePlaces 0 (n : Int) 1)) _ _ s
  rw [b1_places]
  exact wpAny_pure h
theorem b1_step {t sl : Addr} {items : Array Value} {vs : Value} {Q : Value → Shared → Prop} (ht : IsTup s.heap t items) (hs : s.heap.IsSliceOf sl .none .none vs) (ps : IsPart vs (some 1))
    (h : Q (.ref t) s) : wpAny (model prog w) A (getItem (.ref t) (.ref sl)) Q E s := by
  obtain ⟨os, hos, hcs, hds⟩ := id hs
  have hTs : s.TypeIs (.ref sl) "slice" := ⟨os, hos, hcs⟩
  unfold getItem
  try with_reducible refine wpAny_holding ?_
  first | refine wpAny_bind (wpAny_pure ?_) | skip
  refine wpAny_bind (wpAny_sequenceKey ht.typeIs (by decide) ?_)
  refine wpAny_bind (wpAny_callSpecial?_slot (name := Str.ofString "__getitem__") ht.typeIs PyProof.Rows.slot_tuple_getitem
    (wpAny_call_entry PyProof.Rows.slot_tuple_getitem ht.typeIs entry_tuple_getitem ?_ (args_tuple_getitem _ _)))
  show wpAny _ _ (Builtin.Tuple.tupleItemsOf (.ref t) >>= _) _ _ s
  refine wpAny_bind (tupleItemsOf_ ht ?_)
  refine wpAny_bind (wpAny_typeOf hTs ?_)
  rw [if_pos (by decide)]
  refine wpAny_bind (b1_applied hs ps ?_)
  have hyes : ((((0 : Int) == 0) && (1 : Int) == 1 && items.size == items.size) = true) := by simp
  show wpAny _ _ (if (((0 : Int) == 0) && (1 : Int) == 1 && items.size == items.size) = true then _ else _) _ _ s
  rw [if_pos hyes]
  refine wpAny_bind (m := Builtin.Tuple.tupleIsExact (.ref t)) (wpAny_bind (wpAny_typeOf ht.typeIs (wpAny_pure ?_)))
  rw [if_pos (by decide)]
  refine wpAny_bind (wpAny_rule ?_)
  exact wpAny_pure ⟨_, rfl, wpAny_pure h⟩
end
end HT
namespace Bd
open PySem PySem.Spec PyProof.Rows L2
/-- x[::e], a tuple -/
def tStx (K : PySem.W.Frag) (te : TE) (ts : TO) : TE := fun st H Q => te st H fun x H1 => ts st H1 fun z H2 => ∃ a xs, x = .ref a ∧ SqT K H2 a xs ∧ ((z = some 1 ∧ Q x H2) ∨ (z = some (-1) ∧ NewT H2 xs.reverse Q))
theorem stx_core {X : Cx} {e es : PySem.Expr} {te : TE} {ts : TO} {p3 pos : Pos} (he : PE X e te) (hs : PO X (some es) ts) : PE X (.Subscript e (.Slice none none (some es) p3) pos) (tStx X.K te ts) := by
  refine ⟨fun pins s st H Q I h => ?_⟩
  refine Subscript_ (thn (he.run pins s st H _ I h) fun v s1 ⟨x, H1, I1, r1, q1⟩ => ?_)
  refine wpAny_Slice (thn (po_none.run pins s1 st H1 (fun o H2 => o = none ∧ H2 = H1) I1 ⟨rfl, rfl⟩) fun vl s2 ⟨l, H2, I2, pl, el, e2⟩ => ?_)
  subst el e2
  refine thn (po_none.run pins s2 st H2 (fun o H3 => o = none ∧ H3 = H2) I2 ⟨rfl, rfl⟩) fun vu s3 ⟨u, H3, I3, pu, eu, e3⟩ => ?_
  subst eu e3
  refine thn (hs.run pins s3 st H3 _ I3 q1) fun vs s4 ⟨z, H4, I4, ps, q4⟩ => ?_
  obtain ⟨a, xs, ex, hx, q⟩ := q4
  subst ex
  have r0 := r1
  cases r1
  cases pl
  cases pu
  have I5 : Inv X pins st H4 { s4 with heap := s4.heap.push { cls := .type "slice", data := .fields #[.none, .none, vs] } } := I4.kept (t' := s4.toks) fun b ob q => Heap.get?_push_of_some _ q
  obtain ⟨its, r, ht, hz⟩ := I5.tuple hx
  have hlen := r.length
  show wpAny (model X.prog X.w) X.A (subscriptTail e (.Slice none none (some es) p3) (.ref a) (.ref s4.heap.objs.size)) (EP X pins st Q) X.xe { s4 with heap := s4.heap.push { cls := .type "slice", data := .fields #[.none, .none, vs] } }
  refine PyProof.Rows.tail_any (ops := [.ref a, .ref s4.heap.objs.size]) ht.typeIs PyProof.Rows.slot_tuple_getitem.lookup ?_ (by with_unfolding_all rfl)
  rcases q with ⟨rfl, q⟩ | ⟨rfl, q⟩
  · refine HT.b1_step ht (Heap.IsSliceOf.new _ .none .none vs) ps ?_
    exact ⟨.ref a, H4, I5, r0, q⟩
  · refine HT.bd_rev ht (Heap.IsSliceOf.new _ .none .none vs) ps ?_ (by rw [List.size_toArray]; omega)
    exact laidT I5 r.reverse (by rw [List.length_reverse]; exact hz) q
section
variable {G : Gn} {c : Ct} {a es : PySem.Expr} {x : E} {xs : Option E}
theorem s_stx {p3 pos : Pos} (ha : OSnd G c a x) (hs : PSnd G c (some es) xs) : GSnd G c (.Subscript a (.Slice none none (some es) p3) pos) (.stx x xs) := fun T n L X gd W tk => by
  obtain ⟨ta, p1, q1⟩ := ha T n L X gd W tk
  obtain ⟨tl, p2, q2⟩ := hs T n L X gd W tk
  refine ⟨_, stx_core p1 p2, fun g s wd0 wd st Q k sl r => ?_⟩
  unfold evE at r
  refine q1 g s wd0 wd st _ k sl (r.bind.mono fun d s1 wd1 x1 k1 r1 v i => ?_)
  refine q2 g s1 wd0 wd1 st _ k1 (sl.ext x1) (r1.bind.mono fun z s2 wd2 x2 k2 r2 => ?_)
  obtain ⟨d2, e, h⟩ := RPost.opt k2 r2
  have i2 := i.ext x2
  unfold stxD at e
  split at e
  · rename_i ds
    cases e
    have i3 := i2
    obtain ⟨q0, vs, rfl, h1, h2⟩ := i3.tup k2
    refine ⟨q0, vs, rfl, h1.sq, .inl ⟨rfl, ?_⟩⟩
    rcases i2 with i2 | ⟨_, _, _, _, e, _⟩
    · exact h.here k2 (by intro _ q; cases q) i2
    · cases e
  · rename_i ds
    cases e
    obtain ⟨q0, vs, rfl, h1, h2⟩ := i2.tup k2
    exact ⟨q0, vs, rfl, h1.sq, .inr ⟨rfl, fun p o hp ho => Res.tup k2 h2.reverse hp ho h⟩⟩
  · cases e
end
end Bd
namespace Bd
open PySem PySem.Spec PyProof.Rows L2
def SqB (b : Bool) (K : PySem.W.Frag) (H : Hp) (a : Addr) (xs : List V) : Prop := if b = true then SqL K H a xs else SqT K H a xs
def HasB (b : Bool) (h : Heap) (a : Addr) (items : Array Value) : Prop := if b = true then h.IsList a items else h.IsTuple a items
def ItB (b : Bool) (h : Heap) (it a : Addr) (i : Nat) : Prop := if b = true then h.IsListIter it a i else h.IsTupleIter it a i
def objB (b : Bool) (a : Addr) : Obj := { cls := .type (if b = true then "list_iterator" else "tuple_iterator"), data := .fields #[.ref a, .int 0 0] }
theorem drawsB {prog : Program} {w : World} {A : Around} (b : Bool) (hh : A.handled = none) (it a : Addr) (hne : a ≠ it) (items : Array Value) : Draws prog w A it [it, a] items.size (fun i v => items[i]? = some v) (fun i h => ItB b h it a i ∧ HasB b h a items) := by
  cases b with
  | true => exact Draws.list hh it a hne items
  | false => exact Draws.tuple hh it a hne items
theorem beginsB (b : Bool) (a : Addr) (items : Array Value) : Begins (.ref a) (objB b a) (fun h => HasB b h a items) := by
  cases b with
  | true => exact begins_list a items
  | false => exact begins_tuple a items
theorem ItB.start {b : Bool} {h : Heap} {it a : Addr} (e : h.get? it = some (objB b a)) : ItB b h it a 0 := by
  cases b with
  | true => exact ⟨_, e, rfl, rfl⟩
  | false => exact ⟨_, e, rfl, rfl⟩
theorem ItB.obj {b : Bool} {h : Heap} {it a : Addr} {i : Nat} (x : ItB b h it a i) : ∃ o, h.get? it = some o ∧ ∀ v, o.data ≠ .cell v := by
  cases b with
  | true => obtain ⟨o, e, _, d⟩ := x; exact ⟨o, e, fun v z => by rw [d] at z; cases z⟩
  | false => obtain ⟨o, e, _, d⟩ := x; exact ⟨o, e, fun v z => by rw [d] at z; cases z⟩
theorem ItB.at {b : Bool} {h h' : Heap} {it a : Addr} {i : Nat} (x : ItB b h it a i) (k : ∀ o, h.get? it = some o → h'.get? it = some o) : ItB b h' it a i := by
  cases b with
  | true => exact Heap.IsListIter.at x k
  | false => exact Heap.IsTupleIter.at x k
theorem HasB.lt {b : Bool} {h : Heap} {a : Addr} {items : Array Value} (x : HasB b h a items) : a < h.objs.size := by
  cases b with
  | true => obtain ⟨o, e, _⟩ := x; exact Heap.lt_size e
  | false => obtain ⟨o, e, _⟩ := x; exact Heap.lt_size e
theorem seqB {X : Cx} {pins : List (Addr × Obj)} {st : L2.St} {H : Hp} {s : Shared} {b : Bool} {a : Addr} {xs : List V} (I : Inv X pins st H s) (h : SqB b X.K H a xs) : ∃ its : List Value, Vals xs its ∧ HasB b s.heap a its.toArray := by
  cases b with
  | true => obtain ⟨its, r, p, _⟩ := I.list h; exact ⟨its, r, p.isList⟩
  | false => obtain ⟨its, r, p, _⟩ := I.tuple h; exact ⟨its, r, p⟩
theorem seqB_inj {X : Cx} {pins : List (Addr × Obj)} {st : L2.St} {H : Hp} {s : Shared} {b : Bool} {a : Addr} {xs ys : List V} (I : Inv X pins st H s) (h : SqB b X.K H a xs) (h' : SqB b X.K H a ys) : xs = ys := by
  cases b with
  | true => exact I.list_inj h h'
  | false => exact I.tuple_inj h h'
def IteB (b : Bool) (K : PySem.W.Frag) (a : Addr) : It :=
  ⟨fun i H => ∃ (xs : List V) (x : V), SqB b K H a xs ∧ xs[i]? = some x, fun i H v H' => ∃ T x, v = .ref T ∧ H T = none ∧ NewO H H' T [.int (i : Nat), x] ∧ ∀ xs, SqB b K H a xs → xs[i]? = some x, fun i H => ∃ xs : List V, SqB b K H a xs ∧ i = xs.length⟩
theorem turn_enumB {P : Program} {w : World} {K : PySem.W.Frag} {elts : List PySem.Expr} {kk : Nat} {tpos : Pos} (b : Bool) (a e it : Addr) (hne : e ≠ it) (hea : e ≠ a) (hia : it ≠ a) :
    Turn P w K (.Tuple elts kk tpos) (IteB b K a) [e, it] e (fun i h => (∃ old, IsEnum h e it ((i : Nat) : Int) old) ∧ ItB b h it a i) where
  mem := by simp
  obj := fun i h st c hc => by
    obtain ⟨⟨old, he⟩, hi⟩ := st
    have e' : c = e ∨ c = it := by simpa using hc
    rcases e' with z | z
    · rw [z]; exact ⟨_, he, fun v q => nomatch q⟩
    · rw [z]; exact hi.obj
  keep := fun i h h' st k => let ⟨⟨old, he⟩, hi⟩ := st; ⟨⟨old, k e (by simp) _ he⟩, hi.at fun o q => k it (by simp) o q⟩
  item := by
    intro X hP hw hK hc i pins s st H E I hf tn hg
    subst hP hw hK
    obtain ⟨⟨old, he⟩, hit⟩ := tn
    obtain ⟨xs, x, hq, hx⟩ := hg
    obtain ⟨its, rv, p⟩ := seqB I hq
    obtain ⟨u, hu, ru⟩ := rv.get hx
    have hel : e < s.heap.objs.size := Heap.lt_size he
    have hil : it < s.heap.objs.size := by obtain ⟨_, q, _⟩ := hit.obj; exact Heap.lt_size q
    have hlt : i < its.toArray.size := by
      have := (List.getElem?_eq_some_iff.mp hu).1
      rw [List.size_toArray]
      exact this
    refine wpAny_pyNext_enum_itemD (drawsB (A := X.A.in1) b (I.ok.hd hc) it a (Ne.symm hia) its.toArray) he ⟨hit, p⟩ hlt hne (by simp [hne, hea]) fun y h' tk hy ho st' hT hsz hk => ?_
    have ey : y = u := by
      have : its.toArray[i]? = some y := hy
      rw [List.getElem?_toArray, hu] at this
      exact (Option.some.inj this).symm
    subst ey
    refine ⟨_, rfl, wpAny_letOwnedTupleGo_enum (s := { s with heap := h', toks := tk + 1 }) ho fun h'' he' sb => ?_⟩
    have hT2 : h''.get? s.heap.objs.size = some { cls := .type "tuple", data := .seq #[.int i tk, y] } := (sb.2 _ (Nat.ne_of_gt hel)).trans hT
    have new : ObjOk X.prog X.w (upd H s.heap.objs.size (.frz { cls := .type "tuple", data := .seq #[.int i tk, y] } (.tup [.int (i : Nat), x]))) h'' s.heap.objs.size (.frz { cls := .type "tuple", data := .seq #[.int i tk, y] } (.tup [.int (i : Nat), x])) :=
      ⟨hT2, by show 2 ≤ sizeLine; decide, [.int i tk, y], .cons ⟨_, rfl⟩ (.cons ru .nil), ⟨_, hT2, rfl, _, rfl⟩⟩
    have I1 : Inv X pins st (upd H s.heap.objs.size (.frz { cls := .type "tuple", data := .seq #[.int i tk, y] } (.tup [.int (i : Nat), x]))) { s with heap := h'', toks := tk + 1 } :=
      I.turnedNew (ch := [e, it]) (fun b ob hb q => (sb.2 b (fun z => hb (by simp [z]))).trans (hk b ob (fun z => hb (by simp [z])) (fun z => hb (by simp [z])) q)) hf (Nat.le_refl _) new
    refine ⟨.ref s.heap.objs.size, _, I1, rfl, ⟨_, x, rfl, I.hok.fresh (Nat.le_refl _), ⟨_, rfl, rfl, rfl⟩, fun ys hy => by rw [seqB_inj I hy hq]; exact hx⟩, ⟨⟨y, ?_⟩, st'.1.at fun o q => (sb.2 it (Ne.symm hne)).trans q⟩, fun c hb => ?_⟩
    · have e1 : ((i + 1 : Nat) : Int) = (i : Int) + 1 := by omega
      rw [e1]; exact he'
    · have hb' : c < s.heap.objs.size := by
        have e' : c = e ∨ c = it := by simpa using hb
        rcases e' with z | z
        · rw [z]; exact hel
        · rw [z]; exact hil
      rw [upd_ne (Nat.ne_of_lt hb')]
      exact (hf c hb).1
  done := by
    intro X hP hw hK hc i pins s st H E I hf tn hg
    subst hP hw hK
    obtain ⟨⟨old, he⟩, hit⟩ := tn
    obtain ⟨xs, hq, rfl⟩ := hg
    obtain ⟨its, rv, p⟩ := seqB I hq
    have hl := rv.length
    obtain ⟨f0, f1, f2, f3, f4, f5⟩ := hf it (by simp)
    refine wpAny_pyNext_enum_endD (drawsB (A := X.A.in1) b (I.ok.hd hc) it a (Ne.symm hia) its.toArray) he ⟨by rw [List.size_toArray, ← hl]; exact hit, p⟩ fun h' eb => ⟨rfl, I.turned (t' := s.toks) (fun b o hb q => eb b o hb q) f0 f1 f3 f4 f5⟩
  self := fun A i s Q E st h => let ⟨⟨_, he⟩, _⟩ := st; wpAny_pyIter_enum he h
theorem meets_enumB {v : Value} {o : Obj} {H : Heap → Prop} (B : Begins v o H) :
    Meets (Builtin.«enumerate.__new__» ⟨[.type "enumerate", v], []⟩) (fun _ R s => H s.heap ∧
      R (.ok (.ret (.ref (s.heap.push o).objs.size))) { s with heap := (s.heap.push o).push { cls := .type "enumerate", data := .fields #[.none, .bool false, .ref s.heap.objs.size, rawInt 0, .none, .none] } }) :=
  .of_wp fun prog w A R s h => by
    obtain ⟨hp, g, d, tk, os⟩ := s; obtain ⟨h1, h⟩ := h
    have hsub := sub_enumerate
    have q1 : ∀ {A' : Around} {E : Value → Shared → Prop} {Q : Value → Shared → Prop}, Q (.ref hp.objs.size) ⟨hp.push o, g, d, tk, os⟩ → wpAny (model prog w) A' (pyIter v) Q E ⟨hp, g, d, tk, os⟩ :=
      fun q => B.iter prog w _ _ ⟨hp, g, d, tk, os⟩ _ h1 q
    wp_walk using q1
    refine wpAny_stack_any fun st => wpAny_pure ?_
    split
    · rename_i c _ _ _ _ _
      cases (c == Value.type "enumerate")
      · wp_walk using q1
        exact ⟨_, rfl, h⟩
      · wp_walk using q1
        exact ⟨_, rfl, h⟩
    · wp_walk using q1
      exact ⟨_, rfl, h⟩
theorem call_enumB {prog : Program} {w : World} {A : Around} {E : Value → Shared → Prop} {s : Shared} {v : Value} {o : Obj} {H : Heap → Prop} {Q : Value → Shared → Prop} (B : Begins v o H) (h1 : H s.heap)
    (h : ∀ h', IsEnum h' (s.heap.objs.size + 1) s.heap.objs.size 0 .none → h'.get? s.heap.objs.size = some o → h'.objs.size = s.heap.objs.size + 2 →
      (∀ b o, s.heap.get? b = some o → h'.get? b = some o) → Q (.ref (s.heap.objs.size + 1)) { s with heap := h' }) :
    wpAny (model prog w) A (call (.type "enumerate") [v]) Q E s := by
  refine callType_new F.called_enumerate (by decide) (F.typeCall_enumerate_1 _) (F.newCall_enumerate_1 _) (fun obj => F.args_object_init_2 obj _) F.entry_enumerate_new
    (meets_enumB B) ⟨h1, ?_⟩
  have hz : (s.heap.push o).objs.size = s.heap.objs.size + 1 := Heap.size_push ..
  show _ ∧ _
  rw [hz]
  have he : IsEnum ((s.heap.push o).push { cls := .type "enumerate", data := .fields #[.none, .bool false, .ref s.heap.objs.size, rawInt 0, .none, .none] }) (s.heap.objs.size + 1) s.heap.objs.size 0 .none := by
    have := Heap.get?_push_size (s.heap.push o) (o := { cls := .type "enumerate", data := .fields #[.none, .bool false, .ref s.heap.objs.size, rawInt 0, .none, .none] }) rfl
    rw [hz] at this; exact this
  exact ⟨⟨_, he, rfl⟩, h _ he (Heap.get?_push_of_some _ (Heap.get?_push_size _ B.free)) (by rw [Heap.size_push, hz]) fun b o x => Heap.get?_push_of_some _ (Heap.get?_push_of_some _ x)⟩
def iEnumB (K : PySem.W.Frag) (ta : TA) : TI := fun st H R => ta st H fun vs H1 => ∃ b a xs, vs = [.ref a] ∧ SqB b K H1 a xs ∧ R (IteB b K a) H1
theorem pi_enumB {X : Cx} {e : PySem.Expr} {ta : TA} {p pos tpos : Pos} {elts : List PySem.Expr} {kk : Nat} (hg : Gl X "enumerate") (hm : X.mg "enumerate" = none) (ha : PA X [e] ta) (hs : starEach [e] X.env = [(false, eval e X.env)]) :
    PI X (.Tuple elts kk tpos) (.Call (.Name "enumerate" p) [e] [] pos) (iEnumB X.K ta) := by
  refine ⟨fun pins s st H R I h => ?_⟩
  refine Call_ (ld_blt I hg hm boot_enumerate (PyProof.Rows.callWith_type1 (thn (ha.run pos pins s st H _ I h) fun us s1 ⟨vs, H1, I1, r1, q1⟩ => ?_) hs rfl))
  obtain ⟨b, a, xs, ex, hq, q⟩ := q1
  subst ex
  cases r1 with
  | cons r rr =>
    cases rr
    cases r
    obtain ⟨its, rv, p'⟩ := seqB I1 hq
    have hl := p'.lt
    refine call_enumB (beginsB b a its.toArray) p' fun h' he hit hsz hk => wpAny_pyIter_enum he ?_
    have I2 : Inv X pins st H1 { s1 with heap := h' } := I1.kept (t' := s1.toks) hk
    refine ⟨s1.heap.objs.size + 1, [s1.heap.objs.size + 1, s1.heap.objs.size], _, _, H1, rfl, I2, turn_enumB b a (s1.heap.objs.size + 1) s1.heap.objs.size (Nat.succ_ne_self _) (Nat.ne_of_gt (Nat.lt_succ_of_lt hl)) (Nat.ne_of_gt hl), ⟨⟨.none, he⟩, ItB.start hit⟩, fun b hb => ?_, q⟩
    have e' : b = s1.heap.objs.size + 1 ∨ b = s1.heap.objs.size := by simpa using hb
    have hle : s1.heap.objs.size ≤ b := by
      rcases e' with z | z
      · rw [z]; exact Nat.le_add_right _ _
      · rw [z]; exact Nat.le_refl _
    exact I1.fpOk hle (I1.hok.fresh hle)
def Itz2 (b1 b2 : Bool) (K : PySem.W.Frag) (a1 a2 : Addr) : It :=
  ⟨fun i H => ∃ (xs ys : List V) (x y : V), SqB b1 K H a1 xs ∧ SqB b2 K H a2 ys ∧ xs[i]? = some x ∧ ys[i]? = some y,
    fun i H v H' => ∃ T x y, v = .ref T ∧ H T = none ∧ NewO H H' T [x, y] ∧ (∀ xs, SqB b1 K H a1 xs → xs[i]? = some x) ∧ ∀ ys, SqB b2 K H a2 ys → ys[i]? = some y,
    fun i H => ∃ xs ys : List V, SqB b1 K H a1 xs ∧ SqB b2 K H a2 ys ∧ i = min xs.length ys.length⟩
theorem turn_zip2 {P : Program} {w : World} {K : PySem.W.Frag} {elts : List PySem.Expr} {kk : Nat} {tpos : Pos} (b1 b2 : Bool) {a1 a2 : Addr} {N : Nat} (h1 : a1 < N) (h2 : a2 < N) :
    Turn P w K (.Tuple elts kk tpos) (Itz2 b1 b2 K a1 a2) [N + 4, N + 2, N + 3, N, N + 1] (N + 4)
      (fun i h => IsZip h (N + 4) (N + 2) (N + 3) .none ∧ IsTupOf2 h (N + 2) (.ref N) (.ref (N + 1)) ∧ (∃ x y, IsTupOf2 h (N + 3) x y) ∧ ItB b1 h N a1 i ∧ ItB b2 h (N + 1) a2 i) where
  mem := by simp
  obj := fun i h st c hc => by
    obtain ⟨hz, hTI, ⟨x, y, hTO⟩, t1, t2⟩ := st
    have e' : c = N + 4 ∨ c = N + 2 ∨ c = N + 3 ∨ c = N ∨ c = N + 1 := by simpa using hc
    rcases e' with q | q | q | q | q
    · rw [q]; exact ⟨_, hz, fun v q => nomatch q⟩
    · rw [q]; exact ⟨_, hTI, fun v q => nomatch q⟩
    · rw [q]; exact ⟨_, hTO, fun v q => nomatch q⟩
    · rw [q]; exact t1.obj
    · rw [q]; exact t2.obj
  keep := fun i h h' st k => by
    obtain ⟨hz, hTI, ⟨x, y, hTO⟩, t1, t2⟩ := st
    exact ⟨k _ (by simp) _ hz, k _ (by simp) _ hTI, ⟨x, y, k _ (by simp) _ hTO⟩, t1.at fun o q => k _ (by simp) o q, t2.at fun o q => k _ (by simp) o q⟩
  item := by
    intro X hP hw hK hc i pins s st H E I hf tn hg
    subst hP hw hK
    obtain ⟨hz, hTI, ⟨x0, y0, hTO⟩, t1, t2⟩ := tn
    obtain ⟨xs, ys, x, y, hqx, hqy, hx, hy⟩ := hg
    obtain ⟨its, rv, p⟩ := seqB I hqx
    obtain ⟨its2, rv2, p2⟩ := seqB I hqy
    obtain ⟨u, hu, ru⟩ := rv.get hx
    obtain ⟨u2, hu2, ru2⟩ := rv2.get hy
    have hzl : N + 4 < s.heap.objs.size := Heap.lt_size hz
    have S : ZipSep2 (N + 4) (N + 2) (N + 3) N (N + 1) [N, a1] [N + 1, a2] := zip_sep2 (fp1 := [a1]) (fp2 := [a2]) (fun b hb => by rw [List.mem_singleton.mp hb]; exact h1) (fun b hb => by rw [List.mem_singleton.mp hb]; exact h2)
    refine wpAny_pyNext_zipD2_item S (drawsB (A := X.A.in1) b1 (I.ok.hd hc) N a1 (Nat.ne_of_lt h1) its.toArray) (drawsB (A := X.A.in1) b2 (I.ok.hd hc) (N + 1) a2 (Nat.ne_of_lt (Nat.lt_succ_of_lt h2)) its2.toArray) hz hTI hTO ⟨t1, p⟩ ⟨t2, p2⟩
      (by rw [List.size_toArray]; exact (List.getElem?_eq_some_iff.mp hu).1) (by rw [List.size_toArray]; exact (List.getElem?_eq_some_iff.mp hu2).1) fun y1 y2 h' tk e1 e2 z' TO' t1' t2' hT hsz hk => ?_
    have ey : y1 = u := by
      have : its.toArray[i]? = some y1 := e1
      rw [List.getElem?_toArray, hu] at this
      exact (Option.some.inj this).symm
    have ey2 : y2 = u2 := by
      have : its2.toArray[i]? = some y2 := e2
      rw [List.getElem?_toArray, hu2] at this
      exact (Option.some.inj this).symm
    subst ey ey2
    refine ⟨_, rfl, wpAny_letOwnedTupleGo_zip (s := { s with heap := h', toks := tk }) z' fun h'' z'' sb => ?_⟩
    have hT2 : h''.get? s.heap.objs.size = some { cls := .type "tuple", data := .seq #[y1, y2] } := (sb.2 _ (Nat.ne_of_gt hzl)).trans hT
    have new : ObjOk X.prog X.w (upd H s.heap.objs.size (.frz { cls := .type "tuple", data := .seq #[y1, y2] } (.tup [x, y]))) h'' s.heap.objs.size (.frz { cls := .type "tuple", data := .seq #[y1, y2] } (.tup [x, y])) :=
      ⟨hT2, by show 2 ≤ sizeLine; decide, [y1, y2], .cons ru (.cons ru2 .nil), ⟨_, hT2, rfl, _, rfl⟩⟩
    have I1 : Inv X pins st (upd H s.heap.objs.size (.frz { cls := .type "tuple", data := .seq #[y1, y2] } (.tup [x, y]))) { s with heap := h'', toks := tk } :=
      I.turnedNew (t' := tk) (ch := [N + 4, N + 2, N + 3, N, N + 1]) (fun c o hb q => (sb.2 c (fun q' => hb (by simp [q']))).trans (hk c o (fun q' => hb (by simp [q'])) (fun q' => hb (by simp [q'])) (fun q' => hb (by simp [q'])) (fun q' => hb (by simp [q'])) q)) hf (Nat.le_refl _) new
    refine ⟨.ref s.heap.objs.size, _, I1, rfl, ⟨_, x, y, rfl, I.hok.fresh (Nat.le_refl _), ⟨_, rfl, rfl, rfl⟩, fun l hl => by rw [seqB_inj I hl hqx]; exact hx, fun l hl => by rw [seqB_inj I hl hqy]; exact hy⟩, ⟨z'', ?_, ⟨y1, y2, ?_⟩, ?_, ?_⟩, fun c hcm => ?_⟩
    · exact (sb.2 _ S.TIz).trans (hk _ _ S.TIz S.TITO S.TIi1 S.TIi2 hTI)
    · exact (sb.2 _ S.TOz).trans TO'
    · exact t1'.1.at fun o q => (sb.2 _ (Ne.symm S.zi1)).trans q
    · exact t2'.1.at fun o q => (sb.2 _ (Ne.symm S.zi2)).trans q
    · have hlt : c < s.heap.objs.size := by
        have e' : c = N + 4 ∨ c = N + 2 ∨ c = N + 3 ∨ c = N ∨ c = N + 1 := by simpa using hcm
        rcases e' with q | q | q | q | q
        · rw [q]; exact hzl
        · rw [q]; exact Heap.lt_size hTI
        · rw [q]; exact Heap.lt_size hTO
        · rw [q]; obtain ⟨_, e1, _⟩ := t1.obj; exact Heap.lt_size e1
        · rw [q]; obtain ⟨_, e2, _⟩ := t2.obj; exact Heap.lt_size e2
      rw [upd_ne (Nat.ne_of_lt hlt)]
      exact (hf c hcm).1
  done := by
    intro X hP hw hK hc i pins s st H E I hf tn hg
    subst hP hw hK
    obtain ⟨hz, hTI, ⟨x0, y0, hTO⟩, t1, t2⟩ := tn
    obtain ⟨xs, ys, hqx, hqy, hend⟩ := hg
    obtain ⟨its, rv, p⟩ := seqB I hqx
    obtain ⟨its2, rv2, p2⟩ := seqB I hqy
    have l1 := rv.length
    have l2 := rv2.length
    have S : ZipSep2 (N + 4) (N + 2) (N + 3) N (N + 1) [N, a1] [N + 1, a2] := zip_sep2 (fp1 := [a1]) (fp2 := [a2]) (fun b hb => by rw [List.mem_singleton.mp hb]; exact h1) (fun b hb => by rw [List.mem_singleton.mp hb]; exact h2)
    refine wpAny_pyNext_zipD2_end S (drawsB (A := X.A.in1) b1 (I.ok.hd hc) N a1 (Nat.ne_of_lt h1) its.toArray) (drawsB (A := X.A.in1) b2 (I.ok.hd hc) (N + 1) a2 (Nat.ne_of_lt (Nat.lt_succ_of_lt h2)) its2.toArray) hz hTI hTO ⟨t1, p⟩ ⟨t2, p2⟩
      (by rw [List.size_toArray]; omega) (by rw [List.size_toArray]; omega) (by rw [List.size_toArray, List.size_toArray]; omega) fun h' tk hk => ⟨rfl, I.turnedL (t' := tk) (ch := [N + 4, N + 2, N + 3, N, N + 1]) (fun c o hb q =>
        hk c o (fun q' => hb (by simp [q'])) (fun q' => hb (by simp [q'])) (fun q' => hb (by simp [q'])) (fun q' => hb (by simp [q'])) q) hf⟩
  self := fun A i s Q E st h => wpAny_pyIter_zip st.1 h
def iZip2 (K : PySem.W.Frag) (ta : TA) : TI := fun st H R => ta st H fun vs H1 => ∃ b1 b2 a1 a2 xs ys, vs = [.ref a1, .ref a2] ∧ SqB b1 K H1 a1 xs ∧ SqB b2 K H1 a2 ys ∧ R (Itz2 b1 b2 K a1 a2) H1
theorem pi_zip2 {X : Cx} {e e2 : PySem.Expr} {ta : TA} {p pos tpos : Pos} {elts : List PySem.Expr} {kk : Nat} (hg : Gl X "zip") (hm : X.mg "zip" = none) (ha : PA X [e, e2] ta)
    (hs : starEach [e, e2] X.env = (false, eval e X.env) :: starEach [e2] X.env) (hpl : (backTo pos (starEach [e2] X.env)).any (·.1) = false) :
    PI X (.Tuple elts kk tpos) (.Call (.Name "zip" p) [e, e2] [] pos) (iZip2 X.K ta) := by
  refine ⟨fun pins s st H R I h => ?_⟩
  refine Call_ (ld_blt I hg hm PyProof.Rows.boot_zip (PyProof.Rows.callWith_type1 (thn (ha.run pos pins s st H _ I h) fun us s1 ⟨vs, H1, I1, r1, q1⟩ => ?_) hs hpl))
  obtain ⟨b1, b2, a1, a2, xs, ys, ex, hqx, hqy, q⟩ := q1
  subst ex
  obtain ⟨w1, w2, rfl, rv1, rv2⟩ := vals2 r1
  cases rv1
  cases rv2
  obtain ⟨its, rv, p1⟩ := seqB I1 hqx
  obtain ⟨its2, rv2, p2⟩ := seqB I1 hqy
  refine zip_begins2 (beginsB b1 a1 its.toArray) (beginsB b2 a2 its2.toArray) p1 p2 fun h' hz hTI hTO g1 g2 hsz hk => wpAny_pyIter_zip hz ?_
  have I2 : Inv X pins st H1 { s1 with heap := h' } := I1.kept (t' := s1.toks) hk
  refine ⟨s1.heap.objs.size + 4, [s1.heap.objs.size + 4, s1.heap.objs.size + 2, s1.heap.objs.size + 3, s1.heap.objs.size, s1.heap.objs.size + 1], _, _, H1, rfl, I2, turn_zip2 b1 b2 p1.lt p2.lt, ⟨hz, hTI, ⟨_, _, hTO⟩, ItB.start g1, ItB.start g2⟩, fun c hcm => ?_, q⟩
  have e' : c = s1.heap.objs.size + 4 ∨ c = s1.heap.objs.size + 2 ∨ c = s1.heap.objs.size + 3 ∨ c = s1.heap.objs.size ∨ c = s1.heap.objs.size + 1 := by simpa using hcm
  have hle : s1.heap.objs.size ≤ c := by
    rcases e' with z | z | z | z | z
    · rw [z]; exact Nat.le_add_right _ _
    · rw [z]; exact Nat.le_add_right _ _
    · rw [z]; exact Nat.le_add_right _ _
    · rw [z]; exact Nat.le_refl _
    · rw [z]; exact Nat.le_add_right _ _
  exact I1.fpOk hle (I1.hok.fresh hle)
def Itz3 (b1 b2 b3 : Bool) (K : PySem.W.Frag) (a1 a2 a3 : Addr) : It :=
  ⟨fun i H => ∃ (xs ys zs : List V) (x y z : V), SqB b1 K H a1 xs ∧ SqB b2 K H a2 ys ∧ SqB b3 K H a3 zs ∧ xs[i]? = some x ∧ ys[i]? = some y ∧ zs[i]? = some z,
    fun i H v H' => ∃ T x y z, v = .ref T ∧ H T = none ∧ NewO H H' T [x, y, z] ∧ (∀ xs, SqB b1 K H a1 xs → xs[i]? = some x) ∧ (∀ ys, SqB b2 K H a2 ys → ys[i]? = some y) ∧ ∀ zs, SqB b3 K H a3 zs → zs[i]? = some z,
    fun i H => ∃ xs ys zs : List V, SqB b1 K H a1 xs ∧ SqB b2 K H a2 ys ∧ SqB b3 K H a3 zs ∧ i = min (min xs.length ys.length) zs.length⟩
theorem turn_zip3 {P : Program} {w : World} {K : PySem.W.Frag} {elts : List PySem.Expr} {kk : Nat} {tpos : Pos} (b1 b2 b3 : Bool) {a1 a2 a3 : Addr} {N : Nat} (h1 : a1 < N) (h2 : a2 < N) (h3 : a3 < N) :
    Turn P w K (.Tuple elts kk tpos) (Itz3 b1 b2 b3 K a1 a2 a3) [N + 5, N + 3, N + 4, N, N + 1, N + 2] (N + 5)
      (fun i h => IsZip h (N + 5) (N + 3) (N + 4) .none ∧ IsTupOf3 h (N + 3) (.ref N) (.ref (N + 1)) (.ref (N + 2)) ∧ (∃ x y z, IsTupOf3 h (N + 4) x y z) ∧ ItB b1 h N a1 i ∧ ItB b2 h (N + 1) a2 i ∧ ItB b3 h (N + 2) a3 i) where
  mem := by simp
  obj := fun i h st c hc => by
    obtain ⟨hz, hTI, ⟨x, y, z, hTO⟩, t1, t2, t3⟩ := st
    have e' : c = N + 5 ∨ c = N + 3 ∨ c = N + 4 ∨ c = N ∨ c = N + 1 ∨ c = N + 2 := by simpa using hc
    rcases e' with q | q | q | q | q | q
    · rw [q]; exact ⟨_, hz, fun v q => nomatch q⟩
    · rw [q]; exact ⟨_, hTI, fun v q => nomatch q⟩
    · rw [q]; exact ⟨_, hTO, fun v q => nomatch q⟩
    · rw [q]; exact t1.obj
    · rw [q]; exact t2.obj
    · rw [q]; exact t3.obj
  keep := fun i h h' st k => by
    obtain ⟨hz, hTI, ⟨x, y, z, hTO⟩, t1, t2, t3⟩ := st
    exact ⟨k _ (by simp) _ hz, k _ (by simp) _ hTI, ⟨x, y, z, k _ (by simp) _ hTO⟩, t1.at fun o q => k _ (by simp) o q, t2.at fun o q => k _ (by simp) o q, t3.at fun o q => k _ (by simp) o q⟩
  item := by
    intro X hP hw hK hc i pins s st H E I hf tn hg
    subst hP hw hK
    obtain ⟨hz, hTI, ⟨x0, y0, z0, hTO⟩, t1, t2, t3⟩ := tn
    obtain ⟨xs, ys, zs, x, y, z, hqx, hqy, hqz, hx, hy, hzz⟩ := hg
    obtain ⟨its, rv, p⟩ := seqB I hqx
    obtain ⟨its2, rv2, p2⟩ := seqB I hqy
    obtain ⟨its3, rv3, p3⟩ := seqB I hqz
    obtain ⟨u, hu, ru⟩ := rv.get hx
    obtain ⟨u2, hu2, ru2⟩ := rv2.get hy
    obtain ⟨u3, hu3, ru3⟩ := rv3.get hzz
    have hzl : N + 5 < s.heap.objs.size := Heap.lt_size hz
    have S : ZipSep3 (N + 5) (N + 3) (N + 4) N (N + 1) (N + 2) [N, a1] [N + 1, a2] [N + 2, a3] := zip_sep3 (fp1 := [a1]) (fp2 := [a2]) (fp3 := [a3]) (fun b hb => by rw [List.mem_singleton.mp hb]; exact h1) (fun b hb => by rw [List.mem_singleton.mp hb]; exact h2) (fun b hb => by rw [List.mem_singleton.mp hb]; exact h3)
    refine wpAny_pyNext_zipD3_item S (drawsB (A := X.A.in1) b1 (I.ok.hd hc) N a1 (Nat.ne_of_lt h1) its.toArray) (drawsB (A := X.A.in1) b2 (I.ok.hd hc) (N + 1) a2 (Nat.ne_of_lt (Nat.lt_succ_of_lt h2)) its2.toArray)
      (drawsB (A := X.A.in1) b3 (I.ok.hd hc) (N + 2) a3 (Nat.ne_of_lt (Nat.lt_succ_of_lt (Nat.lt_succ_of_lt h3))) its3.toArray) hz hTI hTO ⟨t1, p⟩ ⟨t2, p2⟩ ⟨t3, p3⟩
      (by rw [List.size_toArray]; exact (List.getElem?_eq_some_iff.mp hu).1) (by rw [List.size_toArray]; exact (List.getElem?_eq_some_iff.mp hu2).1) (by rw [List.size_toArray]; exact (List.getElem?_eq_some_iff.mp hu3).1) fun y1 y2 y3 h' tk e1 e2 e3 z' TO' t1' t2' t3' hT hsz hk => ?_
    have ey : y1 = u := by
      have : its.toArray[i]? = some y1 := e1
      rw [List.getElem?_toArray, hu] at this
      exact (Option.some.inj this).symm
    have ey2 : y2 = u2 := by
      have : its2.toArray[i]? = some y2 := e2
      rw [List.getElem?_toArray, hu2] at this
      exact (Option.some.inj this).symm
    have ey3 : y3 = u3 := by
      have : its3.toArray[i]? = some y3 := e3
      rw [List.getElem?_toArray, hu3] at this
      exact (Option.some.inj this).symm
    subst ey ey2 ey3
    refine ⟨_, rfl, wpAny_letOwnedTupleGo_zip (s := { s with heap := h', toks := tk }) z' fun h'' z'' sb => ?_⟩
    have hT2 : h''.get? s.heap.objs.size = some { cls := .type "tuple", data := .seq #[y1, y2, y3] } := (sb.2 _ (Nat.ne_of_gt hzl)).trans hT
    have new : ObjOk X.prog X.w (upd H s.heap.objs.size (.frz { cls := .type "tuple", data := .seq #[y1, y2, y3] } (.tup [x, y, z]))) h'' s.heap.objs.size (.frz { cls := .type "tuple", data := .seq #[y1, y2, y3] } (.tup [x, y, z])) :=
      ⟨hT2, by show 3 ≤ sizeLine; decide, [y1, y2, y3], .cons ru (.cons ru2 (.cons ru3 .nil)), ⟨_, hT2, rfl, _, rfl⟩⟩
    have I1 : Inv X pins st (upd H s.heap.objs.size (.frz { cls := .type "tuple", data := .seq #[y1, y2, y3] } (.tup [x, y, z]))) { s with heap := h'', toks := tk } :=
      I.turnedNew (t' := tk) (ch := [N + 5, N + 3, N + 4, N, N + 1, N + 2]) (fun c o hb q => (sb.2 c (fun q' => hb (by simp [q']))).trans (hk c o (fun q' => hb (by simp [q'])) (fun q' => hb (by simp [q'])) (fun q' => hb (by simp [q'])) (fun q' => hb (by simp [q'])) (fun q' => hb (by simp [q'])) q)) hf (Nat.le_refl _) new
    refine ⟨.ref s.heap.objs.size, _, I1, rfl, ⟨_, x, y, z, rfl, I.hok.fresh (Nat.le_refl _), ⟨_, rfl, rfl, rfl⟩, fun l hl => by rw [seqB_inj I hl hqx]; exact hx, fun l hl => by rw [seqB_inj I hl hqy]; exact hy, fun l hl => by rw [seqB_inj I hl hqz]; exact hzz⟩, ⟨z'', ?_, ⟨y1, y2, y3, ?_⟩, ?_, ?_, ?_⟩, fun c hcm => ?_⟩
    · exact (sb.2 _ S.TIz).trans (hk _ _ S.TIz S.TITO S.TIi1 S.TIi2 S.TIi3 hTI)
    · exact (sb.2 _ S.TOz).trans TO'
    · exact t1'.1.at fun o q => (sb.2 _ (Ne.symm S.zi1)).trans q
    · exact t2'.1.at fun o q => (sb.2 _ (Ne.symm S.zi2)).trans q
    · exact t3'.1.at fun o q => (sb.2 _ (Ne.symm S.zi3)).trans q
    · have hlt : c < s.heap.objs.size := by
        have e' : c = N + 5 ∨ c = N + 3 ∨ c = N + 4 ∨ c = N ∨ c = N + 1 ∨ c = N + 2 := by simpa using hcm
        rcases e' with q | q | q | q | q | q
        · rw [q]; exact hzl
        · rw [q]; exact Heap.lt_size hTI
        · rw [q]; exact Heap.lt_size hTO
        · rw [q]; obtain ⟨_, e1, _⟩ := t1.obj; exact Heap.lt_size e1
        · rw [q]; obtain ⟨_, e2, _⟩ := t2.obj; exact Heap.lt_size e2
        · rw [q]; obtain ⟨_, e3, _⟩ := t3.obj; exact Heap.lt_size e3
      rw [upd_ne (Nat.ne_of_lt hlt)]
      exact (hf c hcm).1
  done := by
    intro X hP hw hK hc i pins s st H E I hf tn hg
    subst hP hw hK
    obtain ⟨hz, hTI, ⟨x0, y0, z0, hTO⟩, t1, t2, t3⟩ := tn
    obtain ⟨xs, ys, zs, hqx, hqy, hqz, hend⟩ := hg
    obtain ⟨its, rv, p⟩ := seqB I hqx
    obtain ⟨its2, rv2, p2⟩ := seqB I hqy
    obtain ⟨its3, rv3, p3⟩ := seqB I hqz
    have l1 := rv.length
    have l2 := rv2.length
    have l3 := rv3.length
    have S : ZipSep3 (N + 5) (N + 3) (N + 4) N (N + 1) (N + 2) [N, a1] [N + 1, a2] [N + 2, a3] := zip_sep3 (fp1 := [a1]) (fp2 := [a2]) (fp3 := [a3]) (fun b hb => by rw [List.mem_singleton.mp hb]; exact h1) (fun b hb => by rw [List.mem_singleton.mp hb]; exact h2) (fun b hb => by rw [List.mem_singleton.mp hb]; exact h3)
    refine wpAny_pyNext_zipD3_end S (drawsB (A := X.A.in1) b1 (I.ok.hd hc) N a1 (Nat.ne_of_lt h1) its.toArray) (drawsB (A := X.A.in1) b2 (I.ok.hd hc) (N + 1) a2 (Nat.ne_of_lt (Nat.lt_succ_of_lt h2)) its2.toArray)
      (drawsB (A := X.A.in1) b3 (I.ok.hd hc) (N + 2) a3 (Nat.ne_of_lt (Nat.lt_succ_of_lt (Nat.lt_succ_of_lt h3))) its3.toArray) hz hTI hTO ⟨t1, p⟩ ⟨t2, p2⟩ ⟨t3, p3⟩
      (by rw [List.size_toArray]; omega) (by rw [List.size_toArray]; omega) (by rw [List.size_toArray]; omega) (by rw [List.size_toArray, List.size_toArray, List.size_toArray]; omega) fun h' tk hk => ⟨rfl, I.turnedL (t' := tk) (ch := [N + 5, N + 3, N + 4, N, N + 1, N + 2]) (fun c o hb q =>
        hk c o (fun q' => hb (by simp [q'])) (fun q' => hb (by simp [q'])) (fun q' => hb (by simp [q'])) (fun q' => hb (by simp [q'])) (fun q' => hb (by simp [q'])) q) hf⟩
  self := fun A i s Q E st h => wpAny_pyIter_zip st.1 h
def iZip3 (K : PySem.W.Frag) (ta : TA) : TI := fun st H R => ta st H fun vs H1 => ∃ b1 b2 b3 a1 a2 a3 xs ys zs, vs = [.ref a1, .ref a2, .ref a3] ∧ SqB b1 K H1 a1 xs ∧ SqB b2 K H1 a2 ys ∧ SqB b3 K H1 a3 zs ∧ R (Itz3 b1 b2 b3 K a1 a2 a3) H1
theorem pi_zip3 {X : Cx} {e e2 e3 : PySem.Expr} {ta : TA} {p pos tpos : Pos} {elts : List PySem.Expr} {kk : Nat} (hg : Gl X "zip") (hm : X.mg "zip" = none) (ha : PA X [e, e2, e3] ta)
    (hs : starEach [e, e2, e3] X.env = (false, eval e X.env) :: starEach [e2, e3] X.env) (hpl : (backTo pos (starEach [e2, e3] X.env)).any (·.1) = false) :
    PI X (.Tuple elts kk tpos) (.Call (.Name "zip" p) [e, e2, e3] [] pos) (iZip3 X.K ta) := by
  refine ⟨fun pins s st H R I h => ?_⟩
  refine Call_ (ld_blt I hg hm PyProof.Rows.boot_zip (PyProof.Rows.callWith_type1 (thn (ha.run pos pins s st H _ I h) fun us s1 ⟨vs, H1, I1, r1, q1⟩ => ?_) hs hpl))
  obtain ⟨b1, b2, b3, a1, a2, a3, xs, ys, zs, ex, hqx, hqy, hqz, q⟩ := q1
  subst ex
  obtain ⟨w1, w2, w3, rfl, rv1, rv2, rv3⟩ : ∃ u1 u2 u3, us = [u1, u2, u3] ∧ RelV (.ref a1) u1 ∧ RelV (.ref a2) u2 ∧ RelV (.ref a3) u3 := by
    cases r1 with
    | cons p q => cases q with
      | cons p' q' => cases q' with
        | cons p'' q'' =>
          cases q''
          exact ⟨_, _, _, rfl, p, p', p''⟩
  cases rv1
  cases rv2
  cases rv3
  obtain ⟨its, rv, p1⟩ := seqB I1 hqx
  obtain ⟨its2, rv2, p2⟩ := seqB I1 hqy
  obtain ⟨its3, rv3, p3⟩ := seqB I1 hqz
  refine zip_begins3 (beginsB b1 a1 its.toArray) (beginsB b2 a2 its2.toArray) (beginsB b3 a3 its3.toArray) p1 p2 p3 fun h' hz hTI hTO g1 g2 g3 hsz hk => wpAny_pyIter_zip hz ?_
  have I2 : Inv X pins st H1 { s1 with heap := h' } := I1.kept (t' := s1.toks) hk
  refine ⟨s1.heap.objs.size + 5, [s1.heap.objs.size + 5, s1.heap.objs.size + 3, s1.heap.objs.size + 4, s1.heap.objs.size, s1.heap.objs.size + 1, s1.heap.objs.size + 2], _, _, H1, rfl, I2, turn_zip3 b1 b2 b3 p1.lt p2.lt p3.lt, ⟨hz, hTI, ⟨_, _, _, hTO⟩, ItB.start g1, ItB.start g2, ItB.start g3⟩, fun c hcm => ?_, q⟩
  have e' : c = s1.heap.objs.size + 5 ∨ c = s1.heap.objs.size + 3 ∨ c = s1.heap.objs.size + 4 ∨ c = s1.heap.objs.size ∨ c = s1.heap.objs.size + 1 ∨ c = s1.heap.objs.size + 2 := by simpa using hcm
  have hle : s1.heap.objs.size ≤ c := by
    rcases e' with z | z | z | z | z | z
    · rw [z]; exact Nat.le_add_right _ _
    · rw [z]; exact Nat.le_add_right _ _
    · rw [z]; exact Nat.le_add_right _ _
    · rw [z]; exact Nat.le_refl _
    · rw [z]; exact Nat.le_add_right _ _
    · rw [z]; exact Nat.le_add_right _ _
  exact I1.fpOk hle (I1.hok.fresh hle)
end Bd
namespace Bd
open PySem PySem.Spec PyProof.Rows L2
/-- a value that is read at once; shared, where it is not borrowed -/
def QSnd (G : Gn) (c : Ct) (e : PySem.Expr) (x : E) : Prop := ∀ (T : Tb) (n : Nat) (L : Lay) (X : Cx), Gd G T n L c X → ∀ W : WX, Takes X W → ∃ te, PE X e te ∧
  ∀ g s wd0 wd st Q, WdOk L wd s → Slots L wd0 wd st g → RPost L wd (WE W st) (fun d _ wd' => ∀ v, IsB L wd' v d → (notBrw x = true → Is L wd'.F wd'.mu v d) → Q v wd'.H) (evB (evE T (callsAt T n) x g s) x g s) → te st wd.H Q
section
variable {G : Gn} {c : Ct} {e a b : PySem.Expr} {x y : E} {pos p : Pos}
theorem q_of (h : ESnd G c e x) (hx : notBrw x = true) : QSnd G c e x := fun T n L X gd W tk => by
  obtain ⟨te, p, q⟩ := h T n L X gd W tk
  refine ⟨te, p, fun g s wd0 wd st Q k sl r => q g s wd0 wd st Q k sl ?_⟩
  rw [evB_not hx] at r
  exact r.mono fun d s' wd' _ _ z v i => z v (.inl i) fun _ => i
theorem q_brw {i : Nat} (h : OSnd G c e (.brw i)) : QSnd G c e (.brw i) := fun T n L X gd W tk => by
  obtain ⟨te, p, q⟩ := h T n L X gd W tk
  exact ⟨te, p, fun g s wd0 wd st Q k sl r => q g s wd0 wd st Q k sl (r.mono fun d s' wd' _ _ z v i => z v i fun h => nomatch h)⟩
def isBrw : E → Bool
  | .brw _ => true
  | _ => false
/-- is something borrowed at the top -/
def topBrw : E → Bool
  | .brw _ => true
  | .enum a => isBrw a
  | .zip2 a b => isBrw a || isBrw b
  | .zip3 a b d => isBrw a || isBrw b || isBrw d
  | _ => false
/-- the iterator J yields the things of l, while the sources stand -/
def ItS (L : Lay) (vs : List V) (ds : List D) (l : List D) (J : It) : Prop := ∀ wd s, WdOk L wd s → Paired (IsB L wd) vs ds → ∀ i : Nat, (i = l.length → J.stop i wd.H) ∧
  ∀ d, l[i]? = some d → J.go i wd.H ∧ ∀ x H', J.yld i wd.H x H' → ∃ wd2, wd2.H = H' ∧ Ext wd wd2 ∧ WdOk L wd2 s ∧ Is L wd2.F wd2.mu x d
def isTupE : PySem.Expr → Bool
  | .Tuple _ _ _ => true
  | _ => false
/-- what a for or a comprehension walks; tu: its target is a tuple -/
def ISnd (G : Gn) (c : Ct) (it : PySem.Expr) (x : E) (tu : Bool) : Prop := ∀ (T : Tb) (n : Nat) (L : Lay) (X : Cx), Gd G T n L c X → ∀ W : WX, Takes X W → ∀ tg, (tu = true → isTupE tg = true) → ∃ wi, PI X tg it wi ∧
  ∀ g s wd0 wd st R, WdOk L wd s → Slots L wd0 wd st g → RPost L wd (WE W st) (fun d _ wd' => ∃ l, seqOf d = some l ∧ ∀ J vs ds, ItS L vs ds l J → Paired (IsB L wd') vs ds → (topBrw x = false → Paired (Is L wd'.F wd'.mu) vs ds) → R J wd'.H)
    (evB (evE T (callsAt T n) x g s) x g s) → wi st wd.H R
theorem pi_alt {X : Cx} {tg it : PySem.Expr} {w1 w2 : TI} (h1 : PI X tg it w1) (h2 : PI X tg it w2) : PI X tg it (fun st H R => w1 st H R ∨ w2 st H R) :=
  ⟨fun pins s st H R I q => q.elim (fun q => h1.run pins s st H R I q) fun q => h2.run pins s st H R I q⟩
theorem IsB.seqB {L : Lay} {wd : Wd} {s : Sto} {v : V} {d : D} {ds : List D} (k : WdOk L wd s) (h : IsB L wd v d) (e : seqOf d = some ds) : ∃ b a vs, v = .ref a ∧ SqB b L.K wd.H a vs ∧ IsAll L wd.F wd.mu vs ds ∧ ∀ wd1 s1, WdOk L wd1 s1 → IsB L wd1 v d → ∃ vs1, SqB b L.K wd1.H a vs1 ∧ IsAll L wd1.F wd1.mu vs1 ds := by
  cases d with
  | tup xs =>
    cases e
    obtain ⟨a, vs, rfl, h1, h2⟩ := h.tup k
    refine ⟨false, a, vs, rfl, h1.sq, h2, fun wd1 s1 k1 i => ?_⟩
    obtain ⟨a', vs1, e, h3, h4⟩ := i.tup k1
    cases e
    exact ⟨vs1, h3.sq, h4⟩
  | lst xs =>
    cases e
    obtain ⟨a, vs, rfl, h1, h2⟩ := h.lst k
    refine ⟨true, a, vs, rfl, SqL.of h1, h2, fun wd1 s1 k1 i => ?_⟩
    obtain ⟨a', vs1, e, h3, h4⟩ := i.lst k1
    cases e
    exact ⟨vs1, SqL.of h3, h4⟩
  | scr ns =>
    cases e
    obtain ⟨a, rfl, h1⟩ := h.scr k
    refine ⟨true, a, _, rfl, h1, IsAll.of_ints ns, fun wd1 s1 k1 i => ?_⟩
    obtain ⟨a', e, h3⟩ := i.scr k1
    cases e
    exact ⟨_, h3, IsAll.of_ints ns⟩
  | _ => cases e
/-- lists and tuples themselves -/
def ItP (b : Bool) (K : PySem.W.Frag) (a : Addr) : It := if b = true then Itl K a else Itt K a
theorem itp_ok {L : Lay} {wd : Wd} {s : Sto} {v : V} {d : D} {l : List D} {b : Bool} {a : Addr} {vs : List V} (e : v = .ref a) (h : ∀ wd1 s1, WdOk L wd1 s1 → IsB L wd1 v d → ∃ vs1, SqB b L.K wd1.H a vs1 ∧ IsAll L wd1.F wd1.mu vs1 l) : ItS L [v] [d] l (ItP b L.K a) := fun wd1 s1 k1 ps i => by
  obtain ⟨_, _, e1, e2, i1⟩ := pr1 (R := IsB L wd1) (vs := [v]) (ds := [d]) rfl ps
  cases e1
  cases e2
  obtain ⟨vs1, q1, q2⟩ := h wd1 s1 k1 i1
  cases b with
  | true =>
    have q1 : SqL L.K wd1.H a vs1 := q1
    refine ⟨fun z => ⟨vs1, q1, by rw [q2.length, z]; exact Nat.le_refl _⟩, fun d hd => ?_⟩
    obtain ⟨x, hx, ix⟩ := q2.get hd
    refine ⟨⟨vs1, x, q1, hx⟩, fun y H' ⟨z1, z2⟩ => ?_⟩
    have := z2 vs1 q1
    rw [hx] at this
    cases this
    exact ⟨wd1, z1.symm, Ext.refl _, k1, ix⟩
  | false =>
    have q1 : SqT L.K wd1.H a vs1 := q1
    refine ⟨fun z => ⟨vs1, q1, by rw [q2.length, z]; exact Nat.le_refl _⟩, fun d hd => ?_⟩
    obtain ⟨x, hx, ix⟩ := q2.get hd
    refine ⟨⟨vs1, x, q1, hx⟩, fun y H' ⟨z1, z2⟩ => ?_⟩
    have := z2 vs1 q1
    rw [hx] at this
    cases this
    exact ⟨wd1, z1.symm, Ext.refl _, k1, ix⟩
def plainIt : E → Bool
  | .enum _ => false
  | .zip2 _ _ => false
  | .zip3 _ _ _ => false
  | .rng1 _ => false
  | .rng2 _ _ => false
  | .rng3 _ _ _ => false
  | _ => true
theorem topBrw_plain (h : plainIt x = true) : topBrw x = !notBrw x := by
  cases x <;> first | rfl | cases h
theorem i_val (h : QSnd G c e x) (hp : plainIt x = true) : ISnd G c e x false := fun T n L X gd W tk tg _ => by
  obtain ⟨te, p1, q1⟩ := h T n L X gd W tk
  refine ⟨_, pi_alt (pi_list p1) (pi_tup p1), fun g s wd0 wd st R k sl r => ?_⟩
  rw [gd.hK]
  cases e0 : evB (evE T (callsAt T n) x g s) x g s with
  | no => rw [e0] at r; exact False.elim r
  | ex k0 ys s1 =>
    refine .inl (q1 g s wd0 wd st _ k sl ?_)
    rw [e0] at r ⊢
    exact r
  | ok d s1 =>
    rw [e0] at r
    have tb : ∀ (wd' : Wd) v, (notBrw x = true → Is L wd'.F wd'.mu v d) → topBrw x = false → Paired (Is L wd'.F wd'.mu) [v] [d] := fun wd' v h1 h2 => by
      rw [topBrw_plain hp] at h2
      exact .cons (h1 (by simpa using h2)) .nil
    cases d with
    | tup xs =>
      refine .inr (q1 g s wd0 wd st _ k sl ?_)
      rw [e0]
      intro wd1 x1 k1 v i iv
      obtain ⟨l, el, hl⟩ := r wd1 x1 k1
      cases el
      obtain ⟨b, a, vs, ev, z1, z2, z3⟩ := i.seqB k1 (ds := xs) rfl
      obtain ⟨a', vs', ev', y1, y2⟩ := i.tup k1
      subst ev
      cases ev'
      refine ⟨a, rfl, ⟨_, y1.sq⟩, hl _ [.ref a] [.tup xs] ?_ (.cons i .nil) (tb wd1 _ iv)⟩
      refine itp_ok (b := false) (vs := vs') (wd := wd1) (s := s1) rfl fun wd2 s2 k2 i2 => ?_
      obtain ⟨a2, vs2, e2, h2, h3⟩ := i2.tup k2
      cases e2
      exact ⟨vs2, h2.sq, h3⟩
    | lst xs =>
      refine .inl (q1 g s wd0 wd st _ k sl ?_)
      rw [e0]
      intro wd1 x1 k1 v i iv
      obtain ⟨l, el, hl⟩ := r wd1 x1 k1
      cases el
      obtain ⟨a, vs', rfl, y1, y2⟩ := i.lst k1
      refine ⟨a, rfl, ⟨_, SqL.of y1⟩, hl _ [.ref a] [.lst xs] ?_ (.cons i .nil) (tb wd1 _ iv)⟩
      refine itp_ok (b := true) (vs := vs') (wd := wd1) (s := s1) rfl fun wd2 s2 k2 i2 => ?_
      obtain ⟨a2, vs2, e2, h2, h3⟩ := i2.lst k2
      cases e2
      exact ⟨vs2, SqL.of h2, h3⟩
    | scr ns =>
      refine .inl (q1 g s wd0 wd st _ k sl ?_)
      rw [e0]
      intro wd1 x1 k1 v i iv
      obtain ⟨l, el, hl⟩ := r wd1 x1 k1
      cases el
      obtain ⟨a, rfl, y1⟩ := i.scr k1
      refine ⟨a, rfl, ⟨_, y1⟩, hl _ [.ref a] [.scr ns] ?_ (.cons i .nil) (tb wd1 _ iv)⟩
      refine itp_ok (b := true) (vs := ns.map V.int) (wd := wd1) (s := s1) rfl fun wd2 s2 k2 i2 => ?_
      obtain ⟨a2, e2, h2⟩ := i2.scr k2
      cases e2
      exact ⟨_, h2, IsAll.of_ints ns⟩
    | _ =>
      refine .inl (q1 g s wd0 wd st _ k sl ?_)
      rw [e0]
      intro wd1 x1 k1 v i iv
      obtain ⟨l, el, _⟩ := r wd1 x1 k1
      cases el
theorem rng_items {L : Lay} {i j : Int} {l : List D} (h : rngD i j = some l) : (-(2 ^ 62) ≤ i ∧ i < 2 ^ 62 ∧ -(2 ^ 62) ≤ j ∧ j < 2 ^ 62) ∧ ItS L [] [] l (Itr i (j - i).toNat) := by
  unfold rngD at h
  obtain ⟨h1, rfl⟩ := ite_some h
  simp only [Bool.and_eq_true, decide_eq_true_eq] at h1
  refine ⟨⟨h1.1.1.1.1, h1.1.1.1.2, h1.1.1.2, h1.1.2⟩, fun wd s k _ m => ⟨fun e => ?_, fun d hd => ?_⟩⟩
  · rw [List.length_map, List.length_range] at e
    exact Nat.le_of_eq e.symm
  · rw [List.getElem?_map] at hd
    have hm : m < (j - i).toNat := by
      by_cases q : m < (j - i).toNat
      · exact q
      · rw [List.getElem?_eq_none (by rw [List.length_range]; omega)] at hd
        cases hd
    rw [List.getElem?_eq_getElem (by rw [List.length_range]; exact hm)] at hd
    simp only [Option.map_some, List.getElem_range] at hd
    cases hd
    refine ⟨hm, fun y H' ⟨e1, e2⟩ => ⟨wd, e1.symm, Ext.refl _, k, ?_⟩⟩
    rw [e2]
    exact .int _
theorem i_rng1 (ha : ESnd G c a x) (hs : noStar a = true) (hg : globB c.sc "range" = true) (hf : ("range" : Str) ∈ G.fre) : ISnd G c (.Call (.Name "range" p) [a] [] pos) (.rng1 x) false := fun T n L X gd W tk tg _ => by
  obtain ⟨te, p1, q1⟩ := ha T n L X gd W tk
  refine ⟨_, pi_range1 (glob_of gd hg) (gd.fre _ hf) (pa_cons p1 pa_nil (star_cons hs)) (star_cons hs), fun g s wd0 wd st R k sl r => ?_⟩
  unfold evE at r
  simp only [evB] at r
  refine q1 g s wd0 wd st _ k sl (r.bind.mono fun d s1 wd1 x1 k1 r1 v i => ?_)
  cases d with
  | int j =>
    cases i
    obtain ⟨l, e, h⟩ := RPost.opt k1 r1.bind
    obtain ⟨⟨b1, b2, b3, b4⟩, it⟩ := rng_items (L := L) e
    obtain ⟨l', e', hR⟩ := h.now k1
    cases e'
    refine ⟨j, rfl, b3, b4, hR _ [] [] ?_ .nil fun _ => .nil⟩
    have : (j - 0).toNat = j.toNat := by omega
    rw [← this]
    exact it
  | _ => exact False.elim r1
theorem i_rng2 (ha : ESnd G c a x) (hb : ESnd G c b y) (hs : noStar a = true) (hs2 : noStar b = true) (hg : globB c.sc "range" = true) (hf : ("range" : Str) ∈ G.fre) : ISnd G c (.Call (.Name "range" p) [a, b] [] pos) (.rng2 x y) false := fun T n L X gd W tk tg _ => by
  obtain ⟨te, p1, q1⟩ := ha T n L X gd W tk
  obtain ⟨te2, p2, q2⟩ := hb T n L X gd W tk
  refine ⟨_, pi_range2 (glob_of gd hg) (gd.fre _ hf) (pa_cons p1 (pa_cons p2 pa_nil (star_cons hs2)) (star_cons hs)) (by rw [star_cons hs, star_cons hs2]; rfl) (star_cons hs2), fun g s wd0 wd st R k sl r => ?_⟩
  unfold evE at r
  simp only [evB] at r
  refine q1 g s wd0 wd st _ k sl (r.bind.mono fun d s1 wd1 x1 k1 r1 v i => ?_)
  refine q2 g s1 wd0 wd1 st _ k1 (sl.ext x1) (r1.bind.mono fun d2 s2 wd2 x2 k2 r2 v2 i2 => ?_)
  cases d with
  | int j =>
    cases d2 with
    | int j2 =>
      cases i
      cases i2
      obtain ⟨l, e, h⟩ := RPost.opt k2 r2.bind
      obtain ⟨b1, it⟩ := rng_items (L := L) e
      obtain ⟨l', e', hR⟩ := h.now k2
      cases e'
      exact ⟨j, j2, rfl, b1, hR _ [] [] it .nil fun _ => .nil⟩
    | _ => exact False.elim r2
  | _ => exact False.elim r2
theorem rng3_items {L : Lay} {i j c : Int} {l : List D} (h : rngD3 i j c = some l) : RgC i j c (Builtin.Range.rangeSize i j c).toNat ∧ ItS L [] [] l (Itc i c (Builtin.Range.rangeSize i j c).toNat) := by
  unfold rngD3 at h
  obtain ⟨h1, rfl⟩ := ite_some h
  simp only [Bool.and_eq_true, decide_eq_true_eq] at h1
  have hn : 0 ≤ Builtin.Range.rangeSize i j c := by
    unfold Builtin.Range.rangeSize
    rw [if_pos h1.1.1.1]
    split
    · have := Int.ediv_nonneg (a := j - i - 1) (b := c) (by omega) (by omega)
      omega
    · omega
  refine ⟨⟨by omega, by omega, h1.1.2, by omega⟩, fun wd s k _ m => ⟨fun e => ?_, fun d hd => ?_⟩⟩
  · rw [List.length_map, List.length_range] at e
    exact Nat.le_of_eq e.symm
  · rw [List.getElem?_map] at hd
    have hm : m < (Builtin.Range.rangeSize i j c).toNat := by
      by_cases q : m < (Builtin.Range.rangeSize i j c).toNat
      · exact q
      · rw [List.getElem?_eq_none (by rw [List.length_range]; omega)] at hd
        cases hd
    rw [List.getElem?_eq_getElem (by rw [List.length_range]; exact hm)] at hd
    simp only [Option.map_some, List.getElem_range] at hd
    cases hd
    refine ⟨hm, fun y H' ⟨e1, e2⟩ => ⟨wd, e1.symm, Ext.refl _, k, ?_⟩⟩
    rw [e2]
    exact .int _
theorem i_rng3 {d : PySem.Expr} {z : E} (ha : ESnd G c a x) (hb : ESnd G c b y) (hd : ESnd G c d z) (hs : noStar a = true) (hs2 : noStar b = true) (hs3 : noStar d = true) (hg : globB c.sc "range" = true) (hf : ("range" : Str) ∈ G.fre) : ISnd G c (.Call (.Name "range" p) [a, b, d] [] pos) (.rng3 x y z) false := fun T n L X gd W tk tg _ => by
  obtain ⟨te, p1, q1⟩ := ha T n L X gd W tk
  obtain ⟨te2, p2, q2⟩ := hb T n L X gd W tk
  obtain ⟨te3, p3, q3⟩ := hd T n L X gd W tk
  refine ⟨_, pi_range3 (glob_of gd hg) (gd.fre _ hf) (pa_cons p1 (pa_cons p2 (pa_cons p3 pa_nil (star_cons hs3)) (star_cons hs2)) (star_cons hs)) (star_cons hs) (star_any (by rw [List.all_cons, hs2, List.all_cons, hs3]; rfl)), fun g s wd0 wd st R k sl r => ?_⟩
  unfold evE at r
  simp only [evB] at r
  refine q1 g s wd0 wd st _ k sl (r.bind.mono fun d s1 wd1 x1 k1 r1 v i => ?_)
  refine q2 g s1 wd0 wd1 st _ k1 (sl.ext x1) (r1.bind.mono fun d2 s2 wd2 x2 k2 r2 v2 i2 => ?_)
  refine q3 g s2 wd0 wd2 st _ k2 ((sl.ext x1).ext x2) (r2.bind.mono fun d3 s3 wd3 x3 k3 r3 v3 i3 => ?_)
  unfold rng3R at r3
  cases d with
  | int j =>
    cases d2 with
    | int j2 =>
      cases d3 with
      | int j3 =>
        cases i
        cases i2
        cases i3
        obtain ⟨l, e, h⟩ := RPost.opt k3 r3.bind
        obtain ⟨b1, it⟩ := rng3_items (L := L) e
        obtain ⟨l', e', hR⟩ := h.now k3
        cases e'
        exact ⟨j, j2, j3, _, rfl, b1, hR _ [] [] it .nil fun _ => .nil⟩
      | _ => exact False.elim r3
    | _ => exact False.elim r3
  | _ => exact False.elim r3
theorem enumL_get : ∀ (l : List D) (k i : Nat), (enumL k l)[i]? = (l[i]?).map fun d => .tup [.int ((k + i : Nat) : Int), d]
  | [], k, i => by simp [enumL]
  | x :: xs, k, 0 => by simp [enumL]
  | x :: xs, k, i + 1 => by
    unfold enumL
    rw [List.getElem?_cons_succ, enumL_get xs (k + 1) i, List.getElem?_cons_succ]
    have : k + 1 + i = k + (i + 1) := by omega
    rw [this]
theorem enumL_len : ∀ (l : List D) (k : Nat), (enumL k l).length = l.length
  | [], _ => rfl
  | _ :: xs, k => by simp [enumL, enumL_len xs (k + 1)]
/-- a new pair -/
theorem pair_ok {L : Lay} {wd : Wd} {s : Sto} {T : Addr} {vs : List V} {ds : List D} {H' : Hp} (k : WdOk L wd s) (h : wd.H T = none) (hn : NewO wd.H H' T vs) (i : IsAll L wd.F wd.mu vs ds) : ∃ wd2 : Wd, wd2.H = H' ∧ Ext wd wd2 ∧ WdOk L wd2 s ∧ Is L wd2.F wd2.mu (.ref T) (.tup ds) :=
  let ⟨o, e, hk⟩ := hn
  ⟨⟨upd wd.F T (.frz o (.tup vs)), wd.mu, upd wd.H T (.frz o (.tup vs))⟩, e.symm, Ext.frozen k h, k.frozen h, .tup ⟨o, upd_same, hk⟩ (i.ext (Ext.frozen k h))⟩
theorem i_enum (ha : QSnd G c a x) (hs : noStar a = true) (hg : globB c.sc "enumerate" = true) (hf : ("enumerate" : Str) ∈ G.fre) : ISnd G c (.Call (.Name "enumerate" p) [a] [] pos) (.enum x) true := fun T n L X gd W tk tg htg => by
  obtain ⟨te, p1, q1⟩ := ha T n L X gd W tk
  cases tg with
  | Tuple elts kk tpos =>
    refine ⟨_, pi_enumB (glob_of gd hg) (gd.fre _ hf) (pa_cons p1 pa_nil (star_cons hs)) (star_cons hs), fun g s wd0 wd st R k sl r => ?_⟩
    unfold evE at r
    simp only [evB] at r
    rw [gd.hK]
    refine q1 g s wd0 wd st _ k sl (r.bind.mono fun d s1 wd1 x1 k1 r1 v i iv => ?_)
    obtain ⟨l, e, h⟩ := RPost.opt k1 r1.bind
    obtain ⟨l', e', hR⟩ := h.now k1
    cases e'
    obtain ⟨b, a0, vs, rfl, z1, z2, z3⟩ := i.seqB k1 e
    refine ⟨b, a0, vs, rfl, z1, hR _ [.ref a0] [d] ?_ (.cons i .nil) fun ht => .cons (iv (by cases x <;> first | rfl | cases ht)) .nil⟩
    intro wd2 s2 k2 ps m
    obtain ⟨_, _, e1, e2, i1⟩ := pr1 (R := IsB L wd2) (vs := [.ref a0]) (ds := [d]) rfl ps
    cases e1
    cases e2
    obtain ⟨vs1, y1, y2⟩ := z3 wd2 s2 k2 i1
    refine ⟨fun em => ⟨vs1, y1, ?_⟩, fun dd hd => ?_⟩
    · rw [em, enumL_len, y2.length]
    · rw [enumL_get] at hd
      cases hl : l[m]? with
      | none => rw [hl] at hd; cases hd
      | some d1 =>
        rw [hl] at hd
        cases hd
        obtain ⟨x3, hx, ix⟩ := y2.get hl
        refine ⟨⟨vs1, x3, y1, hx⟩, fun y H' ⟨T1, x4, w1, w2, w3, w4⟩ => ?_⟩
        have := w4 vs1 y1
        rw [hx] at this
        cases this
        obtain ⟨wd3, u1, u2, u3, u4⟩ := pair_ok k2 w2 w3 (vs := [.int (m : Nat), x3]) (ds := [.int ((m : Nat) : Int), d1]) (.cons (.int _) (.cons ix .nil))
        refine ⟨wd3, u1, u2, u3, ?_⟩
        rw [w1]
        have e0 : 0 + m = m := by omega
        rw [e0]
        exact u4
  | _ => exact absurd (htg rfl) (by intro z; cases z)
theorem zipL_get : ∀ (l m : List D) (i : Nat), (zipL l m)[i]? = (match l[i]?, m[i]? with
  | some a, some b => some (.tup [a, b])
  | _, _ => none)
  | [], m, i => by cases m <;> simp [zipL]
  | x :: xs, [], i => by
    simp [zipL]
  | x :: xs, y :: ys, 0 => by simp [zipL]
  | x :: xs, y :: ys, i + 1 => by
    unfold zipL
    rw [List.getElem?_cons_succ, zipL_get xs ys i, List.getElem?_cons_succ, List.getElem?_cons_succ]
theorem zipL_len : ∀ (l m : List D), (zipL l m).length = min l.length m.length
  | [], m => by cases m <;> simp [zipL]
  | x :: xs, [] => by simp [zipL]
  | x :: xs, y :: ys => by
    unfold zipL
    rw [List.length_cons, zipL_len xs ys, List.length_cons, List.length_cons]
    omega
theorem i_zip2 (ha : QSnd G c a x) (hb : QSnd G c b y) (hs : noStar a = true) (hs2 : noStar b = true) (hg : globB c.sc "zip" = true) (hf : ("zip" : Str) ∈ G.fre) : ISnd G c (.Call (.Name "zip" p) [a, b] [] pos) (.zip2 x y) true := fun T n L X gd W tk tg htg => by
  obtain ⟨te, p1, q1⟩ := ha T n L X gd W tk
  obtain ⟨te2, p2, q2⟩ := hb T n L X gd W tk
  cases tg with
  | Tuple elts kk tpos =>
    refine ⟨_, pi_zip2 (glob_of gd hg) (gd.fre _ hf) (pa_cons p1 (pa_cons p2 pa_nil (star_cons hs2)) (star_cons hs)) (star_cons hs) (star_any (by rw [List.all_cons, hs2]; rfl)), fun g s wd0 wd st R k sl r => ?_⟩
    unfold evE at r
    simp only [evB] at r
    rw [gd.hK]
    refine q1 g s wd0 wd st _ k sl (r.bind.mono fun d s1 wd1 x1 k1 r1 v i iv => ?_)
    refine q2 g s1 wd0 wd1 st _ k1 (sl.ext x1) (r1.bind.mono fun d2 s2 wd2 x2 k2 r2 v2 i2 iv2 => ?_)
    obtain ⟨l, e, h⟩ := RPost.opt k2 r2.bind
    obtain ⟨m, em, h2⟩ := RPost.opt k2 h.bind
    obtain ⟨l', e', hR⟩ := h2.now k2
    cases e'
    obtain ⟨b1, a1, vs1, rfl, z1, z2, z3⟩ := (i.ext x2).seqB k2 e
    obtain ⟨b2, a2, vs2, rfl, y1, y2, y3⟩ := i2.seqB k2 em
    refine ⟨b1, b2, a1, a2, vs1, vs2, rfl, z1, y1, hR _ [.ref a1, .ref a2] [d, d2] ?_ (.cons (i.ext x2) (.cons i2 .nil)) fun ht => ?_⟩
    · intro wd3 s3 k3 ps j
      obtain ⟨_, _, _, _, e1, e2, i1, i2'⟩ := pr2 (R := IsB L wd3) (vs := [.ref a1, .ref a2]) (ds := [d, d2]) rfl ps
      cases e1
      cases e2
      obtain ⟨ws1, t1, t2⟩ := z3 wd3 s3 k3 i1
      obtain ⟨ws2, t3, t4⟩ := y3 wd3 s3 k3 i2'
      refine ⟨fun ej => ⟨ws1, ws2, t1, t3, ?_⟩, fun dd hd => ?_⟩
      · rw [ej, zipL_len, t2.length, t4.length]
      · rw [zipL_get] at hd
        cases hl : l[j]? with
        | none => rw [hl] at hd; cases hd
        | some d3 =>
          rw [hl] at hd
          cases hm : m[j]? with
          | none => rw [hm] at hd; cases hd
          | some d4 =>
            rw [hm] at hd
            cases hd
            obtain ⟨x3, hx3, ix3⟩ := t2.get hl
            obtain ⟨x4, hx4, ix4⟩ := t4.get hm
            refine ⟨⟨ws1, ws2, x3, x4, t1, t3, hx3, hx4⟩, fun z H' ⟨T1, x5, x6, w1, w2, w3, w4, w5⟩ => ?_⟩
            have u5 := w4 ws1 t1
            rw [hx3] at u5
            cases u5
            have u6 := w5 ws2 t3
            rw [hx4] at u6
            cases u6
            obtain ⟨wd4, u1, u2, u3, u4⟩ := pair_ok k3 w2 w3 (vs := [x3, x4]) (ds := [d3, d4]) (.cons ix3 (.cons ix4 .nil))
            refine ⟨wd4, u1, u2, u3, ?_⟩
            rw [w1]
            exact u4
    · have h1 : notBrw x = true := by
        have : (isBrw x || isBrw y) = false := ht
        rw [Bool.or_eq_false_iff] at this
        cases x <;> first | rfl | cases this.1
      have h2 : notBrw y = true := by
        have : (isBrw x || isBrw y) = false := ht
        rw [Bool.or_eq_false_iff] at this
        cases y <;> first | rfl | cases this.2
      exact .cons ((iv h1).ext x2) (.cons (iv2 h2) .nil)
  | _ => exact absurd (htg rfl) (by intro z; cases z)
theorem pr3 {R : V → D → Prop} {vs : List V} {ds : List D} (h : ds.length = 3) (p : Paired R vs ds) : ∃ v w u d d2 d3, vs = [v, w, u] ∧ ds = [d, d2, d3] ∧ R v d ∧ R w d2 ∧ R u d3 := by
  cases p with
  | nil => cases h
  | cons r t =>
    obtain ⟨w, u, d2, d3, rfl, rfl, r2, r3⟩ := pr2 (by simpa using h) t
    exact ⟨_, _, _, _, _, _, rfl, rfl, r, r2, r3⟩
theorem zipL3_get : ∀ (l m o : List D) (i : Nat), (zipL3 l m o)[i]? = (match l[i]?, m[i]?, o[i]? with
  | some a, some b, some d => some (.tup [a, b, d])
  | _, _, _ => none)
  | [], m, o, i => by simp [zipL3]
  | x :: xs, [], o, i => by
    simp [zipL3]
  | x :: xs, y :: ys, [], i => by
    simp [zipL3]
  | x :: xs, y :: ys, z :: zs, 0 => by simp [zipL3]
  | x :: xs, y :: ys, z :: zs, i + 1 => by
    unfold zipL3
    rw [List.getElem?_cons_succ, zipL3_get xs ys zs i, List.getElem?_cons_succ, List.getElem?_cons_succ, List.getElem?_cons_succ]
theorem zipL3_len : ∀ (l m o : List D), (zipL3 l m o).length = min (min l.length m.length) o.length
  | [], m, o => by simp [zipL3]
  | x :: xs, [], o => by simp [zipL3]
  | x :: xs, y :: ys, [] => by simp [zipL3]
  | x :: xs, y :: ys, z :: zs => by
    unfold zipL3
    rw [List.length_cons, zipL3_len xs ys zs, List.length_cons, List.length_cons, List.length_cons]
    omega
theorem i_zip3 {b3 : PySem.Expr} {y3 : E} (ha : QSnd G c a x) (hb : QSnd G c b y) (hc3 : QSnd G c b3 y3) (hs : noStar a = true) (hs2 : noStar b = true) (hs3 : noStar b3 = true) (hg : globB c.sc "zip" = true) (hf : ("zip" : Str) ∈ G.fre) : ISnd G c (.Call (.Name "zip" p) [a, b, b3] [] pos) (.zip3 x y y3) true := fun T n L X gd W tk tg htg => by
  obtain ⟨te, p1, q1⟩ := ha T n L X gd W tk
  obtain ⟨te2, p2, q2⟩ := hb T n L X gd W tk
  obtain ⟨te3, p3, q3⟩ := hc3 T n L X gd W tk
  cases tg with
  | Tuple elts kk tpos =>
    refine ⟨_, pi_zip3 (glob_of gd hg) (gd.fre _ hf) (pa_cons p1 (pa_cons p2 (pa_cons p3 pa_nil (star_cons hs3)) (star_cons hs2)) (star_cons hs)) (star_cons hs) (star_any (by rw [List.all_cons, hs2, List.all_cons, hs3]; rfl)), fun g s wd0 wd st R k sl r => ?_⟩
    unfold evE at r
    simp only [evB] at r
    rw [gd.hK]
    refine q1 g s wd0 wd st _ k sl (r.bind.mono fun d s1 wd1 x1 k1 r1 v i iv => ?_)
    refine q2 g s1 wd0 wd1 st _ k1 (sl.ext x1) (r1.bind.mono fun d2 s2 wd2 x2 k2 r2 v2 i2 iv2 => ?_)
    refine q3 g s2 wd0 wd2 st _ k2 ((sl.ext x1).ext x2) (r2.bind.mono fun d3 s3 wd3 x3 k3 r3 v3 i3 iv3 => ?_)
    obtain ⟨l, e, h⟩ := RPost.opt k3 r3.bind
    obtain ⟨m, em, h2⟩ := RPost.opt k3 h.bind
    obtain ⟨o, eo, h3⟩ := RPost.opt k3 h2.bind
    obtain ⟨l', e', hR⟩ := h3.now k3
    cases e'
    have j1 := (i.ext x2).ext x3
    have j2 := i2.ext x3
    obtain ⟨b1, a1, vs1, rfl, z1, z2, z3⟩ := j1.seqB k3 e
    obtain ⟨b2, a2, vs2, rfl, y1, y2, y4⟩ := j2.seqB k3 em
    obtain ⟨b3, a3, vs3, rfl, w1, w2, w3⟩ := i3.seqB k3 eo
    refine ⟨b1, b2, b3, a1, a2, a3, vs1, vs2, vs3, rfl, z1, y1, w1, hR _ [.ref a1, .ref a2, .ref a3] [d, d2, d3] ?_ (.cons j1 (.cons j2 (.cons i3 .nil))) fun ht => ?_⟩
    · intro wd4 s4 k4 ps j
      obtain ⟨_, _, _, _, _, _, e1, e2, i1, i2', i3'⟩ := pr3 (R := IsB L wd4) (vs := [.ref a1, .ref a2, .ref a3]) (ds := [d, d2, d3]) rfl ps
      cases e1
      cases e2
      obtain ⟨ws1, t1, t2⟩ := z3 wd4 s4 k4 i1
      obtain ⟨ws2, t3, t4⟩ := y4 wd4 s4 k4 i2'
      obtain ⟨ws3, t5, t6⟩ := w3 wd4 s4 k4 i3'
      refine ⟨fun ej => ⟨ws1, ws2, ws3, t1, t3, t5, ?_⟩, fun dd hd => ?_⟩
      · rw [ej, zipL3_len, t2.length, t4.length, t6.length]
      · rw [zipL3_get] at hd
        cases hl : l[j]? with
        | none => rw [hl] at hd; cases hd
        | some c1 =>
          rw [hl] at hd
          cases hm : m[j]? with
          | none => rw [hm] at hd; cases hd
          | some c2 =>
            rw [hm] at hd
            cases ho : o[j]? with
            | none => rw [ho] at hd; cases hd
            | some c3 =>
              rw [ho] at hd
              cases hd
              obtain ⟨x4, hx4, ix4⟩ := t2.get hl
              obtain ⟨x5, hx5, ix5⟩ := t4.get hm
              obtain ⟨x6, hx6, ix6⟩ := t6.get ho
              refine ⟨⟨ws1, ws2, ws3, x4, x5, x6, t1, t3, t5, hx4, hx5, hx6⟩, fun z H' ⟨T1, x7, x8, x9, g1, g2, g3, g4, g5, g6⟩ => ?_⟩
              have u5 := g4 ws1 t1
              rw [hx4] at u5
              cases u5
              have u6 := g5 ws2 t3
              rw [hx5] at u6
              cases u6
              have u7 := g6 ws3 t5
              rw [hx6] at u7
              cases u7
              obtain ⟨wd5, u1, u2, u3, u4⟩ := pair_ok k4 g2 g3 (vs := [x4, x5, x6]) (ds := [c1, c2, c3]) (.cons ix4 (.cons ix5 (.cons ix6 .nil)))
              refine ⟨wd5, u1, u2, u3, ?_⟩
              rw [g1]
              exact u4
    · have hh : (isBrw x || isBrw y || isBrw y3) = false := ht
      rw [Bool.or_eq_false_iff, Bool.or_eq_false_iff] at hh
      have h1 : notBrw x = true := by cases x <;> first | rfl | cases hh.1.1
      have h2 : notBrw y = true := by cases y <;> first | rfl | cases hh.1.2
      have h3 : notBrw y3 = true := by cases y3 <;> first | rfl | cases hh.2
      exact .cons (((iv h1).ext x2).ext x3) (.cons ((iv2 h2).ext x3) (.cons (iv3 h3) .nil))
  | _ => exact absurd (htg rfl) (by intro z; cases z)
end
end Bd
namespace Bd
open PySem PySem.Spec PyProof.Rows L2
section
variable {P : Program} {w : World} {A : Around} {E : Value → Shared → Prop}
/-- so many items are drawn -/
theorem draw_some {I l : Addr} {vs : Array Value} (W : Walks P w A I [I, l] [I] vs.size (fun i v => vs[i]? = some v) (fun i h => h.IsListIter I l i ∧ h.IsList l vs)) : ∀ (k i : Nat) (s : Shared) (Q : List Value → Shared → Prop), i + k ≤ vs.size → (s.heap.IsListIter I l i ∧ s.heap.IsList l vs) →
    (∀ h' tk, (h'.IsListIter I l (i + k) ∧ h'.IsList l vs) → (∀ b o, b ≠ I → s.heap.get? b = some o → h'.get? b = some o) → Q ((vs.toList.drop i).take k) { s with heap := h', toks := tk }) → wpAny (model P w) A (draw (.ref I) k) Q E s
  | 0, i, s, Q, _, st, q => by
    show wpAny _ _ (pure []) Q E s
    have := q s.heap s.toks st fun _ _ _ e => e
    exact wpAny_pure (by simpa using this)
  | k + 1, i, s, Q, hk, st, q => by
    have hi : i < vs.size := by omega
    show wpAny _ _ (pyNext (.ref I) >>= _) Q E s
    refine wpAny_bind (W.item i s _ _ hi st fun v h1 t1 hv st1 k1 => ?_)
    refine wpAny_bind (wpAny_holding (draw_some W k (i + 1) _ _ (by omega) st1 fun h2 t2 st2 k2 => wpAny_pure ?_))
    have e : vs.toList.drop i = v :: vs.toList.drop (i + 1) := by
      have h3 : i < vs.toList.length := by simpa using hi
      rw [List.drop_eq_getElem_cons h3]
      congr 1
      have h4 : vs.toList[i]? = some v := by rw [Array.getElem?_toList]; exact hv
      rw [List.getElem?_eq_getElem h3] at h4
      exact Option.some.inj h4
    have z := q h2 t2 (by rw [show i + (k + 1) = i + 1 + k by omega]; exact st2) fun b o hb o1 => k2 b o hb (k1 b o (by simpa using hb) o1)
    rw [e, List.take_succ_cons] at z
    exact z
variable {s : Shared}
theorem unpack_list {l : Addr} {vs : Array Value} {ts : List (Bool × (Value → Sem Unit))} {Q : Unit → Shared → Prop} (hh : A.handled = none) (hl : s.heap.IsList l vs) (hn : ts.length = vs.size) (hs : ts.findIdx? (·.1) = none)
    (h : ∀ h' tk, (∀ b o, s.heap.get? b = some o → h'.get? b = some o) → wpAny (model P w) A (assignInOrder (ts.map (·.2)) vs.toList) Q E { s with heap := h', toks := tk }) : wpAny (model P w) A (unpack (.ref l) ts) Q E s := by
  obtain ⟨ol, hol, -⟩ := id hl
  have hlt : l < s.heap.objs.size := Heap.lt_size hol
  have W := Walks.list (prog := P) (w := w) (A := A) hh s.heap.objs.size l (Nat.ne_of_lt hlt) vs
  unfold unpack
  rw [hn, hs]
  refine wpAny_bind (wpAny_holding ?_)
  unfold unpackItems
  refine wpAny_bind ?_
  unfold notIterableAtAll
  refine wpAny_bind (wpAny_specialOf hl.typeIs slot_list_iter.lookup (wpAny_pure ?_))
  simp only [Bool.false_eq_true, if_false]
  refine wpAny_bind (wpAny_holding (wpAny_pyIter_list hl ?_))
  refine wpAny_bind (wpAny_holding (draw_some W vs.size 0 _ _ (by omega) ⟨⟨_, Heap.get?_push_size _ rfl, rfl, rfl⟩, hl.push _⟩ fun h1 t1 st1 k1 => ?_))
  rw [List.drop_zero, List.take_of_length_le (by simp)]
  rw [if_neg (by simp)]
  rw [Nat.zero_add] at st1
  refine wpAny_bind (wpAny_holding (W.done _ _ _ st1 fun h2 t2 k2 => ?_))
  simp only [Option.isSome_none, Bool.false_eq_true, if_false]
  refine wpAny_pure (h h2 t2 fun b o e => ?_)
  have hb : b ≠ s.heap.objs.size := Nat.ne_of_lt (Heap.lt_size e)
  exact k2 b o (by simpa using hb) (k1 b o hb (Heap.get?_push_of_some _ e))
end
/-- (a, b, ..) = a list of that length -/
def gTupL (K : PySem.W.Frag) (n : Nat) (t : TGs) : L2.TG := fun v st H Q => ∃ a xs, v = .ref a ∧ SqL K H a xs ∧ xs.length = n ∧ t xs st H Q
theorem pg_tupL {X : Cx} {es : List PySem.Expr} {k : Nat} {pos : Pos} {t : TGs} {n : Nat} (hc : X.calm = true) (h : PGs X es t) (hn : (assignEach es X.env).length = n) (hs : (assignEach es X.env).findIdx? (·.1) = none) : PG X (.Tuple es k pos) (gTupL X.K n t) := by
  refine ⟨fun pins s st H v u Q I r w => ?_⟩
  obtain ⟨a, xs, ev, hq, hl, w⟩ := w
  subst ev
  cases r
  obtain ⟨its, rv, pl, hz⟩ := I.list hq
  rw [assign_Tuple]
  refine wpAny_bind (wpAny_standAt (unpack_list (I.ok.hd hc) pl.isList ?_ hs fun h' tk hk => ?_))
  · rw [hn, ← hl, List.size_toArray]
    exact rv.length
  · have I1 : Inv X pins st H { s with heap := h', toks := tk } := I.kept hk
    exact h.run pins _ st H xs _ Q I1 (by simpa using rv) w
theorem pg_alt {X : Cx} {e : PySem.Expr} {g1 g2 : L2.TG} (h1 : PG X e g1) (h2 : PG X e g2) : PG X e (fun v st H Q => g1 v st H Q ∨ g2 v st H Q) := ⟨fun pins s st H v u Q I r w => w.elim (fun q => h1.run pins s st H v u Q I r q) fun q => h2.run pins s st H v u Q I r q⟩
end Bd
namespace Bd
open PySem PySem.Spec PyProof.Rows L2
/-- the iterator J yields the things of l, while the store stands -/
def ItL (L : Lay) (wd : Wd) (s : Sto) (l : List D) (J : It) : Prop := ∀ wd1, Ext wd wd1 → WdOk L wd1 s → ∀ i : Nat, (i = l.length → J.stop i wd1.H) ∧
  ∀ d, l[i]? = some d → J.go i wd1.H ∧ ∀ x H', J.yld i wd1.H x H' → ∃ wd2, wd2.H = H' ∧ Ext wd1 wd2 ∧ WdOk L wd2 s ∧ Is L wd2.F wd2.mu x d
/-- what a comprehension walks -/
def LstAt (d : D) (s : Sto) (l : List D) : Prop := (∃ m, d = .loc m ∧ s[m]? = some (.lst l)) ∨ ∃ x, d = .str x ∧ l = chsD x
def SrcP (L : Lay) (x : E) (R : It → Hp → Prop) (d : D) (s : Sto) (wd : Wd) : Prop := (∃ l, LstAt d s l ∧ ∀ J, ItL L wd s l J → R J wd.H) ∨
  ∃ l, seqOf d = some l ∧ ∀ J vs ds, ItS L vs ds l J → Paired (IsB L wd) vs ds → (topBrw x = false → Paired (Is L wd.F wd.mu) vs ds) → R J wd.H
def LSnd (G : Gn) (c : Ct) (it : PySem.Expr) (x : E) (tu : Bool) : Prop := ∀ (T : Tb) (n : Nat) (L : Lay) (X : Cx), Gd G T n L c X → ∀ W : WX, Takes X W → ∀ tg, (tu = true → isTupE tg = true) → ∃ wi, PI X tg it wi ∧
  ∀ g s wd0 wd st R, WdOk L wd s → Slots L wd0 wd st g → RPost L wd (WE W st) (SrcP L x R) (evB (evE T (callsAt T n) x g s) x g s) → wi st wd.H R
section
variable {G : Gn} {c : Ct} {e : PySem.Expr} {x : E}
theorem itl_ok {L : Lay} {wd : Wd} {s : Sto} {m : Nat} {l : List D} {a : Addr} (hm : wd.mu[m]? = some a) (hs : s[m]? = some (.lst l)) : ItL L wd s l (Itl L.K a) := fun wd1 x1 k1 i => by
  obtain ⟨a', e1, vs1, e2, q2⟩ := k1.sto m (.lst l) hs
  rw [x1.mle m a hm] at e1
  cases e1
  have q1 : SqL L.K wd1.H a vs1 := SqL.of e2
  refine ⟨fun z => ⟨vs1, q1, by rw [q2.length, z]; exact Nat.le_refl _⟩, fun d hd => ?_⟩
  obtain ⟨y, hy, iy⟩ := q2.get hd
  refine ⟨⟨vs1, y, q1, hy⟩, fun z H' ⟨z1, z2⟩ => ?_⟩
  have z3 := z2 vs1 q1
  rw [hy] at z3
  cases z3
  exact ⟨wd1, z1.symm, Ext.refl _, k1, iy⟩
theorem its_ok {L : Lay} {wd : Wd} {s : Sto} (x : Str) : ItL L wd s (chsD x) (Its x) := fun wd1 x1 k1 i => by
  have hl : (chsD x).length = x.cps.size := by simp [chsD]
  refine ⟨fun z => ?_, fun d hd => ⟨?_, fun z H' hz => ?_⟩⟩
  · show x.cps.size ≤ i
    omega
  · show i < x.cps.size
    rw [← hl]
    exact (List.getElem?_eq_some_iff.mp hd).1
  · obtain ⟨z1, c, z2, z3⟩ : H' = wd1.H ∧ ∃ c, x.cps[i]? = some c ∧ z = .str ⟨#[c]⟩ := hz
    have e : d = .str ⟨#[c]⟩ := by
      unfold chsD at hd
      rw [List.getElem?_map, Array.getElem?_toList, z2] at hd
      exact (Option.some.inj hd).symm
    subst e z3
    exact ⟨wd1, z1.symm, Ext.refl _, k1, .str _⟩
theorem l_val (h : QSnd G c e x) (hp : plainIt x = true) : LSnd G c e x false := fun T n L X gd W tk tg _ => by
  obtain ⟨te, p1, q1⟩ := h T n L X gd W tk
  refine ⟨_, pi_alt (pi_list p1) (pi_alt (pi_tup p1) (pi_str p1)), fun g s wd0 wd st R k sl r => ?_⟩
  rw [gd.hK]
  cases e0 : evB (evE T (callsAt T n) x g s) x g s with
  | no => rw [e0] at r; exact False.elim r
  | ex k0 ys s1 =>
    refine .inl (q1 g s wd0 wd st _ k sl ?_)
    rw [e0] at r ⊢
    exact r
  | ok d s1 =>
    rw [e0] at r
    have tb : ∀ (wd' : Wd) v, (notBrw x = true → Is L wd'.F wd'.mu v d) → topBrw x = false → Paired (Is L wd'.F wd'.mu) [v] [d] := fun wd' v h1 h2 => by
      rw [topBrw_plain hp] at h2
      exact .cons (h1 (by simpa using h2)) .nil
    cases d with
    | str x =>
      refine .inr (.inr (q1 g s wd0 wd st _ k sl ?_))
      rw [e0]
      intro wd1 x1 k1 v i iv
      have hv := i.str
      subst hv
      rcases r wd1 x1 k1 with ⟨l, z, hl⟩ | ⟨l, el, hl⟩
      · rcases z with ⟨m', z, _⟩ | ⟨x', z, e⟩
        · cases z
        · cases z
          subst e
          exact ⟨_, rfl, hl _ (its_ok _)⟩
      · cases el
    | tup xs =>
      refine .inr (.inl (q1 g s wd0 wd st _ k sl ?_))
      rw [e0]
      intro wd1 x1 k1 v i iv
      rcases r wd1 x1 k1 with ⟨l, z, _⟩ | ⟨l, el, hl⟩
      · rcases z with ⟨m, z, _⟩ | ⟨x', z, _⟩ <;> cases z
      cases el
      obtain ⟨a', vs', ev', y1, y2⟩ := i.tup k1
      subst ev'
      refine ⟨a', rfl, ⟨_, y1.sq⟩, hl _ [.ref a'] [.tup xs] ?_ (.cons i .nil) (tb wd1 _ iv)⟩
      refine itp_ok (b := false) (vs := vs') (wd := wd1) (s := s1) rfl fun wd2 s2 k2 i2 => ?_
      obtain ⟨a2, vs2, e2, h2, h3⟩ := i2.tup k2
      cases e2
      exact ⟨vs2, h2.sq, h3⟩
    | lst xs =>
      refine .inl (q1 g s wd0 wd st _ k sl ?_)
      rw [e0]
      intro wd1 x1 k1 v i iv
      rcases r wd1 x1 k1 with ⟨l, z, _⟩ | ⟨l, el, hl⟩
      · rcases z with ⟨m, z, _⟩ | ⟨x', z, _⟩ <;> cases z
      cases el
      obtain ⟨a, vs', rfl, y1, y2⟩ := i.lst k1
      refine ⟨a, rfl, ⟨_, SqL.of y1⟩, hl _ [.ref a] [.lst xs] ?_ (.cons i .nil) (tb wd1 _ iv)⟩
      refine itp_ok (b := true) (vs := vs') (wd := wd1) (s := s1) rfl fun wd2 s2 k2 i2 => ?_
      obtain ⟨a2, vs2, e2, h2, h3⟩ := i2.lst k2
      cases e2
      exact ⟨vs2, SqL.of h2, h3⟩
    | scr ns =>
      refine .inl (q1 g s wd0 wd st _ k sl ?_)
      rw [e0]
      intro wd1 x1 k1 v i iv
      rcases r wd1 x1 k1 with ⟨l, z, _⟩ | ⟨l, el, hl⟩
      · rcases z with ⟨m, z, _⟩ | ⟨x', z, _⟩ <;> cases z
      cases el
      obtain ⟨a, rfl, y1⟩ := i.scr k1
      refine ⟨a, rfl, ⟨_, y1⟩, hl _ [.ref a] [.scr ns] ?_ (.cons i .nil) (tb wd1 _ iv)⟩
      refine itp_ok (b := true) (vs := ns.map V.int) (wd := wd1) (s := s1) rfl fun wd2 s2 k2 i2 => ?_
      obtain ⟨a2, e2, h2⟩ := i2.scr k2
      cases e2
      exact ⟨_, h2, IsAll.of_ints ns⟩
    | loc m =>
      refine .inl (q1 g s wd0 wd st _ k sl ?_)
      rw [e0]
      intro wd1 x1 k1 v i iv
      rcases r wd1 x1 k1 with ⟨l, z, hl⟩ | ⟨l, el, hl⟩
      · obtain ⟨m', z, es⟩ | ⟨x', z, _⟩ := z
        rotate_left
        · cases z
        cases z
        rcases i with i | ⟨_, _, _, _, z, _⟩
        · cases i with
          | loc hmu =>
            rename_i a
            obtain ⟨a', e1, vs1, e2, q2⟩ := k1.sto m (.lst l) es
            rw [hmu] at e1
            cases e1
            exact ⟨a, rfl, ⟨_, SqL.of e2⟩, hl _ (itl_ok hmu es)⟩
        · cases z
      · cases el
    | _ =>
      refine .inl (q1 g s wd0 wd st _ k sl ?_)
      rw [e0]
      intro wd1 x1 k1 v i iv
      rcases r wd1 x1 k1 with ⟨l, z, _⟩ | ⟨l, el, hl⟩
      · rcases z with ⟨m, z, _⟩ | ⟨x', z, _⟩ <;> cases z
      · cases el
def isLocD : D → Bool
  | .loc _ => true
  | .str _ => true
  | _ => false
theorem bind_ok_inv {A B : Type} {r : R A} {k : A → Sto → R B} {b : B} {s' : Sto} (h : r.bind k = .ok b s') : ∃ a s, r = .ok a s ∧ k a s = .ok b s' := by
  cases r with
  | ok a s => exact ⟨a, s, rfl, h⟩
  | ex => cases h
  | no => cases h
theorem walk_lst {T : Tb} {C : Calls} {g : En} {s s1 : Sto} {d : D} (hp : plainIt x = false) (h : evE T C x g s = .ok d s1) : isLocD d = false := by
  cases x with
  | enum a =>
    unfold evE at h
    obtain ⟨x1, s2, -, h⟩ := bind_ok_inv h
    obtain ⟨l, s3, -, h⟩ := bind_ok_inv h
    cases h
    rfl
  | zip2 a b =>
    unfold evE at h
    obtain ⟨x1, s2, -, h⟩ := bind_ok_inv h
    obtain ⟨x2, s3, -, h⟩ := bind_ok_inv h
    obtain ⟨l, s4, -, h⟩ := bind_ok_inv h
    obtain ⟨m, s5, -, h⟩ := bind_ok_inv h
    cases h
    rfl
  | zip3 a b c =>
    unfold evE at h
    obtain ⟨x1, s2, -, h⟩ := bind_ok_inv h
    obtain ⟨x2, s3, -, h⟩ := bind_ok_inv h
    obtain ⟨x3, s6, -, h⟩ := bind_ok_inv h
    obtain ⟨l, s4, -, h⟩ := bind_ok_inv h
    obtain ⟨m, s5, -, h⟩ := bind_ok_inv h
    obtain ⟨o, s7, -, h⟩ := bind_ok_inv h
    cases h
    rfl
  | rng1 a =>
    unfold evE at h
    obtain ⟨x1, s2, -, h⟩ := bind_ok_inv h
    cases x1 with
    | int j =>
      obtain ⟨l, s4, -, h⟩ := bind_ok_inv h
      cases h
      rfl
    | _ => cases h
  | rng2 a b =>
    unfold evE at h
    obtain ⟨x1, s2, -, h⟩ := bind_ok_inv h
    obtain ⟨x2, s3, -, h⟩ := bind_ok_inv h
    cases x1 with
    | int i =>
      cases x2 with
      | int j =>
        obtain ⟨l, s4, -, h⟩ := bind_ok_inv h
        cases h
        rfl
      | _ => cases h
    | _ => cases h
  | rng3 a b c =>
    unfold evE at h
    obtain ⟨x1, s2, -, h⟩ := bind_ok_inv h
    obtain ⟨x2, s3, -, h⟩ := bind_ok_inv h
    obtain ⟨x3, s4, -, h⟩ := bind_ok_inv h
    unfold rng3R at h
    split at h
    · obtain ⟨l, s4, -, h⟩ := bind_ok_inv h
      cases h
      rfl
    · cases h
  | _ => cases hp
theorem plain_brw (hp : plainIt x = false) : notBrw x = true := by
  cases x <;> first | rfl | cases hp
theorem l_of {tu : Bool} (h : ISnd G c e x tu) (hp : plainIt x = false) : LSnd G c e x tu := fun T n L X gd W tk tg ht => by
  obtain ⟨wi, p1, q1⟩ := h T n L X gd W tk tg ht
  refine ⟨wi, p1, fun g s wd0 wd st R k sl r => q1 g s wd0 wd st R k sl ?_⟩
  cases e0 : evB (evE T (callsAt T n) x g s) x g s with
  | no => rw [e0] at r; exact r
  | ex k0 ys s1 => rw [e0] at r; exact r
  | ok d s1 =>
    rw [e0] at r
    intro wd1 x1 k1
    rcases r wd1 x1 k1 with ⟨l, z, _⟩ | q
    · rw [evB_not (plain_brw hp)] at e0
      have := walk_lst hp e0
      rcases z with ⟨m, z, _⟩ | ⟨x', z, _⟩
      · rw [z] at this
        cases this
      · rw [z] at this
        cases this
    · exact q
end
end Bd
namespace Bd
open PySem PySem.Spec PyProof.Rows L2
section
variable {L : Lay} {wd0 wd : Wd} {st : L2.St} {g : En}
theorem Slots.put {i : Nat} {v : V} {d : D} (h : Slots L wd0 wd st g) (hi : i < g.length) (iv : Is L wd.F wd.mu v d) : Slots L wd0 wd (st.set i (some v)) (g.set i (.sh d)) := by
  have hs : i < st.length := by rw [h.len]; exact hi
  refine ⟨by rw [List.length_set, List.length_set]; exact h.len, fun j e hj => ?_, fun j e hj => ?_, fun j k d1 e1 a h1 h2 h3 h4 => ?_⟩
  · by_cases q : i = j
    · subst q
      rw [List.getElem?_set_self hi] at hj
      cases hj
      exact ⟨v, List.getElem?_set_self hs, iv⟩
    · rw [List.getElem?_set_ne q] at hj
      rw [List.getElem?_set_ne q]
      exact h.sh j e hj
  · by_cases q : i = j
    · subst q
      rw [List.getElem?_set_self hi] at hj
      cases hj
    · rw [List.getElem?_set_ne q] at hj
      rw [List.getElem?_set_ne q]
      exact h.ow j e hj
  · have q1 : i ≠ j := fun z => by
      subst z
      rw [List.getElem?_set_self hi] at h1
      cases h1
    have q2 : i ≠ k := fun z => by
      subst z
      rw [List.getElem?_set_self hi] at h2
      cases h2
    rw [List.getElem?_set_ne q1] at h1 h3
    rw [List.getElem?_set_ne q2] at h2 h4
    exact h.dis j k d1 e1 a h1 h2 h3 h4
theorem Slots.drop {i : Nat} (h : Slots L wd0 wd st g) : Slots L wd0 wd (st.set i none) (g.set i .un) := by
  have key : ∀ (j : Nat) x, (g.set i .un)[j]? = some x → x ≠ .un → g[j]? = some x ∧ (st.set i none)[j]? = st[j]? := fun j x e nx => by
    by_cases q : i = j
    · subst q
      by_cases hi : i < g.length
      · rw [List.getElem?_set_self hi] at e
        cases e
        exact absurd rfl nx
      · rw [List.getElem?_eq_none (by rw [List.length_set]; omega)] at e
        cases e
    · rw [List.getElem?_set_ne q] at e
      exact ⟨e, List.getElem?_set_ne q⟩
  refine ⟨by rw [List.length_set, List.length_set]; exact h.len, fun j e hj => ?_, fun j e hj => ?_, fun j k d1 e1 a h1 h2 h3 h4 => ?_⟩
  · obtain ⟨k1, k2⟩ := key j _ hj (by intro z; cases z)
    rw [k2]
    exact h.sh j e k1
  · obtain ⟨k1, k2⟩ := key j _ hj (by intro z; cases z)
    rw [k2]
    exact h.ow j e k1
  · obtain ⟨k1, k2⟩ := key j _ h1 (by intro z; cases z)
    obtain ⟨k3, k4⟩ := key k _ h2 (by intro z; cases z)
    rw [k2] at h3
    rw [k4] at h4
    exact h.dis j k d1 e1 a k1 k3 h3 h4
theorem Slots.wipe (h : Slots L wd0 wd st g) : ∀ vs : List Nat, Slots L wd0 wd (L2.wipe st vs) (wipG g vs)
  | [] => h
  | v :: vs => (Slots.wipe h vs).drop
end
/-- off these slots nothing has changed -/
def Off (is : List Nat) (st st' : L2.St) : Prop := st'.length = st.length ∧ ∀ j : Nat, j ∉ is → st'[j]? = st[j]?
theorem Off.refl {is : List Nat} {st : L2.St} : Off is st st := ⟨rfl, fun _ _ => rfl⟩
theorem Off.set {is : List Nat} {st : L2.St} {i : Nat} {x : Option V} (h : i ∈ is) : Off is st (st.set i x) := ⟨List.length_set, fun j hj => List.getElem?_set_ne fun z => hj (by rw [← z]; exact h)⟩
theorem Off.trans {is js : List Nat} {a b c : L2.St} (h : Off is a b) (k : Off js b c) : Off (is ++ js) a c := ⟨k.1.trans h.1, fun j hj => by
  rw [List.mem_append, not_or] at hj
  exact (k.2 j hj.2).trans (h.2 j hj.1)⟩
theorem wipe_get (st : L2.St) : ∀ (vs : List Nat) (j : Nat), (L2.wipe st vs)[j]? = if j ∈ vs then (st[j]?).map fun _ => none else st[j]?
  | [], j => by simp [L2.wipe]
  | v :: vs, j => by
    show ((L2.wipe st vs).set v none)[j]? = _
    have ih := wipe_get st vs j
    have hl := wipe_length st vs
    by_cases q : v = j
    · subst q
      by_cases hv : v < st.length
      · rw [List.getElem?_set_self (by rw [hl]; exact hv), if_pos List.mem_cons_self, List.getElem?_eq_getElem hv]
        rfl
      · rw [List.getElem?_eq_none (by rw [List.length_set, hl]; omega), if_pos List.mem_cons_self, List.getElem?_eq_none (by omega)]
        rfl
    · rw [List.getElem?_set_ne q, ih]
      have : (j ∈ v :: vs) ↔ j ∈ vs := by
        rw [List.mem_cons]
        exact ⟨fun h => h.elim (fun e => absurd e.symm q) id, .inr⟩
      by_cases hm : j ∈ vs
      · rw [if_pos hm, if_pos (this.mpr hm)]
      · rw [if_neg hm, if_neg fun z => hm (this.mp z)]
theorem Off.wipe {is vs : List Nat} {a b : L2.St} (h : Off is a b) (hs : ∀ i ∈ is, i ∈ vs) : L2.wipe b vs = L2.wipe a vs := by
  apply List.ext_getElem?
  intro j
  rw [wipe_get, wipe_get]
  by_cases hm : j ∈ vs
  · rw [if_pos hm, if_pos hm]
    by_cases hj : j < a.length
    · rw [List.getElem?_eq_getElem hj, List.getElem?_eq_getElem (by rw [h.1]; exact hj)]
      rfl
    · rw [List.getElem?_eq_none (l := a) (by omega), List.getElem?_eq_none (l := b) (by rw [h.1]; omega)]
  · rw [if_neg hm, if_neg hm]
    exact h.2 j fun z => hm (hs j z)
/-- a store, by the slots -/
def gS (L : Lay) (t : TG) : L2.TG := fun v st H Q => ∃ wd s wd0 g d g', wd.H = H ∧ WdOk L wd s ∧ Slots L wd0 wd st g ∧ Is L wd.F wd.mu v d ∧ setT t d g = some g' ∧ ∀ st', Slots L wd0 wd st' g' → Off (slotsT t) st st' → Q st' H
def gSs (L : Lay) (ts : List TG) : L2.TGs := fun vs st H Q => ∃ wd s wd0 g ds g', wd.H = H ∧ WdOk L wd s ∧ Slots L wd0 wd st g ∧ IsAll L wd.F wd.mu vs ds ∧ vs.length = ts.length ∧ setTs ts ds g = some g' ∧ ∀ st', Slots L wd0 wd st' g' → Off (slotsTs ts) st st' → Q st' H
section
variable {G : Gn} {c : Ct}
def KSnd (G : Gn) (c : Ct) (tg : PySem.Expr) (t : TG) : Prop := ∀ (T : Tb) (n : Nat) (L : Lay) (X : Cx), Gd G T n L c X → PG X tg (gS L t)
def KsSnd (G : Gn) (c : Ct) (tgs : List PySem.Expr) (ts : List TG) : Prop := tgs.length = ts.length ∧ tgs.all noStar = true ∧ ∀ (T : Tb) (n : Nat) (L : Lay) (X : Cx), Gd G T n L c X → PGs X tgs (gSs L ts)
def locB (sc : Scope) (x : Str) : Bool := match sc.names.lookup x with
  | some .local => true
  | some .cell => true
  | _ => false
theorem loc_of {sc : Scope} {x : Str} (h : locB sc x = true) : L2.Loc sc x := by
  unfold locB at h
  split at h <;> first | exact .inl (by assumption) | exact .inr (by assumption) | cases h
theorem k_name {x : Str} {i : Nat} {pos : Pos} (hi : c.N[i]? = some x) (hl : locB c.sc x = true) (ht : tgOk c x = true) : KSnd G c (.Name x pos) (.nm i) := fun T n L X gd => by
  refine ⟨fun pins s st H v u Q I r h => ?_⟩
  obtain ⟨wd, sto, wd0, g, d, g', rfl, k, sl, iv, e, q⟩ := h
  unfold setT at e
  by_cases hg : i < g.length
  · rw [if_pos hg] at e
    cases e
    refine (pg_name gd.nd (by rw [gd.hN]; exact hi) (by rw [gd.hsc]; exact loc_of hl) (gd.hfn x ht)).run pins s st wd.H v u Q I r ?_
    exact q _ (sl.put hg iv) (Off.set (by unfold slotsT; exact List.mem_singleton.mpr rfl))
  · rw [if_neg hg] at e
    cases e
theorem assign_cons {e : PySem.Expr} {es : List PySem.Expr} {env : Env} (h : noStar e = true) : assignEach (e :: es) env = (false, assign e env) :: assignEach es env := by
  cases e <;> first | rfl | cases h
theorem ks_nil : KsSnd G c [] [] := ⟨rfl, rfl, fun T n L X gd => ⟨fun pins s st H vs us Q I r h => by
  obtain ⟨wd, sto, wd0, g, ds, g', rfl, k, sl, iv, hl, e, q⟩ := h
  have : vs = [] := List.eq_nil_of_length_eq_zero hl
  subst this
  refine (pgs_nil (X := X)).run pins s st wd.H [] us Q I r ⟨rfl, ?_⟩
  cases iv
  unfold setTs at e
  cases e
  exact q st sl Off.refl⟩⟩
theorem ks_cons {e : PySem.Expr} {es : List PySem.Expr} {t : TG} {ts : List TG} (h1 : KSnd G c e t) (hs : noStar e = true) (h2 : KsSnd G c es ts) : KsSnd G c (e :: es) (t :: ts) := by
  refine ⟨by rw [List.length_cons, List.length_cons, h2.1], by rw [List.all_cons, hs, h2.2.1] <;> rfl, fun T n L X gd => ?_⟩
  refine ⟨fun pins s st H vs us Q I r h => ?_⟩
  obtain ⟨wd, sto, wd0, g, ds, g', rfl, k, sl, iv, hl, e1, q⟩ := h
  refine (pgs_cons (h1 T n L X gd) (h2.2.2 T n L X gd) (by rw [assign_cons hs]; rfl)).run pins s st wd.H vs us Q I r ?_
  cases iv with
  | nil => cases hl
  | cons i is =>
    rename_i v vs d ds
    unfold setTs at e1
    simp only at e1
    cases e2 : setT t d g with
    | none => rw [e2] at e1; cases e1
    | some g1 =>
      rw [e2] at e1
      refine ⟨v, vs, rfl, wd, sto, wd0, g, d, g1, rfl, k, sl, i, e2, fun st1 sl1 o1 => ?_⟩
      refine ⟨wd, sto, wd0, g1, ds, g', rfl, k, sl1, is, Nat.succ.inj hl, e1, fun st2 sl2 o2 => ?_⟩
      exact q st2 sl2 (by unfold slotsTs; exact o1.trans o2)
theorem assign_len {env : Env} : ∀ {es : List PySem.Expr}, es.all noStar = true → (assignEach es env).length = es.length ∧ (assignEach es env).findIdx? (·.1) = none
  | [], _ => ⟨rfl, rfl⟩
  | e :: es, h => by
    rw [List.all_cons, Bool.and_eq_true] at h
    obtain ⟨h1, h2⟩ := assign_len (env := env) h.2
    rw [assign_cons h.1]
    refine ⟨by rw [List.length_cons, h1, List.length_cons], ?_⟩
    rw [List.findIdx?_cons, h2]
    rfl
theorem k_tup {es : List PySem.Expr} {ts : List TG} {kk : Nat} {pos : Pos} (hc : c.calm = true) (h : KsSnd G c es ts) : KSnd G c (.Tuple es kk pos) (.tp ts) := fun T n L X gd => by
  obtain ⟨h1, h2, h3⟩ := h
  obtain ⟨a1, a2⟩ := assign_len (env := X.env) h2
  refine ⟨fun pins s st H v u Q I r hq => ?_⟩
  obtain ⟨wd, sto, wd0, g, d, g', rfl, k, sl, iv, e, q⟩ := hq
  refine (pg_alt (pg_tup (n := es.length) (gd.hcalm.trans hc) (h3 T n L X gd) a1 a2) (pg_tupL (gd.hcalm.trans hc) (h3 T n L X gd) a1 a2)).run pins s st wd.H v u Q I r ?_
  unfold setT at e
  cases d with
  | tup xs =>
    simp only at e
    by_cases hl : ts.length = xs.length
    · rw [if_pos hl] at e
      cases iv with
      | tup e1 e2 =>
        rename_i a vs
        have hv : vs.length = ts.length := by rw [e2.length, hl]
        refine .inl ⟨a, vs, rfl, (e1.mono k.sub).sq, by rw [hv, h1], wd, sto, wd0, g, xs, g', rfl, k, sl, e2, hv, e, fun st' sl' o => q st' sl' ?_⟩
        unfold slotsT
        exact o
    · rw [if_neg hl] at e
      cases e
  | lst xs =>
    simp only at e
    by_cases hl : ts.length = xs.length
    · rw [if_pos hl] at e
      cases iv with
      | lst e1 e2 =>
        rename_i a vs
        have hv : vs.length = ts.length := by rw [e2.length, hl]
        refine .inr ⟨a, vs, rfl, SqL.of (k.sub _ _ e1), by rw [hv, h1], wd, sto, wd0, g, xs, g', rfl, k, sl, e2, hv, e, fun st' sl' o => q st' sl' ?_⟩
        unfold slotsT
        exact o
    · rw [if_neg hl] at e
      cases e
  | _ => cases e
noncomputable def teS (T : Tb) (n : Nat) (L : Lay) (W : WX) (x : E) : TE := fun st H Q => ∃ g s wd0 wd, wd.H = H ∧ WdOk L wd s ∧ Slots L wd0 wd st g ∧ RPost L wd (WE W st) (VP L Q) (evE T (callsAt T n) x g s)
def ttS (T : Tb) (n : Nat) (L : Lay) (W : WX) (x : E) : TT := fun st H Q => ∃ g s wd0 wd, wd.H = H ∧ WdOk L wd s ∧ Slots L wd0 wd st g ∧ RPost L wd (WE W st) (BP Q) (evE T (callsAt T n) x g s)
theorem ESnd.pe {e : PySem.Expr} {x : E} (h : ESnd G c e x) {T : Tb} {n : Nat} {L : Lay} {X : Cx} (gd : Gd G T n L c X) {W : WX} (tk : Takes X W) : PE X e (teS T n L W x) := by
  obtain ⟨te, p, q⟩ := h T n L X gd W tk
  refine ⟨fun pins s st H Q I hq => ?_⟩
  obtain ⟨g, sto, wd0, wd, rfl, k, sl, r⟩ := hq
  exact p.run pins s st wd.H Q I (q g sto wd0 wd st Q k sl r)
theorem TSnd.pt {e : PySem.Expr} {x : E} (h : TSnd G c e x) {T : Tb} {n : Nat} {L : Lay} {X : Cx} (gd : Gd G T n L c X) {W : WX} (tk : Takes X W) : PT X e (ttS T n L W x) := by
  obtain ⟨te, p, q⟩ := h T n L X gd W tk
  refine ⟨fun pins s st H Q I hq => ?_⟩
  obtain ⟨g, sto, wd0, wd, rfl, k, sl, r⟩ := hq
  exact p.run pins s st wd.H Q I (q g sto wd0 wd st Q k sl r)
/-- the tests of a clause: none or one -/
def XSnd (G : Gn) (c : Ct) (ifs : List PySem.Expr) (x : Option E) : Prop := match ifs, x with
  | [], none => True
  | [e], some y => TSnd G c e y
  | _, _ => False
def tsS (T : Tb) (n : Nat) (L : Lay) (W : WX) (x : Option E) : TT := fun st H Q => ∃ g s wd0 wd, wd.H = H ∧ WdOk L wd s ∧ Slots L wd0 wd st g ∧ RPost L wd (WE W st) (BP Q) (evTs T (callsAt T n) x g s)
theorem XSnd.pts {ifs : List PySem.Expr} {x : Option E} (h : XSnd G c ifs x) {T : Tb} {n : Nat} {L : Lay} {X : Cx} (gd : Gd G T n L c X) {W : WX} (tk : Takes X W) : PTs X ifs (tsS T n L W x) := by
  cases ifs with
  | nil =>
    cases x with
    | none =>
      refine ⟨fun pins s st H Q I hq => ?_⟩
      obtain ⟨g, sto, wd0, wd, rfl, k, sl, r⟩ := hq
      unfold evTs at r
      obtain ⟨b, e, q⟩ := r.now k
      cases e
      exact (pts_nil (X := X)).run pins s st wd.H Q I q
    | some y => exact False.elim h
  | cons e es =>
    cases es with
    | nil =>
      cases x with
      | none => exact False.elim h
      | some y =>
        refine ⟨fun pins s st H Q I hq => ?_⟩
        obtain ⟨g, sto, wd0, wd, e1, k, sl, r⟩ := hq
        unfold evTs at r
        exact (pts_one (TSnd.pt h gd tk)).run pins s st H Q I ⟨g, sto, wd0, wd, e1, k, sl, r⟩
    | cons e2 es => cases x <;> exact False.elim h
def Ct.inner (c : Ct) (scope : Scope) : Ct := { c with sc := relS scope c.sc, blk := some scope }
theorem lookup_beq {sc : Scope} {x : Str} {k : NameKind} (h : (sc.names.lookup x == some k) = true) : sc.names.lookup x = some k := eq_of_beq h
theorem Gd.blk {T : Tb} {n : Nat} {L : Lay} {X : Cx} (gd : Gd G T n L c X) (scope : Scope) (s : Shared) (H : Hp) (C : Addr) (cl : List (Str × Addr)) (fp : List Addr) : Gd G T n L (c.inner scope) (X.blk s H scope (compEnvC scope cl C X.env) fp) where
  hK := gd.hK
  hN := gd.hN
  nd := gd.nd
  hsc := by
    show relS scope X.env.scope = relS scope c.sc
    rw [gd.hsc]
  hcalm := gd.hcalm
  hfn := fun x h => by
    unfold tgOk Ct.inner at h
    simp only at h
    rw [Bool.or_eq_true] at h
    rcases h with h | h
    · exact .inl h
    · refine .inr ?_
      show (relS scope X.env.scope).names.lookup x = some .local
      rw [gd.hsc]
      exact lookup_beq h
  room := gd.room
  un := gd.un
  gu := gd.gu
  sysm := gd.sysm
  ctv := gd.ctv
  fre := gd.fre
  fns := gd.fns
  cls := gd.cls
  nmi := gd.nmi
  nmn := gd.nmn
  nsp := gd.nsp
  clf := gd.clf
  xc := gd.xc
  stk := fun h => by cases h
  call := gd.call
def delU (H : Hp) (p : Addr) : Hp := fun b => if b = p then none else H b
theorem delU_same {H : Hp} {p : Addr} : delU H p p = none := if_pos rfl
theorem delU_ne {H : Hp} {p a : Addr} (h : a ≠ p) : delU H p a = H a := if_neg h
theorem upd_delU {H : Hp} {p : Addr} {o : HO} (h : H p = some o) : upd (delU H p) p o = H := by
  funext b
  by_cases q : b = p
  · subst q
    rw [upd_same, h]
  · rw [upd_ne q, delU_ne q]
theorem Fresh.del {L : Lay} {wd0 wd : Wd} {s : Sto} {p : Addr} (f : Fresh wd0 wd p) (x : Ext wd0 wd) (k : WdOk L wd s) : Ext wd0 ⟨wd.F, wd.mu, delU wd.H p⟩ ∧ WdOk L ⟨wd.F, wd.mu, delU wd.H p⟩ s := by
  refine ⟨⟨x.fle, x.mle, x.newF, x.newM, fun a u e n => ?_, fun a e => ?_⟩, ⟨fun a u e => ?_, k.inj, k.apart, k.len, fun n m e => ?_⟩⟩
  · show delU wd.H p a = some u
    rw [delU_ne (ne_of_none e f.new)]
    exact x.kept a u e n
  · have e2 : delU wd.H p a = none := e
    by_cases q : a = p
    · subst q
      exact f.new
    · rw [delU_ne q] at e2
      exact x.dom a e2
  · show delU wd.H p a = some u
    have : a ≠ p := fun z => by rw [z, f.nF] at e; cases e
    rw [delU_ne this]
    exact k.sub a u e
  · obtain ⟨a, e1, r⟩ := k.sto n m e
    have ne : a ≠ p := fun z => f.nM n (by rw [← z]; exact e1)
    refine ⟨a, e1, ?_⟩
    have eH : delU wd.H p a = wd.H a := delU_ne ne
    cases m with
    | lst xs => obtain ⟨vs, q, i⟩ := r; exact ⟨vs, eH.trans q, i⟩
    | dct ks xs => obtain ⟨kvs, q, r, i⟩ := r; exact ⟨kvs, eH.trans q, r, i⟩
    | ins c ks xs => obtain ⟨dx, fs, q, r, i⟩ := r; exact ⟨dx, fs, eH.trans q, r, i⟩
theorem paired_ext {L : Lay} {wd wd' : Wd} (x : Ext wd wd') : ∀ {vs : List V} {ds : List D}, Paired (IsB L wd) vs ds → Paired (IsB L wd') vs ds
  | _, _, .nil => .nil
  | _, _, .cons a b => .cons (a.ext x) (paired_ext x b)
theorem WdOk.undel {L : Lay} {wd : Wd} {s : Sto} (k : WdOk L wd s) : True := trivial
/-- one turn of a comprehension -/
noncomputable def lcF (T : Tb) (C : Calls) (tg : TG) (elt : E) (tst : Option E) (g : En) (own : List Nat) : D → Sto → R (Option D) := fun y s => bindG (setT tg y (wipG g own)) fun g' => (evTs T C tst g' s).bind fun b s => tstR b ((evE T C elt g' s).bind fun d s => .ok (some d) s) (.ok none s)
/-- the whole walk of a comprehension -/
theorem lc_walk {T : Tb} {n : Nat} {L : Lay} {tg : TG} {elt : E} {tst : Option E} {g : En} {own : List Nat} {J : It} {vs : List V} {ds l : List D} {wd0 wd : Wd} {s : Sto} {st : L2.St} {E : XK} {Q : VK} (its : ItS L vs ds l J) (k : WdOk L wd s) (sl : Slots L wd0 wd st g)
    (ps : Paired (IsB L wd) vs ds) (ho : ∀ i ∈ slotsT tg, i ∈ own) (hlen : small l.length = true) (D0 : Addr) (hD : wd.H D0 = none)
    (r : RPost L wd E (fun r s' wd' => Res L wd' s' (.lst r) Q) (lcL (lcF T (callsAt T n) tg elt tst g own) l s)) :
    ∃ W : Nat → Nat → Hp → Prop, (∃ m, W 0 m (upd wd.H D0 (.lst []))) ∧ ∀ i m H, W i m H →
      (J.stop i H ∧ Q (.ref D0) H) ∨ (J.go i H ∧ ∃ Nx : Hp → Prop, (∀ H', Nx H' → ∃ m', m' < m ∧ W (i + 1) m' H') ∧ ∀ x H', J.yld i H x H' → gS L tg x (L2.wipe st own) H' fun st2 H2 => L2.wipe st2 own = L2.wipe st own ∧ tsS T n L W0 tst st2 H2 fun b H3 =>
        if b = true then teS T n L W0 elt st2 H3 fun y H4 => ∃ acc, H4 D0 = some (.lst acc) ∧ acc.length < sizeLine ∧ Nx (upd H4 D0 (.lst (acc ++ [y]))) else Nx H3) := by
  -- the state at turn i
  let Inv : Nat → Hp → Prop := fun i H => ∃ wd1 s1 ws es, wd1.H = H ∧ WdOk L wd1 s1 ∧ Ext wd wd1 ∧ Fresh wd wd1 D0 ∧ H D0 = some (.lst ws) ∧ ws.length ≤ i ∧ IsAll L wd1.F wd1.mu ws es ∧
    RPost L wd E (fun r s' wd' => Res L wd' s' (.lst (es ++ r)) Q) (lcL (lcF T (callsAt T n) tg elt tst g own) (l.drop i) s1)
  refine ⟨fun i m H => m = l.length - i ∧ i ≤ l.length ∧ Inv i H, ⟨l.length, rfl, Nat.zero_le _, ?_⟩, ?_⟩
  · refine ⟨⟨wd.F, wd.mu, upd wd.H D0 (.lst [])⟩, s, [], [], rfl, k.laid hD, Ext.laid k hD, Fresh.of_laid (o := .lst []) k hD, upd_same, Nat.zero_le _, .nil, ?_⟩
    simpa using r
  · rintro i m H ⟨rfl, hi, wd1, s1, ws, es, rfl, k1, x1, f1, eD, hws, is, r1⟩
    have ps1 := paired_ext x1 ps
    by_cases hlt : i < l.length
    · have hd : l[i]? = some l[i] := List.getElem?_eq_getElem hlt
      obtain ⟨go, yl⟩ := (its wd1 s1 k1 ps1 i).2 _ hd
      refine .inr ⟨go, fun H' => Inv (i + 1) H', fun H' q => ⟨l.length - (i + 1), by omega, rfl, hlt, q⟩, fun x H' hy => ?_⟩
      obtain ⟨wd2, rfl, x2, k2, ix⟩ := yl x H' hy
      obtain ⟨f2, eD2⟩ := f1.ext eD x2
      rw [List.drop_eq_getElem_cons hlt] at r1
      unfold lcL at r1
      have sl2 : Slots L wd0 wd2 (L2.wipe st own) (wipG g own) := ((sl.ext x1).ext x2).wipe own
      cases hF : lcF T (callsAt T n) tg elt tst g own l[i] s1 with
      | no => rw [hF] at r1; exact False.elim r1
      | ex k0 ys s2 => rw [hF] at r1; exact False.elim r1
      | ok o s2 =>
        rw [hF] at r1
        simp only [R.calm, R.bind] at r1
        unfold lcF at hF
        cases hs : setT tg l[i] (wipG g own) with
        | none => rw [hs] at hF; cases hF
        | some g' =>
          rw [hs] at hF
          simp only [bindG] at hF
          refine ⟨wd2, s1, wd0, wipG g own, l[i], g', rfl, k2, sl2, ix, hs, fun st2 sl3 off => ⟨?_, ?_⟩⟩
          · rw [off.wipe ho]
            apply List.ext_getElem?
            intro j
            rw [wipe_get, wipe_get]
            by_cases hm : j ∈ own
            · simp only [if_pos hm]
              cases st[j]? <;> rfl
            · simp only [if_neg hm]
          · cases ht : evTs T (callsAt T n) tst g' s1 with
            | no => rw [ht] at hF; cases hF
            | ex k0 ys s3 => rw [ht] at hF; cases hF
            | ok b s3 =>
              rw [ht] at hF
              simp only [R.bind] at hF
              refine ⟨g', s1, wd0, wd2, rfl, k2, sl3, ?_⟩
              rw [ht]
              intro wd3 x3 k3
              obtain ⟨f3, eD3⟩ := f2.ext eD2 x3
              have xx3 : Ext wd wd3 := (x1.trans x2).trans x3
              cases b with
              | bl b =>
                refine ⟨b, rfl, ?_⟩
                cases b with
                | true =>
                  simp only [tstR] at hF
                  cases he : evE T (callsAt T n) elt g' s3 with
                  | no => rw [he] at hF; cases hF
                  | ex k0 ys s4 => rw [he] at hF; cases hF
                  | ok d s4 =>
                    rw [he] at hF
                    simp only [R.bind] at hF
                    cases hF
                    refine iteT ⟨g', s3, wd0, wd3, rfl, k3, sl3.ext x3, ?_⟩
                    rw [he]
                    intro wd4 x4 k4 v iv
                    obtain ⟨f4, eD4⟩ := f3.ext eD3 x4
                    have xx4 := xx3.trans x4
                    refine ⟨ws, eD4, ?_, ⟨wd4.F, wd4.mu, upd wd4.H D0 (.lst (ws ++ [v]))⟩, s2, ws ++ [v], es ++ [d], rfl, f4.writeOk k4, f4.write xx4, ⟨f4.new, f4.nF, f4.nM⟩, upd_same, by rw [List.length_append]; exact Nat.succ_le_succ hws, (((is.ext x2).ext x3).ext x4).append (.cons iv .nil), ?_⟩
                    · have h1 := small_le hlen
                      omega
                    · cases hr : lcL (lcF T (callsAt T n) tg elt tst g own) (l.drop (i + 1)) s2 with
                      | no => rw [hr] at r1; exact r1
                      | ex k0 ys s5 => rw [hr] at r1; exact r1
                      | ok rr s5 =>
                        rw [hr] at r1
                        intro wd5 x5 k5
                        have z := r1 wd5 x5 k5
                        simpa using z
                | false =>
                  simp only [tstR] at hF
                  cases hF
                  refine iteF ⟨wd3, s2, ws, es, rfl, k3, xx3, f3, eD3, Nat.le_succ_of_le hws, (is.ext x2).ext x3, ?_⟩
                  cases hr : lcL (lcF T (callsAt T n) tg elt tst g own) (l.drop (i + 1)) s2 with
                  | no => rw [hr] at r1; exact r1
                  | ex k0 ys s5 => rw [hr] at r1; exact r1
                  | ok rr s5 =>
                    rw [hr] at r1
                    exact r1
              | _ => cases hF
    · have e : i = l.length := by omega
      subst e
      refine .inl ⟨(its wd1 s1 k1 ps1 l.length).1 rfl, ?_⟩
      rw [List.drop_length] at r1
      unfold lcL at r1
      obtain ⟨x6, k6⟩ := f1.del x1 k1
      have z : Res L ⟨wd1.F, wd1.mu, delU wd1.H D0⟩ s1 (.lst (es ++ [])) Q := r1 ⟨wd1.F, wd1.mu, delU wd1.H D0⟩ x6 k6
      rw [List.append_nil] at z
      have z2 := z D0 ws delU_same is
      rw [upd_delU eD] at z2
      exact z2
/-- the walk over a list of the store -/
theorem lcs_walk {T : Tb} {n : Nat} {L : Lay} {tg : TG} {elt : E} {tst : Option E} {g : En} {own : List Nat} {J : It} {l : List D} {wd0 wd : Wd} {s : Sto} {st : L2.St} {E : XK} {Q : VK} (its : ItL L wd s l J) (k : WdOk L wd s) (sl : Slots L wd0 wd st g)
    (ho : ∀ i ∈ slotsT tg, i ∈ own) (hlen : small l.length = true) (D0 : Addr) (hD : wd.H D0 = none)
    (r : RPost L wd E (fun r s' wd' => Res L wd' s' (.lst r) Q) (lcsL (lcF T (callsAt T n) tg elt tst g own) s l)) :
    ∃ W : Nat → Nat → Hp → Prop, (∃ m, W 0 m (upd wd.H D0 (.lst []))) ∧ ∀ i m H, W i m H →
      (J.stop i H ∧ Q (.ref D0) H) ∨ (J.go i H ∧ ∃ Nx : Hp → Prop, (∀ H', Nx H' → ∃ m', m' < m ∧ W (i + 1) m' H') ∧ ∀ x H', J.yld i H x H' → gS L tg x (L2.wipe st own) H' fun st2 H2 => L2.wipe st2 own = L2.wipe st own ∧ tsS T n L W0 tst st2 H2 fun b H3 =>
        if b = true then teS T n L W0 elt st2 H3 fun y H4 => ∃ acc, H4 D0 = some (.lst acc) ∧ acc.length < sizeLine ∧ Nx (upd H4 D0 (.lst (acc ++ [y]))) else Nx H3) := by
  -- the state at turn i
  let Inv : Nat → Hp → Prop := fun i H => ∃ wd1 ws es, wd1.H = H ∧ WdOk L wd1 s ∧ Ext wd wd1 ∧ Fresh wd wd1 D0 ∧ H D0 = some (.lst ws) ∧ ws.length ≤ i ∧ IsAll L wd1.F wd1.mu ws es ∧
    RPost L wd E (fun r s' wd' => Res L wd' s' (.lst (es ++ r)) Q) (lcsL (lcF T (callsAt T n) tg elt tst g own) s (l.drop i))
  refine ⟨fun i m H => m = l.length - i ∧ i ≤ l.length ∧ Inv i H, ⟨l.length, rfl, Nat.zero_le _, ?_⟩, ?_⟩
  · refine ⟨⟨wd.F, wd.mu, upd wd.H D0 (.lst [])⟩, [], [], rfl, k.laid hD, Ext.laid k hD, Fresh.of_laid (o := .lst []) k hD, upd_same, Nat.zero_le _, .nil, ?_⟩
    simpa using r
  · rintro i m H ⟨rfl, hi, wd1, ws, es, rfl, k1, x1, f1, eD, hws, is, r1⟩
    by_cases hlt : i < l.length
    · have hd : l[i]? = some l[i] := List.getElem?_eq_getElem hlt
      obtain ⟨go, yl⟩ := (its wd1 x1 k1 i).2 _ hd
      refine .inr ⟨go, fun H' => Inv (i + 1) H', fun H' q => ⟨l.length - (i + 1), by omega, rfl, hlt, q⟩, fun x H' hy => ?_⟩
      obtain ⟨wd2, rfl, x2, k2, ix⟩ := yl x H' hy
      obtain ⟨f2, eD2⟩ := f1.ext eD x2
      rw [List.drop_eq_getElem_cons hlt] at r1
      unfold lcsL at r1
      have sl2 : Slots L wd0 wd2 (L2.wipe st own) (wipG g own) := ((sl.ext x1).ext x2).wipe own
      cases hF : lcF T (callsAt T n) tg elt tst g own l[i] s with
      | no => rw [hF] at r1; exact False.elim r1
      | ex k0 ys s2 => rw [hF] at r1; exact False.elim r1
      | ok o s2 =>
        rw [hF] at r1
        simp only [R.calm, R.bind] at r1
        by_cases hse : s2 = s
        rotate_left
        · rw [if_neg hse] at r1
          exact False.elim r1
        rw [if_pos hse] at r1
        subst hse
        unfold lcF at hF
        cases hs : setT tg l[i] (wipG g own) with
        | none => rw [hs] at hF; cases hF
        | some g' =>
          rw [hs] at hF
          simp only [bindG] at hF
          refine ⟨wd2, s2, wd0, wipG g own, l[i], g', rfl, k2, sl2, ix, hs, fun st2 sl3 off => ⟨?_, ?_⟩⟩
          · rw [off.wipe ho]
            apply List.ext_getElem?
            intro j
            rw [wipe_get, wipe_get]
            by_cases hm : j ∈ own
            · simp only [if_pos hm]
              cases st[j]? <;> rfl
            · simp only [if_neg hm]
          · cases ht : evTs T (callsAt T n) tst g' s2 with
            | no => rw [ht] at hF; cases hF
            | ex k0 ys s3 => rw [ht] at hF; cases hF
            | ok b s3 =>
              rw [ht] at hF
              simp only [R.bind] at hF
              refine ⟨g', s2, wd0, wd2, rfl, k2, sl3, ?_⟩
              rw [ht]
              intro wd3 x3 k3
              obtain ⟨f3, eD3⟩ := f2.ext eD2 x3
              have xx3 : Ext wd wd3 := (x1.trans x2).trans x3
              cases b with
              | bl b =>
                refine ⟨b, rfl, ?_⟩
                cases b with
                | true =>
                  simp only [tstR] at hF
                  cases he : evE T (callsAt T n) elt g' s3 with
                  | no => rw [he] at hF; cases hF
                  | ex k0 ys s4 => rw [he] at hF; cases hF
                  | ok d s4 =>
                    rw [he] at hF
                    simp only [R.bind] at hF
                    cases hF
                    refine iteT ⟨g', s3, wd0, wd3, rfl, k3, sl3.ext x3, ?_⟩
                    rw [he]
                    intro wd4 x4 k4 v iv
                    obtain ⟨f4, eD4⟩ := f3.ext eD3 x4
                    have xx4 := xx3.trans x4
                    refine ⟨ws, eD4, ?_, ⟨wd4.F, wd4.mu, upd wd4.H D0 (.lst (ws ++ [v]))⟩, ws ++ [v], es ++ [d], rfl, f4.writeOk k4, f4.write xx4, ⟨f4.new, f4.nF, f4.nM⟩, upd_same, by rw [List.length_append]; exact Nat.succ_le_succ hws, (((is.ext x2).ext x3).ext x4).append (.cons iv .nil), ?_⟩
                    · have h1 := small_le hlen
                      omega
                    · cases hr : lcsL (lcF T (callsAt T n) tg elt tst g own) s2 (l.drop (i + 1)) with
                      | no => rw [hr] at r1; exact r1
                      | ex k0 ys s5 => rw [hr] at r1; exact r1
                      | ok rr s5 =>
                        rw [hr] at r1
                        intro wd5 x5 k5
                        have z := r1 wd5 x5 k5
                        simpa using z
                | false =>
                  simp only [tstR] at hF
                  cases hF
                  refine iteF ⟨wd3, ws, es, rfl, k3, xx3, f3, eD3, Nat.le_succ_of_le hws, (is.ext x2).ext x3, ?_⟩
                  cases hr : lcsL (lcF T (callsAt T n) tg elt tst g own) s2 (l.drop (i + 1)) with
                  | no => rw [hr] at r1; exact r1
                  | ex k0 ys s5 => rw [hr] at r1; exact r1
                  | ok rr s5 =>
                    rw [hr] at r1
                    exact r1
              | _ => cases hF
    · have e : i = l.length := by omega
      subst e
      refine .inl ⟨(its wd1 x1 k1 l.length).1 rfl, ?_⟩
      rw [List.drop_length] at r1
      unfold lcsL at r1
      obtain ⟨x6, k6⟩ := f1.del x1 k1
      have z : Res L ⟨wd1.F, wd1.mu, delU wd1.H D0⟩ s (.lst (es ++ [])) Q := r1 ⟨wd1.F, wd1.mu, delU wd1.H D0⟩ x6 k6
      rw [List.append_nil] at z
      have z2 := z D0 ws delU_same is
      rw [upd_delU eD] at z2
      exact z2
theorem lc_src {T : Tb} {n : Nat} {L : Lay} {tg : TG} {x it : E} {tst : Option E} {g : En} {st : L2.St} {wd0 wd1 : Wd} {s1 : Sto} {d : D} {W : WX} {Q : VK} (k1 : WdOk L wd1 s1) (sl : Slots L wd0 wd1 st g)
    (r1 : RPost L wd1 (WE W st) (fun d s' wd' => Res L wd' s' d Q) (lcX (lcF T (callsAt T n) tg x tst g (slotsT tg)) d s1)) :
    SrcP L it (fun J H1 => ∀ D0, H1 D0 = none → ∃ W : Nat → Nat → Hp → Prop, (∃ m, W 0 m (upd H1 D0 (.lst []))) ∧ ∀ i m H, W i m H →
      (J.stop i H ∧ Q (.ref D0) H) ∨ (J.go i H ∧ ∃ Nx : Hp → Prop, (∀ H', Nx H' → ∃ m', m' < m ∧ W (i + 1) m' H') ∧ ∀ x' H', J.yld i H x' H' → gS L tg x' (L2.wipe st (slotsT tg)) H' fun st2 H2 => L2.wipe st2 (slotsT tg) = L2.wipe st (slotsT tg) ∧ tsS T n L W0 tst st2 H2 fun b H3 =>
        if b = true then teS T n L W0 x st2 H3 fun y H4 => ∃ acc, H4 D0 = some (.lst acc) ∧ acc.length < sizeLine ∧ Nx (upd H4 D0 (.lst (acc ++ [y]))) else Nx H3)) d s1 wd1 := by
  have old : (∀ m, d ≠ .loc m) → (∀ x, d ≠ .str x) → RPost L wd1 (WE W st) (fun d s' wd' => Res L wd' s' d Q) ((optR (seqOf d) s1).bind fun l s => (optR (if small l.length then some l else none) s).bind fun l s => (lcL (lcF T (callsAt T n) tg x tst g (slotsT tg)) l s).bind fun r s => .ok (.lst r) s) := fun hd hd2 => by
    cases d with
    | loc m => exact absurd rfl (hd m)
    | str m => exact absurd rfl (hd2 m)
    | _ => exact r1
  by_cases hd : ∃ m, d = .loc m
  · obtain ⟨m, rfl⟩ := hd
    unfold lcX at r1
    simp only at r1
    cases e : s1[m]? with
    | none => rw [e] at r1; exact False.elim r1
    | some mo =>
      rw [e] at r1
      cases mo with
      | lst l =>
        simp only at r1
        obtain ⟨l', e2, r3⟩ := RPost.opt k1 r1.bind
        obtain ⟨hsm, rfl⟩ := ite_some e2
        refine .inl ⟨l, .inl ⟨m, rfl, e⟩, fun J its D0 hD => ?_⟩
        have r4 : RPost L wd1 (WE W st) (fun r s' wd' => Res L wd' s' (.lst r) Q) (lcsL (lcF T (callsAt T n) tg x tst g (slotsT tg)) s1 l) := by
          have r5 : RPost L wd1 (WE W st) (fun d s' wd' => Res L wd' s' d Q) ((lcsL (lcF T (callsAt T n) tg x tst g (slotsT tg)) s1 l).bind fun r s => .ok (.lst r) s) := r3
          cases hr : lcsL (lcF T (callsAt T n) tg x tst g (slotsT tg)) s1 l with
          | no => rw [hr] at r5; exact r5
          | ex k0 ys s2 => rw [hr] at r5; exact r5
          | ok rr s2 => rw [hr] at r5; exact r5
        exact lcs_walk its k1 sl (fun i h => h) hsm D0 hD r4
      | _ => exact False.elim r1
  by_cases hd2 : ∃ z, d = .str z
  · obtain ⟨z, rfl⟩ := hd2
    unfold lcX at r1
    simp only at r1
    obtain ⟨l', e2, r3⟩ := RPost.opt k1 r1.bind
    obtain ⟨hsm, rfl⟩ := ite_some e2
    refine .inl ⟨chsD z, .inr ⟨z, rfl, rfl⟩, fun J its D0 hD => ?_⟩
    have r4 : RPost L wd1 (WE W st) (fun r s' wd' => Res L wd' s' (.lst r) Q) (lcsL (lcF T (callsAt T n) tg x tst g (slotsT tg)) s1 (chsD z)) := by
      have r5 : RPost L wd1 (WE W st) (fun d s' wd' => Res L wd' s' d Q) ((lcsL (lcF T (callsAt T n) tg x tst g (slotsT tg)) s1 (chsD z)).bind fun r s => .ok (.lst r) s) := r3
      cases hr : lcsL (lcF T (callsAt T n) tg x tst g (slotsT tg)) s1 (chsD z) with
      | no => rw [hr] at r5; exact r5
      | ex k0 ys s2 => rw [hr] at r5; exact r5
      | ok rr s2 => rw [hr] at r5; exact r5
    exact lcs_walk its k1 sl (fun i h => h) hsm D0 hD r4
  · have r2 := old (fun m e => hd ⟨m, e⟩) fun x e => hd2 ⟨x, e⟩
    obtain ⟨l, e1, r2⟩ := RPost.opt k1 r2.bind
    obtain ⟨l', e2, r3⟩ := RPost.opt k1 r2.bind
    obtain ⟨hsm, rfl⟩ := ite_some e2
    refine .inr ⟨l, e1, fun J vs ds its ps _ D0 hD => ?_⟩
    have r4 : RPost L wd1 (WE W st) (fun r s' wd' => Res L wd' s' (.lst r) Q) (lcL (lcF T (callsAt T n) tg x tst g (slotsT tg)) l s1) := by
      have r5 : RPost L wd1 (WE W st) (fun d s' wd' => Res L wd' s' d Q) ((lcL (lcF T (callsAt T n) tg x tst g (slotsT tg)) l s1).bind fun r s => .ok (.lst r) s) := r3
      cases hr : lcL (lcF T (callsAt T n) tg x tst g (slotsT tg)) l s1 with
      | no => rw [hr] at r5; exact r5
      | ex k0 ys s2 => rw [hr] at r5; exact r5
      | ok rr s2 => rw [hr] at r5; exact r5
    exact lc_walk its k1 sl ps (fun i h => h) hsm D0 hD r4
def notSet : PySem.Expr → Bool
  | .Set _ _ _ => false
  | _ => true
theorem folded_of {e : PySem.Expr} {env : Env} (h : notSet e = true) : ∀ x, foldedSetIterable e env x = pure x := by
  intro x
  cases e <;> first | rfl | cases h
def ownOf (N : List Str) (is : List Nat) : List (Str × Nat) := is.map fun i => ((N[i]?).getD "", i)
theorem ownOf_snd (N : List Str) (is : List Nat) : (ownOf N is).map (·.2) = is := by
  unfold ownOf
  rw [List.map_map]
  exact List.map_id is
theorem s_lc {elt tgE iter : PySem.Expr} {ifs : List PySem.Expr} {scope : Scope} {pos : Pos} {x it : E} {tg : TG} {tst : Option E} {tu : Bool} (hc : c.calm = true) (hi : LSnd G c iter it tu) (htu : (!tu || isTupE tgE) = true) (hns : notSet iter = true)
    (hok : blkC c.N c.sc scope (ownOf c.N (slotsT tg)) = true) (hg : KSnd G (c.inner scope) tgE tg) (ht : XSnd G (c.inner scope) ifs tst) (he : ESnd G (c.inner scope) elt x) : GSnd G c (.ListComp elt [⟨tgE, iter, ifs, 0⟩] scope pos) (.lc x tg it tst) := fun T n L X gd W tk => by
  obtain ⟨wi, p1, q1⟩ := hi T n L X gd W tk tgE (fun z => by rw [z] at htu; simpa using htu)
  have bok : BlkOk X.N X.env.scope scope (ownOf c.N (slotsT tg)) := by
    rw [gd.hN, gd.hsc]
    exact blkOk_by hok
  refine ⟨_, pe_lc (g := gS L tg) (tt := tsS T n L W0 tst) (te := teS T n L W0 x) (gd.hcalm.trans hc) gd.nd p1 bok (fun s H C cl fp => hg T n L _ (gd.blk scope s H C cl fp)) (fun s H C cl fp => ht.pts (gd.blk scope s H C cl fp) takes0) (fun s H C cl fp => he.pe (gd.blk scope s H C cl fp) takes0) (folded_of hns), fun g s wd0 wd st Q k sl r => ?_⟩
  unfold evE at r
  refine q1 g s wd0 wd st _ k sl (r.bind.mono fun d s1 wd1 x1 k1 r1 => ?_)
  rw [ownOf_snd]
  exact lc_src k1 (sl.ext x1) r1
theorem rng_new {L : Lay} {i j : Int} {l : List D} {F : Hp} {mu : List Addr} (h : rngD i j = some l) : RgOk i j ∧ IsAll L F mu (rgV i j) l := by
  unfold rngD at h
  obtain ⟨h1, rfl⟩ := ite_some h
  simp only [Bool.and_eq_true, decide_eq_true_eq] at h1
  refine ⟨⟨h1.1.1.1.1, h1.1.1.1.2, h1.1.1.2, h1.1.2, Nat.le_of_ble_eq_true h1.2⟩, ?_⟩
  unfold rgV
  have go : ∀ m : List Nat, IsAll L F mu (m.map fun k => V.int (i + (k : Nat))) (m.map fun k => D.int (i + (k : Nat))) := fun m => by
    induction m with
    | nil => exact .nil
    | cons a m ih => exact .cons (.int _) ih
  exact go _
theorem s_lrng1 {a : PySem.Expr} {x : E} {p p2 pos pos2 : Pos} (hc : c.calm = true) (ha : ESnd G c a x) (hs : noStar a = true) (hg : globB c.sc "range" = true) (hf : ("range" : Str) ∈ G.fre) (hg2 : globB c.sc "list" = true) (hf2 : ("list" : Str) ∈ G.fre) :
    GSnd G c (.Call (.Name "list" p2) [.Call (.Name "range" p) [a] [] pos] [] pos2) (.rng1 x) := fun T n L X gd W tk => by
  obtain ⟨te, p1, q1⟩ := ha T n L X gd W tk
  refine ⟨_, pe_listRg (gd.hcalm.trans hc) (glob_of gd hg2) (gd.fre _ hf2) (prg_1 (glob_of gd hg) (gd.fre _ hf) p1 (star_cons hs)) (star_cons rfl), fun g s wd0 wd st Q k sl r => ?_⟩
  unfold evE at r
  refine q1 g s wd0 wd st _ k sl (r.bind.mono fun d s1 wd1 x1 k1 r1 v i => ?_)
  cases d with
  | int j =>
    cases i
    obtain ⟨l, e, h⟩ := RPost.opt k1 r1.bind
    obtain ⟨b, is⟩ := rng_new (L := L) (F := wd1.F) (mu := wd1.mu) e
    exact ⟨j, rfl, b, fun p hp => Res.nl is hp (h.now k1)⟩
  | _ => exact False.elim r1
theorem s_lrng2 {a b : PySem.Expr} {x y : E} {p p2 pos pos2 : Pos} (hc : c.calm = true) (ha : ESnd G c a x) (hb : ESnd G c b y) (hs : noStar a = true) (hs2 : noStar b = true) (hg : globB c.sc "range" = true) (hf : ("range" : Str) ∈ G.fre) (hg2 : globB c.sc "list" = true) (hf2 : ("list" : Str) ∈ G.fre) :
    GSnd G c (.Call (.Name "list" p2) [.Call (.Name "range" p) [a, b] [] pos] [] pos2) (.rng2 x y) := fun T n L X gd W tk => by
  obtain ⟨te, p1, q1⟩ := ha T n L X gd W tk
  obtain ⟨te2, p3, q3⟩ := hb T n L X gd W tk
  refine ⟨_, pe_listRg (gd.hcalm.trans hc) (glob_of gd hg2) (gd.fre _ hf2) (prg_2 (glob_of gd hg) (gd.fre _ hf) p1 p3 (star_cons hs) (star_cons hs2) (star_any (by rw [List.all_cons, hs2]; rfl))) (star_cons rfl), fun g s wd0 wd st Q k sl r => ?_⟩
  unfold evE at r
  refine q1 g s wd0 wd st _ k sl (r.bind.mono fun d s1 wd1 x1 k1 r1 v i => ?_)
  refine q3 g s1 wd0 wd1 st _ k1 (sl.ext x1) (r1.bind.mono fun d2 s2 wd2 x2 k2 r2 v2 i2 => ?_)
  cases d with
  | int j =>
    cases d2 with
    | int j2 =>
      cases i
      cases i2
      obtain ⟨l, e, h⟩ := RPost.opt k2 r2.bind
      obtain ⟨b, is⟩ := rng_new (L := L) (F := wd2.F) (mu := wd2.mu) e
      exact ⟨j, j2, rfl, rfl, b, fun p hp => Res.nl is hp (h.now k2)⟩
    | _ => exact False.elim r2
  | _ => exact False.elim r2
end
end Bd
namespace Bd
open PySem PySem.Spec PyProof.Rows L2
/-- a later world: what is frozen or placed stays so -/
def Lat (wd wd' : Wd) : Prop := Same wd.F wd'.F ∧ ∀ (n : Nat) a, wd.mu[n]? = some a → wd'.mu[n]? = some a
theorem Lat.refl (wd : Wd) : Lat wd wd := ⟨Same.refl _, fun _ _ h => h⟩
theorem Lat.trans {a b c : Wd} (x : Lat a b) (y : Lat b c) : Lat a c := ⟨x.1.trans y.1, fun n p h => y.2 n p (x.2 n p h)⟩
theorem Ext.lat {a b : Wd} (x : Ext a b) : Lat a b := ⟨x.fle, x.mle⟩
def SPost (L : Lay) (wd0 wd : Wd) (W : WX) (D : Ends) (r : Fl) : Prop := match r with
  | .nx g s => ∀ wd' st, Ext wd0 wd' → Lat wd wd' → WdOk L wd' s → Slots L wd0 wd' st g → D.nx st wd'.H
  | .bk g s => ∀ wd' st, Ext wd0 wd' → Lat wd wd' → WdOk L wd' s → Slots L wd0 wd' st g → D.bk st wd'.H
  | .ct g s => ∀ wd' st, Ext wd0 wd' → Lat wd wd' → WdOk L wd' s → Slots L wd0 wd' st g → D.ct st wd'.H
  | .rt d s => ∀ wd' v, Ext wd0 wd' → WdOk L wd' s → Is L wd'.F wd'.mu v d → D.rt v wd'.H
  | .ex c xs g s => ∀ wd' a st, Ext wd0 wd' → Lat wd wd' → WdOk L wd' s → Slots L wd0 wd' st g → XRep L wd' a c xs → W (.ref (L.ca c)) a st wd'.H
  | .no => False
theorem SPost.shift {L : Lay} {wd0 wd wd1 : Wd} {W : WX} {D : Ends} {r : Fl} (x : Lat wd wd1) (h : SPost L wd0 wd W D r) : SPost L wd0 wd1 W D r := by
  cases r with
  | nx g s => exact fun wd' st y z => h wd' st y (x.trans z)
  | bk g s => exact fun wd' st y z => h wd' st y (x.trans z)
  | ct g s => exact fun wd' st y z => h wd' st y (x.trans z)
  | rt d s => exact h
  | ex c xs g s => exact fun wd' a st y z => h wd' a st y (x.trans z)
  | no => exact h
/-- a statement, as a row of small ones -/
def SSnd (G : Gn) (c : Ct) (sm : PySem.Stmt) (xs : List ST) : Prop := ∀ (T : Tb) (n : Nat) (L : Lay) (X : Cx), Gd G T n L c X → ∀ W : WX, Takes X W → PassesOwn (model X.prog X.w) X.A X.env X.xe → ∃ ts, PS X sm ts ∧
  ∀ w g s wd0 wd st D, Ext wd0 wd → WdOk L wd s → Slots L wd0 wd st g → SPost L wd0 wd W D (evSs T (callsAt T n) w xs g s) → ts D st wd.H
def SsSnd (G : Gn) (c : Ct) (sm : List PySem.Stmt) (xs : List ST) : Prop := ∀ (T : Tb) (n : Nat) (L : Lay) (X : Cx), Gd G T n L c X → ∀ W : WX, Takes X W → PassesOwn (model X.prog X.w) X.A X.env X.xe → ∃ ts, PSs X sm ts ∧
  ∀ w g s wd0 wd st D, Ext wd0 wd → WdOk L wd s → Slots L wd0 wd st g → SPost L wd0 wd W D (evSs T (callsAt T n) w xs g s) → ts D st wd.H
section
variable {L : Lay} {wd0 wd : Wd} {W : WX} {D : Ends} {st : L2.St} {g : En}
theorem fl_post {A : Type} {r : R A} {k : A → Sto → Fl} (x : Ext wd0 wd) (sl : Slots L wd0 wd st g) (h : SPost L wd0 wd W D (r.fl g k)) : RPost L wd (WE W st) (fun a s' wd' => SPost L wd0 wd' W D (k a s')) r := by
  cases r with
  | ok a s => exact fun wd' y _ => SPost.shift y.lat h
  | ex c xs s => exact fun wd' a y k q => h wd' a st (x.trans y) y.lat k (sl.ext y) q
  | no => exact h
theorem optF_post {A : Type} {o : Option A} {k : A → Fl} (h : SPost L wd0 wd W D (optF o k)) : ∃ a, o = some a ∧ SPost L wd0 wd W D (k a) := by
  cases o with
  | none => exact False.elim h
  | some a => exact ⟨a, rfl, h⟩
theorem evSs_nil {T : Tb} {C : Calls} {w : Nat} (g : En) (s : Sto) : evSs T C w [] g s = .nx g s := by
  unfold evSs
  rfl
theorem evSs_cons {T : Tb} {C : Calls} {w : Nat} (x : ST) (xs : List ST) (g : En) (s : Sto) : evSs T C w (x :: xs) g s = (evS T C w x g s).andThen fun g s => evSs T C w xs g s := by
  conv => lhs; unfold evSs
theorem evSs_append {T : Tb} {C : Calls} {w : Nat} : ∀ (xs ys : List ST) (g : En) (s : Sto), evSs T C w (xs ++ ys) g s = (evSs T C w xs g s).andThen fun g s => evSs T C w ys g s
  | [], ys, g, s => by
    rw [List.nil_append, evSs_nil]
    rfl
  | x :: xs, ys, g, s => by
    rw [List.cons_append, evSs_cons, evSs_cons]
    cases evS T C w x g s with
    | nx g' s' => exact evSs_append xs ys g' s'
    | _ => rfl
theorem evSs_one {T : Tb} {C : Calls} {w : Nat} (x : ST) (g : En) (s : Sto) : evSs T C w [x] g s = evS T C w x g s := by
  unfold evSs
  cases evS T C w x g s with
  | nx g' s' => simp only [Fl.andThen]; unfold evSs; rfl
  | _ => rfl
end
section
variable {G : Gn} {c : Ct} {pos : Pos}
theorem ss_nil : SsSnd G c [] [] := fun T n L X gd W tk po => ⟨_, pss_nil, fun w g s wd0 wd st D x k sl h => by
  unfold evSs at h
  exact h wd st x (Lat.refl _) k sl⟩
theorem ss_cons {sm : PySem.Stmt} {sms : List PySem.Stmt} {xs ys : List ST} (h1 : SSnd G c sm xs) (h2 : SsSnd G c sms ys) : SsSnd G c (sm :: sms) (xs ++ ys) := fun T n L X gd W tk po => by
  obtain ⟨t1, p1, q1⟩ := h1 T n L X gd W tk po
  obtain ⟨t2, p2, q2⟩ := h2 T n L X gd W tk po
  refine ⟨_, pss_cons p1 p2, fun w g s wd0 wd st D x k sl h => ?_⟩
  rw [evSs_append] at h
  refine q1 w g s wd0 wd st _ x k sl ?_
  cases e : evSs T (callsAt T n) w xs g s with
  | nx g' s' =>
    rw [e] at h
    intro wd1 st1 x1 l1 k1 sl1
    exact q2 w g' s' wd0 wd1 st1 D x1 k1 sl1 (SPost.shift l1 h)
  | bk g' s' => rw [e] at h; exact h
  | ct g' s' => rw [e] at h; exact h
  | rt d s' => rw [e] at h; exact h
  | ex k0 ys g' s' => rw [e] at h; exact h
  | no => rw [e] at h; exact h
/-- an owned list is shared from here on -/
theorem Slots.frz {L : Lay} {wd0 wd : Wd} {s : Sto} {st : L2.St} {g g' : En} {i : Nat} (x : Ext wd0 wd) (k : WdOk L wd s) (sl : Slots L wd0 wd st g) (h : frzG g i = some g') :
    ∃ wd1 : Wd, wd1.H = wd.H ∧ Ext wd0 wd1 ∧ Lat wd wd1 ∧ WdOk L wd1 s ∧ Slots L wd0 wd1 st g' := by
  unfold frzG at h
  split at h
  · rename_i d e
    cases h
    have hi : i < g.length := (List.getElem?_eq_some_iff.mp e).1
    obtain ⟨a, e1, o⟩ := sl.ow i d e
    have f := o.fresh
    have frz : ∀ ho, wd.H a = some ho → Is L (upd wd.F a ho) wd.mu (.ref a) d → ∃ wd1 : Wd, wd1.H = wd.H ∧ Ext wd0 wd1 ∧ Lat wd wd1 ∧ WdOk L wd1 s ∧ Slots L wd0 wd1 st (g.set i (.sh d)) := fun ho eh hd => by
      have sm : Same wd.F (upd wd.F a ho) := fun b u z => by
        rw [upd_ne (ne_of_none z f.nF)]
        exact z
      refine ⟨⟨upd wd.F a ho, wd.mu, wd.H⟩, rfl, f.freeze x eh, ⟨sm, fun _ _ z => z⟩, f.freezeOk k eh, ?_⟩
      refine ⟨by rw [List.length_set]; exact sl.len, fun j e2 hj => ?_, fun j e2 hj => ?_, fun j m d1 e1' b h1 h2 h3 h4 => ?_⟩
      · by_cases q : i = j
        · subst q
          rw [List.getElem?_set_self hi] at hj
          cases hj
          exact ⟨_, e1, hd⟩
        · rw [List.getElem?_set_ne q] at hj
          obtain ⟨v, z1, z2⟩ := sl.sh j e2 hj
          exact ⟨v, z1, z2.mono sm fun _ _ z => z⟩
      · by_cases q : i = j
        · subst q
          rw [List.getElem?_set_self hi] at hj
          cases hj
        · rw [List.getElem?_set_ne q] at hj
          obtain ⟨b, z1, z2⟩ := sl.ow j e2 hj
          have nb : b ≠ a := fun z => q (sl.dis i j d e2 a e hj e1 (by rw [← z]; exact z1))
          refine ⟨b, z1, z2.new, ?_, z2.nM, ?_⟩
          · show upd wd.F a ho b = none
            rw [upd_ne nb]
            exact z2.nF
          · have r := z2.rep
            cases e2 with
            | lst ys => obtain ⟨vs, y1, y2⟩ := r; exact ⟨vs, y1, y2.mono sm fun _ _ z => z⟩
            | obj k0 ks ys => obtain ⟨dx, fs, y1, y2, y3⟩ := r; exact ⟨dx, fs, y1, y2, y3.mono sm fun _ _ z => z⟩
            | _ => exact r.elim
      · have q1 : i ≠ j := fun z => by
          subst z
          rw [List.getElem?_set_self hi] at h1
          cases h1
        have q2 : i ≠ m := fun z => by
          subst z
          rw [List.getElem?_set_self hi] at h2
          cases h2
        rw [List.getElem?_set_ne q1] at h1
        rw [List.getElem?_set_ne q2] at h2
        exact sl.dis j m d1 e1' b h1 h2 h3 h4
    have r := o.rep
    cases d with
    | lst ys =>
      obtain ⟨vs, y1, y2⟩ := r
      refine frz _ y1 (.lst upd_same (y2.mono (fun b u z => ?_) fun _ _ z => z))
      rw [upd_ne (ne_of_none z f.nF)]
      exact z
    | obj k0 ks ys =>
      obtain ⟨dx, fs, y1, y2, y3⟩ := r
      refine frz _ y1 (.obj upd_same y2 (y3.mono (fun b u z => ?_) fun _ _ z => z))
      rw [upd_ne (ne_of_none z f.nF)]
      exact z
    | _ => exact r.elim
  · rename_i d e
    cases h
    have hi : i < g.length := (List.getElem?_eq_some_iff.mp e).1
    have eg : g.set i (.sh d) = g := by
      apply List.ext_getElem?
      intro j
      by_cases q : i = j
      · subst q
        rw [List.getElem?_set_self hi, e]
      · rw [List.getElem?_set_ne q]
    rw [eg]
    exact ⟨wd, rfl, x, Lat.refl _, k, sl⟩
  · cases h
theorem s_frz {sm : PySem.Stmt} {xs : List ST} (i : Nat) (h : SSnd G c sm xs) : SSnd G c sm (.frz i :: xs) := fun T n L X gd W tk po => by
  obtain ⟨t1, p1, q1⟩ := h T n L X gd W tk po
  refine ⟨t1, p1, fun w g s wd0 wd st D x k sl hh => ?_⟩
  unfold evSs at hh
  unfold evS at hh
  cases e : frzG g i with
  | none => rw [e] at hh; exact False.elim hh
  | some g' =>
    rw [e] at hh
    obtain ⟨wd1, h1, h2, hl, h3, h4⟩ := sl.frz x k e
    have := q1 w g' s wd0 wd1 st D h2 h3 h4 (SPost.shift hl hh)
    rw [h1] at this
    exact this
def notComp : PySem.Expr → Bool
  | .ListComp _ _ _ _ => false
  | .SetComp _ _ _ _ => false
  | .DictComp _ _ _ _ _ => false
  | _ => true
theorem swaps_not {e : PySem.Expr} {t : Option PySem.Expr} {l : Nat} {env : Env} (h : notComp e = true) : swapsWith e t l env = pure false := by
  cases e <;> first | rfl | cases h
def notNm : PySem.Expr → Bool
  | .Subscript _ _ _ => true
  | .Tuple _ _ _ => true
  | .Attribute _ _ _ => true
  | _ => false
/-- only a name's store is drawn into a comprehension -/
theorem swaps_nt {e t : PySem.Expr} {l : Nat} {env : Env} (h : notNm t = true) : swapsWith e (some t) l env = pure false := by
  cases t <;> first | (cases h; done) | (cases e <;> rfl)
theorem st_ex {e : PySem.Expr} {x : E} (h : ESnd G c e x) (hn : notComp e = true) : SSnd G c (.Expr e pos) [.ex x] := fun T n L X gd W tk po => by
  obtain ⟨te, p, q⟩ := h T n L X gd W tk
  refine ⟨_, ps_expr p (swaps_not hn), fun w g s wd0 wd st D x1 k sl hh => ?_⟩
  rw [evSs_one] at hh
  unfold evS at hh
  exact q g s wd0 wd st _ k sl ((fl_post x1 sl hh).mono fun d s1 wd1 y k1 z v i => z wd1 st (x1.trans y) (Lat.refl _) k1 (sl.ext y))
theorem st_doc {x : Str} {j : Nat} {p2 : Pos} : SSnd G c (.Expr (.Constant (.str x) j p2) pos) [.pas] := fun T n L X gd W tk po => by
  refine ⟨_, ps_doc, fun w g s wd0 wd st D x1 k sl hh => ?_⟩
  rw [evSs_one] at hh
  unfold evS at hh
  exact hh wd st x1 (Lat.refl _) k sl
theorem st_pass : SSnd G c (.Pass pos) [.pas] := fun T n L X gd W tk po => by
  refine ⟨_, ps_pass, fun w g s wd0 wd st D x1 k sl hh => ?_⟩
  rw [evSs_one] at hh
  unfold evS at hh
  exact hh wd st x1 (Lat.refl _) k sl
theorem st_break : SSnd G c (.Break pos) [.brk] := fun T n L X gd W tk po => by
  refine ⟨_, ps_break, fun w g s wd0 wd st D x1 k sl hh => ?_⟩
  rw [evSs_one] at hh
  unfold evS at hh
  exact hh wd st x1 (Lat.refl _) k sl
theorem st_cont : SSnd G c (.Continue pos) [.cnt] := fun T n L X gd W tk po => by
  refine ⟨_, ps_continue, fun w g s wd0 wd st D x1 k sl hh => ?_⟩
  rw [evSs_one] at hh
  unfold evS at hh
  exact hh wd st x1 (Lat.refl _) k sl
theorem st_ret {e : PySem.Expr} {x : E} (h : ESnd G c e x) : SSnd G c (.Return (some e) pos) [.ret x] := fun T n L X gd W tk po => by
  obtain ⟨te, p, q⟩ := h T n L X gd W tk
  refine ⟨_, ps_ret p, fun w g s wd0 wd st D x1 k sl hh => ?_⟩
  rw [evSs_one] at hh
  unfold evS at hh
  exact q g s wd0 wd st _ k sl ((fl_post x1 sl hh).mono fun d s1 wd1 y k1 z v i => z wd1 v (x1.trans y) k1 i)
theorem st_retn : SSnd G c (.Return none pos) [.retn] := fun T n L X gd W tk po => by
  refine ⟨_, ps_retN, fun w g s wd0 wd st D x1 k sl hh => ?_⟩
  rw [evSs_one] at hh
  unfold evS at hh
  exact hh wd .non x1 k .non
theorem st_if {t : PySem.Expr} {a b : List PySem.Stmt} {x : E} {xs ys : List ST} (ht : TSnd G c t x) (ha : SsSnd G c a xs) (hb : SsSnd G c b ys) : SSnd G c (.If t a b pos) [.ife x xs ys] := fun T n L X gd W tk po => by
  obtain ⟨tt, p0, q0⟩ := ht T n L X gd W tk
  obtain ⟨t1, p1, q1⟩ := ha T n L X gd W tk po
  obtain ⟨t2, p2, q2⟩ := hb T n L X gd W tk po
  refine ⟨_, ps_if p0 p1 p2, fun w g s wd0 wd st D x1 k sl hh => ?_⟩
  rw [evSs_one] at hh
  unfold evS at hh
  refine q0 g s wd0 wd st _ k sl ((fl_post x1 sl hh).mono fun d s1 wd1 y k1 z => ?_)
  cases d with
  | bl b =>
    refine ⟨b, rfl, ?_⟩
    cases b with
    | true => exact iteT (q1 w g s1 wd0 wd1 st D (x1.trans y) k1 (sl.ext y) z)
    | false => exact iteF (q2 w g s1 wd0 wd1 st D (x1.trans y) k1 (sl.ext y) z)
  | _ => exact False.elim z
theorem st_asg {x : Str} {i : Nat} {p2 : Pos} {e : PySem.Expr} {y : E} (hi : c.N[i]? = some x) (hl : locB c.sc x = true) (ht : tgOk c x = true) (h : ESnd G c e y) (hn : notComp e = true) : SSnd G c (.Assign [.Name x p2] e pos) [.asg (.nm i) y] := fun T n L X gd W tk po => by
  obtain ⟨te, p, q⟩ := h T n L X gd W tk
  refine ⟨_, ps_set gd.nd (by rw [gd.hN]; exact hi) (by rw [gd.hsc]; exact loc_of hl) p (swaps_not hn) (gd.hfn x ht), fun w g s wd0 wd st D x1 k sl hh => ?_⟩
  rw [evSs_one] at hh
  unfold evS at hh
  refine q g s wd0 wd st _ k sl ((fl_post x1 sl hh).mono fun d s1 wd1 y k1 z v iv => ?_)
  obtain ⟨g', e, z2⟩ := optF_post z
  unfold setT at e
  by_cases hg : i < g.length
  · rw [if_pos hg] at e
    cases e
    exact z2 wd1 _ (x1.trans y) (Lat.refl _) k1 ((sl.ext y).put hg iv)
  · rw [if_neg hg] at e
    cases e
/-- a new list that is ours -/
theorem Slots.putOwn {L : Lay} {wd0 wd : Wd} {s : Sto} {st : L2.St} {g : En} {i : Nat} {p : Addr} {vs : List V} {xs : List D} (x : Ext wd0 wd) (k : WdOk L wd s) (sl : Slots L wd0 wd st g) (hi : i < g.length) (hp : wd.H p = none) (is : IsAll L wd.F wd.mu vs xs) :
    Slots L wd0 ⟨wd.F, wd.mu, upd wd.H p (.lst vs)⟩ (st.set i (some (.ref p))) (g.set i (.ow (.lst xs))) := by
  have x2 : Ext wd ⟨wd.F, wd.mu, upd wd.H p (.lst vs)⟩ := Ext.laid k hp
  have sl2 := sl.ext x2
  have hs : i < st.length := by rw [sl.len]; exact hi
  have f : Fresh wd ⟨wd.F, wd.mu, upd wd.H p (.lst vs)⟩ p := Fresh.of_laid (o := .lst vs) k hp
  have old : ∀ (j : Nat) e a, g[j]? = some (.ow e) → st[j]? = some (some (V.ref a)) → a ≠ p := fun j e a h1 h2 z => by
    obtain ⟨b, e1, o⟩ := sl.ow j e h1
    rw [h2] at e1
    cases e1
    obtain ⟨u, hu⟩ := o.rep.there
    rw [z, hp] at hu
    cases hu
  refine ⟨by rw [List.length_set, List.length_set]; exact sl.len, fun j e hj => ?_, fun j e hj => ?_, fun j m d1 e1 a h1 h2 h3 h4 => ?_⟩
  · by_cases q : i = j
    · subst q
      rw [List.getElem?_set_self hi] at hj
      cases hj
    · rw [List.getElem?_set_ne q] at hj
      rw [List.getElem?_set_ne q]
      exact sl2.sh j e hj
  · by_cases q : i = j
    · subst q
      rw [List.getElem?_set_self hi] at hj
      cases hj
      exact ⟨p, List.getElem?_set_self hs, x.dom p hp, f.nF, f.nM, vs, upd_same, is⟩
    · rw [List.getElem?_set_ne q] at hj
      rw [List.getElem?_set_ne q]
      exact sl2.ow j e hj
  · by_cases q1 : i = j
    · by_cases q2 : i = m
      · omega
      · subst q1
        rw [List.getElem?_set_self hs] at h3
        cases h3
        rw [List.getElem?_set_ne q2] at h2 h4
        exact absurd rfl (old m e1 p h2 h4)
    · rw [List.getElem?_set_ne q1] at h1 h3
      by_cases q2 : i = m
      · subst q2
        rw [List.getElem?_set_self hs] at h4
        cases h4
        exact absurd rfl (old j d1 p h1 h3)
      · rw [List.getElem?_set_ne q2] at h2 h4
        exact sl.dis j m d1 e1 a h1 h2 h3 h4
theorem st_own {x : Str} {i : Nat} {p2 : Pos} {e : PySem.Expr} {y : E} (hi : c.N[i]? = some x) (hl : locB c.sc x = true) (ht : tgOk c x = true) (h : FSnd G c e y) (hn : notComp e = true) : SSnd G c (.Assign [.Name x p2] e pos) [.own i y] := fun T n L X gd W tk po => by
  obtain ⟨te, p, q⟩ := h T n L X gd W tk
  refine ⟨_, ps_set gd.nd (by rw [gd.hN]; exact hi) (by rw [gd.hsc]; exact loc_of hl) p (swaps_not hn) (gd.hfn x ht), fun w g s wd0 wd st D x1 k sl hh => ?_⟩
  rw [evSs_one] at hh
  unfold evS at hh
  refine q g s wd0 wd st _ k sl ((fl_post x1 sl hh).mono fun d s1 wd1 y k1 z => ?_)
  cases d with
  | lst xs =>
    simp only at z
    by_cases hg : i < g.length
    · rw [if_pos hg] at z
      refine ⟨xs, rfl, fun a vs hp is => ?_⟩
      exact z ⟨wd1.F, wd1.mu, upd wd1.H a (.lst vs)⟩ _ ((x1.trans y).trans (Ext.laid k1 hp)) (Ext.laid k1 hp).lat (k1.laid hp) (Slots.putOwn (x1.trans y) k1 (sl.ext y) hg hp is)
    · rw [if_neg hg] at z
      exact False.elim z
  | _ => exact False.elim z
/-- a tuple target, not exchanged -/
def notTupE : PySem.Expr → Bool
  | .Tuple _ _ _ => false
  | _ => true
theorem st_tup {es : List PySem.Expr} {kk : Nat} {p2 : Pos} {e : PySem.Expr} {ts : List TG} {y : E} (hk : KSnd G c (.Tuple es kk p2) (.tp ts)) (h : ESnd G c e y) (hw : ∀ (env : Env), env.scope = c.sc → env.scope.kind = .function → swappedStores [.Tuple es kk p2] e env = pure none) :
    SSnd G c (.Assign [.Tuple es kk p2] e pos) [.asg (.tp ts) y] := fun T n L X gd W tk po => by
  obtain ⟨te, p, q⟩ := h T n L X gd W tk
  have base : ∀ ts', (X.Ok → PS X (.Assign [.Tuple es kk p2] e pos) ts') → PS X (.Assign [.Tuple es kk p2] e pos) ts' := fun ts' hh => ⟨fun pins s st H D I hq => (hh I.ok).run pins s st H D I hq⟩
  refine ⟨tAsg te (gS L (.tp ts)), base _ fun ok => ps_asg p (hk T n L X gd) (swaps_nt (t := .Tuple es kk p2) (l := pos.line) (env := X.env) rfl) (hw X.env gd.hsc ok.kind) rfl, fun w g s wd0 wd st D x1 k sl hh => ?_⟩
  rw [evSs_one] at hh
  unfold evS at hh
  refine q g s wd0 wd st _ k sl ((fl_post x1 sl hh).mono fun d s1 wd1 y k1 z v iv => ?_)
  obtain ⟨g', e1, z2⟩ := optF_post z
  exact ⟨wd1, s1, wd0, g, d, g', rfl, k1, sl.ext y, iv, e1, fun st' sl' _ => z2 wd1 st' (x1.trans y) (Lat.refl _) k1 sl'⟩
theorem swapped_not {t e : PySem.Expr} {env : Env} (h : notTupE e = true) : swappedStores [t] e env = pure none := by
  cases e <;> first | (cases t <;> rfl) | cases h
end
end Bd
namespace Bd
open PySem PySem.Spec PyProof.Rows L2
theorem paired_lat {L : Lay} {wd wd' : Wd} (x : Lat wd wd') : ∀ {vs : List V} {ds : List D}, Paired (Is L wd.F wd.mu) vs ds → Paired (Is L wd'.F wd'.mu) vs ds
  | _, _, .nil => .nil
  | _, _, .cons a b => .cons (a.mono x.1 x.2) (paired_lat x b)
theorem paired_isB {L : Lay} {wd : Wd} : ∀ {vs : List V} {ds : List D}, Paired (Is L wd.F wd.mu) vs ds → Paired (IsB L wd) vs ds
  | _, _, .nil => .nil
  | _, _, .cons a b => .cons (.inl a) (paired_isB b)
section
variable {G : Gn} {c : Ct} {pos : Pos}
theorem frzI_not {g : En} {e : E} (h : topBrw e = false) : frzI g e = some g := by
  cases e <;> first | rfl | cases h
theorem st_for {tgE iter : PySem.Expr} {body : List PySem.Stmt} {x : E} {tg : TG} {tu : Bool} {xs : List ST} (hc : c.calm = true) (hi : ISnd G c iter x tu) (htu : (!tu || isTupE tgE) = true) (hns : notSet iter = true) (htb : topBrw x = false)
    (hg : KSnd G c tgE tg) (hb : SsSnd G c body xs) : SSnd G c (.For tgE iter body [] pos) [.forr tg x xs] := fun T n L X gd W tk po => by
  obtain ⟨wi, p1, q1⟩ := hi T n L X gd W tk tgE (fun z => by rw [z] at htu; simpa using htu)
  obtain ⟨tb, p2, q2⟩ := hb T n L X gd W tk po
  refine ⟨_, ps_for po (gd.hcalm.trans hc) p1 (hg T n L X gd) p2 (folded_of hns), fun w g s wd0 wd st D x1 k sl hh => ?_⟩
  rw [evSs_one] at hh
  unfold evS at hh
  refine q1 g s wd0 wd st _ k sl ((fl_post x1 sl hh).mono fun d s1 wd1 y k1 z => ?_)
  obtain ⟨l, e1, z1⟩ := optF_post z
  obtain ⟨g0, e2, z2⟩ := optF_post z1
  rw [frzI_not htb] at e2
  cases e2
  refine ⟨l, e1, fun J vs ds its _ ps => ?_⟩
  have ps := ps htb
  let f : Bd.D → En → Sto → Fl := fun y g s => optF (setT tg y g) fun g' => evSs T (callsAt T n) w xs g' s
  let Iv : Nat → L2.St → Hp → Prop := fun i st H => ∃ wd2 s2 g2, wd2.H = H ∧ Ext wd0 wd2 ∧ WdOk L wd2 s2 ∧ Slots L wd0 wd2 st g2 ∧ Paired (Is L wd2.F wd2.mu) vs ds ∧ SPost L wd0 wd2 W D (forL f (l.drop i) g2 s2)
  refine ⟨fun i m st H => m = l.length - i ∧ i ≤ l.length ∧ Iv i st H, ⟨l.length, rfl, Nat.zero_le _, wd1, s1, g, rfl, x1.trans y, k1, sl.ext y, ps, z2⟩, ?_⟩
  rintro i m st2 H ⟨rfl, hil, wd2, s2, g2, rfl, x2, k2, sl2, ps2, z3⟩
  have it := its wd2 s2 k2 (paired_isB ps2) i
  by_cases hlt : i < l.length
  · obtain ⟨go, yl⟩ := it.2 _ (List.getElem?_eq_getElem hlt)
    refine .inr ⟨go, fun st' H' => Iv (i + 1) st' H', fun st' H' q => ⟨l.length - (i + 1), by omega, rfl, hlt, q⟩, fun v H' hy => ?_⟩
    obtain ⟨wd3, rfl, x3, k3, iv⟩ := yl v H' hy
    rw [List.drop_eq_getElem_cons hlt] at z3
    unfold forL at z3
    cases hs : setT tg l[i] g2 with
    | none =>
      have : f l[i] g2 s2 = .no := by
        show optF (setT tg l[i] g2) _ = .no
        rw [hs]
        rfl
      rw [this] at z3
      exact False.elim z3
    | some g3 =>
      have ef : f l[i] g2 s2 = evSs T (callsAt T n) w xs g3 s2 := by
        show optF (setT tg l[i] g2) _ = _
        rw [hs]
        rfl
      rw [ef] at z3
      refine ⟨wd3, s2, wd0, g2, l[i], g3, rfl, k3, sl2.ext x3, iv, hs, fun st4 sl4 _ => ?_⟩
      refine q2 w g3 s2 wd0 wd3 st4 _ (x2.trans x3) k3 sl4 ?_
      cases er : evSs T (callsAt T n) w xs g3 s2 with
      | nx g' s' =>
        rw [er] at z3
        exact fun wd' st' xx ll kk ss => ⟨wd', s', g', rfl, xx, kk, ss, paired_lat (x3.lat.trans ll) ps2, SPost.shift (x3.lat.trans ll) z3⟩
      | ct g' s' =>
        rw [er] at z3
        exact fun wd' st' xx ll kk ss => ⟨wd', s', g', rfl, xx, kk, ss, paired_lat (x3.lat.trans ll) ps2, SPost.shift (x3.lat.trans ll) z3⟩
      | bk g' s' =>
        rw [er] at z3
        exact fun wd' st' xx ll kk ss => z3 wd' st' xx (x3.lat.trans ll) kk ss
      | rt d s' => rw [er] at z3; exact z3
      | ex k0 ys g' s' =>
        rw [er] at z3
        exact fun wd' a st' xx ll kk ss xr => z3 wd' a st' xx (x3.lat.trans ll) kk ss xr
      | no => rw [er] at z3; exact z3
  · have e : i = l.length := by omega
    subst e
    rw [List.drop_length] at z3
    unfold forL at z3
    exact .inl ⟨it.1 rfl, z3 wd2 st2 x2 (Lat.refl _) k2 sl2⟩
theorem st_while {t : PySem.Expr} {body : List PySem.Stmt} {x : E} {xs : List ST} (ht : TSnd G c t x) (hb : SsSnd G c body xs) : SSnd G c (.While t body [] pos) [.whl x xs] := fun T n L X gd W tk po => by
  obtain ⟨tt, p1, q1⟩ := ht T n L X gd W tk
  obtain ⟨tb, p2, q2⟩ := hb T n L X gd W tk po
  refine ⟨_, ps_while po p1 p2, fun w g s wd0 wd st D x1 k sl hh => ?_⟩
  rw [evSs_one] at hh
  unfold evS at hh
  let t1 : En → Sto → R Bd.D := fun g s => evE T (callsAt T n) x g s
  let f1 : En → Sto → Fl := fun g s => evSs T (callsAt T n) w xs g s
  refine ⟨fun m st H => ∃ wd2 s2 g2, wd2.H = H ∧ Ext wd0 wd2 ∧ WdOk L wd2 s2 ∧ Slots L wd0 wd2 st g2 ∧ SPost L wd0 wd2 W D (whlL t1 f1 m g2 s2), ⟨w, wd, s, g, rfl, x1, k, sl, hh⟩, ?_⟩
  rintro m st2 H ⟨wd2, s2, g2, rfl, x2, k2, sl2, z⟩
  cases m with
  | zero => exact False.elim z
  | succ m =>
    unfold whlL at z
    refine q1 g2 s2 wd0 wd2 st2 _ k2 sl2 ((fl_post x2 sl2 z).mono fun d s3 wd3 y k3 z3 => ?_)
    cases d with
    | bl b =>
      refine ⟨b, rfl, ?_⟩
      cases b with
      | true =>
        refine iteT ⟨fun st' H' => ∃ wd2 s2 g2, wd2.H = H' ∧ Ext wd0 wd2 ∧ WdOk L wd2 s2 ∧ Slots L wd0 wd2 st' g2 ∧ SPost L wd0 wd2 W D (whlL t1 f1 m g2 s2), fun st' H' q => ⟨m, Nat.lt_succ_self _, q⟩, ?_⟩
        refine q2 w g2 s3 wd0 wd3 st2 _ (x2.trans y) k3 (sl2.ext y) ?_
        have ef : f1 g2 s3 = evSs T (callsAt T n) w xs g2 s3 := rfl
        simp only at z3
        rw [ef] at z3
        cases er : evSs T (callsAt T n) w xs g2 s3 with
        | nx g' s' =>
          rw [er] at z3
          exact fun wd' st' xx ll kk ss => ⟨wd', s', g', rfl, xx, kk, ss, SPost.shift ll z3⟩
        | ct g' s' =>
          rw [er] at z3
          exact fun wd' st' xx ll kk ss => ⟨wd', s', g', rfl, xx, kk, ss, SPost.shift ll z3⟩
        | bk g' s' => rw [er] at z3; exact z3
        | rt d s' => rw [er] at z3; exact z3
        | ex k0 ys g' s' => rw [er] at z3; exact z3
        | no => rw [er] at z3; exact z3
      | false => exact iteF (z3 wd3 st2 (x2.trans y) (Lat.refl _) k3 (sl2.ext y))
    | _ => exact False.elim z3
/-- the list in slot i is written -/
theorem Slots.wr {L : Lay} {wd0 wd : Wd} {s : Sto} {st : L2.St} {g : En} {i : Nat} {xs ys : List D} {a : Addr} {ws : List V} (x : Ext wd0 wd) (k : WdOk L wd s) (sl : Slots L wd0 wd st g) (h : owL g i = some xs) (ha : st[i]? = some (some (.ref a))) (is : IsAll L wd.F wd.mu ws ys) :
    Ext wd0 ⟨wd.F, wd.mu, upd wd.H a (.lst ws)⟩ ∧ WdOk L ⟨wd.F, wd.mu, upd wd.H a (.lst ws)⟩ s ∧ Slots L wd0 ⟨wd.F, wd.mu, upd wd.H a (.lst ws)⟩ st (g.set i (.ow (.lst ys))) := by
  have hg : g[i]? = some (.ow (.lst xs)) := by
    unfold owL at h
    split at h
    · rename_i e
      cases h
      exact e
    · cases h
  have hi : i < g.length := (List.getElem?_eq_some_iff.mp hg).1
  obtain ⟨b, e1, o⟩ := sl.ow i _ hg
  rw [ha] at e1
  cases e1
  have f := o.fresh
  refine ⟨f.write x, f.writeOk k, by rw [List.length_set]; exact sl.len, fun j e hj => ?_, fun j e hj => ?_, fun j m d1 e1 b h1 h2 h3 h4 => ?_⟩
  · by_cases q : i = j
    · subst q
      rw [List.getElem?_set_self hi] at hj
      cases hj
    · rw [List.getElem?_set_ne q] at hj
      exact sl.sh j e hj
  · by_cases q : i = j
    · subst q
      rw [List.getElem?_set_self hi] at hj
      cases hj
      exact ⟨a, ha, f.new, f.nF, f.nM, ws, upd_same, is⟩
    · rw [List.getElem?_set_ne q] at hj
      obtain ⟨b, z1, z2⟩ := sl.ow j e hj
      have nb : b ≠ a := fun z => q (sl.dis i j _ e a hg hj ha (by rw [← z]; exact z1))
      have eH : upd wd.H a (.lst ws) b = wd.H b := upd_ne nb
      refine ⟨b, z1, z2.new, z2.nF, z2.nM, ?_⟩
      have r := z2.rep
      cases e with
      | lst ys => obtain ⟨vs, y1, y2⟩ := r; exact ⟨vs, eH.trans y1, y2⟩
      | obj k0 ks ys => obtain ⟨dx, fs, y1, y2, y3⟩ := r; exact ⟨dx, fs, eH.trans y1, y2, y3⟩
      | _ => exact r.elim
  · have key : ∀ (j : Nat) d, (g.set i (.ow (.lst ys)))[j]? = some (.ow d) → ∃ d', g[j]? = some (.ow d') := fun j d e => by
      by_cases q : i = j
      · subst q
        exact ⟨_, hg⟩
      · rw [List.getElem?_set_ne q] at e
        exact ⟨_, e⟩
    obtain ⟨d1', k1⟩ := key j d1 h1
    obtain ⟨d2', k2⟩ := key m e1 h2
    exact sl.dis j m d1' d2' b k1 k2 h3 h4
theorem Slots.own {L : Lay} {wd0 wd : Wd} {st : L2.St} {g : En} {i : Nat} {xs : List D} (sl : Slots L wd0 wd st g) (h : owL g i = some xs) : ∃ a vs, st[i]? = some (some (.ref a)) ∧ wd.H a = some (.lst vs) ∧ IsAll L wd.F wd.mu vs xs := by
  have hg : g[i]? = some (.ow (.lst xs)) := by
    unfold owL at h
    split at h
    · rename_i e
      cases h
      exact e
    · cases h
  obtain ⟨a, e1, o⟩ := sl.ow i _ hg
  obtain ⟨vs, e2, e3⟩ := o.rep
  exact ⟨a, vs, e1, e2, e3⟩
theorem sub_assign {o i : PySem.Expr} {env : Env} (hi : noSlice i = true) : ∀ v, assign (.Subscript o i pos) env v = (do
      let ov ← holding [v] (eval o env)
      let iv ← holding [v, ov] (eval i env)
      standAt pos
      holding [v, ov, iv] (setItem ov iv v)
      release [v, ov, iv] []) := by
  intro v
  cases i <;> first | rfl | cases hi
/-- x[k] = e, x ours -/
theorem st_seti {x : Str} {i : Nat} {p2 p3 : Pos} {ke e : PySem.Expr} {kx y : E} (hi : c.N[i]? = some x) (hv : visB c.sc x = true) (hp : plainN x = true) (hk : ESnd G c ke kx) (hs : noSlice ke = true) (h : ESnd G c e y) :
    SSnd G c (.Assign [.Subscript (.Name x p3) ke p2] e pos) [.seti i kx y] := fun T n L X gd W tk po => by
  obtain ⟨te, p, q⟩ := h T n L X gd W tk
  obtain ⟨tk1, p1, q1⟩ := hk T n L X gd W tk
  refine ⟨_, ps_asg p (pg_sub (pe_slot gd hi hv hp) p1 set_list (sub_assign hs)) (swaps_nt (t := .Subscript (.Name x p3) ke p2) (l := pos.line) (env := X.env) rfl) (by cases e <;> rfl) rfl, fun w g s wd0 wd st D x1 k sl hh => ?_⟩
  rw [evSs_one] at hh
  unfold evS at hh
  refine q g s wd0 wd st _ k sl ((fl_post x1 sl hh).mono fun d s1 wd1 y k1 z v iv => ?_)
  have sl1 := sl.ext y
  obtain ⟨xs, eo, z1⟩ := optF_post z
  obtain ⟨a, vs, ea, hH, is⟩ := sl1.own eo
  refine ⟨.ref a, ea, q1 g s1 wd0 wd1 st _ k1 sl1 ((fl_post (x1.trans y) sl1 z1).mono fun kd s2 wd2 y2 k2 z2 kv ik => ?_)⟩
  cases kd with
  | int j =>
    cases ik
    obtain ⟨m, em, z3⟩ := optF_post z2
    obtain ⟨a', vs', ea', hH', is'⟩ := (sl1.ext y2).own eo
    rw [ea] at ea'
    cases ea'
    have l1 := is'.length
    refine ⟨a, vs', j, m, rfl, rfl, hH', by rw [l1]; exact em, ?_⟩
    obtain ⟨w1, w2, w3⟩ := (sl1.ext y2).wr ((x1.trans y).trans y2) k2 eo ea (IsAll.set (iv.ext y2) m is')
    exact z3 ⟨wd2.F, wd2.mu, upd wd2.H a (.lst (vs'.set m v))⟩ st w1 ⟨Same.refl _, fun _ _ z => z⟩ w2 w3
  | _ => exact False.elim z2
/-- x[k] += e, x ours -/
theorem get_listB {X : Cx} : PGet X (fun o i H Q => ∃ p xs k j v, o = .ref p ∧ i = .int k ∧ H p = some (.lst xs) ∧ ixN xs.length k = some j ∧ xs[j]? = some v ∧ Q v H) := by
  intro pins s st H o i ov iv Q I ro ri h
  obtain ⟨p, xs, k, j, v, rfl, rfl, hp, hj, hv, q⟩ := h
  cases ro
  obtain ⟨t, rfl⟩ := ri
  obtain ⟨its, n, r, ho, hz⟩ := I.lst hp
  obtain ⟨h1, h2, h3, h4⟩ := ixN_seq hj
  have hl := r.length
  have hn := line63
  obtain ⟨u, hu, ru⟩ := r.get hv
  have hL : s.heap.IsList p its.toArray := ⟨_, ho, rfl, n, rfl⟩
  have fin : EP X pins st Q u s := ⟨v, H, I, ru, q⟩
  by_cases h0 : 0 ≤ k
  · have hk : k.toNat = j := by
      rw [seqIndex_of h0 h4] at h1
      exact Option.some.inj h1
    exact wpAny_getItem_list hL h0 (by omega) (by rw [hk, List.getElem?_toArray]; exact hu) fin
  · exact PySem.W.kde_getNeg hL (by omega) (by omega) (by rw [← hl]; exact h1) hu fin
theorem aug_store {i : PySem.Expr} (hi : noSlice i = true) : ∀ ov iv new, augStore i ov iv new = (do holding [new, ov, iv] (setItem ov iv new); release [new, ov, iv] []; pure .next) := by
  intro ov iv new
  cases i <;> first | rfl | cases hi
theorem st_augi {x : Str} {i : Nat} {p2 p3 : Pos} {ke e : PySem.Expr} {kx y : E} (hi : c.N[i]? = some x) (hv : visB c.sc x = true) (hp : plainN x = true) (hk : ESnd G c ke kx) (hs : noSlice ke = true) (h : ESnd G c e y) :
    SSnd G c (.AugAssign (.Subscript (.Name x p3) ke p2) .Add e pos) [.augi i kx y] := fun T n L X gd W tk po => by
  obtain ⟨te, p, q⟩ := h T n L X gd W tk
  obtain ⟨tk1, p1, q1⟩ := hk T n L X gd W tk
  refine ⟨_, ps_augS (pe_slot gd hi hv hp) p1 get_listB p ip_add set_list (aug_store hs), fun w g s wd0 wd st D x1 k sl hh => ?_⟩
  rw [evSs_one] at hh
  unfold evS at hh
  obtain ⟨xs, eo, z1⟩ := optF_post hh
  obtain ⟨a, vs, ea, hH, is⟩ := sl.own eo
  refine ⟨.ref a, ea, q1 g s wd0 wd st _ k sl ((fl_post x1 sl z1).mono fun kd s2 wd2 y2 k2 z2 kv ik => ?_)⟩
  cases kd with
  | int j =>
    cases ik
    obtain ⟨m, em, z3⟩ := optF_post z2
    obtain ⟨old, eold, z4⟩ := optF_post z3
    have sl2 := sl.ext y2
    obtain ⟨a', vs', ea', hH', is'⟩ := sl2.own eo
    rw [ea] at ea'
    cases ea'
    have l1 := is'.length
    obtain ⟨ov, hov, iov⟩ := is'.get eold
    refine ⟨a, vs', j, m, ov, rfl, rfl, hH', by rw [l1]; exact em, hov, ?_⟩
    refine q g s2 wd0 wd2 st _ k2 sl2 ((fl_post (x1.trans y2) sl2 z4).mono fun d s3 wd3 y3 k3 z5 v iv => ?_)
    cases old with
    | int b1 =>
      cases d with
      | int b2 =>
        cases iov
        cases iv
        have sl3 := sl2.ext y3
        obtain ⟨a3, vs3, ea3, hH3, is3⟩ := sl3.own eo
        rw [ea] at ea3
        cases ea3
        have l3 := is3.length
        refine ⟨b1, b2, rfl, rfl, a, vs3, j, m, rfl, rfl, hH3, by rw [l3]; exact em, ?_⟩
        obtain ⟨w1, w2, w3⟩ := sl3.wr ((x1.trans y2).trans y3) k3 eo ea (IsAll.set (.int (b1 + b2)) m is3)
        exact z5 ⟨wd3.F, wd3.mu, upd wd3.H a (.lst (vs3.set m (.int (b1 + b2))))⟩ st w1 ⟨Same.refl _, fun _ _ z => z⟩ w2 w3
      | _ => exact False.elim z5
    | _ => cases d <;> exact False.elim z5
  | _ => exact False.elim z2
theorem few1 {e : PySem.Expr} {env : Env} {cpos : Pos} (hs : noStar e = true) : ((backTo cpos (starEach [e] env)).all (fun x => !x.1) && (backToKw cpos (keywordEach [] env)).all (fun x => x.1.isSome)
      && decide (([e] : List PySem.Expr).length + ([] : List Keyword).length + (if ([] : List Keyword).isEmpty then 0 else 1) < 30)) = true := by
  rw [star_cons hs]
  rfl
theorem st_app {x : Str} {i : Nat} {p2 p3 apos : Pos} {e : PySem.Expr} {y : E} (hi : c.N[i]? = some x) (hv : visB c.sc x = true) (hp : plainN x = true) (h : ESnd G c e y) (hs : noStar e = true) (hl : (apos.endLine == p2.line) = true) :
    SSnd G c (.Expr (.Call (.Attribute (.Name x p3) "append" apos) [e] [] p2) pos) [.app i y] := fun T n L X gd W tk po => by
  obtain ⟨te, p, q⟩ := h T n L X gd W tk
  refine ⟨_, ps_expr (pe_bm PySem.F.plainAttrs_list PySem.F.slot_list_append PySem.F.type_list_append mt_append (pe_slot gd hi hv hp) (pa_cons p pa_nil (star_cons hs)) (base_eq rfl) (few1 hs) hl (star_cons hs) rfl) (swaps_not rfl), fun w g s wd0 wd st D x1 k sl hh => ?_⟩
  rw [evSs_one] at hh
  unfold evS at hh
  obtain ⟨xs, eo, z1⟩ := optF_post hh
  obtain ⟨a, vs, ea, hH, is⟩ := sl.own eo
  refine ⟨.ref a, ea, .inl ⟨rfl, vs, SqL.of hH⟩, q g s wd0 wd st _ k sl ((fl_post x1 sl z1).mono fun d s2 wd2 y2 k2 z2 v iv => ?_)⟩
  by_cases hz : small (xs.length + 1) = true
  · rw [if_pos hz] at z2
    have sl2 := sl.ext y2
    obtain ⟨a', vs', ea', hH', is'⟩ := sl2.own eo
    rw [ea] at ea'
    cases ea'
    have l1 := is'.length
    refine ⟨a, vs', v, rfl, rfl, hH', by have := small_le hz; omega, ?_⟩
    obtain ⟨w1, w2, w3⟩ := sl2.wr (x1.trans y2) k2 eo ea (is'.append (.cons iv .nil))
    exact z2 ⟨wd2.F, wd2.mu, upd wd2.H a (.lst (vs' ++ [v]))⟩ st w1 ⟨Same.refl _, fun _ _ z => z⟩ w2 w3
  · rw [if_neg hz] at z2
    exact False.elim z2
theorem st_ext {x : Str} {i : Nat} {p2 p3 apos : Pos} {e : PySem.Expr} {y : E} (hi : c.N[i]? = some x) (hv : visB c.sc x = true) (hp : plainN x = true) (h : ESnd G c e y) (hs : noStar e = true) (hl : (apos.endLine == p2.line) = true) :
    SSnd G c (.Expr (.Call (.Attribute (.Name x p3) "extend" apos) [e] [] p2) pos) [.ext i y] := fun T n L X gd W tk po => by
  obtain ⟨te, p, q⟩ := h T n L X gd W tk
  refine ⟨_, ps_expr (pe_bm PySem.F.plainAttrs_list PySem.F.slot_list_extend PySem.F.type_list_extend mt_extend (pe_slot gd hi hv hp) (pa_cons p pa_nil (star_cons hs)) (base_eq rfl) (few1 hs) hl (star_cons hs) rfl) (swaps_not rfl), fun w g s wd0 wd st D x1 k sl hh => ?_⟩
  rw [evSs_one] at hh
  unfold evS at hh
  obtain ⟨xs, eo, z1⟩ := optF_post hh
  obtain ⟨a, vs, ea, hH, is⟩ := sl.own eo
  refine ⟨.ref a, ea, .inl ⟨rfl, vs, SqL.of hH⟩, q g s wd0 wd st _ k sl ((fl_post x1 sl z1).mono fun d s2 wd2 y2 k2 z2 v iv => ?_)⟩
  cases d with
  | lst ys =>
    simp only at z2
    by_cases hz : small (xs.length + ys.length) = true
    · rw [if_pos hz] at z2
      have sl2 := sl.ext y2
      obtain ⟨a', vs', ea', hH', is'⟩ := sl2.own eo
      rw [ea] at ea'
      cases ea'
      have l1 := is'.length
      cases iv with
      | lst h1 h2 =>
        rename_i b ws
        have l2 := h2.length
        refine ⟨a, b, vs', ws, rfl, rfl, hH', k2.sub _ _ h1, by have := small_le hz; omega, ?_⟩
        obtain ⟨w1, w2, w3⟩ := sl2.wr (x1.trans y2) k2 eo ea (is'.append h2)
        exact z2 ⟨wd2.F, wd2.mu, upd wd2.H a (.lst (vs' ++ ws))⟩ st w1 ⟨Same.refl _, fun _ _ z => z⟩ w2 w3
    · rw [if_neg hz] at z2
      exact False.elim z2
  | _ => exact False.elim z2
theorem ixN_fit {n : Nat} {i : Int} {j : Nat} (h : ixN n i = some j) (hn : n ≤ sizeLine) : -(2 ^ 63) ≤ i ∧ i < 2 ^ 63 ∧ seqIndex? i n = some j ∧ j < n := by
  obtain ⟨h1, h2, h3, h4⟩ := ixN_seq h
  have := line63
  exact ⟨by omega, by omega, h1, h2⟩
/-- found.append(rest.pop(k)) -/
theorem st_apop {x z : Str} {i j : Nat} {p2 p3 p4 p5 apos apos2 : Pos} {e : PySem.Expr} {y : E} (hi : c.N[i]? = some x) (hv : visB c.sc x = true) (hp : plainN x = true) (hj : c.N[j]? = some z) (hv2 : visB c.sc z = true) (hp2 : plainN z = true) (h : ESnd G c e y) (hs : noStar e = true)
    (hl : (apos.endLine == p2.line) = true) (hl2 : (apos2.endLine == p5.line) = true) :
    SSnd G c (.Expr (.Call (.Attribute (.Name x p3) "append" apos) [.Call (.Attribute (.Name z p4) "pop" apos2) [e] [] p5] [] p2) pos) [.apop i j y] := fun T n L X gd W tk po => by
  obtain ⟨te, p, q⟩ := h T n L X gd W tk
  have pp : PE X (.Call (.Attribute (.Name z p4) "pop" apos2) [e] [] p5) _ := pe_bm PySem.F.plainAttrs_list PySem.F.slot_list_pop PySem.F.type_list_pop mt_popAt (pe_slot gd hj hv2 hp2) (pa_cons p pa_nil (star_cons hs)) (base_eq rfl) (few1 hs) hl2 (star_cons hs) rfl
  refine ⟨_, ps_expr (pe_bm PySem.F.plainAttrs_list PySem.F.slot_list_append PySem.F.type_list_append mt_append (pe_slot gd hi hv hp) (pa_cons pp pa_nil (star_cons rfl)) (base_eq rfl) (few1 rfl) hl (star_cons rfl) rfl) (swaps_not rfl), fun w g s wd0 wd st D x1 k sl hh => ?_⟩
  rw [evSs_one] at hh
  unfold evS at hh
  by_cases hij : i = j
  · rw [if_pos hij] at hh
    exact False.elim hh
  · rw [if_neg hij] at hh
    obtain ⟨xs, eo, z0⟩ := optF_post hh
    obtain ⟨ys, eo2, z1⟩ := optF_post z0
    obtain ⟨a, vs, ea, hH, is⟩ := sl.own eo
    obtain ⟨b, us, eb, hHb, isb⟩ := sl.own eo2
    refine ⟨.ref a, ea, .inl ⟨rfl, vs, SqL.of hH⟩, .ref b, eb, .inl ⟨rfl, us, SqL.of hHb⟩, q g s wd0 wd st _ k sl ((fl_post x1 sl z1).mono fun d s2 wd2 y2 k2 z2 v iv => ?_)⟩
    cases d with
    | int kk =>
      cases iv
      obtain ⟨m, em, z3⟩ := optF_post z2
      obtain ⟨dy, edy, z4⟩ := optF_post z3
      have sl2 := sl.ext y2
      obtain ⟨b2, us2, eb2, hHb2, isb2⟩ := sl2.own eo2
      rw [eb] at eb2
      cases eb2
      obtain ⟨a2, vs2, ea2, hH2, is2⟩ := sl2.own eo
      rw [ea] at ea2
      cases ea2
      have lb := isb2.length
      have la := is2.length
      obtain ⟨yv, hyv, iyv⟩ := isb2.get edy
      by_cases hz0 : (small (xs.length + 1) && small ys.length) = true
      · rw [if_pos hz0] at z4
        rw [Bool.and_eq_true] at hz0
        have hz := hz0.1
        obtain ⟨f1, f2, f3, f4⟩ := ixN_fit em (small_le hz0.2)
        refine ⟨b, us2, kk, m, yv, rfl, rfl, hHb2, f1, f2, by rw [lb]; exact f3, hyv, ?_⟩
        · obtain ⟨w1, w2, w3⟩ := sl2.wr (x1.trans y2) k2 eo2 eb (isb2.erase m)
          have eo' : owL (g.set j (.ow (.lst (ys.eraseIdx m)))) i = some xs := by
            unfold owL
            rw [List.getElem?_set_ne (Ne.symm hij)]
            exact eo
          obtain ⟨a3, vs3, ea3, hH3, is3⟩ := w3.own eo'
          rw [ea] at ea3
          cases ea3
          have l3 := is3.length
          refine ⟨a, vs3, yv, rfl, rfl, hH3, by have := small_le hz; omega, ?_⟩
          obtain ⟨u1, u2, u3⟩ := w3.wr w1 w2 eo' ea (is3.append (.cons iyv .nil))
          exact z4 ⟨wd2.F, wd2.mu, upd (upd wd2.H b (.lst (us2.eraseIdx m))) a (.lst (vs3 ++ [yv]))⟩ st u1 ⟨Same.refl _, fun _ _ z => z⟩ u2 u3
      · rw [if_neg hz0] at z4
        exact False.elim z4
    | _ => exact False.elim z2
/-- rest.pop(k) -/
theorem st_pop {x : Str} {i : Nat} {p2 p3 apos : Pos} {e : PySem.Expr} {y : E} (hi : c.N[i]? = some x) (hv : visB c.sc x = true) (hp : plainN x = true) (h : ESnd G c e y) (hs : noStar e = true) (hl : (apos.endLine == p2.line) = true) :
    SSnd G c (.Expr (.Call (.Attribute (.Name x p3) "pop" apos) [e] [] p2) pos) [.pop i y] := fun T n L X gd W tk po => by
  obtain ⟨te, p, q⟩ := h T n L X gd W tk
  refine ⟨_, ps_expr (pe_bm PySem.F.plainAttrs_list PySem.F.slot_list_pop PySem.F.type_list_pop mt_popAt (pe_slot gd hi hv hp) (pa_cons p pa_nil (star_cons hs)) (base_eq rfl) (few1 hs) hl (star_cons hs) rfl) (swaps_not rfl), fun w g s wd0 wd st D x1 k sl hh => ?_⟩
  rw [evSs_one] at hh
  unfold evS at hh
  obtain ⟨xs, eo, z1⟩ := optF_post hh
  obtain ⟨a, vs, ea, hH, is⟩ := sl.own eo
  refine ⟨.ref a, ea, .inl ⟨rfl, vs, SqL.of hH⟩, q g s wd0 wd st _ k sl ((fl_post x1 sl z1).mono fun d s2 wd2 y2 k2 z2 v iv => ?_)⟩
  cases d with
  | int kk =>
    cases iv
    obtain ⟨m, em, z3⟩ := optF_post z2
    by_cases hz : small xs.length = true
    · rw [if_pos hz] at z3
      have sl2 := sl.ext y2
      obtain ⟨a2, vs2, ea2, hH2, is2⟩ := sl2.own eo
      rw [ea] at ea2
      cases ea2
      have la := is2.length
      obtain ⟨f1, f2, f3, f4⟩ := ixN_fit em (small_le hz)
      have hlt : m < vs2.length := by rw [la]; exact f4
      refine ⟨a, vs2, kk, m, vs2[m], rfl, rfl, hH2, f1, f2, by rw [la]; exact f3, List.getElem?_eq_getElem hlt, ?_⟩
      obtain ⟨w1, w2, w3⟩ := sl2.wr (x1.trans y2) k2 eo ea (is2.erase m)
      exact z3 ⟨wd2.F, wd2.mu, upd wd2.H a (.lst (vs2.eraseIdx m))⟩ st w1 ⟨Same.refl _, fun _ _ z => z⟩ w2 w3
    · rw [if_neg hz] at z3
      exact False.elim z3
  | _ => exact False.elim z2
end
end Bd
namespace Bd
open PySem PySem.Spec PyProof.Rows L2
theorem Ext.stw {L : Lay} {wd : Wd} {s : Sto} {n : Nat} {a : Addr} {o : HO} {m : MO} (k : WdOk L wd s) (hn : wd.mu[n]? = some a) (r : MRep L ⟨wd.F, wd.mu, upd wd.H a o⟩ a m) :
    Ext wd ⟨wd.F, wd.mu, upd wd.H a o⟩ ∧ WdOk L ⟨wd.F, wd.mu, upd wd.H a o⟩ (s.set n m) := by
  refine ⟨⟨Same.refl _, fun _ _ e => e, fun _ _ e => .inl e, fun _ _ e => .inl e, fun b u e nb => ?_, fun b e => ?_⟩, ⟨fun b u e => ?_, k.inj, k.apart, ?_, fun j m' e => ?_⟩⟩
  · show upd wd.H a o b = some u
    rw [upd_ne fun z => nb n (by rw [z]; exact hn)]
    exact e
  · have e2 : upd wd.H a o b = none := e
    by_cases q : b = a
    · subst q
      rw [upd_same] at e2
      cases e2
    · rw [upd_ne q] at e2
      exact e2
  · show upd wd.H a o b = some u
    have : b ≠ a := fun z => by rw [z, k.apart n a hn] at e; cases e
    rw [upd_ne this]
    exact k.sub b u e
  · rw [List.length_set]
    exact k.len
  · by_cases q : n = j
    · subst q
      have hlt : n < s.length := by rw [← k.len]; exact (List.getElem?_eq_some_iff.mp hn).1
      rw [List.getElem?_set_self hlt] at e
      cases e
      exact ⟨a, hn, r⟩
    · rw [List.getElem?_set_ne q] at e
      obtain ⟨b, e1, r1⟩ := k.sto j m' e
      have nb : b ≠ a := fun z => q (k.inj n j a hn (by rw [← z]; exact e1))
      refine ⟨b, e1, ?_⟩
      have eH : upd wd.H a o b = wd.H b := upd_ne nb
      cases m' with
      | lst xs => obtain ⟨vs, y1, y2⟩ := r1; exact ⟨vs, eH.trans y1, y2⟩
      | dct ks xs => obtain ⟨kvs, y1, y2, y3⟩ := r1; exact ⟨kvs, eH.trans y1, y2, y3⟩
      | ins c ks xs => obtain ⟨dx, fs, y1, y2, y3⟩ := r1; exact ⟨dx, fs, eH.trans y1, y2, y3⟩
section
variable {L : Lay} {F : Hp} {mu : List Addr}
theorem putD_ok {k : Key} {v : V} {d : D} {kvs : List (Key × V)} {ks : List Key} {ds : List D} (h1 : kvs.map (·.1) = ks) (h2 : IsAll L F mu (kvs.map (·.2)) ds) (iv : Is L F mu v d) :
    (L2.putK kvs k v).map (·.1) = (putD k d ks ds).1 ∧ IsAll L F mu ((L2.putK kvs k v).map (·.2)) (putD k d ks ds).2 := by
  subst h1
  unfold L2.putK putD
  have e : ((kvs.map (·.1)).any fun a => decide (a = k)) = (kvs.any fun kv => decide (kv.1 = k)) := by
    rw [List.any_map]
    rfl
  rw [e]
  by_cases hq : (kvs.any fun kv => decide (kv.1 = k)) = true
  · rw [if_pos hq, if_pos hq]
    refine ⟨?_, ?_⟩
    · rw [List.map_map]
      apply List.map_congr_left
      intro p _
      by_cases z : p.1 = k <;> simp [z]
    · clear hq e
      induction kvs generalizing ds with
      | nil => cases h2; exact .nil
      | cons p kvs ih =>
        cases h2 with
        | cons a b =>
          refine .cons ?_ (ih b)
          by_cases z : p.1 = k
          · simp only [z, if_true]
            exact iv
          · simp only [z, if_false]
            exact a
  · rw [if_neg hq, if_neg hq]
    refine ⟨by simp, ?_⟩
    rw [List.map_append]
    exact h2.append (.cons iv .nil)
theorem putK_ok {nm : Nat → Str} (inj : ∀ i j, nm i = nm j → i = j) {a : Nat} {v : V} {d : D} (iv : Is L F mu v d) : ∀ {fs : List (Str × V)} {ks : List Nat} {ds : List D}, fs.map (·.1) = ks.map nm → IsAll L F mu (fs.map (·.2)) ds →
    (putF (nm a) v fs).map (·.1) = (putK a d ks ds).1.map nm ∧ IsAll L F mu ((putF (nm a) v fs).map (·.2)) (putK a d ks ds).2
  | [], [], [], _, .nil => ⟨rfl, .cons iv .nil⟩
  | [], _ :: _, _, e, _ => by cases e
  | p :: fs, [], _, e, _ => by cases e
  | (f, x) :: fs, k :: ks, d0 :: ds, e, .cons h1 h2 => by
    simp only [List.map_cons, List.cons.injEq] at e
    obtain ⟨e1, e2⟩ := e
    unfold putF putK
    by_cases q : k = a
    · subst q
      have hf : f = nm k := e1
      rw [if_pos hf, if_pos rfl]
      exact ⟨by simp [e1, e2], .cons iv h2⟩
    · have hf : ¬ f = nm a := fun z => q (inj _ _ (e1.symm.trans z))
      rw [if_neg hf, if_neg q]
      obtain ⟨i1, i2⟩ := putK_ok inj (a := a) iv e2 h2
      exact ⟨by simp [e1, i1], .cons h1 i2⟩
end
section
variable {G : Gn} {c : Ct} {pos : Pos}
theorem pset_or {X : Cx} {t t' : TSet} (h : PSet X t) (h' : PSet X t') : PSet X (fun o i v H Q => t o i v H Q ∨ t' o i v H Q) := by
  intro pins s st H o i v ov iv u Q I ro ri rv q
  rcases q with q | q
  · exact h pins s st H o i v ov iv u Q I ro ri rv q
  · exact h' pins s st H o i v ov iv u Q I ro ri rv q
theorem keyOf_v {L : Lay} {wd : Wd} {kd : D} {k : Key} {v : V} (e : keyOf kd = some k) (i : Is L wd.F wd.mu v kd) : v = kV k := by
  cases kd with
  | int j => cases e; cases i; rfl
  | str x => cases e; cases i; rfl
  | _ => cases e
/-- o[k] = e, o in the store -/
theorem st_sets {p2 : Pos} {oe ke e : PySem.Expr} {ox kx y : E} (ho : ESnd G c oe ox) (hk : ESnd G c ke kx) (hs : noSlice ke = true) (h : ESnd G c e y) :
    SSnd G c (.Assign [.Subscript oe ke p2] e pos) [.sets ox kx y] := fun T n L X gd W tk po => by
  obtain ⟨te, p, q⟩ := h T n L X gd W tk
  obtain ⟨to, p0, q0⟩ := ho T n L X gd W tk
  obtain ⟨tk1, p1, q1⟩ := hk T n L X gd W tk
  have hu : X.A.units + 1 < cLine := by have := gd.un; omega
  refine ⟨_, ps_asg p (pg_sub p0 p1 (pset_or (set_dict hu) set_list) (sub_assign hs)) (swaps_nt (t := .Subscript oe ke p2) (l := pos.line) (env := X.env) rfl) (by cases e <;> rfl) rfl, fun w g s wd0 wd st D x1 k sl hh => ?_⟩
  rw [evSs_one] at hh
  unfold evS at hh
  refine q g s wd0 wd st _ k sl ((fl_post x1 sl hh).mono fun d s1 wd1 y1 k1 z1 v iv => ?_)
  have sl1 := sl.ext y1
  refine q0 g s1 wd0 wd1 st _ k1 sl1 ((fl_post (x1.trans y1) sl1 z1).mono fun od s2 wd2 y2 k2 z2 ov io => ?_)
  have sl2 := sl1.ext y2
  refine q1 g s2 wd0 wd2 st _ k2 sl2 ((fl_post ((x1.trans y1).trans y2) sl2 z2).mono fun kd s3 wd3 y3 k3 z3 kv ik => ?_)
  have sl3 := sl2.ext y3
  have x3 := ((x1.trans y1).trans y2).trans y3
  have iv3 := (iv.ext y2).ext y3
  have io3 := io.ext y3
  obtain ⟨s4, e4, z4⟩ := optF_post z3
  unfold setsD at e4
  cases od with
  | loc m =>
    simp only at e4
    cases io3 with
    | loc hm =>
      rename_i a
      cases es : s3[m]? with
      | none => rw [es] at e4; cases e4
      | some mo =>
        rw [es] at e4
        obtain ⟨b, eb, rep⟩ := k3.sto m mo es
        rw [hm] at eb
        cases eb
        cases mo with
        | dct ks xs =>
          simp only at e4
          cases ek : keyOf kd with
          | none => rw [ek] at e4; cases e4
          | some key =>
            rw [ek] at e4
            obtain ⟨hz, rfl⟩ := ite_some (show (if small (ks.length + 1) = true then some _ else none) = some s4 from e4)
            have := keyOf_v ek ik
            subst this
            obtain ⟨kvs, r1, r2, r3⟩ := rep
            obtain ⟨u1, u2⟩ := putD_ok (k := key) r2 r3 iv3
            have hl : kvs.length < sizeLine := by
              have h1 := small_le hz
              have h2 : kvs.length = ks.length := by rw [← r2, List.length_map]
              omega
            obtain ⟨w1, w2⟩ := Ext.stw (o := .dK (L2.putK kvs key v)) (m := .dct (putD key d ks xs).1 (putD key d ks xs).2) k3 hm ⟨_, upd_same, u1, u2⟩
            exact .inl ⟨a, _, rfl, DPut.k r1 hl, z4 _ st (x3.trans w1) w1.lat w2 (sl3.ext w1)⟩
        | lst xs =>
          simp only at e4
          cases kd with
          | int j =>
            cases ik
            simp only at e4
            cases ej : ixN xs.length j with
            | none => rw [ej] at e4; cases e4
            | some jj =>
              rw [ej] at e4
              cases e4
              obtain ⟨vs, r1, r2⟩ := rep
              have l1 := r2.length
              obtain ⟨w1, w2⟩ := Ext.stw (o := .lst (vs.set jj v)) (m := .lst (xs.set jj d)) k3 hm ⟨_, upd_same, IsAll.set iv3 jj r2⟩
              exact .inr ⟨a, vs, j, jj, rfl, rfl, r1, by rw [l1]; exact ej, z4 _ st (x3.trans w1) w1.lat w2 (sl3.ext w1)⟩
          | _ => cases e4
        | ins k0 ks xs => cases e4
  | _ => cases e4
/-- o.f = e -/
theorem st_setf {p2 : Pos} {oe e : PySem.Expr} {ox y : E} {nm : Str} {m : Nat} (hm : G.nm[m]? = some nm) (h20 : 20 ≤ m) (ho : ESnd G c oe ox) (h : ESnd G c e y) :
    SSnd G c (.Assign [.Attribute oe nm p2] e pos) [.setf ox m y] := fun T n L X gd W tk po => by
  obtain ⟨te, p, q⟩ := h T n L X gd W tk
  obtain ⟨to, p0, q0⟩ := ho T n L X gd W tk
  have en := gd.nmn m nm hm
  have hlt : m < G.nm.length := (List.getElem?_eq_some_iff.mp hm).1
  subst en
  refine ⟨_, ps_fld p0 p (swaps_nt rfl), fun w g s wd0 wd st D x1 k sl hh => ?_⟩
  rw [evSs_one] at hh
  unfold evS at hh
  refine q g s wd0 wd st _ k sl ((fl_post x1 sl hh).mono fun d s1 wd1 y1 k1 z1 v iv => ?_)
  have sl1 := sl.ext y1
  refine q0 g s1 wd0 wd1 st _ k1 sl1 ((fl_post (x1.trans y1) sl1 z1).mono fun od s2 wd2 y2 k2 z2 ov io => ?_)
  have sl2 := sl1.ext y2
  have x2 := (x1.trans y1).trans y2
  cases od with
  | loc l =>
    simp only at z2
    cases io with
    | loc hl =>
      rename_i a
      cases es : s2[l]? with
      | none => rw [es] at z2; exact False.elim z2
      | some mo =>
        rw [es] at z2
        obtain ⟨b, eb, rep⟩ := k2.sto l mo es
        rw [hl] at eb
        cases eb
        cases mo with
        | ins k0 ks xs =>
          simp only at z2
          by_cases hq : (fldOk T k0 m && decide (ks.length < 900)) = true
          · rw [if_pos hq] at z2
            rw [Bool.and_eq_true] at hq
            obtain ⟨dx, fs, r1, r2, r3⟩ := rep
            have hfl := hq.1
            unfold fldOk at hfl
            cases ecd : T.cl.lookup k0 with
            | none => rw [ecd] at hfl; cases hfl
            | some cd =>
              rw [ecd] at hfl
              simp only [Bool.and_eq_true, decide_eq_true_eq, Option.isNone_iff_eq_none] at hfl
              have CF := gd.clf k0 cd ecd hfl.1.1
              have hlen : fs.length < 1000 := by
                have h1 := of_decide_eq_true hq.2
                have h2 : fs.length = ks.length := by
                  have := congrArg List.length r2
                  simpa using this
                omega
              obtain ⟨u1, u2⟩ := putK_ok gd.nmi (a := m) (iv.ext y2) r2 r3
              obtain ⟨w1, w2⟩ := Ext.stw (o := .ins (L.ca k0) dx (putF (L.nm m) v fs)) (m := .ins k0 (putK m d ks xs).1 (putK m d ks xs).2) k2 hl ⟨dx, _, upd_same, u1, u2⟩
              exact ⟨a, L.ca k0, dx, fs, rfl, r1, CF.cl, CF.no m h20 hlt hfl.1.2 hfl.2, hlen, z2 _ st (x2.trans w1) w1.lat w2 (sl2.ext w1)⟩
          · rw [if_neg hq] at z2
            exact False.elim z2
        | _ => exact False.elim z2
  | _ => exact False.elim z2
end
end Bd
namespace Bd
open PySem PySem.Spec PyProof.Rows L2
/-- a value in hand: a new list that nobody else holds, or a shared value; wd: the world ahead of it -/
def MV (L : Lay) (wd wd2 : Wd) (o : Bool) (v : V) (d : D) : Prop := if (o && isLst d) = true then ∃ p vs xs, v = .ref p ∧ d = .lst xs ∧ wd2.H p = some (.lst vs) ∧ IsAll L wd2.F wd2.mu vs xs ∧ Fresh wd wd2 p else Is L wd2.F wd2.mu v d
theorem MV.ext {L : Lay} {wd wd2 wd3 : Wd} {o : Bool} {v : V} {d : D} (h : MV L wd wd2 o v d) (x : Ext wd2 wd3) : MV L wd wd3 o v d := by
  unfold MV at h ⊢
  split at h
  · rename_i q
    rw [if_pos q]
    obtain ⟨p, vs, xs, e1, e2, e3, e4, f⟩ := h
    obtain ⟨f2, e5⟩ := f.ext e3 x
    exact ⟨p, vs, xs, e1, e2, e5, e4.ext x, f2⟩
  · rename_i q
    rw [if_neg q]
    exact h.ext x
def MSnd (G : Gn) (c : Ct) (o : Bool) (e : PySem.Expr) (x : E) : Prop := ∀ (T : Tb) (n : Nat) (L : Lay) (X : Cx), Gd G T n L c X → ∀ W : WX, Takes X W → ∃ te, PE X e te ∧
  ∀ g s wd0 wd st Q, WdOk L wd s → Slots L wd0 wd st g → RPost L wd (WE W st) (fun d s' _ => ∀ wd2 v, Ext wd wd2 → WdOk L wd2 s' → MV L wd wd2 o v d → Q v wd2.H) (evE T (callsAt T n) x g s) → te st wd.H Q
section
variable {G : Gn} {c : Ct} {pos : Pos}
theorem m_sh {e : PySem.Expr} {x : E} (h : ESnd G c e x) : MSnd G c false e x := fun T n L X gd W tk => by
  obtain ⟨te, p, q⟩ := h T n L X gd W tk
  refine ⟨te, p, fun g s wd0 wd st Q k sl r => q g s wd0 wd st Q k sl (r.mono fun d s' wd' y k' z v i => z wd' v y k' ?_)⟩
  unfold MV
  exact i
theorem m_ow {e : PySem.Expr} {x : E} (h : GSnd G c e x) : MSnd G c true e x := fun T n L X gd W tk => by
  obtain ⟨te, p, q⟩ := h T n L X gd W tk
  refine ⟨te, p, fun g s wd0 wd st Q k sl r => q g s wd0 wd st Q k sl (r.mono fun d s' wd' y k' z => ?_)⟩
  cases d with
  | lst xs =>
    intro a vs ha is
    refine z ⟨wd'.F, wd'.mu, upd wd'.H a (.lst vs)⟩ (.ref a) (y.trans (Ext.laid k' ha)) (k'.laid ha) ?_
    unfold MV
    rw [if_pos (show (true && isLst (.lst xs)) = true from rfl)]
    have f : Fresh wd' ⟨wd'.F, wd'.mu, upd wd'.H a (.lst vs)⟩ a := Fresh.of_laid (o := .lst vs) k' ha
    exact ⟨a, vs, xs, rfl, rfl, upd_same, is, y.dom a ha, f.nF, f.nM⟩
  | _ => exact fun wd2 v y2 k2 i => z wd2 v (y.trans y2) k2 i
/-- the value in hand is put into a slot -/
def HV (L : Lay) (wd0 wd : Wd) (st : L2.St) (g : En) (o : Bool) (v : V) (d : D) : Prop := if o = true then ∃ p vs xs, v = .ref p ∧ d = .lst xs ∧ wd.H p = some (.lst vs) ∧ IsAll L wd.F wd.mu vs xs ∧ Fresh wd0 wd p ∧ ∀ (j : Nat) e, g[j]? = some (.ow e) → st[j]? ≠ some (some (.ref p)) else Is L wd.F wd.mu v d
theorem Slots.putH {L : Lay} {wd0 wd : Wd} {st : L2.St} {g : En} {i : Nat} {o : Bool} {v : V} {d : D} (sl : Slots L wd0 wd st g) (hi : i < g.length) (h : HV L wd0 wd st g o v d) : Slots L wd0 wd (st.set i (some v)) (g.set i (if o = true then .ow d else .sh d)) := by
  unfold HV at h
  cases o with
  | false => exact sl.put hi h
  | true =>
    rw [if_pos rfl] at h
    rw [if_pos rfl]
    obtain ⟨p, vs, xs, rfl, rfl, e3, e4, f, nd⟩ := h
    have hs : i < st.length := by rw [sl.len]; exact hi
    refine ⟨by rw [List.length_set, List.length_set]; exact sl.len, fun j e hj => ?_, fun j e hj => ?_, fun j m d1 e1 a h1 h2 h3 h4 => ?_⟩
    · by_cases q : i = j
      · subst q
        rw [List.getElem?_set_self hi] at hj
        cases hj
      · rw [List.getElem?_set_ne q] at hj
        rw [List.getElem?_set_ne q]
        exact sl.sh j e hj
    · by_cases q : i = j
      · subst q
        rw [List.getElem?_set_self hi] at hj
        cases hj
        exact ⟨p, List.getElem?_set_self hs, f.new, f.nF, f.nM, vs, e3, e4⟩
      · rw [List.getElem?_set_ne q] at hj
        rw [List.getElem?_set_ne q]
        exact sl.ow j e hj
    · by_cases q1 : i = j
      · by_cases q2 : i = m
        · omega
        · subst q1
          rw [List.getElem?_set_self hs] at h3
          cases h3
          rw [List.getElem?_set_ne q2] at h2 h4
          exact absurd h4 (nd m e1 h2)
      · rw [List.getElem?_set_ne q1] at h1 h3
        by_cases q2 : i = m
        · subst q2
          rw [List.getElem?_set_self hs] at h4
          cases h4
          exact absurd h3 (nd j d1 h1)
        · rw [List.getElem?_set_ne q2] at h2 h4
          exact sl.dis j m d1 e1 a h1 h2 h3 h4
/-- from the hand: the slots are those of the world ahead -/
theorem MV.hv {L : Lay} {wd0 wd wd2 : Wd} {st : L2.St} {g : En} {o : Bool} {v : V} {d : D} (x : Ext wd0 wd) (sl : Slots L wd0 wd st g) (h : MV L wd wd2 o v d) (ho : (!o || isLst d) = true) : HV L wd0 wd2 st g o v d := by
  unfold MV at h
  unfold HV
  cases o with
  | false => exact h
  | true =>
    have hd : isLst d = true := by simpa using ho
    rw [if_pos (by rw [hd]; rfl)] at h
    rw [if_pos rfl]
    obtain ⟨p, vs, xs, e1, e2, e3, e4, f⟩ := h
    refine ⟨p, vs, xs, e1, e2, e3, e4, ⟨x.dom p f.new, f.nF, f.nM⟩, fun j e hj hs => ?_⟩
    obtain ⟨a, h1, h2⟩ := sl.ow j e hj
    rw [hs] at h1
    cases h1
    obtain ⟨u, hu⟩ := h2.rep.there
    rw [f.new] at hu
    cases hu
/-- another value was put ahead of it: what it is stood already -/
theorem HV.set {L : Lay} {wd0 wd wdm : Wd} {st : L2.St} {g : En} {i : Nat} {o o1 : Bool} {v v1 : V} {d d1 : D} (h : HV L wd0 wd st g o v d) (hi : i < g.length) (hl : st.length = g.length) (h1 : HV L wd0 wd st g o1 v1 d1) (ne : o = true → o1 = true → v ≠ v1) :
    HV L wd0 wd (st.set i (some v1)) (g.set i (if o1 = true then .ow d1 else .sh d1)) o v d := by
  unfold HV at h ⊢
  cases o with
  | false => exact h
  | true =>
    rw [if_pos rfl] at h ⊢
    obtain ⟨p, vs, xs, e1, e2, e3, e4, f, nd⟩ := h
    refine ⟨p, vs, xs, e1, e2, e3, e4, f, fun j e hj hs => ?_⟩
    by_cases q : i = j
    · subst q
      rw [List.getElem?_set_self hi] at hj
      rw [List.getElem?_set_self (by rw [hl]; exact hi)] at hs
      cases o1 with
      | false => cases hj
      | true => exact ne rfl rfl (by rw [e1]; exact (Option.some.inj (Option.some.inj hs)).symm)
    · rw [List.getElem?_set_ne q] at hj hs
      exact nd j e hj hs
theorem MV.ne {L : Lay} {wd wd1 wd2 wd3 : Wd} {o o1 : Bool} {v v1 : V} {d d1 : D} (h1 : MV L wd wd1 o1 v1 d1) (h : MV L wd1 wd2 o v d) (l1 : (!o1 || isLst d1) = true) (l : (!o || isLst d) = true) : o = true → o1 = true → v ≠ v1 := fun z z1 e => by
  subst z z1
  unfold MV at h h1
  have hd : isLst d = true := by simpa using l
  have hd1 : isLst d1 = true := by simpa using l1
  rw [if_pos (by rw [hd]; rfl)] at h
  rw [if_pos (by rw [hd1]; rfl)] at h1
  obtain ⟨p, vs, xs, e1, e2, e3, e4, f⟩ := h
  obtain ⟨p', vs', xs', e1', e2', e3', e4', f'⟩ := h1
  subst e1 e1'
  cases e
  rw [f.new] at e3'
  cases e3'
theorem Own.mvExt {L : Lay} {wd wd2 : Wd} (x : Ext wd wd2) : True := trivial
def swLocal (sc : Scope) (x : Str) : Bool := match sc.names.lookup x with
  | some .local => true
  | _ => false
theorem swLocal_of {sc : Scope} {x : Str} (h : swLocal sc x = true) : sc.names.lookup x = some .local := by
  unfold swLocal at h
  split at h
  · assumption
  · cases h
theorem blockK {env : Env} (hk : env.scope.kind = .function) : env.blockKind = .function := by
  unfold Env.blockKind
  rw [hk]
  rfl
def isStarE : PySem.Expr → Bool
  | .Starred _ _ => true
  | _ => false
def nmLoc (sc : Scope) (line : Nat) : PySem.Expr → Option Str
  | .Name id p => if sc.names.lookup id == some .local && p.line == line then some id else none
  | _ => none
/-- the names of the targets that are stored from the right -/
def swNm (sc : Scope) (ts : List PySem.Expr) : List Str := ts.filterMap (nmLoc sc ((ts.head?.map (·.pos.line)).getD 0))
/-- what swappedStores tells of two tuples; none: not covered -/
def swF (sc : Scope) (ts vs : List PySem.Expr) : Option (Option (List Str)) :=
    if (!(ts.length == 2 || ts.length == 3) || vs.length != ts.length || false) = true then some none else
    if vs.any isStarE = true then some none else
    if ((swNm sc ts).length != ts.length || (swNm sc ts).eraseDups.length != (swNm sc ts).length) = true then some none else
    if vs.all (foldedForSure 8) = true then some none else
    if vs.all (constantsAlone 8) = true then none else some (some (swNm sc ts))
theorem swF_ok {ts vs : List PySem.Expr} {kt k2 : Nat} {pt pt2 : Pos} {env : Env} {r : Option (List Str)} (hk : env.scope.kind = .function) (h : swF env.scope ts vs = some r) : swappedStores [.Tuple ts kt pt] (.Tuple vs k2 pt2) env = pure r := by
  have hb : (env.blockKind != .function) = false := by
    rw [blockK hk]
    rfl
  have go : swappedStores [.Tuple ts kt pt] (.Tuple vs k2 pt2) env = (if (!(ts.length == 2 || ts.length == 3) || vs.length != ts.length || (env.blockKind != .function)) = true then pure none else
    if vs.any isStarE = true then pure none else
    if ((swNm env.scope ts).length != ts.length || (swNm env.scope ts).eraseDups.length != (swNm env.scope ts).length) = true then pure none else
    if vs.all (foldedForSure 8) = true then pure none else
    if vs.all (constantsAlone 8) = true then (do let r ← unsupported "assign.tuple-of-constant-expressions:order-of-the-stores"; (fun (_ : Unit) => pure (some (swNm env.scope ts))) r) else pure (some (swNm env.scope ts))) := by
    have e1 : ∀ l : List PySem.Expr, (l.any fun | .Starred .. => true | _ => false) = l.any isStarE := fun l => by
      congr 1
    have e2 : ∀ line : Nat, (ts.filterMap fun | .Name id pos => if env.kindOf id == some .local && pos.line == line then some id else none | _ => none) = ts.filterMap (nmLoc env.scope line) := fun line => by
      congr 1
    unfold swappedStores swNm
    dsimp only
    rw [← e1]
    simp only [← e2]
    rfl
  rw [go, hb]
  unfold swF at h
  split at h
  · cases h
    rename_i hh
    rw [if_pos hh]
  · rename_i hh
    rw [if_neg hh]
    split at h
    · cases h
      rename_i hh
      rw [if_pos hh]
    · rename_i hh
      rw [if_neg hh]
      split at h
      · cases h
        rename_i hh
        rw [if_pos hh]
      · rename_i hh
        rw [if_neg hh]
        split at h
        · cases h
          rename_i hh
          rw [if_pos hh]
        · rename_i hh
          rw [if_neg hh]
          split at h
          · cases h
          · rename_i hh
            rw [if_neg hh]
            cases h
            rfl
/-- the fresh part of a slot stays apart from a later world -/
theorem st_par2 {x y : Str} {px py pt pt2 : Pos} {kt k2 : Nat} {a b : PySem.Expr} {i j : Nat} {xa xb : E} {o1 o2 : Bool} (hc : c.calm = true) (hi : c.N[i]? = some x) (hj : c.N[j]? = some y) (hij : decide (i ≠ j) = true) (hx : swLocal c.sc x = true) (hy : swLocal c.sc y = true)
    (hw : swF c.sc [.Name x px, .Name y py] [a, b] = some (some [x, y])) (ha : MSnd G c o1 a xa) (hb : MSnd G c o2 b xb) (hsa : noStar a = true) (hsb : noStar b = true) :
    SSnd G c (.Assign [.Tuple [.Name x px, .Name y py] kt pt] (.Tuple [a, b] k2 pt2) pos) [.par [(i, o1), (j, o2)] [xa, xb]] := fun T n L X gd W tk po => by
  obtain ⟨t1, p1, q1⟩ := ha T n L X gd W tk
  obtain ⟨t2, p2, q2⟩ := hb T n L X gd W tk
  have nij := of_decide_eq_true hij
  have base : ∀ ts', (X.Ok → PS X (.Assign [.Tuple [.Name x px, .Name y py] kt pt] (.Tuple [a, b] k2 pt2) pos) ts') → PS X (.Assign [.Tuple [.Name x px, .Name y py] kt pt] (.Tuple [a, b] k2 pt2) pos) ts' := fun ts' hh => ⟨fun pins s st H D I hq => (hh I.ok).run pins s st H D I hq⟩
  refine ⟨tPar i j _, base _ fun ok => ps_par (gd.hcalm.trans hc) gd.nd (by rw [gd.hN]; exact hi) (by rw [gd.hN]; exact hj) nij (by rw [gd.hsc]; exact swLocal_of hx) (by rw [gd.hsc]; exact swLocal_of hy) (pa_cons p1 (pa_cons p2 pa_nil (star_cons hsb)) (star_cons hsa)) (swF_ok ok.kind (by rw [gd.hsc]; exact hw)) rfl, fun w g s wd0 wd st D x1 k sl hh => ?_⟩
  rw [evSs_one] at hh
  unfold evS at hh
  have e0 : ∀ g s, evEs T (callsAt T n) [xa, xb] g s = (evE T (callsAt T n) xa g s).bind fun d s => (evE T (callsAt T n) xb g s).bind fun d2 s => .ok [d, d2] s := fun g s => by
    unfold evEs
    congr 1
    funext d s1
    unfold evEs
    cases evE T (callsAt T n) xb g s1 with
    | ok d2 s2 =>
      simp only [R.bind]
      unfold evEs
      rfl
    | ex k0 ys s2 => rfl
    | no => rfl
  rw [e0] at hh
  show t1 st wd.H _
  refine q1 g s wd0 wd st _ k sl ?_
  cases e1 : evE T (callsAt T n) xa g s with
  | no => rw [e1] at hh; exact hh
  | ex k0 ys s1 =>
    rw [e1] at hh
    exact fun wd' a' y' k' q' => hh wd' a' st (x1.trans y') y'.lat k' (sl.ext y') q'
  | ok d1 s1 =>
    rw [e1] at hh
    simp only [R.bind] at hh
    intro _ _ _ wd1 v1 y1 k1 m1
    have sl1 := sl.ext y1
    refine q2 g s1 wd0 wd1 st _ k1 sl1 ?_
    cases e2 : evE T (callsAt T n) xb g s1 with
    | no => rw [e2] at hh; exact hh
    | ex k0 ys s2 =>
      rw [e2] at hh
      exact fun wd' a' y' k' q' => hh wd' a' st ((x1.trans y1).trans y') (y1.lat.trans y'.lat) k' (sl1.ext y') q'
    | ok d2 s2 =>
      rw [e2] at hh
      intro _ _ _ wd2 v2 y2 k2 m2
      refine ⟨v1, v2, rfl, ?_⟩
      have z : SPost L wd0 wd W D (optF (setPar [(i, o1), (j, o2)] [d1, d2] g) fun g' => .nx g' s2) := hh
      obtain ⟨g', eg, z2⟩ := optF_post z
      unfold setPar at eg
      by_cases c1 : (decide (i < g.length) && (!o1 || isLst d1)) = true
      · rw [if_pos c1] at eg
        rw [Bool.and_eq_true, decide_eq_true_eq] at c1
        unfold setPar at eg
        by_cases c2 : (decide (j < (g.set i (if o1 = true then Sl.ow d1 else Sl.sh d1)).length) && (!o2 || isLst d2)) = true
        · rw [if_pos c2] at eg
          rw [Bool.and_eq_true, decide_eq_true_eq] at c2
          unfold setPar at eg
          cases eg
          have xx := x1.trans y1
          have h1 : HV L wd0 wd2 st g o1 v1 d1 := (m1.ext y2).hv x1 sl c1.2
          have h2 : HV L wd0 wd2 st g o2 v2 d2 := m2.hv xx sl1 c2.2
          have sl2 := sl1.ext y2
          have h3 := h2.set (wdm := wd) c1.1 sl2.len h1 (MV.ne (wd3 := wd) m1 m2 c1.2 c2.2)
          exact z2 wd2 _ (xx.trans y2) (y1.lat.trans y2.lat) k2 ((sl2.putH c1.1 h1).putH c2.1 h3)
        · rw [if_neg c2] at eg
          cases eg
      · rw [if_neg c1] at eg
        cases eg
/-- a pair of names set to a pair, stored from the left; the pair is not tracked -/
theorem ps_parN {X : Cx} {i j : Nat} {x y : Str} {a b : PySem.Expr} {ta : TA} {px py pt : Pos} {kt k2 : Nat} {pt2 pos : Pos} (hc : X.calm = true) (hN : X.N.Nodup) (hi : X.N[i]? = some x) (hj : X.N[j]? = some y)
    (hx : L2.Loc X.env.scope x) (hy : L2.Loc X.env.scope y) (fx : X.fn x = true ∨ X.env.scope.names.lookup x = some .local) (fy : X.fn y = true ∨ X.env.scope.names.lookup y = some .local) (ha : PA X [a, b] ta)
    (hw : swappedStores [.Tuple [.Name x px, .Name y py] kt pt] (.Tuple [a, b] k2 pt2) X.env = pure none)
    (hs : swapsWithSole [.Tuple [.Name x px, .Name y py] kt pt] (.Tuple [a, b] k2 pt2) pos.line X.env = pure false) :
    PS X (.Assign [.Tuple [.Name x px, .Name y py] kt pt] (.Tuple [a, b] k2 pt2) pos) (tPar i j ta) := by
  refine ⟨fun pins s st H D I h => wpAny_Assign_stores (Tuple_ (thn (ha.run _ pins s st H _ I h) fun us s1 ⟨vs, H1, I1, r1, q1⟩ => ?_)) hs hw⟩
  obtain ⟨v, w, e1, q1⟩ := q1
  subst e1
  refine wpAny_newObj_type ?_ (by
    show us.toArray.size ≤ sizeLine
    rw [List.size_toArray, ← r1.length]
    show 2 ≤ sizeLine
    decide)
  have I2 : Inv X pins st H1 { s1 with heap := s1.heap.push { cls := .type "tuple", data := .seq us.toArray } } := I1.kept (t' := s1.toks) fun b o e => Heap.get?_push_of_some _ e
  show wpAny (model X.prog X.w) X.A (assign (.Tuple [.Name x px, .Name y py] kt pt) X.env (.ref s1.heap.objs.size)) _ _ _
  refine assign_Tuple_tuple (I.ok.hd hc) (IsTup.new s1.heap _) (by rw [List.size_toArray, ← r1.length]; rfl) rfl fun h' hx' => ?_
  have I3 := I2.kept (h' := h') (t' := s1.toks) fun b o e => hx' b o (Nat.ne_of_lt (Heap.lt_size e)) e
  exact (pgs_cons (pg_name hN hi hx fx) (pgs_cons (pg_name hN hj hy fy) pgs_nil)).run pins _ st H1 [v, w] _ _ I3 (by simpa using r1) ⟨v, [w], rfl, w, [], rfl, rfl, q1⟩
theorem st_par2N {x y : Str} {px py pt pt2 : Pos} {kt k2 : Nat} {a b : PySem.Expr} {i j : Nat} {xa xb : E} {o1 o2 : Bool} (hc : c.calm = true) (hi : c.N[i]? = some x) (hj : c.N[j]? = some y) (hij : decide (i ≠ j) = true) (hx : locB c.sc x = true ∧ tgOk c x = true) (hy : locB c.sc y = true ∧ tgOk c y = true)
    (hw : swF c.sc [.Name x px, .Name y py] [a, b] = some none) (ha : MSnd G c o1 a xa) (hb : MSnd G c o2 b xb) (hsa : noStar a = true) (hsb : noStar b = true) :
    SSnd G c (.Assign [.Tuple [.Name x px, .Name y py] kt pt] (.Tuple [a, b] k2 pt2) pos) [.par [(i, o1), (j, o2)] [xa, xb]] := fun T n L X gd W tk po => by
  obtain ⟨t1, p1, q1⟩ := ha T n L X gd W tk
  obtain ⟨t2, p2, q2⟩ := hb T n L X gd W tk
  have nij := of_decide_eq_true hij
  have base : ∀ ts', (X.Ok → PS X (.Assign [.Tuple [.Name x px, .Name y py] kt pt] (.Tuple [a, b] k2 pt2) pos) ts') → PS X (.Assign [.Tuple [.Name x px, .Name y py] kt pt] (.Tuple [a, b] k2 pt2) pos) ts' := fun ts' hh => ⟨fun pins s st H D I hq => (hh I.ok).run pins s st H D I hq⟩
  refine ⟨tPar i j _, base _ fun ok => ps_parN (gd.hcalm.trans hc) gd.nd (by rw [gd.hN]; exact hi) (by rw [gd.hN]; exact hj) (by rw [gd.hsc]; exact loc_of hx.1) (by rw [gd.hsc]; exact loc_of hy.1) (gd.hfn x hx.2) (gd.hfn y hy.2) (pa_cons p1 (pa_cons p2 pa_nil (star_cons hsb)) (star_cons hsa)) (swF_ok ok.kind (by rw [gd.hsc]; exact hw)) rfl, fun w g s wd0 wd st D x1 k sl hh => ?_⟩
  rw [evSs_one] at hh
  unfold evS at hh
  have e0 : ∀ g s, evEs T (callsAt T n) [xa, xb] g s = (evE T (callsAt T n) xa g s).bind fun d s => (evE T (callsAt T n) xb g s).bind fun d2 s => .ok [d, d2] s := fun g s => by
    unfold evEs
    congr 1
    funext d s1
    unfold evEs
    cases evE T (callsAt T n) xb g s1 with
    | ok d2 s2 =>
      simp only [R.bind]
      unfold evEs
      rfl
    | ex k0 ys s2 => rfl
    | no => rfl
  rw [e0] at hh
  show t1 st wd.H _
  refine q1 g s wd0 wd st _ k sl ?_
  cases e1 : evE T (callsAt T n) xa g s with
  | no => rw [e1] at hh; exact hh
  | ex k0 ys s1 =>
    rw [e1] at hh
    exact fun wd' a' y' k' q' => hh wd' a' st (x1.trans y') y'.lat k' (sl.ext y') q'
  | ok d1 s1 =>
    rw [e1] at hh
    simp only [R.bind] at hh
    intro _ _ _ wd1 v1 y1 k1 m1
    have sl1 := sl.ext y1
    refine q2 g s1 wd0 wd1 st _ k1 sl1 ?_
    cases e2 : evE T (callsAt T n) xb g s1 with
    | no => rw [e2] at hh; exact hh
    | ex k0 ys s2 =>
      rw [e2] at hh
      exact fun wd' a' y' k' q' => hh wd' a' st ((x1.trans y1).trans y') (y1.lat.trans y'.lat) k' (sl1.ext y') q'
    | ok d2 s2 =>
      rw [e2] at hh
      intro _ _ _ wd2 v2 y2 k2 m2
      refine ⟨v1, v2, rfl, ?_⟩
      have z : SPost L wd0 wd W D (optF (setPar [(i, o1), (j, o2)] [d1, d2] g) fun g' => .nx g' s2) := hh
      obtain ⟨g', eg, z2⟩ := optF_post z
      unfold setPar at eg
      by_cases c1 : (decide (i < g.length) && (!o1 || isLst d1)) = true
      · rw [if_pos c1] at eg
        rw [Bool.and_eq_true, decide_eq_true_eq] at c1
        unfold setPar at eg
        by_cases c2 : (decide (j < (g.set i (if o1 = true then Sl.ow d1 else Sl.sh d1)).length) && (!o2 || isLst d2)) = true
        · rw [if_pos c2] at eg
          rw [Bool.and_eq_true, decide_eq_true_eq] at c2
          unfold setPar at eg
          cases eg
          have xx := x1.trans y1
          have h1 : HV L wd0 wd2 st g o1 v1 d1 := (m1.ext y2).hv x1 sl c1.2
          have h2 : HV L wd0 wd2 st g o2 v2 d2 := m2.hv xx sl1 c2.2
          have sl2 := sl1.ext y2
          have h3 := h2.set (wdm := wd) c1.1 sl2.len h1 (MV.ne (wd3 := wd) m1 m2 c1.2 c2.2)
          exact z2 wd2 _ (xx.trans y2) (y1.lat.trans y2.lat) k2 ((sl2.putH c1.1 h1).putH c2.1 h3)
        · rw [if_neg c2] at eg
          cases eg
      · rw [if_neg c1] at eg
        cases eg
theorem st_par3 {x y z : Str} {px py pz pt pt2 : Pos} {kt k2 : Nat} {a b e : PySem.Expr} {i j l : Nat} {xa xb xe : E} {o1 o2 o3 : Bool} (hc : c.calm = true) (hi : c.N[i]? = some x) (hj : c.N[j]? = some y) (hl : c.N[l]? = some z) (hij : decide (i ≠ j ∧ i ≠ l ∧ j ≠ l) = true)
    (hx : swLocal c.sc x = true) (hy : swLocal c.sc y = true) (hz : swLocal c.sc z = true)
    (hw : swF c.sc [.Name x px, .Name y py, .Name z pz] [a, b, e] = some (some [x, y, z])) (ha : MSnd G c o1 a xa) (hb : MSnd G c o2 b xb) (he : MSnd G c o3 e xe) (hsa : noStar a = true) (hsb : noStar b = true) (hse : noStar e = true) :
    SSnd G c (.Assign [.Tuple [.Name x px, .Name y py, .Name z pz] kt pt] (.Tuple [a, b, e] k2 pt2) pos) [.par [(i, o1), (j, o2), (l, o3)] [xa, xb, xe]] := fun T n L X gd W tk po => by
  obtain ⟨t1, p1, q1⟩ := ha T n L X gd W tk
  obtain ⟨t2, p2, q2⟩ := hb T n L X gd W tk
  obtain ⟨t3, p3, q3⟩ := he T n L X gd W tk
  obtain ⟨nij, nil, njl⟩ := of_decide_eq_true hij
  have base : ∀ ts', (X.Ok → PS X (.Assign [.Tuple [.Name x px, .Name y py, .Name z pz] kt pt] (.Tuple [a, b, e] k2 pt2) pos) ts') → PS X (.Assign [.Tuple [.Name x px, .Name y py, .Name z pz] kt pt] (.Tuple [a, b, e] k2 pt2) pos) ts' := fun ts' hh => ⟨fun pins s st H D I hq => (hh I.ok).run pins s st H D I hq⟩
  refine ⟨tPar3 i j l _, base _ fun ok => ps_par3 (gd.hcalm.trans hc) gd.nd (by rw [gd.hN]; exact hi) (by rw [gd.hN]; exact hj) (by rw [gd.hN]; exact hl) nij nil njl (by rw [gd.hsc]; exact swLocal_of hx) (by rw [gd.hsc]; exact swLocal_of hy) (by rw [gd.hsc]; exact swLocal_of hz)
    (pa_cons p1 (pa_cons p2 (pa_cons p3 pa_nil (star_cons hse)) (star_cons hsb)) (star_cons hsa)) (swF_ok ok.kind (by rw [gd.hsc]; exact hw)) rfl, fun w g s wd0 wd st D x1 k sl hh => ?_⟩
  rw [evSs_one] at hh
  unfold evS at hh
  have e0 : ∀ g s, evEs T (callsAt T n) [xa, xb, xe] g s = (evE T (callsAt T n) xa g s).bind fun d s => (evE T (callsAt T n) xb g s).bind fun d2 s => (evE T (callsAt T n) xe g s).bind fun d3 s => .ok [d, d2, d3] s := fun g s => by
    unfold evEs
    congr 1
    funext d s1
    unfold evEs
    cases evE T (callsAt T n) xb g s1 with
    | ok d2 s2 =>
      simp only [R.bind]
      unfold evEs
      cases evE T (callsAt T n) xe g s2 with
      | ok d3 s3 =>
        simp only [R.bind]
        unfold evEs
        rfl
      | ex k0 ys s3 => rfl
      | no => rfl
    | ex k0 ys s2 => rfl
    | no => rfl
  rw [e0] at hh
  show t1 st wd.H _
  refine q1 g s wd0 wd st _ k sl ?_
  cases e1 : evE T (callsAt T n) xa g s with
  | no => rw [e1] at hh; exact hh
  | ex k0 ys s1 =>
    rw [e1] at hh
    exact fun wd' a' y' k' q' => hh wd' a' st (x1.trans y') y'.lat k' (sl.ext y') q'
  | ok d1 s1 =>
    rw [e1] at hh
    simp only [R.bind] at hh
    intro _ _ _ wd1 v1 y1 k1 m1
    have sl1 := sl.ext y1
    refine q2 g s1 wd0 wd1 st _ k1 sl1 ?_
    cases e2 : evE T (callsAt T n) xb g s1 with
    | no => rw [e2] at hh; exact hh
    | ex k0 ys s2 =>
      rw [e2] at hh
      exact fun wd' a' y' k' q' => hh wd' a' st ((x1.trans y1).trans y') (y1.lat.trans y'.lat) k' (sl1.ext y') q'
    | ok d2 s2 =>
      rw [e2] at hh
      simp only [R.bind] at hh
      intro _ _ _ wd2 v2 y2 k2 m2
      have sl2 := sl1.ext y2
      have xx := x1.trans y1
      have xx2 := xx.trans y2
      refine q3 g s2 wd0 wd2 st _ k2 sl2 ?_
      cases e3 : evE T (callsAt T n) xe g s2 with
      | no => rw [e3] at hh; exact hh
      | ex k0 ys s3 =>
        rw [e3] at hh
        exact fun wd' a' y' k' q' => hh wd' a' st (xx2.trans y') ((y1.lat.trans y2.lat).trans y'.lat) k' (sl2.ext y') q'
      | ok d3 s3 =>
        rw [e3] at hh
        intro _ _ _ wd3 v3 y3 k3 m3
        refine ⟨v1, v2, v3, rfl, ?_⟩
        have z : SPost L wd0 wd W D (optF (setPar [(i, o1), (j, o2), (l, o3)] [d1, d2, d3] g) fun g' => .nx g' s3) := hh
        obtain ⟨g', eg, z2⟩ := optF_post z
        unfold setPar at eg
        by_cases c1 : (decide (i < g.length) && (!o1 || isLst d1)) = true
        · rw [if_pos c1] at eg
          rw [Bool.and_eq_true, decide_eq_true_eq] at c1
          unfold setPar at eg
          by_cases c2 : (decide (j < (g.set i (if o1 = true then Sl.ow d1 else Sl.sh d1)).length) && (!o2 || isLst d2)) = true
          · rw [if_pos c2] at eg
            rw [Bool.and_eq_true, decide_eq_true_eq] at c2
            unfold setPar at eg
            by_cases c3 : (decide (l < ((g.set i (if o1 = true then Sl.ow d1 else Sl.sh d1)).set j (if o2 = true then Sl.ow d2 else Sl.sh d2)).length) && (!o3 || isLst d3)) = true
            · rw [if_pos c3] at eg
              rw [Bool.and_eq_true, decide_eq_true_eq] at c3
              unfold setPar at eg
              cases eg
              have sl3 := sl2.ext y3
              have h1 : HV L wd0 wd3 st g o1 v1 d1 := ((m1.ext y2).ext y3).hv x1 sl c1.2
              have h2 : HV L wd0 wd3 st g o2 v2 d2 := (m2.ext y3).hv xx sl1 c2.2
              have h3 : HV L wd0 wd3 st g o3 v3 d3 := m3.hv xx2 sl2 c3.2
              have n21 := MV.ne (wd3 := wd) m1 m2 c1.2 c2.2
              have n31 := MV.ne (wd3 := wd) (m1.ext y2) m3 c1.2 c3.2
              have n32 := MV.ne (wd3 := wd) m2 m3 c2.2 c3.2
              have h2' := h2.set (wdm := wd) c1.1 sl3.len h1 n21
              have h3' := h3.set (wdm := wd) c1.1 sl3.len h1 n31
              have sl4 := sl3.putH c1.1 h1
              have h3'' := h3'.set (wdm := wd) c2.1 sl4.len h2' n32
              exact z2 wd3 _ (xx2.trans y3) ((y1.lat.trans y2.lat).trans y3.lat) k3 ((sl4.putH c2.1 h2').putH c3.1 h3'')
            · rw [if_neg c3] at eg
              cases eg
          · rw [if_neg c2] at eg
            cases eg
        · rw [if_neg c1] at eg
          cases eg
theorem lc_te {tgE iter : PySem.Expr} {x it : E} {tg : TG} {tst : Option E} {tu : Bool} (hi : LSnd G c iter it tu) (htu : (!tu || isTupE tgE) = true)
    {T : Tb} {n : Nat} {L : Lay} {X : Cx} (gd : Gd G T n L c X) {W : WX} (tk : Takes X W) : ∃ wi, PI X tgE iter wi ∧ ∀ g s wd0 wd st Q, WdOk L wd s → Slots L wd0 wd st g → RPost L wd (WE W st) (fun d s' wd' => Res L wd' s' d Q) (evE T (callsAt T n) (.lc x tg it tst) g s) →
      tLc wi (gS L tg) (tsS T n L W0 tst) (teS T n L W0 x) (slotsT tg) st wd.H Q := by
  obtain ⟨wi, p1, q1⟩ := hi T n L X gd W tk tgE (fun z => by rw [z] at htu; simpa using htu)
  refine ⟨wi, p1, fun g s wd0 wd st Q k sl r => ?_⟩
  unfold evE at r
  refine q1 g s wd0 wd st _ k sl (r.bind.mono fun d s1 wd1 x1 k1 r1 => ?_)
  exact lc_src k1 (sl.ext x1) r1
/-- does the name's store stand within the comprehension -/
def swapC (sc : Scope) (y : Str) (py pos : Pos) (scope : Scope) : Bool := swLocal sc y && (py.line == pos.line) && !(scope.names.any fun (n, k) => n == y && (k == .local || k == .cell))
def noSwapC (py pos : Pos) : Bool := !(py.line == pos.line)
theorem sw_false {elt : PySem.Expr} {gs : List Comprehension} {scope : Scope} {pos py : Pos} {y : Str} {l : Nat} {env : Env} (h : (swLocal env.scope y && (py.line == pos.line) && !(scope.names.any fun (n, k) => n == y && (k == .local || k == .cell))) = false) :
    swapsWith (.ListComp elt gs scope pos) (some (.Name y py)) l env = pure false := by
  have e : (env.blockKind == .function && env.kindOf y == some .local && py.line == pos.line && !(scope.names.any fun (n, k) => n == y && (k == .local || k == .cell))) = false := by
    have ky : (env.kindOf y == some NameKind.local) = swLocal env.scope y := by
      unfold swLocal
      show (env.scope.names.lookup y == some NameKind.local) = _
      cases env.scope.names.lookup y with
      | none => rfl
      | some k => cases k <;> rfl
    rw [ky]
    cases (env.blockKind == .function) with
    | false => rfl
    | true =>
      rw [Bool.true_and]
      exact h
  unfold swapsWith
  show (pure (env.blockKind == .function && env.kindOf y == some .local && py.line == pos.line && !(scope.names.any fun (n, k) => n == y && (k == .local || k == .cell))) : Sem Bool) = pure false
  rw [e]
theorem st_lcN {ow : Bool} {y : Str} {i : Nat} {py : Pos} {elt tgE iter : PySem.Expr} {ifs : List PySem.Expr} {scope : Scope} {p2 : Pos} {x it : E} {tg : TG} {tst : Option E} {tu : Bool} (hy : c.N[i]? = some y) (hly : locB c.sc y = true) (hty : tgOk c y = true)
    (hc : c.calm = true) (hi : LSnd G c iter it tu) (htu : (!tu || isTupE tgE) = true) (hns : notSet iter = true)
    (hok : blkC c.N c.sc scope (ownOf c.N (slotsT tg)) = true) (hg : KSnd G (c.inner scope) tgE tg) (ht : XSnd G (c.inner scope) ifs tst) (he : ESnd G (c.inner scope) elt x) :
    SSnd G c (.Assign [.Name y py] (.ListComp elt [⟨tgE, iter, ifs, 0⟩] scope p2) pos) [if ow = true then .own i (.lc x tg it tst) else .asg (.nm i) (.lc x tg it tst)] := fun T n L X gd W tk po => by
  obtain ⟨wi, p1, q1⟩ := lc_te (x := x) (tg := tg) (tst := tst) hi htu gd tk
  have bok : BlkOk X.N X.env.scope scope (ownOf c.N (slotsT tg)) := by
    rw [gd.hN, gd.hsc]
    exact blkOk_by hok
  have hpg := fun s H C cl fp => hg T n L _ (gd.blk scope s H C cl fp)
  have hpt := fun s H C cl fp => ht.pts (gd.blk scope s H C cl fp) (W := W0) takes0
  have hpe := fun s H C cl fp => he.pe (gd.blk scope s H C cl fp) (W := W0) takes0
  have base : ∀ ts', (X.Ok → PS X (.Assign [.Name y py] (.ListComp elt [⟨tgE, iter, ifs, 0⟩] scope p2) pos) ts') → PS X (.Assign [.Name y py] (.ListComp elt [⟨tgE, iter, ifs, 0⟩] scope p2) pos) ts' := fun ts' hh => ⟨fun pins s st H D I hq => (hh I.ok).run pins s st H D I hq⟩
  have hyN : X.N[i]? = some y := by rw [gd.hN]; exact hy
  have ps : PS X (.Assign [.Name y py] (.ListComp elt [⟨tgE, iter, ifs, 0⟩] scope p2) pos) (tAsg (tLc wi (gS L tg) (tsS T n L W0 tst) (teS T n L W0 x) (slotsT tg)) (gName i)) := by
    refine base _ fun ok => ?_
    by_cases hsw : swapC c.sc y py p2 scope = true
    · unfold swapC at hsw
      rw [Bool.and_eq_true, Bool.and_eq_true] at hsw
      have h1 : X.env.scope.names.lookup y = some .local := by rw [gd.hsc]; exact swLocal_of hsw.1.1
      have z := ps_setLc (X := X) (spos := pos) (py := py) (own := ownOf c.N (slotsT tg)) (gd.hcalm.trans hc) gd.nd hyN h1 (sw_true ok.kind h1 hsw.1.2 (by simpa using hsw.2)) p1 bok hpg hpt hpe (folded_of hns)
      rw [ownOf_snd] at z
      exact z
    · have z := pe_lc (X := X) (pos := p2) (own := ownOf c.N (slotsT tg)) (gd.hcalm.trans hc) gd.nd p1 bok hpg hpt hpe (folded_of hns)
      rw [ownOf_snd] at z
      refine ps_set gd.nd hyN (by rw [gd.hsc]; exact loc_of hly) z (sw_false ?_) (gd.hfn y hty)
      rw [gd.hsc]
      exact Bool.eq_false_iff.mpr hsw
  refine ⟨_, ps, fun w g s wd0 wd st D x1 k sl hh => ?_⟩
  rw [evSs_one] at hh
  cases ow with
  | true =>
    rw [if_pos rfl] at hh
    unfold evS at hh
    refine q1 g s wd0 wd st _ k sl ((fl_post x1 sl hh).mono fun d s1 wd1 y k1 z => ?_)
    cases d with
    | lst xs =>
      simp only at z
      by_cases hg : i < g.length
      · rw [if_pos hg] at z
        intro a vs hp is
        exact z ⟨wd1.F, wd1.mu, upd wd1.H a (.lst vs)⟩ _ ((x1.trans y).trans (Ext.laid k1 hp)) (Ext.laid k1 hp).lat (k1.laid hp) (Slots.putOwn (x1.trans y) k1 (sl.ext y) hg hp is)
      · rw [if_neg hg] at z
        exact False.elim z
    | _ => exact False.elim z
  | false =>
    rw [if_neg (by decide)] at hh
    unfold evS at hh
    refine q1 g s wd0 wd st _ k sl ((fl_post x1 sl hh).mono fun d s1 wd1 y k1 z => res_of k1 fun wd2 v y2 k2 iv => ?_)
    obtain ⟨g', e, z2⟩ := optF_post z
    unfold setT at e
    by_cases hg : i < g.length
    · rw [if_pos hg] at e
      cases e
      exact z2 wd2 _ ((x1.trans y).trans y2) y2.lat k2 (((sl.ext y).ext y2).put hg iv)
    · rw [if_neg hg] at e
      cases e
end
end Bd
namespace Bd
open PySem PySem.Spec PyProof.Rows L2
section
variable {G : Gn} {c : Ct} {pos : Pos}
/-- no owned slot holds this address -/
def Away (D0 : Addr) (st : L2.St) (g : En) : Prop := ∀ (j : Nat) (e : D) (a : Addr), g[j]? = some (.ow e) → st[j]? = some (some (V.ref a)) → a ≠ D0
theorem Slots.away {L : Lay} {wd0 wd : Wd} {st : L2.St} {g : En} {D0 : Addr} (sl : Slots L wd0 wd st g) (h : wd.H D0 = none) : Away D0 st g := fun j e a h1 h2 z => by
  obtain ⟨b, e1, o⟩ := sl.ow j e h1
  rw [h2] at e1
  cases e1
  obtain ⟨u, hu⟩ := o.rep.there
  rw [z, h] at hu
  cases hu
theorem wipG_ow {g : En} : ∀ {vs : List Nat} {j : Nat} {e : D}, (wipG g vs)[j]? = some (.ow e) → g[j]? = some (.ow e) ∧ j ∉ vs
  | [], j, e, h => ⟨h, by simp⟩
  | i :: vs, j, e, h => by
    have h' : ((wipG g vs).set i .un)[j]? = some (.ow e) := h
    by_cases q : i = j
    · subst q
      rcases Nat.lt_or_ge i (wipG g vs).length with hl | hl
      · rw [List.getElem?_set_self hl] at h'
        cases h'
      · rw [List.getElem?_eq_none (by rw [List.length_set]; exact hl)] at h'
        cases h'
    · rw [List.getElem?_set_ne q] at h'
      obtain ⟨h1, h2⟩ := wipG_ow h'
      exact ⟨h1, by
        intro z
        rcases List.mem_cons.mp z with z | z
        · exact q z.symm
        · exact h2 z⟩
theorem Away.wipe {D0 : Addr} {st : L2.St} {g : En} (h : Away D0 st g) (vs : List Nat) : Away D0 (L2.wipe st vs) (wipG g vs) := fun j e a h1 h2 => by
  obtain ⟨h3, h4⟩ := wipG_ow h1
  rw [wipe_get, if_neg h4] at h2
  exact h j e a h3 h2
mutual
theorem setT_ow : ∀ {t : TG} {d : D} {g g' : En}, setT t d g = some g' → ∀ (j : Nat) (e : D), g'[j]? = some (.ow e) → g[j]? = some (.ow e) ∧ j ∉ slotsT t
  | .nm i, d, g, g', h, j, e, hj => by
    unfold setT at h
    by_cases hi : i < g.length
    · rw [if_pos hi] at h
      cases h
      by_cases q : i = j
      · subst q
        rw [List.getElem?_set_self hi] at hj
        cases hj
      · rw [List.getElem?_set_ne q] at hj
        exact ⟨hj, by unfold slotsT; intro z; exact q (List.mem_singleton.mp z).symm⟩
    · rw [if_neg hi] at h
      cases h
  | .tp ts, d, g, g', h, j, e, hj => by
    unfold setT at h
    cases d with
    | tup xs =>
      simp only at h
      by_cases hl : ts.length = xs.length
      · rw [if_pos hl] at h
        have z := setTs_ow h hl j e hj
        exact ⟨z.1, by unfold slotsT; exact z.2⟩
      · rw [if_neg hl] at h
        cases h
    | lst xs =>
      simp only at h
      by_cases hl : ts.length = xs.length
      · rw [if_pos hl] at h
        have z := setTs_ow h hl j e hj
        exact ⟨z.1, by unfold slotsT; exact z.2⟩
      · rw [if_neg hl] at h
        cases h
    | _ => cases h
theorem setTs_ow : ∀ {ts : List TG} {ds : List D} {g g' : En}, setTs ts ds g = some g' → ts.length = ds.length → ∀ (j : Nat) (e : D), g'[j]? = some (.ow e) → g[j]? = some (.ow e) ∧ j ∉ slotsTs ts
  | [], ds, g, g', h, _, j, e, hj => by
    unfold setTs at h
    cases h
    exact ⟨hj, by unfold slotsTs; simp⟩
  | t :: ts, [], g, g', h, hl, j, e, hj => by cases hl
  | t :: ts, d :: ds, g, g', h, hl, j, e, hj => by
    unfold setTs at h
    simp only at h
    cases h1 : setT t d g with
    | none => rw [h1] at h; cases h
    | some g1 =>
      rw [h1] at h
      obtain ⟨a1, a2⟩ := setTs_ow h (by simpa using hl) j e hj
      obtain ⟨b1, b2⟩ := setT_ow h1 j e a1
      refine ⟨b1, ?_⟩
      unfold slotsTs
      intro z
      rcases List.mem_append.mp z with z | z
      · exact b2 z
      · exact a2 z
end
theorem Away.set {D0 : Addr} {st st' : L2.St} {g g' : En} {t : TG} {d : D} (h : Away D0 st g) (hs : setT t d g = some g') (off : Off (slotsT t) st st') : Away D0 st' g' := fun j e a h1 h2 => by
  obtain ⟨h3, h4⟩ := setT_ow hs j e h1
  rw [off.2 j h4] at h2
  exact h j e a h3 h2
theorem Slots.del {L : Lay} {wd0 wd : Wd} {st : L2.St} {g : En} {D0 : Addr} (sl : Slots L wd0 wd st g) (h : Away D0 st g) : Slots L wd0 ⟨wd.F, wd.mu, delU wd.H D0⟩ st g := by
  refine ⟨sl.len, sl.sh, fun i d e => ?_, sl.dis⟩
  obtain ⟨a, e1, o⟩ := sl.ow i d e
  have ne := h i d a e e1
  refine ⟨a, e1, o.new, o.nF, o.nM, ?_⟩
  have r := o.rep
  cases d with
  | lst xs =>
    obtain ⟨vs, q, is⟩ := r
    exact ⟨vs, by show delU wd.H D0 a = _; rw [delU_ne ne]; exact q, is⟩
  | obj c ks xs =>
    obtain ⟨dx, fs, q, r2, is⟩ := r
    exact ⟨dx, fs, by show delU wd.H D0 a = _; rw [delU_ne ne]; exact q, r2, is⟩
  | _ => exact r.elim
theorem wipe_twice (st : L2.St) (own : List Nat) : L2.wipe (L2.wipe st own) own = L2.wipe st own := by
  apply List.ext_getElem?
  intro j
  rw [wipe_get, wipe_get]
  by_cases hm : j ∈ own
  · simp only [if_pos hm]
    cases st[j]? <;> rfl
  · simp only [if_neg hm]
/-- the second clause's walk: the list goes on -/
theorem lc_walkI {T : Tb} {n : Nat} {L : Lay} {tg : TG} {elt : E} {tst : Option E} {g : En} {own : List Nat} {J : It} {vs : List V} {ds l : List D} {wd0 wd : Wd} {s sR : Sto} {st : L2.St} {r : List D} {Fin : Hp → Prop} {ws0 : List V} {es0 : List D} (its : ItS L vs ds l J) (k : WdOk L wd s) (sl : Slots L wd0 wd st g)
    (ps : Paired (IsB L wd) vs ds) (ho : ∀ i ∈ slotsT tg, i ∈ own) (D0 : Addr) (hD : wd.H D0 = none) (is0 : IsAll L wd.F wd.mu ws0 es0) (hlen : ws0.length + l.length < sizeLine)
    (hr : lcL (lcF T (callsAt T n) tg elt tst g own) l s = .ok r sR)
    (fin : ∀ wd1 ws, WdOk L wd1 sR → Ext wd wd1 → Fresh wd wd1 D0 → wd1.H D0 = some (.lst ws) → ws.length ≤ ws0.length + l.length → IsAll L wd1.F wd1.mu ws (es0 ++ r) → Fin wd1.H) :
    ∃ W : Nat → Nat → Hp → Prop, (∃ m, W 0 m (upd wd.H D0 (.lst ws0))) ∧ ∀ i m H, W i m H →
      (J.stop i H ∧ Fin H) ∨ (J.go i H ∧ ∃ Nx : Hp → Prop, (∀ H', Nx H' → ∃ m', m' < m ∧ W (i + 1) m' H') ∧ ∀ x H', J.yld i H x H' → gS L tg x (L2.wipe st own) H' fun st2 H2 => L2.wipe st2 own = L2.wipe st own ∧ tsS T n L W0 tst st2 H2 fun b H3 =>
        if b = true then teS T n L W0 elt st2 H3 fun y H4 => ∃ acc, H4 D0 = some (.lst acc) ∧ acc.length < sizeLine ∧ Nx (upd H4 D0 (.lst (acc ++ [y]))) else Nx H3) := by
  let Inv : Nat → Hp → Prop := fun i H => ∃ wd1 s1 ws es r1, wd1.H = H ∧ WdOk L wd1 s1 ∧ Ext wd wd1 ∧ Fresh wd wd1 D0 ∧ H D0 = some (.lst ws) ∧ ws.length ≤ ws0.length + i ∧ IsAll L wd1.F wd1.mu ws es ∧
    lcL (lcF T (callsAt T n) tg elt tst g own) (l.drop i) s1 = .ok r1 sR ∧ es ++ r1 = es0 ++ r
  refine ⟨fun i m H => m = l.length - i ∧ i ≤ l.length ∧ Inv i H, ⟨l.length, rfl, Nat.zero_le _, ?_⟩, ?_⟩
  · exact ⟨⟨wd.F, wd.mu, upd wd.H D0 (.lst ws0)⟩, s, ws0, es0, r, rfl, k.laid hD, Ext.laid k hD, Fresh.of_laid (o := .lst ws0) k hD, upd_same, Nat.le_refl _, is0, hr, rfl⟩
  · rintro i m H ⟨rfl, hi, wd1, s1, ws, es, r1, rfl, k1, x1, f1, eD, hws, is, hr1, her⟩
    have ps1 := paired_ext x1 ps
    by_cases hlt : i < l.length
    · have hd : l[i]? = some l[i] := List.getElem?_eq_getElem hlt
      obtain ⟨go, yl⟩ := (its wd1 s1 k1 ps1 i).2 _ hd
      refine .inr ⟨go, fun H' => Inv (i + 1) H', fun H' q => ⟨l.length - (i + 1), by omega, rfl, hlt, q⟩, fun x H' hy => ?_⟩
      obtain ⟨wd2, rfl, x2, k2, ix⟩ := yl x H' hy
      obtain ⟨f2, eD2⟩ := f1.ext eD x2
      rw [List.drop_eq_getElem_cons hlt] at hr1
      unfold lcL at hr1
      have sl2 : Slots L wd0 wd2 (L2.wipe st own) (wipG g own) := ((sl.ext x1).ext x2).wipe own
      cases hF : lcF T (callsAt T n) tg elt tst g own l[i] s1 with
      | no => rw [hF] at hr1; cases hr1
      | ex k0 ys s2 => rw [hF] at hr1; cases hr1
      | ok o s2 =>
        rw [hF] at hr1
        simp only [R.calm, R.bind] at hr1
        unfold lcF at hF
        cases hs : setT tg l[i] (wipG g own) with
        | none => rw [hs] at hF; cases hF
        | some g' =>
          rw [hs] at hF
          simp only [bindG] at hF
          refine ⟨wd2, s1, wd0, wipG g own, l[i], g', rfl, k2, sl2, ix, hs, fun st2 sl3 off => ⟨?_, ?_⟩⟩
          · rw [off.wipe ho]
            exact wipe_twice st own
          · cases ht : evTs T (callsAt T n) tst g' s1 with
            | no => rw [ht] at hF; cases hF
            | ex k0 ys s3 => rw [ht] at hF; cases hF
            | ok b s3 =>
              rw [ht] at hF
              simp only [R.bind] at hF
              refine ⟨g', s1, wd0, wd2, rfl, k2, sl3, ?_⟩
              rw [ht]
              intro wd3 x3 k3
              obtain ⟨f3, eD3⟩ := f2.ext eD2 x3
              have xx3 : Ext wd wd3 := (x1.trans x2).trans x3
              cases b with
              | bl b =>
                refine ⟨b, rfl, ?_⟩
                cases b with
                | true =>
                  simp only [tstR] at hF
                  cases he : evE T (callsAt T n) elt g' s3 with
                  | no => rw [he] at hF; cases hF
                  | ex k0 ys s4 => rw [he] at hF; cases hF
                  | ok d s4 =>
                    rw [he] at hF
                    simp only [R.bind] at hF
                    cases hF
                    refine iteT ⟨g', s3, wd0, wd3, rfl, k3, sl3.ext x3, ?_⟩
                    rw [he]
                    intro wd4 x4 k4 v iv
                    obtain ⟨f4, eD4⟩ := f3.ext eD3 x4
                    have xx4 := xx3.trans x4
                    cases hq : lcL (lcF T (callsAt T n) tg elt tst g own) (l.drop (i + 1)) s2 with
                    | no => rw [hq] at hr1; cases hr1
                    | ex k0 ys s5 => rw [hq] at hr1; cases hr1
                    | ok rr s5 =>
                      rw [hq] at hr1
                      simp only at hr1
                      cases hr1
                      refine ⟨ws, eD4, by omega, ⟨wd4.F, wd4.mu, upd wd4.H D0 (.lst (ws ++ [v]))⟩, s2, ws ++ [v], es ++ [d], rr, rfl, f4.writeOk k4, f4.write xx4, ⟨f4.new, f4.nF, f4.nM⟩, upd_same, by rw [List.length_append, List.length_singleton]; omega, (((is.ext x2).ext x3).ext x4).append (.cons iv .nil), hq, ?_⟩
                      rw [← her, List.append_assoc]
                      rfl
                | false =>
                  simp only [tstR] at hF
                  cases hF
                  cases hq : lcL (lcF T (callsAt T n) tg elt tst g own) (l.drop (i + 1)) s2 with
                  | no => rw [hq] at hr1; cases hr1
                  | ex k0 ys s5 => rw [hq] at hr1; cases hr1
                  | ok rr s5 =>
                    rw [hq] at hr1
                    simp only at hr1
                    cases hr1
                    exact iteF ⟨wd3, s2, ws, es, _, rfl, k3, xx3, f3, eD3, by omega, (is.ext x2).ext x3, hq, her⟩
              | _ => cases hF
    · have e : i = l.length := by omega
      subst e
      rw [List.drop_length] at hr1
      unfold lcL at hr1
      cases hr1
      refine .inl ⟨(its wd1 _ k1 ps1 l.length).1 rfl, fin wd1 ws k1 x1 f1 eD hws ?_⟩
      rw [← her, List.append_nil]
      exact is
/-- what is walked, read by the slots -/
def wiS (T : Tb) (n : Nat) (L : Lay) (W : WX) (x : E) : TI := fun st H R => ∃ g s wd0 wd, wd.H = H ∧ WdOk L wd s ∧ Slots L wd0 wd st g ∧ RPost L wd (WE W st) (fun d _ wd' => ∃ l, seqOf d = some l ∧ ∀ J vs ds, ItS L vs ds l J → Paired (IsB L wd') vs ds → (topBrw x = false → Paired (Is L wd'.F wd'.mu) vs ds) → R J wd'.H)
    (evB (evE T (callsAt T n) x g s) x g s)
theorem ISnd.pi {it tg : PySem.Expr} {x : E} {tu : Bool} (h : ISnd G c it x tu) (htu : (!tu || isTupE tg) = true) {T : Tb} {n : Nat} {L : Lay} {X : Cx} (gd : Gd G T n L c X) {W : WX} (tk : Takes X W) : PI X tg it (wiS T n L W x) := by
  obtain ⟨wi, p, q⟩ := h T n L X gd W tk tg (fun z => by rw [z] at htu; simpa using htu)
  refine ⟨fun pins s st H R I z => ?_⟩
  obtain ⟨g, s', wd0, wd, rfl, k, sl, r⟩ := z
  exact p.run pins s st _ R I (q g s' wd0 wd st R k sl r)
/-- one turn of the first clause -/
noncomputable def lc2F (T : Tb) (C : Calls) (tg : TG) (it1 : E) (tg1 : TG) (elt : E) (tst : Option E) (g : En) (own own1 : List Nat) : D → Sto → R (List D) := fun y s => bindG (setT tg y (wipG g own)) fun g' => (evB (evE T C it1 g' s) it1 g' s).bind fun z s => (optR (seqOf z) s).bind fun m s => (optR (if Nat.ble m.length 4000 then some m else none) s).bind fun m s => lcL (lcF T C tg1 elt tst g' own1) m s
theorem lc2_walk {T : Tb} {n : Nat} {L : Lay} {tg tg1 : TG} {it1 elt : E} {tst : Option E} {g : En} {own : List Nat} {J : It} {vs : List V} {ds l : List D} {wd0 wd : Wd} {s : Sto} {st : L2.St} {E : XK} {Q : VK} (its : ItS L vs ds l J) (k : WdOk L wd s) (sl : Slots L wd0 wd st g)
    (ps : Paired (IsB L wd) vs ds) (ho : ∀ i ∈ slotsT tg, i ∈ own) (hlen : Nat.ble l.length 4000 = true) (htb : topBrw it1 = false) (D0 : Addr) (hD : wd.H D0 = none)
    (r : RPost L wd E (fun r s' wd' => Res L wd' s' (.lst r) Q) (lc2L (lc2F T (callsAt T n) tg it1 tg1 elt tst g own (slotsT tg1)) l s)) :
    ∃ W : Nat → Nat → Hp → Prop, (∃ m, W 0 m (upd wd.H D0 (.lst []))) ∧ ∀ i m H, W i m H →
      (J.stop i H ∧ Q (.ref D0) H) ∨ (J.go i H ∧ ∃ Nx : Hp → Prop, (∀ H', Nx H' → ∃ m', m' < m ∧ W (i + 1) m' H') ∧ ∀ x H', J.yld i H x H' → gS L tg x (L2.wipe st own) H' fun st2 H2 => L2.wipe st2 own = L2.wipe st own ∧ tsS T n L W0 none st2 H2 fun b H3 =>
        if b = true then wiS T n L W0 it1 st2 H3 fun J1 H4 => ∃ W1 : Nat → Nat → Hp → Prop, (∃ m, W1 0 m H4) ∧ ∀ j k H, W1 j k H →
          (J1.stop j H ∧ Nx H) ∨ (J1.go j H ∧ ∃ Nx1 : Hp → Prop, (∀ H', Nx1 H' → ∃ k', k' < k ∧ W1 (j + 1) k' H') ∧ ∀ x H', J1.yld j H x H' → gS L tg1 x (L2.wipe st2 (slotsT tg1)) H' fun st3 H5 => L2.wipe st3 (slotsT tg1) = L2.wipe st2 (slotsT tg1) ∧ tsS T n L W0 tst st3 H5 fun b H6 =>
            if b = true then teS T n L W0 elt st3 H6 fun y H7 => ∃ acc, H7 D0 = some (.lst acc) ∧ acc.length < sizeLine ∧ Nx1 (upd H7 D0 (.lst (acc ++ [y]))) else Nx1 H6)
        else Nx H3) := by
  have hl4 : l.length ≤ 4000 := Nat.le_of_ble_eq_true hlen
  let Inv : Nat → Hp → Prop := fun i H => ∃ wd1 s1 ws es, wd1.H = H ∧ WdOk L wd1 s1 ∧ Ext wd wd1 ∧ Fresh wd wd1 D0 ∧ H D0 = some (.lst ws) ∧ ws.length ≤ 4000 * i ∧ IsAll L wd1.F wd1.mu ws es ∧
    RPost L wd E (fun r s' wd' => Res L wd' s' (.lst (es ++ r)) Q) (lc2L (lc2F T (callsAt T n) tg it1 tg1 elt tst g own (slotsT tg1)) (l.drop i) s1)
  refine ⟨fun i m H => m = l.length - i ∧ i ≤ l.length ∧ Inv i H, ⟨l.length, rfl, Nat.zero_le _, ?_⟩, ?_⟩
  · refine ⟨⟨wd.F, wd.mu, upd wd.H D0 (.lst [])⟩, s, [], [], rfl, k.laid hD, Ext.laid k hD, Fresh.of_laid (o := .lst []) k hD, upd_same, Nat.zero_le _, .nil, ?_⟩
    simpa using r
  · rintro i m H ⟨rfl, hi, wd1, s1, ws, es, rfl, k1, x1, f1, eD, hws, is, r1⟩
    have ps1 := paired_ext x1 ps
    by_cases hlt : i < l.length
    · have hd : l[i]? = some l[i] := List.getElem?_eq_getElem hlt
      obtain ⟨go, yl⟩ := (its wd1 s1 k1 ps1 i).2 _ hd
      refine .inr ⟨go, fun H' => Inv (i + 1) H', fun H' q => ⟨l.length - (i + 1), by omega, rfl, hlt, q⟩, fun x H' hy => ?_⟩
      obtain ⟨wd2, rfl, x2, k2, ix⟩ := yl x H' hy
      obtain ⟨f2, eD2⟩ := f1.ext eD x2
      rw [List.drop_eq_getElem_cons hlt] at r1
      unfold lc2L at r1
      have sl2 : Slots L wd0 wd2 (L2.wipe st own) (wipG g own) := ((sl.ext x1).ext x2).wipe own
      cases hF : lc2F T (callsAt T n) tg it1 tg1 elt tst g own (slotsT tg1) l[i] s1 with
      | no => rw [hF] at r1; exact False.elim r1
      | ex k0 ys s2 => rw [hF] at r1; exact False.elim r1
      | ok o s2 =>
        rw [hF] at r1
        simp only [R.calm, R.bind] at r1
        unfold lc2F at hF
        cases hs : setT tg l[i] (wipG g own) with
        | none => rw [hs] at hF; cases hF
        | some g' =>
          rw [hs] at hF
          simp only [bindG] at hF
          refine ⟨wd2, s1, wd0, wipG g own, l[i], g', rfl, k2, sl2, ix, hs, fun st2 sl3 off => ⟨?_, ?_⟩⟩
          · rw [off.wipe ho]
            exact wipe_twice st own
          · refine ⟨g', s1, wd0, wd2, rfl, k2, sl3, ?_⟩
            have et : evTs T (callsAt T n) none g' s1 = .ok (.bl true) s1 := by unfold evTs; rfl
            rw [et]
            intro wd3 x3 k3
            refine ⟨true, rfl, iteT ?_⟩
            refine ⟨g', s1, wd0, wd3, rfl, k3, sl3.ext x3, ?_⟩
            cases hz : evB (evE T (callsAt T n) it1 g' s1) it1 g' s1 with
            | no => rw [hz] at hF; cases hF
            | ex k0 ys s3 => rw [hz] at hF; cases hF
            | ok z s3 =>
              rw [hz] at hF
              simp only [R.bind] at hF
              cases hm : seqOf z with
              | none => rw [hm] at hF; cases hF
              | some m =>
                rw [hm] at hF
                simp only [optR, R.bind] at hF
                by_cases hml : Nat.ble m.length 4000 = true
                · rw [if_pos hml] at hF
                  simp only at hF
                  have hml' := Nat.le_of_ble_eq_true hml
                  intro wd4 x4 k4
                  refine ⟨m, hm, fun J1 vs1 ds1 its1 ps1 pIs => ?_⟩
                  obtain ⟨f3, eD3⟩ := f2.ext eD2 x3
                  obtain ⟨f4, eD4⟩ := f3.ext eD3 x4
                  have xx4 : Ext wd wd4 := ((x1.trans x2).trans x3).trans x4
                  obtain ⟨x6, k6⟩ := f4.del xx4 k4
                  have aw : Away D0 st2 g' := ((sl.away hD).wipe own).set hs off
                  have sl5 := (sl3.ext (x3.trans x4)).del aw
                  have hsz : ws.length + m.length < sizeLine := by
                    have : i + 1 ≤ 4000 := by omega
                    have e24 : sizeLine = 16777216 := rfl
                    omega
                  obtain ⟨W1, ⟨m0, w0⟩, hW⟩ := lc_walkI (Fin := fun H' => Inv (i + 1) H') (ws0 := ws) (es0 := es) its1 k6 sl5 (paired_isB (pIs htb)) (fun i h => h) D0 delU_same (show IsAll L wd4.F wd4.mu ws es from ((is.ext x2).ext x3).ext x4) hsz hF fun wd5 ws5 k5 x5 f5 eD5 hl5 is5 => by
                    refine ⟨wd5, s2, ws5, es ++ o, rfl, k5, x6.trans x5, ⟨f4.new, f5.nF, f5.nM⟩, eD5, by omega, is5, ?_⟩
                    cases hq : lc2L (lc2F T (callsAt T n) tg it1 tg1 elt tst g own (slotsT tg1)) (l.drop (i + 1)) s2 with
                    | no => rw [hq] at r1; exact r1
                    | ex k0 ys s5 => rw [hq] at r1; exact r1
                    | ok rr s5 =>
                      rw [hq] at r1
                      intro wd6 x6 k6
                      have z := r1 wd6 x6 k6
                      rw [List.append_assoc]
                      exact z
                  refine ⟨W1, ⟨m0, ?_⟩, hW⟩
                  have eH : upd (delU wd4.H D0) D0 (.lst ws) = wd4.H := upd_delU eD4
                  rw [← eH]
                  exact w0
                · rw [if_neg hml] at hF
                  cases hF
    · have e : i = l.length := by omega
      subst e
      refine .inl ⟨(its wd1 s1 k1 ps1 l.length).1 rfl, ?_⟩
      rw [List.drop_length] at r1
      unfold lc2L at r1
      obtain ⟨x6, k6⟩ := f1.del x1 k1
      have z : Res L ⟨wd1.F, wd1.mu, delU wd1.H D0⟩ s1 (.lst (es ++ [])) Q := r1 ⟨wd1.F, wd1.mu, delU wd1.H D0⟩ x6 k6
      rw [List.append_nil] at z
      have z2 := z D0 ws delU_same is
      rw [upd_delU eD] at z2
      exact z2
theorem lc2_te {tgE iter : PySem.Expr} {x it it1 : E} {tg tg1 : TG} {tst : Option E} {tu : Bool} (hi : ISnd G c iter it tu) (htu : (!tu || isTupE tgE) = true) (htb : topBrw it1 = false)
    {T : Tb} {n : Nat} {L : Lay} {X : Cx} (gd : Gd G T n L c X) {W : WX} (tk : Takes X W) : ∃ wi, PI X tgE iter wi ∧ ∀ g s wd0 wd st Q, WdOk L wd s → Slots L wd0 wd st g → RPost L wd (WE W st) (fun d s' wd' => Res L wd' s' d Q) (evE T (callsAt T n) (.lc2 x tg it tg1 it1 tst) g s) →
      tLc2 wi (gS L tg) (tsS T n L W0 none) (wiS T n L W0 it1) (gS L tg1) (tsS T n L W0 tst) (teS T n L W0 x) (slotsT tg ++ slotsT tg1) (slotsT tg1) st wd.H Q := by
  obtain ⟨wi, p1, q1⟩ := hi T n L X gd W tk tgE (fun z => by rw [z] at htu; simpa using htu)
  refine ⟨wi, p1, fun g s wd0 wd st Q k sl r => ?_⟩
  unfold evE at r
  refine q1 g s wd0 wd st _ k sl (r.bind.mono fun d s1 wd1 x1 k1 r1 => ?_)
  obtain ⟨l, e1, r2⟩ := RPost.opt k1 r1.bind
  obtain ⟨l', e2, r3⟩ := RPost.opt k1 r2.bind
  obtain ⟨hsm, rfl⟩ := ite_some e2
  refine ⟨l, e1, fun J vs ds its ps _ D0 hD => ?_⟩
  have r4 : RPost L wd1 (WE W st) (fun r s' wd' => Res L wd' s' (.lst r) Q) (lc2L (lc2F T (callsAt T n) tg it1 tg1 x tst g (slotsT tg ++ slotsT tg1) (slotsT tg1)) l s1) := by
    have r5 : RPost L wd1 (WE W st) (fun d s' wd' => Res L wd' s' d Q) ((lc2L (lc2F T (callsAt T n) tg it1 tg1 x tst g (slotsT tg ++ slotsT tg1) (slotsT tg1)) l s1).bind fun r s => .ok (.lst r) s) := r3
    cases hr : lc2L (lc2F T (callsAt T n) tg it1 tg1 x tst g (slotsT tg ++ slotsT tg1) (slotsT tg1)) l s1 with
    | no => rw [hr] at r5; exact r5
    | ex k0 ys s2 => rw [hr] at r5; exact r5
    | ok rr s2 => rw [hr] at r5; exact r5
  exact lc2_walk its k1 (sl.ext x1) ps (fun i h => List.mem_append_left _ h) hsm htb D0 hD r4
theorem folded_env {e : PySem.Expr} (h : notSet e = true) : ∀ (env : Env) x, foldedSetIterable e env x = pure x := fun env => folded_of h
theorem s_lc2 {elt tgE iter tg1E iter1 : PySem.Expr} {ifs : List PySem.Expr} {scope : Scope} {pos : Pos} {x it it1 : E} {tg tg1 : TG} {tst : Option E} {tu tu1 : Bool} (hc : c.calm = true) (hi : ISnd G c iter it tu) (htu : (!tu || isTupE tgE) = true) (hns : notSet iter = true)
    (hi1 : ISnd G (c.inner scope) iter1 it1 tu1) (htu1 : (!tu1 || isTupE tg1E) = true) (hns1 : notSet iter1 = true) (htb : topBrw it1 = false)
    (hok : blkC c.N c.sc scope (ownOf c.N (slotsT tg ++ slotsT tg1)) = true) (hg : KSnd G (c.inner scope) tgE tg) (hg1 : KSnd G (c.inner scope) tg1E tg1) (ht : XSnd G (c.inner scope) ifs tst) (he : ESnd G (c.inner scope) elt x) :
    GSnd G c (.ListComp elt [⟨tgE, iter, [], 0⟩, ⟨tg1E, iter1, ifs, 0⟩] scope pos) (.lc2 x tg it tg1 it1 tst) := fun T n L X gd W tk => by
  obtain ⟨wi, p1, q1⟩ := lc2_te (x := x) (tg := tg) (tg1 := tg1) (tst := tst) hi htu htb gd tk
  have bok : BlkOk X.N X.env.scope scope (ownOf c.N (slotsT tg ++ slotsT tg1)) := by
    rw [gd.hN, gd.hsc]
    exact blkOk_by hok
  have h0 : XSnd G (c.inner scope) [] none := trivial
  have z := pe_lc2 (X := X) (pos := pos) (own := ownOf c.N (slotsT tg ++ slotsT tg1)) (vs1 := slotsT tg1) (gd.hcalm.trans hc) gd.nd p1 bok (by rw [ownOf_snd]; exact fun i h => List.mem_append_right _ h) (fun s H C cl fp => hg T n L _ (gd.blk scope s H C cl fp)) (fun s H C cl fp => h0.pts (gd.blk scope s H C cl fp) (W := W0) takes0) (fun s H C cl fp => hi1.pi htu1 (gd.blk scope s H C cl fp) (W := W0) takes0)
    (fun s H C cl fp => hg1 T n L _ (gd.blk scope s H C cl fp)) (fun s H C cl fp => ht.pts (gd.blk scope s H C cl fp) (W := W0) takes0) (fun s H C cl fp => he.pe (gd.blk scope s H C cl fp) (W := W0) takes0) (folded_of hns) (folded_env hns1)
  rw [ownOf_snd] at z
  exact ⟨_, z, q1⟩
theorem st_lc2N {ow : Bool} {y : Str} {i : Nat} {py : Pos} {elt tgE iter tg1E iter1 : PySem.Expr} {ifs : List PySem.Expr} {scope : Scope} {p2 : Pos} {x it it1 : E} {tg tg1 : TG} {tst : Option E} {tu tu1 : Bool} (hy : c.N[i]? = some y) (hly : locB c.sc y = true) (hty : tgOk c y = true)
    (hc : c.calm = true) (hi : ISnd G c iter it tu) (htu : (!tu || isTupE tgE) = true) (hns : notSet iter = true)
    (hi1 : ISnd G (c.inner scope) iter1 it1 tu1) (htu1 : (!tu1 || isTupE tg1E) = true) (hns1 : notSet iter1 = true) (htb : topBrw it1 = false)
    (hok : blkC c.N c.sc scope (ownOf c.N (slotsT tg ++ slotsT tg1)) = true) (hg : KSnd G (c.inner scope) tgE tg) (hg1 : KSnd G (c.inner scope) tg1E tg1) (ht : XSnd G (c.inner scope) ifs tst) (he : ESnd G (c.inner scope) elt x) :
    SSnd G c (.Assign [.Name y py] (.ListComp elt [⟨tgE, iter, [], 0⟩, ⟨tg1E, iter1, ifs, 0⟩] scope p2) pos) [if ow = true then .own i (.lc2 x tg it tg1 it1 tst) else .asg (.nm i) (.lc2 x tg it tg1 it1 tst)] := fun T n L X gd W tk po => by
  obtain ⟨wi, p1, q1⟩ := lc2_te (x := x) (tg := tg) (tg1 := tg1) (tst := tst) hi htu htb gd tk
  have bok : BlkOk X.N X.env.scope scope (ownOf c.N (slotsT tg ++ slotsT tg1)) := by
    rw [gd.hN, gd.hsc]
    exact blkOk_by hok
  have hpg := fun s H C cl fp => hg T n L _ (gd.blk scope s H C cl fp)
  have hpg1 := fun s H C cl fp => hg1 T n L _ (gd.blk scope s H C cl fp)
  have hpi1 := fun s H C cl fp => hi1.pi htu1 (gd.blk scope s H C cl fp) (W := W0) takes0
  have h0 : XSnd G (c.inner scope) [] none := trivial
  have hp0 := fun s H C cl fp => h0.pts (gd.blk scope s H C cl fp) (W := W0) takes0
  have hv1 : ∀ i ∈ slotsT tg1, i ∈ (ownOf c.N (slotsT tg ++ slotsT tg1)).map (·.2) := by rw [ownOf_snd]; exact fun i h => List.mem_append_right _ h
  have hpt := fun s H C cl fp => ht.pts (gd.blk scope s H C cl fp) (W := W0) takes0
  have hpe := fun s H C cl fp => he.pe (gd.blk scope s H C cl fp) (W := W0) takes0
  have base : ∀ ts', (X.Ok → PS X (.Assign [.Name y py] (.ListComp elt [⟨tgE, iter, [], 0⟩, ⟨tg1E, iter1, ifs, 0⟩] scope p2) pos) ts') → PS X (.Assign [.Name y py] (.ListComp elt [⟨tgE, iter, [], 0⟩, ⟨tg1E, iter1, ifs, 0⟩] scope p2) pos) ts' := fun ts' hh => ⟨fun pins s st H D I hq => (hh I.ok).run pins s st H D I hq⟩
  have hyN : X.N[i]? = some y := by rw [gd.hN]; exact hy
  have ps : PS X (.Assign [.Name y py] (.ListComp elt [⟨tgE, iter, [], 0⟩, ⟨tg1E, iter1, ifs, 0⟩] scope p2) pos) (tAsg (tLc2 wi (gS L tg) (tsS T n L W0 none) (wiS T n L W0 it1) (gS L tg1) (tsS T n L W0 tst) (teS T n L W0 x) (slotsT tg ++ slotsT tg1) (slotsT tg1)) (gName i)) := by
    refine base _ fun ok => ?_
    by_cases hsw : swapC c.sc y py p2 scope = true
    · unfold swapC at hsw
      rw [Bool.and_eq_true, Bool.and_eq_true] at hsw
      have h1 : X.env.scope.names.lookup y = some .local := by rw [gd.hsc]; exact swLocal_of hsw.1.1
      have z := ps_setLc2 (X := X) (spos := pos) (py := py) (own := ownOf c.N (slotsT tg ++ slotsT tg1)) (gd.hcalm.trans hc) gd.nd hyN h1 (sw_true ok.kind h1 hsw.1.2 (by simpa using hsw.2)) p1 bok hv1 hpg hp0 hpi1 hpg1 hpt hpe (folded_of hns) (folded_env hns1)
      rw [ownOf_snd] at z
      exact z
    · have z := pe_lc2 (X := X) (pos := p2) (own := ownOf c.N (slotsT tg ++ slotsT tg1)) (gd.hcalm.trans hc) gd.nd p1 bok hv1 hpg hp0 hpi1 hpg1 hpt hpe (folded_of hns) (folded_env hns1)
      rw [ownOf_snd] at z
      refine ps_set gd.nd hyN (by rw [gd.hsc]; exact loc_of hly) z (sw_false ?_) (gd.hfn y hty)
      rw [gd.hsc]
      exact Bool.eq_false_iff.mpr hsw
  refine ⟨_, ps, fun w g s wd0 wd st D x1 k sl hh => ?_⟩
  rw [evSs_one] at hh
  cases ow with
  | true =>
    rw [if_pos rfl] at hh
    unfold evS at hh
    refine q1 g s wd0 wd st _ k sl ((fl_post x1 sl hh).mono fun d s1 wd1 y k1 z => ?_)
    cases d with
    | lst xs =>
      simp only at z
      by_cases hg : i < g.length
      · rw [if_pos hg] at z
        intro a vs hp is
        exact z ⟨wd1.F, wd1.mu, upd wd1.H a (.lst vs)⟩ _ ((x1.trans y).trans (Ext.laid k1 hp)) (Ext.laid k1 hp).lat (k1.laid hp) (Slots.putOwn (x1.trans y) k1 (sl.ext y) hg hp is)
      · rw [if_neg hg] at z
        exact False.elim z
    | _ => exact False.elim z
  | false =>
    rw [if_neg (by decide)] at hh
    unfold evS at hh
    refine q1 g s wd0 wd st _ k sl ((fl_post x1 sl hh).mono fun d s1 wd1 y k1 z => res_of k1 fun wd2 v y2 k2 iv => ?_)
    obtain ⟨g', e, z2⟩ := optF_post z
    unfold setT at e
    by_cases hg : i < g.length
    · rw [if_pos hg] at e
      cases e
      exact z2 wd2 _ ((x1.trans y).trans y2) y2.lat k2 (((sl.ext y).ext y2).put hg iv)
    · rw [if_neg hg] at e
      cases e
end
end Bd
namespace Bd
open PySem PySem.Spec PyProof.Rows L2
/-- the rule of a def, with the guards told (as the hand layer's fn_of) -/
theorem fnG_of {P : Program} {w : World} {K : PySem.W.Frag} {mg : Str → Option Value} {base : Heap} {k : Nat} {f : Addr} {name qual : Str} {params : Arguments} {body : List PySem.Stmt} {scope : Scope} {dV kV doc pm cdv ct oc : Value} {an od : Option Addr}
    {osl : Array (Option Value)} {N ps : List Str} {sp : Sp} (lk : K.lookup f = some ⟨oc, od, .func (PySem.W.fnOf name qual params body scope dV kV doc pm an cdv ct), osl⟩) (hcd : PySem.W.codeIn K cdv qual = true) (S : FnScope N ps scope)
    (len : ∀ vs H Q E, sp vs H Q E → vs.length = ps.length)
    (hbody : ∀ (A : Around) (outer : List Env) (s : Shared) (H : Hp) (vs : List V) (Q : VK) (E : XK), Room k (A.deeper (envOfC qual scope s.heap.objs.size f cdv)) → A.guards = some [] → sp vs H Q E →
      ∃ t, PSs (cxOf (CX P w) P w K mg base N qual scope f cdv A outer s H E) body t ∧ t { nx := fun _ H' => Q .non H', rt := Q } (start N vs) H) :
    FnG P w K mg base (k + 1) f (PySem.W.fnOf name qual params body scope dV kV doc pm an cdv ct) ps sp := by
  refine ⟨len, fun A outer s H args us vs Q E hr hgu e0 hb r hsp => ?_⟩
  have hl := len _ _ _ _ hsp
  have KX : K.In s.heap := e0.mod.kin.keeps fun b o e => (e0.bs b o e).1
  have lim : s.heap.NoLimit := e0.mod.nolimit.keeps fun b o e => (e0.bs b o e).1
  have hkind : ∀ y ∈ ps.zip us, scope.names.lookup y.1 = some .local ∨ (scope.names.lookup y.1 = some .cell ∧ ((cellsFrom (s.heap.objs.size + 1) scope.names []).lookup y.1).isSome = true) := fun ⟨n, v⟩ hy => by
    rcases S.par n (List.of_mem_zip hy).1 with q | q
    · exact .inl q
    · exact .inr ⟨q, PySem.W.cellsFrom_some _ _ _ (.inl q)⟩
  refine codeAny_call_function hr.depth (KX _ _ lk) rfl S.co S.gen rfl (PySem.W.codeRec_of KX hcd) (hb _ _ _ _ ?_)
  refine wpAny_newFunctionEnv_cells S.kind hkind fun env he s1 x => ?_
  subst he
  refine ⟨lim.keeps x.toInCall.keep, codeAny_func ?_⟩
  obtain ⟨t, ht, hq⟩ := hbody A outer s H vs Q E (hr.deeper _) hgu hsp
  have I : Inv (cxOf (CX P w) P w K mg base N qual scope f cdv A outer s H E) [] (start N vs) H s1 := inv_start S hr.hd e0 hl r x
  refine wpAny_mono (ht.run [] s1 (start N vs) H _ I hq) (fun fl s' hs => ?_) fun e s' hs => hs
  have fin : ∀ {st' : L2.St} {H' : Hp} {v : V} {u : Value}, Inv (cxOf (CX P w) P w K mg base N qual scope f cdv A outer s H E) [] st' H' s' → RelV v u → Q v H' → CE outer P w H s Q u s' :=
    fun {st' H' v u} J rv q => ⟨v, H', J.os, J.bare, J.base, J.hok, rv, q⟩
  cases fl with
  | ret u =>
    obtain ⟨v, st', H', J, rv, q⟩ := hs
    exact fin J rv q
  | next =>
    obtain ⟨st', H', J, q⟩ := hs
    exact fin (v := V.non) (u := Value.none) J rfl q
  | brk =>
    obtain ⟨_, _, _, q⟩ := hs
    exact False.elim q
  | cont =>
    obtain ⟨_, _, _, q⟩ := hs
    exact False.elim q
/-- what holds through the whole law -/
structure Bs (P : Program) (G : Gn) (T : Tb) (L : Lay) (mg : Str → Option Value) : Prop where
  sysm : (L.K.lookup sysModules).isSome = true
  ctv : ∀ x d, G.ct.lookup x = some d → ∃ u, mg x = some u ∧ RelV (vOf d) u
  fre : ∀ x, x ∈ G.fre → mg x = none
  fns : ∀ x f, G.fn.lookup x = some f → mg x = some (.ref (L.fa f)) ∧ PySem.W.keepIn L.K (.ref (L.fa f)) = true
  cls : ∀ x k, G.cl.lookup x = some k → mg x = some (.ref (L.ca k)) ∧ PySem.W.keepIn L.K (.ref (L.ca k)) = true
  nmi : ∀ i j, L.nm i = L.nm j → i = j
  nmn : ∀ i x, G.nm[i]? = some x → L.nm i = x
  nsp : L.nm 1 = "__eq__" ∧ L.nm 2 = "__ne__" ∧ L.nm 3 = "__len__" ∧ L.nm 4 = "__str__" ∧ L.nm 5 = "__getitem__" ∧ L.nm 6 = "__setitem__" ∧ L.nm 7 = "__call__"
  clf : ∀ k d, T.cl.lookup k = some d → d.kind < 2 → ClF L.K L G T k d
  xc : Xc P L.K L T mg
/-- a def of the table, as it stands in the heap -/
structure DefOk (G : Gn) (L : Lay) (f : Nat) (d : FD) (name qual : Str) (params : Arguments) (body : List PySem.Stmt) (scope : Scope) (N ps : List Str) : Prop where
  obj : ∃ (oc : Value) (od : Option Addr) (dV kV doc pm cdv ct : Value) (an : Option Addr) (osl : Array (Option Value)), L.K.lookup (L.fa f) = some ⟨oc, od, .func (PySem.W.fnOf name qual params body scope dV kV doc pm an cdv ct), osl⟩ ∧ PySem.W.codeIn L.K cdv qual = true ∧
    Binds L.K (PySem.W.fnOf name qual params body scope dV kV doc pm an cdv ct) ps []
  sc : FnScope N ps scope
  np : d.np = ps.length
  ns : d.ns = N.length
  body : ∃ ow, SsSnd G ⟨N, ow, scope, none, true⟩ body d.body
def Def (G : Gn) (L : Lay) (f : Nat) (d : FD) : Prop := ∃ name qual params body scope N ps, DefOk G L f d name qual params body scope N ps
theorem startG_len (n : Nat) (ds : List D) (h : ds.length ≤ n) : (startG n ds).length = n := by
  unfold startG
  rw [List.length_append, List.length_map, List.length_replicate]
  omega
theorem slots_start {L : Lay} {wd : Wd} {N : List Str} {vs : List V} {ds : List D} {n : Nat} (hn : n = N.length) (hl : ds.length ≤ n) (is : IsAll L wd.F wd.mu vs ds) : Slots L wd wd (start N vs) (startG n ds) := by
  have hlen := is.length
  have key : ∀ (i : Nat) x, (startG n ds)[i]? = some x → x ≠ .un → ∃ d, x = .sh d ∧ ds[i]? = some d := fun i x e nx => by
    unfold startG at e
    by_cases hi : i < ds.length
    · rw [List.getElem?_append_left (by rw [List.length_map]; exact hi), List.getElem?_map, List.getElem?_eq_getElem hi] at e
      cases e
      exact ⟨_, rfl, List.getElem?_eq_getElem hi⟩
    · rw [List.getElem?_append_right (by rw [List.length_map]; omega), List.getElem?_replicate] at e
      split at e
      · cases e
        exact absurd rfl nx
      · cases e
  refine ⟨?_, fun i d e => ?_, fun i d e => ?_, fun i j d e a h1 => ?_⟩
  · rw [startG_len n ds hl]
    unfold L2.start
    rw [List.length_append, List.length_map, List.length_replicate]
    omega
  · obtain ⟨d', e1, e2⟩ := key i _ e (by intro z; cases z)
    cases e1
    obtain ⟨v, h1, h2⟩ := is.get e2
    refine ⟨v, ?_, h2⟩
    unfold L2.start
    have hi : i < vs.length := (List.getElem?_eq_some_iff.mp h1).1
    rw [List.getElem?_append_left (by rw [List.length_map]; exact hi), List.getElem?_map, h1]
    rfl
  · obtain ⟨d', e1, _⟩ := key i _ e (by intro z; cases z)
    cases e1
  · obtain ⟨d', e1, _⟩ := key i _ h1 (by intro z; cases z)
    cases e1
theorem end_post {L : Lay} {wd : Wd} {E : XK} {Q : VK} {r : Fl} (h : RPost L wd E (VP L Q) (endR r)) : SPost L wd wd (fun cls d _ H => E cls d H) { nx := fun _ H' => Q .non H', rt := Q } r := by
  cases r with
  | nx g s => exact fun wd' st x _ k _ => h wd' x k .non .non
  | rt d s => exact fun wd' v x k i => h wd' x k v i
  | ex c xs g s => exact fun wd' a st x _ k _ q => h wd' a x k q
  | bk g s => exact False.elim h
  | ct g s => exact False.elim h
  | no => exact False.elim h
theorem calls_ok {G : Gn} {T : Tb} {L : Lay} {P : Program} {w : World} {mg : Str → Option Value} {base : Heap} (B : Bs P G T L mg) (defs : ∀ f d, T.fn.lookup f = some d → Def G L f d) :
    ∀ (n f : Nat) (d : FD), T.fn.lookup f = some d → ∃ fd ps, FnG P w L.K mg base (lv n) (L.fa f) fd ps (spF T n L f) ∧ Binds L.K fd ps []
  | 0, f, d, h => by
    obtain ⟨name, qual, params, body, scope, N, ps, dk⟩ := defs f d h
    obtain ⟨oc, od, dV, kV, doc, pm, cdv, ct, an, osl, h1, h2, h3⟩ := dk.obj
    have no : ∀ vs H Q E, spF T 0 L f vs H Q E → False := fun vs H Q E ⟨F, mu, s, ds, _, _, r⟩ => r
    exact ⟨_, ps, ⟨fun vs H Q E q => (no _ _ _ _ q).elim, fun A outer s H args us vs Q E _ _ _ _ _ q => (no _ _ _ _ q).elim⟩, h3⟩
  | n + 1, f, d, h => by
    have ih := calls_ok (P := P) (w := w) (base := base) B defs n
    obtain ⟨name, qual, params, body, scope, N, ps, dk⟩ := defs f d h
    obtain ⟨oc, od, dV, kV, doc, pm, cdv, ct, an, osl, h1, h2, h3⟩ := dk.obj
    have hp : ps.length ≤ N.length := by
      have := congrArg List.length dk.sc.pre
      rw [List.length_take] at this
      omega
    have open_ : ∀ vs H Q E, spF T (n + 1) L f vs H Q E → ∃ F mu s ds, WdOk L ⟨F, mu, H⟩ s ∧ IsAll L F mu vs ds ∧ ds.length = ps.length ∧ RPost L ⟨F, mu, H⟩ E (VP L Q) (endR (evSs T (callsAt T n) wFuel d.body (startG d.ns ds) s)) := fun vs H Q E ⟨F, mu, s, ds, k, is, r⟩ => by
      have r2 : RPost L ⟨F, mu, H⟩ E (VP L Q) (callF T (callsAt T n) f ds s) := r
      unfold callF at r2
      rw [h] at r2
      simp only at r2
      by_cases hl : ds.length = d.np
      · rw [if_pos hl] at r2
        exact ⟨F, mu, s, ds, k, is, hl.trans dk.np, r2⟩
      · rw [if_neg hl] at r2
        exact False.elim r2
    refine ⟨_, ps, ?_, h3⟩
    have hlv : lv (n + 1) = (lv n + 2) + 1 := by unfold lv; omega
    rw [hlv]
    refine fnG_of h1 h2 dk.sc (fun vs H Q E q => ?_) fun A outer s H vs Q E hr hgu q => ?_
    · obtain ⟨F, mu, s, ds, _, is, hl, _⟩ := open_ vs H Q E q
      rw [is.length]
      exact hl
    · obtain ⟨ow, hbody⟩ := dk.body
      obtain ⟨F, mu, sto, ds, k, is, hl, r⟩ := open_ vs H Q E q
      have gd : Gd G T n L ⟨N, ow, scope, none, true⟩ (cxOf (CX P w) P w L.K mg base N qual scope (L.fa f) cdv A outer s H E) := {
        hK := rfl, hN := rfl, nd := dk.sc.nd, hsc := rfl, hcalm := rfl, hfn := fun x _ => .inl rfl, room := fun _ => hr, un := by have := hr.un; show (A.deeper _).units + 100 < cLine; omega, gu := hgu, sysm := B.sysm, ctv := B.ctv, fre := B.fre, fns := B.fns, cls := B.cls,
        nmi := B.nmi, nmn := B.nmn, nsp := B.nsp, clf := B.clf, xc := B.xc, stk := fun _ => ⟨rfl, rfl⟩, call := ih }
      have tk : Takes (cxOf (CX P w) P w L.K mg base N qual scope (L.fa f) cdv A outer s H E) (fun cls d _ H => E cls d H) := takes_of rfl rfl rfl rfl
      have po : PassesOwn (model P w) (A.deeper (envOfC qual scope s.heap.objs.size (L.fa f) cdv)) (envOfC qual scope s.heap.objs.size (L.fa f) cdv) (cxOf (CX P w) P w L.K mg base N qual scope (L.fa f) cdv A outer s H E).xe := PassesOwn.leaving
      obtain ⟨ts, p, qq⟩ := hbody T n L _ gd _ tk po
      refine ⟨ts, p, ?_⟩
      refine qq wFuel (startG d.ns ds) sto ⟨F, mu, H⟩ ⟨F, mu, H⟩ (start N vs) _ (Ext.refl _) k ?_ (end_post r)
      refine slots_start (wd := ⟨F, mu, H⟩) dk.ns (by rw [dk.ns, hl]; exact hp) is
end Bd
namespace Bd
open PySem PySem.Spec PyProof.Rows L2
section
variable {P : Program} {w : World} {K : PySem.W.Frag} {C fI x L : Addr} {B newId i : String} {bmB : List Value} {fl : List Str} {fd : FuncData}
theorem kIn_off {h0 h : Heap} {x : Addr} (k : ∀ b o, b ≠ x → h0.get? b = some o → h.get? b = some o) (KX : K.In h0) (hn : ∀ o, K.lookup x ≠ some o) : K.In h := fun b o e =>
  k b o (fun q => hn o (by rw [← q]; exact e)) (KX b o e)
/-- the stores -/
theorem stores_run (S : SupX P K C fI B newId i bmB fl fd) {A : Around} {c : Code} {E : Value → Shared → Prop} {h0 : Heap} (X0 : K.In h0) (hx0 : ∃ o, h0.get? x = some o) (hn : ∀ o, K.lookup x ≠ some o) {m : Str → Option Value}
    (hL : h0.Ns L m) (hLx : L ≠ x) (hself : m "self" = some (.ref x)) {Q : Flow → Shared → Prop} :
    ∀ (r : List PySem.Stmt) (l : List Str) (us : List Value) (done : List (Str × Value)) (s : Shared), supF r = some l → l.length = us.length → (∀ f v, (f, v) ∈ l.zip us → m f = some v) → (∀ f ∈ l, f ∈ fl) → (done.map (·.1) ++ l).Nodup → done.length + l.length ≤ 200 →
      Done h0 x C done s.heap → (∀ h' tk, Done h0 x C (done ++ l.zip us) h' → Q .next { s with heap := h', toks := tk }) → _root_.PySem.wpAt (model P w) A c (execs r (callEnv fd L fI)) Q E s
  | [], l, us, done, s, hr, hl, hm, hf, nd, hz, D, hq => by
    cases hr
    rw [execs_nil]
    refine _root_.PySem.wpAt_of_wpAny (wpAny_pure ?_)
    have := hq s.heap s.toks (by simpa using D)
    exact this
  | st :: r, l, us, done, s, hr, hl, hm, hf, nd, hz, D, hq => by
    unfold supF at hr
    split at hr
    · rename_i h1 ; cases h1
    · rename_i z p1 f p2 v p3 p4 r' he
      obtain ⟨rfl, rfl⟩ := List.cons.inj he
      split at hr
      · rename_i hc
        obtain ⟨rfl, rfl⟩ := hc
        obtain ⟨l', hl', rfl⟩ := Option.map_eq_some_iff.mp hr
        cases us with
        | nil => cases hl
        | cons u us =>
          have hmf : m v = some u := hm v u (by simp)
          have hvf : v ∈ fl := hf v (by simp)
          have kn : ∀ y ∈ ("self" : Str) :: fl, (callEnv fd L fI).kindOf y = some .local := fun y hy => S.nloc y hy
          have ns : s.heap.Ns L m := hL.at fun o e => D.1 _ _ hLx e
          refine ks_wpAt_execs_cons (ks_wpAt_Assign_Attr (wpAt_of_wpAny (ldc S.kind (kn v (by simp [hvf])) ns hmf (ldc S.kind (kn "self" (by simp)) ns hself ?_ (S.ndbg _ (by simp))) (S.ndbg _ (by simp [hvf])))))
          have KX : K.In s.heap := kIn_off D.1 X0 hn
          have nd1 : v ∉ done.map (·.1) := fun q => by
            have := (List.nodup_append.mp nd).2.2 v q v (by simp)
            exact this rfl
          refine store_one S X0 hx0 KX hn D hvf (by simp at hz; omega) nd1 fun h' tk D' => ?_
          refine stores_run S X0 hx0 hn hL hLx hself r l' us (done ++ [(v, u)]) _ hl' (by simpa using hl) (fun f w' q => hm f w' (by simp [q])) (fun f q => hf f (by simp [q])) (by simpa using nd) (by simp at hz ⊢; omega) D' fun h2 tk2 D2 => ?_
          have := hq h2 tk2 (by simpa using D2)
          exact this
      · cases hr
    · cases hr
theorem sup_eval {env : Env} {o : PySem.Expr} {nm txt : Str} {k : Nat} {p1 apos pos : Pos} (hp : (apos.endLine == pos.line) = true) :
    eval (.Call (.Attribute o nm apos) [.Constant (.str txt) k p1] [] pos) env = (do
      let ov ← attributeBase o nm env (eval o env)
      standAt apos.atName
      let (f, first) ← holding [ov] (getMethod ov nm (plainOf o env))
      callWith pos f first (backTo pos (starEach [.Constant (.str txt) k p1] env)) []) := by
  have h1 : eval (.Call (.Attribute o nm apos) [.Constant (.str txt) k p1] [] pos) env = (do
      let ov ← attributeBase o nm env (eval o env)
      standAt apos.atName
      methodCall o nm apos pos env ov 1 (backTo pos (starEach [.Constant (.str txt) k p1] env)) (backToKw pos (keywordEach [] env))) := by
    simp only [eval] <;> rfl
  rw [h1]
  congr
  funext ov
  congr
  funext _
  exact mcall_line rfl hp
theorem lookup_mem {f : Str} {v : Value} : ∀ {l : List Str} {us : List Value}, l.Nodup → (f, v) ∈ l.zip us → (l.zip us).lookup f = some v
  | [], _, _, h => by simp at h
  | _ :: _, [], _, h => by simp at h
  | k :: l, u :: us, nd, h => by
    rw [List.nodup_cons] at nd
    rw [List.zip_cons_cons, List.mem_cons] at h
    rcases h with h | h
    · cases h
      simp [List.lookup]
    · have ne : f ≠ k := fun q => nd.1 (q ▸ (List.of_mem_zip h).1)
      have e : (f == k) = false := by simpa using ne
      simp only [List.zip_cons_cons, List.lookup, e]
      exact lookup_mem nd.2 h
/-- the wrapped built-in __init__, called -/
theorem wrap_run {A : Around} {E : Value → Shared → Prop} {h : Heap} {g : Array GenState} {d : Drawn} {t : Nat} {os : OsState} {u t0 : Addr} {rest : List Value} {Q : Value → Shared → Prop} (S : SupX P K C fI B newId i bmB fl fd) (KX : K.In h)
    (hu : h.get? u = some (PySem.W.kxs_mw i x)) (hx : h.get? x = some (exR C t0 none)) (hz : rest.length ≤ sizeLine)
    (hq : ∀ h' t', (∀ b o, b ≠ x → h.get? b = some o → h'.get? b = some o) → h'.get? x = some (exR C t' none) → Q .none ⟨h', g, d, t, os⟩) : wpAny (model P w) A (call (.ref u) rest) Q E ⟨h, g, d, t, os⟩ := by
  obtain ⟨nm, N', qn, bs, bm, hdct, sn, sub, ab, col, dd, k0, k1, k2, k3, k5, hC, hT⟩ := PySem.W.excInit_of KX S.ini
  have yes : (Value.type "method-wrapper" == Value.type "method" || Value.type "method-wrapper" == Value.type "builtin_function_or_method" || Value.type "method-wrapper" == Value.type "method-wrapper") = true := by decide
  refine wpAny_call (codeAny_of_tree ?_)
  show wpAny _ A.in1 (callAny (.ref u) ⟨rest, []⟩) _ _ _
  unfold callAny
  refine wpAny_bind (wpAny_load hu ?_)
  simp only [PySem.W.kxs_mw, yes, if_true]
  refine PySem.W.KFB.if_so (by decide) ?_
  refine wpAny_bind (PySem.W.check_bound_init S.FB.toExcCallFacts hC hx rfl ?_)
  refine wpAny_bind (wpAny_pure (wpAny_pure ⟨plainId_quiet S.FB.init.plain _, codeAny_builtin S.FB.initEntry ?_⟩))
  exact PySem.W.exc_init_tree (cls := .ref C) (t0 := t0) (dv := none) (c2 := .none) (c3 := .none) (b4 := .bool false) hx hz fun h' k e _ => hq h' _ k e
theorem init_run (S : SupX P K C fI B newId i bmB fl fd) {A : Around} {R : Result → Shared → Prop} {s : Shared} {mg mb : Str → Option Value} {t0 : Addr} {us : List Value} (KX : K.In s.heap) (lim : s.heap.NoLimit) (hroom : A.depth < recursionLimit)
    (gl : s.heap.Ns mainGlobals mg) (hmg : mg "super" = none) (bl : s.heap.Ns builtinsNs mb) (hmb : mb "super" = some (.type "super")) (hx : s.heap.get? x = some (exR C t0 none)) (hn : ∀ o, K.lookup x ≠ some o) (hl : us.length = fl.length)
    (hq : ∀ h' tk, Done s.heap x C (fl.zip us) h' → R (.ok (.ret .none)) { s with heap := h', toks := tk }) : codeAny (model P w) A (.call (.ref fI) ⟨.ref x :: us, []⟩) R s := by
  obtain ⟨oF, hF, hFd⟩ := fnAt_get S.fn
  obtain ⟨b, hb, hbB⟩ := S.body
  obtain ⟨cc, hcc, hcell⟩ := S.clo
  obtain ⟨oC, hoC, hoCd⟩ := cellAt_get hcell
  obtain ⟨ca, oK, vs, fname, ft, hcode, hK1, hK2, hK3, hfile⟩ := fileAt_get S.file
  obtain ⟨ar, har, harn⟩ := S.par
  obtain ⟨cd, hcd, hsup⟩ : ∃ cd, PySem.W.clsIn K C = some cd ∧ PySem.W.alongIn K "__init__" ((cd.mro.dropWhile (· != .ref C)).drop 1) = some (some (.builtin i)) := Option.bind_eq_some_iff.mp S.sup
  have hbs := S.bnd s (.ref x :: us) KX (by simp [hl])
  rw [List.append_nil] at hbs
  refine ks_codeAny_call_defAt (binds := (("self" : Str) :: fl).zip (.ref x :: us)) hroom (KX _ _ hF) hFd lim (PySem.W.codeRec_of KX S.code) hb hbs S.ncel (fun y hy => S.nloc _ (List.of_mem_zip hy).1) (fun h1 hns hk => ?_) S.cor S.gen S.kind
  have nd : (("self" : Str) :: fl).Nodup := List.nodup_cons.mpr ⟨S.nslf, S.nd⟩
  have hm : ∀ y, ((("self" : Str) :: fl).zip (Value.ref x :: us)).reverse.lookup y = ((("self" : Str) :: fl).zip (Value.ref x :: us)).lookup y := lookup_zip_rev nd
  have KX1 : K.In h1 := KX.keeps hk
  have hx1 := hk _ _ hx
  unfold supB at hbB
  split at hbB
  · rename_i n p1 p2 a p3 txt p4 p5 p6 p7 r
    split at hbB
    · rename_i hna
      obtain ⟨rfl, rfl, hpp⟩ := hna
      have oD : ∃ oD, h1.get? C = some oD ∧ oD.data = .cls cd := by
        unfold PySem.W.clsIn at hcd
        split at hcd
        · rename_i ho
          cases hcd
          exact ⟨_, KX1 _ _ ho, rfl⟩
        · cases hcd
      obtain ⟨oD, hD1, hD2⟩ := oD
      have sz : h1.get? s.heap.objs.size ≠ none := fun q => by
        obtain ⟨o, es, ep, e1, _⟩ := hns
        rw [q] at e1
        cases e1
      have hxL : x ≠ s.heap.objs.size := Nat.ne_of_lt (Heap.lt_size hx)
      have ndb : (("super" : Str) == ("__debug__" : Str)) = false := by decide
      refine ks_wpAt_execs_cons (ks_wpAt_Expr_any (ks_wpAt_MethodCall (pl := plainOf (.Call (.Name "super" p1) [] [] p2) (callEnv fd s.heap.objs.size fI)) ?_ (sup_eval hpp)) ?_ ?_)
      · refine ks_wpAt_super_base (f := fI) (cc := ca) (env := callEnv fd s.heap.objs.size fI) S.nsup S.ncls (by decide) rfl (KX1 _ _ hF) hFd har hcode (KX1 _ _ hK1) hK2 hK3 hfile S.top ?_
        refine PySem.W.ks_loadName_global (env := callEnv fd s.heap.objs.size fI) S.kind S.nsup (Calls.loadGlobal_builtin (env := callEnv fd s.heap.objs.size fI) ?_ hmg ?_ hmb ⟨rfl, ?_⟩)
        · show h1.Ns fd.globals mg
          rw [S.glob]
          exact gl.at fun o e => hk _ _ e
        · show h1.Ns fd.builtins mb
          rw [S.blt]
          exact bl.at fun o e => hk _ _ e
        refine wpAny_loadName_free (env := callEnv fd s.heap.objs.size fI) S.kind S.ncls hcc ⟨_, KX1 _ _ hoC, hoCd⟩ ?_
        rw [harn]
        refine wpAny_loadName_local (env := callEnv fd s.heap.objs.size fI) S.kind (S.nloc _ (by simp)) hns (v := .ref x) (by rw [hm]; simp [List.lookup]) ?_
        refine ks_wpAny_isType_cls hD1 hD2 ⟨rfl, ?_⟩
        refine ks_wpAny_call_super (C := C) hD1 hD2 hx1 rfl (fun c e => by cases e) (PySem.W.looks_mroIn KX1 S.mroC) fun h2 hso hk2 => ?_
        have KX2 : K.In h2 := KX1.keeps hk2
        have I2 : PySem.W.InstAt h2 x (exR C t0 none) C none := ⟨hk2 _ _ hx1, rfl, rfl, trivial⟩
        refine PySem.W.kxs_getMethod (l₀ := cd.mro) S.KF hso (PySem.W.looks_opaque KX2 S.opq) ?_ rfl KX2 hsup (I2.type.andThen (PySem.W.looks_subIn KX2 S.subB)) (PySem.W.ks_ne KX2 I2 hcd) (by decide) ?_
        · exact fun A Q E s k q => wpAny_bind ((PySem.W.looks_clsIn KX2 hcd) A _ E s k (wpAny_pure q))
        have hmw : (h2.push (PySem.W.kxs_mw i x)).get? h2.objs.size = some (PySem.W.kxs_mw i x) := Heap.get?_push_at rfl rfl
        have hk3 : ∀ b o, h2.get? b = some o → (h2.push (PySem.W.kxs_mw i x)).get? b = some o := fun b o e => Heap.get?_push_of_some _ e
        have up : ∀ b o, s.heap.get? b = some o → (h2.push (PySem.W.kxs_mw i x)).get? b = some o := fun b o e => hk3 b o (hk2 b o (hk b o e))
        refine PySem.W.kxs_callWith (i := i) (x := x) rfl (Calls.evalArgs_plain (Calls.spliced_cons ?_))
        refine wpAny_Constant_str (k := p4) (pos := p5) (Calls.spliced_nil ⟨hmw, ?_⟩)
        refine wrap_run S (KX2.keeps hk3) hmw (hk3 _ _ I2.at_) (show 1 ≤ sizeLine by rw [sizeLine_eq]; omega) fun h4 t4 k4 hx4 => ?_
        have keep4 : ∀ b o, b ≠ x → h1.get? b = some o → h4.get? b = some o := fun b o hb e => k4 b o hb (hk3 b o (hk2 b o e))
        have KX4 : K.In h4 := kIn_off (fun b o hb e => k4 b o hb (up b o e)) KX hn
        have D4 : Done h4 x C [] h4 := ⟨fun b o _ e => e, t4, .inl ⟨rfl, hx4⟩⟩
        refine stores_run S KX4 ⟨_, hx4⟩ hn (hns.at fun o e => keep4 _ _ hxL.symm e) hxL.symm (by rw [hm]; simp [List.lookup]) r fl us [] _ hbB hl.symm (fun f v q => ?_) (fun f q => q) (by simpa using S.nd) (by simpa using Nat.le_trans S.lt (by decide)) D4 fun h5 tk5 D5 => ?_
        · show ((("self" : Str) :: fl).zip (Value.ref x :: us)).reverse.lookup f = some v
          rw [hm]
          have hf : f ≠ "self" := fun z => S.nslf (z ▸ (List.of_mem_zip q).1)
          have e : (f == ("self" : Str)) = false := by simpa using hf
          simp only [List.zip_cons_cons, List.lookup, e]
          exact lookup_mem S.nd q
        · refine hq h5 tk5 ?_
          obtain ⟨k5, t5, D5⟩ := D5
          rw [List.nil_append] at D5
          have back : ∀ b o, b ≠ x → s.heap.get? b = some o → h4.get? b = some o := fun b o hb e => k4 b o hb (up b o e)
          refine ⟨fun b o hb e => k5 b o hb (back b o hb e), t5, ?_⟩
          rcases D5 with D5 | ⟨dx, mA, n0, hz, ne, D5⟩
          · exact .inl D5
          · refine .inr ⟨dx, mA, n0, ?_, ne, D5⟩
            cases z : s.heap.get? dx with
            | none => rfl
            | some o =>
              rw [back _ _ ne z] at hz
              cases hz
      · have : (callEnv fd s.heap.objs.size fI).scope.kind = .function := S.kind
        unfold interactive
        rw [this]
        rfl
      · rfl
    · cases hbB
  · cases hbB
end
end Bd
namespace Bd
open PySem PySem.Spec PyProof.Rows L2
/-- C(e, ..), the fields are the arguments -/
def tMkS (C : Addr) (fl : List Str) (ta : TA) : L2.St → Hp → XK → Prop := fun st H Q => ta st H fun vs H1 => vs.length = fl.length ∧ (fl = [] → Q (.ref C) none H1) ∧ (fl ≠ [] → ∀ d, H1 d = none → Q (.ref C) (some d) (upd H1 d (.xd (fl.zip vs))))
theorem relO_zip : ∀ {fl : List Str} {vs : List V} {us : List Value}, Vals vs us → ∀ f, RelO ((fl.zip vs).lookup f) ((fl.zip us).lookup f)
  | [], _, _, _, _ => True.intro
  | _ :: _, _, _, .nil, _ => True.intro
  | k :: fl, _, _, .cons r rs, f => by
    by_cases h : f = k
    · subst h
      simp only [List.zip_cons_cons, List.lookup, beq_self_eq_true]
      exact r
    · have e : (f == k) = false := by simpa using h
      simp only [List.zip_cons_cons, List.lookup, e]
      exact relO_zip rs f
section
variable {X : Cx} {C fI : Addr} {B newId i : String} {bmB : List Value} {fl : List Str} {fd : FuncData} {ta : TA} {es : List PySem.Expr} {x : Str} {p pos : Pos}
theorem mk_core (S : SupX X.prog X.K C fI B newId i bmB fl fd) {k : Nat} (hr : Room (k + 1) X.A) (hs : X.mg "super" = none) {pins : List (Addr × Obj)} {st : L2.St} {H : Hp} {s : Shared} {Q : XK} {us : List Value} {vs : List V} (I : Inv X pins st H s) (r : Vals vs us)
    (hl : vs.length = fl.length) (h0 : fl = [] → Q (.ref C) none H) (h1 : fl ≠ [] → ∀ d, H d = none → Q (.ref C) (some d) (upd H d (.xd (fl.zip vs)))) :
    wpAny (model X.prog X.w) X.A (call (.ref C) us) (MkP X pins st Q) X.xe s := by
  obtain ⟨nm, N', qn, bs, bm, hdct, sn, sub, ab, col, dd, k0, k1, k2, k3, k5, hC, hT⟩ := PySem.W.excInit_of I.kIn S.ini
  have hlu : us.length = fl.length := by rw [← r.length]; exact hl
  have hus : us.length ≤ sizeLine := by rw [hlu, sizeLine_eq]; have := S.lt; omega
  obtain ⟨mb, hb1, hb2⟩ := I.ok.mod.blt
  have kb : ∀ b o, X.base.get? b = some o → s.heap.get? b = some o := fun b o e => (I.bs b o e).1
  have KX : X.K.In s.heap := I.kIn
  have lim := I.nolimit
  have hok := I.hok
  have bare := I.bare
  obtain ⟨hp, g, dr, tk, os⟩ := s
  have k1' : ∀ b o, hp.get? b = some o → ((hp.push (PySem.W.kdv_tup us)).push (HandSPX.excO C hp.objs.size)).get? b = some o := fun b o e => Heap.get?_push_of_some _ (Heap.get?_push_of_some _ e)
  have hget : ((hp.push (PySem.W.kdv_tup us)).push (HandSPX.excO C hp.objs.size)).get? (hp.objs.size + 1) = some (exR C hp.objs.size none) := by heap_get
  have hnew : hp.get? (hp.objs.size + 1) = none := Heap.get?_none_of_le (Nat.le_succ _)
  have hnK : ∀ o, X.K.lookup (hp.objs.size + 1) ≠ some o := fun o e => by
    have := KX _ _ e
    rw [hnew] at this
    cases this
  refine wpAny_call (HandSPX.call_own S.FB hT hC (PySem.W.looks_findIn KX S.iC) (fun self => PySem.W.bind_fn KX self S.tI) hus ?_)
  refine init_run S (KX.keeps k1') (lim.keeps k1') (hr.make C us []).depth (I.ok.mod.glob.at fun o e => k1' _ _ (kb _ _ e)) hs (hb1.at fun o e => k1' _ _ (kb _ _ e)) ((hb2 _ (by decide +kernel)).trans (by kernel_rfl)) hget hnK hlu fun h' tk' D => ?_
  refine ⟨rfl, ?_⟩
  obtain ⟨kD, t, D⟩ := D
  have ne1 : ∀ {b : Addr} {o : Obj}, hp.get? b = some o → b ≠ hp.objs.size + 1 := fun {b o} e q => by
    rw [q, hnew] at e
    cases e
  have k2 : ∀ b o, hp.get? b = some o → h'.get? b = some o := fun b o e => kD b o (ne1 e) (k1' b o e)
  have Ra : Raises X (.ref C) := raises_own S.exC S.tyC
  rcases D with ⟨e0, hx⟩ | ⟨dx, mA, n0, hz, ne, hx, hns, hm⟩
  · have fl0 : fl = [] := by
      cases fl with
      | nil => rfl
      | cons f r' =>
        cases us with
        | nil => cases hlu
        | cons u us => cases e0
    exact ⟨_, _, _, ⟨hp, g, dr, tk, os⟩, H, .ref C, none, rfl, I, k2, hnew, hx, ⟨rfl, rfl⟩, rfl, rfl, hok.gone hnew, rfl, bare, Ra, h0 fl0⟩
  · have fl0 : fl ≠ [] := fun q => n0 (by rw [q]; rfl)
    have hdx : hp.get? dx = none := by
      cases z : hp.get? dx with
      | none => rfl
      | some o =>
        rw [k1' _ _ z] at hz
        cases hz
    have hH : H dx = none := hok.gone hdx
    obtain ⟨G, g1, g2⟩ := restrict h' fun b => decide (b ≠ hp.objs.size + 1)
    have gk : ∀ b, b ≠ hp.objs.size + 1 → G.get? b = h'.get? b := fun b hb => g1 b (decide_eq_true hb)
    have ga : G.get? (hp.objs.size + 1) = none := g2 _ (by simp)
    have J := I.laidN (a := dx) (o := .xd (fl.zip vs)) (h' := G) (t' := tk') (fun b o e => (gk b (ne1 e)).trans (k2 b o e)) hdx hH ⟨mA, hns.at fun o e => (gk dx ne).trans e, fun f => by
      rw [hm]
      exact relO_zip r f⟩
    refine ⟨_, _, _, _, _, .ref C, some dx, rfl, J, fun b o e => ?_, ga, hx, ⟨rfl, rfl⟩, rfl, rfl, ?_, rfl, bare, Ra, h1 fl0 dx hH⟩
    · have e' : G.get? b = some o := e
      by_cases hb : b = hp.objs.size + 1
      · rw [hb, ga] at e'
        cases e'
      · rw [gk b hb] at e'
        exact e'
    · rw [upd_ne (Ne.symm ne)]
      exact hok.gone hnew
theorem pmk_sup {e : PySem.Expr} (S : SupX X.prog X.K C fI B newId i bmB fl fd) {k : Nat} (hr : Room (k + 1) X.A) (hs : X.mg "super" = none) (hg : Gl X x) (hm : X.mg x = some (.ref C)) (ha : PA X (e :: es) ta) (hst : (e :: es).all noStar = true)
    (hdb : (x == ("__debug__" : Str)) = false) : PMk X (.Call (.Name x p) (e :: es) [] pos) (tMkS C fl ta) := by
  intro pins s st H Q I h
  rw [List.all_cons, Bool.and_eq_true] at hst
  refine wpAny_Call_Name_kw (ld_glob I hg hm ?_ hdb)
  refine PySem.W.callWith_K (h₀ := X.base) I.ok.mod.kin S.kC (thn (ha.run pos pins s st H _ I h) fun us s1 ⟨vs, H1, I1, r1, hl, q0, q1⟩ => ⟨I1.kIn, ?_⟩) (star_cons hst.1) (star_any hst.2)
  exact mk_core S hr hs I1 r1 hl q0 q1
theorem pmk_sup0 (S : SupX X.prog X.K C fI B newId i bmB fl fd) {k : Nat} (hr : Room (k + 1) X.A) (hs : X.mg "super" = none) (hg : Gl X x) (hm : X.mg x = some (.ref C)) (hdb : (x == ("__debug__" : Str)) = false) :
    PMk X (.Call (.Name x p) [] [] pos) (tMkS C fl tNil) := by
  intro pins s st H Q I h
  refine wpAny_Call_Name_kw (ld_glob I hg hm ?_ hdb)
  refine PySem.W.callWith_K0 I.kIn S.kC ?_
  exact mk_core S hr hs I .nil h.1 h.2.1 h.2.2
end
end Bd
namespace Bd
open PySem PySem.Spec PyProof.Rows L2
theorem exq_ok {P : Program} {w : World} {H : Hp} {h : Heap} {a : Addr} {cls : Value} {d : Option Addr} {oe : Obj} {vs : Array Value} (he : h.get? a = some oe) (hz : Zc cls d oe) (hd : oe.data = .fields vs) : ObjOk P w H h a (exq a cls d) :=
  ⟨⟨oe, vs, he, hz.1, hz.2, hd⟩, ⟨oe, he⟩, fun h1 h2 z k => by
    obtain ⟨o, v, q, r⟩ := z
    exact ⟨o, v, k _ q, r⟩⟩
theorem exq_at {P : Program} {w : World} {H : Hp} {h : Heap} {a : Addr} {cls : Value} {d : Option Addr} (hok : HOk P w H h) (e : H a = some (exq a cls d)) : ∃ oe vs, h.get? a = some oe ∧ oe.cls = cls ∧ oe.dict = d ∧ oe.data = .fields vs := by
  have z : ObjOk P w H h a (.ext fun h => ∃ oe vs, h.get? a = some oe ∧ oe.cls = cls ∧ oe.dict = d ∧ oe.data = .fields vs) := hok a _ e
  exact z.1
section
variable {X : Cx} {pins : List (Addr × Obj)} {st : L2.St} {H : Hp} {sI s : Shared} {a : Addr}
/-- an object that the state without it lacks is tracked from here on -/
theorem track {oe : Obj} {vs : Array Value} {cls : Value} {d : Option Addr} (J : Inv X pins st H sI) (n : sI.heap.get? a = none) (I : Inv X pins st H s) (he : s.heap.get? a = some oe) (hz : Zc cls d oe) (hd : oe.data = .fields vs) (nL : a ≠ X.env.locals) :
    Inv X pins st (upd H a (exq a cls d)) s := by
  have na : H a = none := J.hok.gone n
  have out : ∀ b, H b = none → b ≠ a → upd H a (exq a cls d) b = none := fun b e q => by
    rw [upd_ne q]
    exact e
  have B := I.base
  refine ⟨I.ok, I.os, I.bare, ?_, I.loc, I.cell, out _ I.free nL.symm, fun x c e => out _ (I.freeC x c e) fun q => ?_, fun p hp => ?_, fun b o z => ?_, I.len⟩
  · refine { B with free := fun b o e h0 hx => out b (B.free b o e h0 hx) fun q => ?_, tups := fun b xs e => ?_, frzs := fun b o u e => ?_, tbls := fun b ps e => ?_ }
    · obtain ⟨o', z⟩ := J.base.there b o e hx
      rw [q, n] at z
      cases z
    · rw [upd_ne (ne_of_none (B.tups b xs e) na)]
      exact B.tups b xs e
    · rw [upd_ne (ne_of_none (B.frzs b o u e) na)]
      exact B.frzs b o u e
    · obtain ⟨m, z⟩ := B.tbls b ps e
      exact ⟨m, by rw [upd_ne (ne_of_none z na)]; exact z⟩
  · obtain ⟨v, o, z1, z2⟩ := I.cell x c e
    rw [q, he] at z1
    cases z1
    rw [hd] at z2
    cases z2
  · obtain ⟨p1, p2, p3⟩ := I.pin p hp
    refine ⟨p1, out _ p2 fun q => ?_, p3⟩
    have z := (J.pin p hp).1
    rw [q, n] at z
    cases z
  · by_cases q : b = a
    · subst q
      rw [upd_same] at z
      cases z
      exact exq_ok he hz hd
    · rw [upd_ne q] at z
      exact (I.hok b o z).stay (fun c v _ y => y) (fun c y => by rw [upd_ne (ne_of_none y na)]; exact y) fun c xs y => by
        rw [upd_ne (ne_of_none y na)]
        exact y
end
structure Cl where
  c : Value
  i : Option Nat
  ts : Addr → Value → Option Addr → TS
def cutE (i : Option Nat) (D : Ends) : Ends := match i with
  | none => D
  | some i => { nx := fun st H => D.nx (st.set i none) H, rt := D.rt, bk := fun st H => D.bk (st.set i none) H, ct := fun st H => D.ct (st.set i none) H }
def putE (i : Option Nat) (a : Addr) (st : L2.St) : L2.St := match i with
  | none => st
  | some i => st.set i (some (.ref a))
/-- what the clauses wish of an exception of the body -/
def wCl (K : PySem.W.Frag) (Wout : WX) (D : Ends) : List Cl → WX
  | [] => Wout
  | q :: r => fun cls d st H => ∃ b, PySem.W.exmOne K cls q.c = some b ∧ (b = true → ∀ a, H a = none → q.ts a cls d (cutE q.i D) (putE q.i a st) (upd H a (exq a cls d))) ∧ (b = false → wCl K Wout D r cls d st H)
/-- the context of a suite -/
abbrev Cx.sui (X : Cx) (a : Addr) (pn : List (Addr × Obj)) : Cx := { X with A := X.A.mark (some (.ref a)), calm := false, pn := pn, xe := fun _ _ => False }
inductive ClsOk (X : Cx) : List ExceptHandler → List Cl → Prop
  | nil : ClsOk X [] []
  | cons {x : Str} {c : Value} {ts : Addr → Value → Option Addr → TS} {b : PySem.Stmt} {bs : List PySem.Stmt} {np p : Pos} {hs : List ExceptHandler} {l : List Cl} (nm : Option Str) (i : Option Nat) (hc : Names X x c)
      (hn : (nm = none ∧ i = none) ∨ ∃ n j, nm = some n ∧ i = some j ∧ X.N[j]? = some n ∧ X.env.kindOf n = some .local)
      (hb : ∀ (a : Addr) (cls : Value) (d : Option Addr) (pn : List (Addr × Obj)), PSs (Cx.sui X a pn) (b :: bs) (ts a cls d)) (r : ClsOk X hs l) :
      ClsOk X (.ExceptHandler (some (.Name x np)) nm (b :: bs) p :: hs) (⟨c, i, ts⟩ :: l)
section
variable {X : Cx} {pins : List (Addr × Obj)} {Wout : WX} {D : Ends}
theorem sui_of {st : L2.St} {H : Hp} {s : Shared} (I : Inv X pins st H s) (a : Addr) : Inv (Cx.sui X a (X.pn ++ pins)) [] st H s :=
  ⟨I.ok.suite _ _, I.os, I.bare, I.base, I.loc, I.cell, I.free, I.freeC, fun p hp => I.pin p (by simpa using hp), I.hok, I.len⟩
theorem un_sui {st : L2.St} {H : Hp} {s : Shared} {a : Addr} {pn' : List (Addr × Obj)} (I : Inv (Cx.sui X a (X.pn ++ pins)) pn' st H s) (ok : X.Ok) : Inv X pins st H s :=
  ⟨ok, I.os, I.bare, I.base, I.loc, I.cell, I.free, I.freeC, fun p hp => I.pin p (List.mem_append_left _ hp), I.hok, I.len⟩
/-- one after the other -/
theorem clauses_run {sI s' : Shared} {a : Addr} {B h3 : Heap} {st : L2.St} {H : Hp} {cls : Value} {d : Option Addr} (hs : X.stack = X.env :: X.outer) (hf : X.env.frame = some X.env.locals) (hN : X.N.Nodup) (tk : Takes X Wout) (J : Inv X pins st H sI)
    (nb : ∀ b o, sI.heap.get? b = some o → b ∉ frs X.stack → B.get? b = some o) (up : sI.heap.UpToSlots h3) (fl3 : HandSPX.FlyingZ B (X.env :: X.outer) a (Zc cls d) h3) (na : H a = none) (os : s'.os = sI.os) (ag : AllBare s'.gens) :
    ∀ {hds : List ExceptHandler} {l : List Cl}, ClsOk X hds l → wCl X.K Wout D l cls d st H → wpAny (model X.prog X.w) X.A (handleBy (.ref a) X.env hds) (SP X pins D) X.xe { s' with heap := h3 } := by
  have ok := J.ok
  have J3 : Inv X pins st H { s' with heap := h3 } := J.landed nb fl3.1 up os ag
  obtain ⟨oe3, vs3, he3, hz3, hd3⟩ := fl3.there
  have nfr : a ∉ frs (X.env :: X.outer) := fun z => by
    obtain ⟨_, o, e1, e2⟩ := fl3.2.2.1.mem z
    rw [he3] at e1
    cases e1
    exact e2 _ hd3
  have nL : a ≠ X.env.locals := fun z => nfr (List.mem_filterMap.mpr ⟨X.env, by simp, by rw [hf, z]⟩)
  have nI : sI.heap.get? a = none := by
    cases z : sI.heap.get? a with
    | none => rfl
    | some o =>
      have y := nb a o z (by rw [hs]; exact nfr)
      rw [fl3.2.1] at y
      cases y
  intro hds l hk
  induction hk with
  | nil =>
    intro w
    refine wpAny_handleBy_nil ?_
    obtain ⟨_, _, _, oe, vs, T, oT, ts', he, hz, hd, h1, hr⟩ := id fl3
    have fin : wpAny (model X.prog X.w) X.A (setFlight (.ref a) X.env.frame) (fun _ s4 => wpAny (model X.prog X.w) X.A (throw (.ref a) : Sem Flow) (SP X pins D) X.xe s4) X.xe { s' with heap := h3 } := by
      rw [hf]
      exact HandSPX.setFlight_upZ fl3 fun h4 hh4 up4 => wpAny_throw (tk _ _ ⟨a, B, sI, pins, st, H, cls, d, rfl, J, nb, up.trans up4, .inr (.inr (hs ▸ hh4)), na, os, ag, w⟩)
    unfold PySem.passOn
    refine wpAny_bind (wpAny_field he hd h1 ?_)
    have nn : (Value.ref T == Value.none) = false := by simp
    simp only [nn, Bool.false_eq_true, if_false]
    first
      | exact wpAny_bind fin
      | exact wpAny_bind (wpAny_pure (wpAny_bind fin))
  | @cons x c ts b0 bs np p hs2 l2 nm i hc hn hb r ih =>
    intro w
    obtain ⟨b, hb1, hyes, hno⟩ := w
    have LT : PySem.W.Looks (model X.prog X.w) h3 (typeOf (.ref a)) cls := fun A Q E s k q => wpAny_typeOf_ref (k _ _ he3) (by rw [hz3.1]; exact q)
    have LM := PySem.W.exm_one (M := model X.prog X.w) J3.kIn LT hb1
    have test : ∀ {Q : Value → Shared → Prop} {E : Value → Shared → Prop}, Q c { s' with heap := h3 } → wpAny (model X.prog X.w) (X.A.mark (some (.ref a))) (eval (.Name x np) X.env) Q E { s' with heap := h3 } := fun {Q E} q => by
      obtain ⟨hg, hdbg, hm | ⟨hm, hv, hnn⟩⟩ := hc
      · exact ld_glob (X := Cx.sui X a (X.pn ++ pins)) (sui_of J3 a) hg hm q hdbg
      · exact ld_blt (X := Cx.sui X a (X.pn ++ pins)) (sui_of J3 a) hg hm hv q hnn hdbg
    refine wpAny_handleBy_cons (codeAny_handlers_test (test (LM.here ?_))) (by intro q; cases q)
    cases b with
    | false => exact ih (hno rfl)
    | true =>
      have body : ∀ (h4 : Heap), HandSPX.FlyingZ B (X.env :: X.outer) a (Zc cls d) h4 → h3.UpToSlots h4 → Inv X pins st (upd H a (exq a cls d)) { s' with heap := h4 } := fun h4 fl4 up4 => by
        obtain ⟨oe4, vs4, he4, hz4, hd4⟩ := fl4.there
        exact track J nI (J.landed nb fl4.1 (up.trans up4) os ag) he4 hz4 hd4 nL
      have run := hyes rfl a na
      rcases hn with ⟨rfl, rfl⟩ | ⟨n, j, rfl, rfl, hj, hl⟩
      · refine codeAny_handlers_suite (HandSPX.lands_againZ fl3 fun h4 fl4 up4 => ?_)
        refine wpAny_mono ((hb a cls d (X.pn ++ pins)).run [] _ _ _ _ (sui_of (body h4 fl4 up4) a) run) (fun f s6 hsp => ?_) fun _ _ z => z.elim
        cases f with
        | ret u =>
          obtain ⟨v6, st6, H6, S6, r6, q6⟩ := hsp
          exact ⟨v6, st6, H6, un_sui S6 ok, r6, q6⟩
        | _ =>
          obtain ⟨st6, H6, S6, q6⟩ := hsp
          exact ⟨st6, H6, un_sui S6 ok, q6⟩
      · refine codeAny_handlers_suite_as (HandSPX.lands_againZ fl3 fun h4 fl4 up4 => ?_)
        refine store_ok (X := Cx.sui X a (X.pn ++ pins)) (v := .ref a) (sui_of (body h4 fl4 up4) a) hN hj (.inl hl) rfl (fun s5 S5 => ?_) (.inr hl)
        refine wpAny_mono ((hb a cls d (X.pn ++ pins)).run [] s5 _ _ _ S5 run) (fun f s6 hsp => ?_) fun _ _ z => z.elim
        have fin : ∀ {st6 : L2.St} {H6 : Hp} {Q : Shared → Prop}, Inv (Cx.sui X a (X.pn ++ pins)) [] st6 H6 s6 → (∀ s7, Inv X pins (st6.set j none) H6 s7 → Q s7) →
            wpAny (model X.prog X.w) X.A (do bindName X.env n .none; unbindBehindTheSuite X.env n p) (fun _ s7 => Q s7) X.xe s6 := fun {st6 H6 Q} S6 hq => gone_ok (un_sui S6 ok) hN hj hl hq
        cases f with
        | ret u =>
          obtain ⟨v6, st6, H6, S6, r6, q6⟩ := hsp
          exact fin S6 fun s7 J7 => ⟨v6, _, H6, J7, r6, q6⟩
        | _ =>
          obtain ⟨st6, H6, S6, q6⟩ := hsp
          exact fin S6 fun s7 J7 => ⟨_, H6, J7, q6⟩
/-- try: .. except ..: .. -/
theorem ps_tr {body : List PySem.Stmt} {h0 : ExceptHandler} {hds : List ExceptHandler} {l : List Cl} {pos : Pos} {tb : WX → TS} (hs : X.stack = X.env :: X.outer) (hf : X.env.frame = some X.env.locals) (hN : X.N.Nodup) (tk : Takes X Wout)
    (hb : ∀ (W : WX) (pn : List (Addr × Obj)) (xe : Value → Shared → Prop), Takes (X.tr pn xe) W → PassesOwn (model X.prog X.w) X.A X.env xe → PSs (X.tr pn xe) body (tb W)) (hh : ClsOk X (h0 :: hds) l) :
    PS X (.Try body (h0 :: hds) [] [] pos) (fun D st H => tb (wCl X.K Wout D l) D st H) := by
  refine ⟨fun pins s st H D I h => ?_⟩
  have ok := I.ok
  let xe : Value → Shared → Prop := fun e s1 => wpAny (model X.prog X.w) X.A (noteFrame e X.env) (fun _ s2 => wpAny (model X.prog X.w) X.A (setFlight e none) (fun _ s3 =>
    wpAny (model X.prog X.w) X.A (handleBy e X.env (h0 :: hds)) (SP X pins D) X.xe s3) X.xe s2) X.xe s1
  have tk1 : Takes (X.tr (X.pn ++ pins) xe) (wCl X.K Wout D l) := fun u s' xx => by
    obtain ⟨a, B, sI, pins', st', H', cls, d, rfl, J', nb, up, sky, na, os, ag, w⟩ := xx
    have sky' : Sky B (X.env :: X.outer) a (Zc cls d) X.env.locals s'.heap := hs ▸ sky
    exact Sky.land Zc.steady (by rw [ok.frames, hs]) hf sky' fun h3 fl3 up3 => clauses_run hs hf hN tk (J'.ofTry ok) nb (up.trans up3) fl3 na os ag hh w
  refine wpAny_Try_except (wpAny_mono ((hb _ _ xe tk1 PassesOwn.looking).run [] s st H D (I.toTry _) h) (fun f s1 hsp => ?_) fun e s1 he => he)
  cases f with
  | next =>
    obtain ⟨st', H', J', q⟩ := hsp
    exact wpAny_execs_nil ⟨st', H', J'.ofTry ok, q⟩
  | ret u =>
    obtain ⟨v, st', H', J', r, q⟩ := hsp
    exact ⟨v, st', H', J'.ofTry ok, r, q⟩
  | _ =>
    obtain ⟨st', H', J', q⟩ := hsp
    exact ⟨st', H', J'.ofTry ok, q⟩
end
end Bd
namespace Bd
open PySem PySem.Spec PyProof.Rows L2
section
variable {G : Gn} {c : Ct} {pos : Pos}
theorem excN_some {T : Tb} {k m : Nat} (h : excN T k m = true) : ∃ d, T.cl.lookup k = some d ∧ d.kind = 2 ∧ d.flds.length = m := by
  unfold excN at h
  cases q : T.cl.lookup k with
  | none => rw [q] at h; cases h
  | some d =>
    rw [q] at h
    simp only [Bool.and_eq_true, decide_eq_true_eq] at h
    exact ⟨d, rfl, h.1, h.2⟩
/-- a new dict of an exception, frozen -/
theorem xrep_new {L : Lay} {wd : Wd} {s : Sto} {k : Nat} {fl : List Nat} {vs : List V} {ds : List D} {d : Addr} (k0 : WdOk L wd s) (hf : L.flds k = fl) (is : IsAll L wd.F wd.mu vs ds) (hl : ds.length = fl.length) (hd : wd.H d = none) :
    Ext wd ⟨upd wd.F d (.xd ((fl.map L.nm).zip vs)), wd.mu, upd wd.H d (.xd ((fl.map L.nm).zip vs))⟩ ∧ WdOk L ⟨upd wd.F d (.xd ((fl.map L.nm).zip vs)), wd.mu, upd wd.H d (.xd ((fl.map L.nm).zip vs))⟩ s ∧
    XRep L ⟨upd wd.F d (.xd ((fl.map L.nm).zip vs)), wd.mu, upd wd.H d (.xd ((fl.map L.nm).zip vs))⟩ (some d) k ds := by
  have x := Ext.frozen (o := .xd ((fl.map L.nm).zip vs)) k0 hd
  have hl2 : vs.length = (fl.map L.nm).length := by rw [is.length, hl, List.length_map]
  refine ⟨x, k0.frozen hd, .inl ⟨d, _, rfl, upd_same, ?_, ?_⟩⟩
  · rw [hf, List.map_fst_zip (by omega)]
  · rw [List.map_snd_zip (by omega)]
    exact is.ext x
theorem st_rse {x : Str} {k : Nat} {p p2 : Pos} {es : List PySem.Expr} {xs : List E} (hc : c.calm = true) (hg : globB c.sc x = true) (hp : plainN x = true) (hk : G.cl.lookup x = some k) (ha : ASnd G c es xs) :
    SSnd G c (.Raise (some (.Call (.Name x p) es [] p2)) none pos) [.rse k xs] := fun T n L X gd W tk po => by
  obtain ⟨hst, hln, ha⟩ := ha
  obtain ⟨ta, p1, q1⟩ := ha T n L X gd W tk
  by_cases hd : ∃ d, T.cl.lookup k = some d ∧ d.kind = 2
  · obtain ⟨d, hd1, hd2⟩ := hd
    obtain ⟨fI, B, newId, i, bmB, fd, S⟩ := (gd.xc.xcl k d hd1 hd2).mkx
    have hfl := (gd.xc.xcl k d hd1 hd2).fl
    have hr : Room (0 + 1) X.A := (gd.room hc).mono (by omega)
    have hm := (gd.cls x k hk).1
    have main : ∀ (t : TA), (∀ g s wd0 wd st Q, WdOk L wd s → Slots L wd0 wd st g → RPost L wd (WE W st) (AllP L Q) (evEs T (callsAt T n) xs g s) → t st wd.H Q) → PMk X (.Call (.Name x p) es [] p2) (tMkS (L.ca k) (d.flds.map L.nm) t) →
        ∃ ts, PS X (.Raise (some (.Call (.Name x p) es [] p2)) none pos) ts ∧ ∀ w g s wd0 wd st D, Ext wd0 wd → WdOk L wd s → Slots L wd0 wd st g → SPost L wd0 wd W D (evSs T (callsAt T n) w [.rse k xs] g s) → ts D st wd.H := fun t qt pm => by
      refine ⟨_, ps_raise (gd.hcalm.trans hc) tk pm, fun w g s wd0 wd st D x0 k0 sl h => ?_⟩
      rw [evSs_one] at h
      unfold evS at h
      have h : SPost L wd0 wd W D ((evEs T (callsAt T n) xs g s).fl g fun ds s => if excN T k ds.length = true then .ex k ds g s else .no) := by
        split at h
        · exact h
        · exact False.elim h
      refine qt g s wd0 wd st _ k0 sl ((fl_post x0 sl h).mono fun ds s1 wd1 x1 k1 r1 vs is => ?_)
      split at r1
      · rename_i hx
        obtain ⟨d', e1, e2, e3⟩ := excN_some hx
        rw [hd1] at e1
        cases e1
        refine ⟨by rw [is.length, List.length_map, e3], fun hz => ?_, fun hz d0 hd0 => ?_⟩
        · have hfz : d.flds = [] := List.map_eq_nil_iff.mp hz
          have hds : ds = [] := List.eq_nil_of_length_eq_zero (by rw [← e3, hfz]; rfl)
          exact r1 wd1 none st (x0.trans x1) (Lat.refl _) k1 (sl.ext x1) (.inr ⟨by rw [hfl, hfz], rfl, hds⟩)
        · obtain ⟨y1, y2, y3⟩ := xrep_new (k := k) k1 hfl is e3.symm hd0
          exact r1 _ (some d0) st ((x0.trans x1).trans y1) y1.lat y2 ((sl.ext x1).ext y1) y3
      · exact False.elim r1
    cases es with
    | nil =>
      have hx0 : xs = [] := List.eq_nil_of_length_eq_zero (by rw [← hln]; rfl)
      subst hx0
      refine main tNil (fun g s wd0 wd st Q k0 sl r => ?_) (pmk_sup0 S hr gd.xc.mgs (glob_of gd hg) hm (pn1 hp))
      unfold evEs at r
      exact r.now k0 [] .nil
    | cons e es => exact main ta q1 (pmk_sup S hr gd.xc.mgs (glob_of gd hg) hm p1 hst (pn1 hp))
  · refine ⟨_, ps_never, fun w g s wd0 wd st D x0 k0 sl h => ?_⟩
    rw [evSs_one] at h
    unfold evS at h
    split at h
    · rename_i hx
      obtain ⟨d, e1, e2, _⟩ := excN_some hx
      exact absurd ⟨d, e1, e2⟩ hd
    · exact h
def ssS (T : Tb) (n : Nat) (L : Lay) (W : WX) (xs : List ST) : TS := fun D st H => ∃ w g s wd0 wd, wd.H = H ∧ Ext wd0 wd ∧ WdOk L wd s ∧ Slots L wd0 wd st g ∧ SPost L wd0 wd W D (evSs T (callsAt T n) w xs g s)
theorem SsSnd.pss {sms : List PySem.Stmt} {xs : List ST} (h : SsSnd G c sms xs) {T : Tb} {n : Nat} {L : Lay} {X : Cx} (gd : Gd G T n L c X) {W : WX} (tk : Takes X W) (po : PassesOwn (model X.prog X.w) X.A X.env X.xe) : PSs X sms (ssS T n L W xs) := by
  obtain ⟨ts, p, q⟩ := h T n L X gd W tk po
  refine ⟨fun pins s st H D I hq => ?_⟩
  obtain ⟨w, g, sto, wd0, wd, rfl, x, k, sl, r⟩ := hq
  exact p.run pins s st wd.H D I (q w g sto wd0 wd st D x k sl r)
theorem Gd.tr {T : Tb} {n : Nat} {L : Lay} {X : Cx} (gd : Gd G T n L c X) (pn : List (Addr × Obj)) (xe : Value → Shared → Prop) : Gd G T n L c (X.tr pn xe) :=
  ⟨gd.hK, gd.hN, gd.nd, gd.hsc, gd.hcalm, gd.hfn, gd.room, gd.un, gd.gu, gd.sysm, gd.ctv, gd.fre, gd.fns, gd.cls, gd.nmi, gd.nmn, gd.nsp, gd.clf, gd.xc, gd.stk, gd.call⟩
theorem Gd.sui {T : Tb} {n : Nat} {L : Lay} {X : Cx} (gd : Gd G T n L c X) (a : Addr) (pn : List (Addr × Obj)) : Gd G T n L { c with calm := false } (Cx.sui X a pn) :=
  ⟨gd.hK, gd.hN, gd.nd, gd.hsc, rfl, gd.hfn, fun h => (by cases h), gd.un, gd.gu, gd.sysm, gd.ctv, gd.fre, gd.fns, gd.cls, gd.nmi, gd.nmn, gd.nsp, gd.clf, gd.xc, gd.stk, gd.call⟩
inductive HSnd (G : Gn) (c : Ct) : List ExceptHandler → List ST → Prop
  | nil : HSnd G c [] []
  | cons {x : Str} {k : Nat} {nm : Option Str} {i : Option Nat} {b : PySem.Stmt} {bs : List PySem.Stmt} {np p : Pos} {hs : List ExceptHandler} {l xs : List ST} (hg : globB c.sc x = true) (hp : plainN x = true) (hk : G.cl.lookup x = some k)
      (hn : (nm = none ∧ i = none) ∨ ∃ n j, nm = some n ∧ i = some j ∧ c.N[j]? = some n ∧ c.sc.names.lookup n = some .local) (hb : SsSnd G { c with calm := false } (b :: bs) xs) (r : HSnd G c hs l) :
      HSnd G c (.ExceptHandler (some (.Name x np)) nm (b :: bs) p :: hs) (.cls k i xs :: l)
def clOf (T : Tb) (n : Nat) (L : Lay) : List ST → List Cl
  | .cls k i xs :: r => ⟨.ref (L.ca k), i, fun _ _ _ => ssS T n L (fun _ _ _ _ => False) xs⟩ :: clOf T n L r
  | _ => []
theorem HSnd.ok {hs : List ExceptHandler} {l : List ST} (h : HSnd G c hs l) {T : Tb} {n : Nat} {L : Lay} {X : Cx} (gd : Gd G T n L c X) : ClsOk X hs (clOf T n L l) := by
  induction h with
  | nil => exact .nil
  | @cons x k nm i b bs np p hs l xs hg hp hk hn hb r ih =>
    unfold clOf
    refine .cons nm i ?_ ?_ (fun a cls d pn => ?_) ih
    · exact ⟨glob_of gd hg, pn1 hp, .inl (gd.cls x k hk).1⟩
    · rcases hn with hn | ⟨n0, j, h1, h2, h3, h4⟩
      · exact .inl hn
      · refine .inr ⟨n0, j, h1, h2, by rw [gd.hN]; exact h3, ?_⟩
        show X.env.scope.names.lookup n0 = some .local
        rw [gd.hsc]
        exact h4
    · exact hb.pss (gd.sui a pn) (fun u s' xx => by
        obtain ⟨_, _, _, _, _, _, _, _, _, _, _, _, _, _, _, _, w⟩ := xx
        exact w) PassesOwn.never
theorem Fl.cut_post {L : Lay} {wd0 wd : Wd} {W : WX} {D : Ends} {i : Option Nat} {r : Fl} (h : SPost L wd0 wd W D (r.cut i)) : SPost L wd0 wd (fun _ _ _ _ => False) (cutE i D) r := by
  cases i with
  | none => cases r <;> first | exact h | exact False.elim h
  | some j =>
    cases r with
    | nx g s => exact fun wd' st x l k sl => h wd' _ x l k sl.drop
    | bk g s => exact fun wd' st x l k sl => h wd' _ x l k sl.drop
    | ct g s => exact fun wd' st x l k sl => h wd' _ x l k sl.drop
    | rt d s => exact h
    | ex k xs g s => exact False.elim h
    | no => exact h
theorem isExc_some {T : Tb} {k h : Nat} {b : Bool} (e : isExc T k h = some b) : ∃ d d', T.cl.lookup k = some d ∧ d.kind = 2 ∧ T.cl.lookup h = some d' ∧ 2 ≤ d'.kind ∧ b = (decide (k = h) || d.sup.contains h) := by
  unfold isExc at e
  split at e
  · rename_i d d' h1 h2
    split at e
    · rename_i h3
      rw [Bool.and_eq_true, decide_eq_true_eq, decide_eq_true_eq] at h3
      cases e
      exact ⟨d, d', h1, h3.1, h2, h3.2, rfl⟩
    · cases e
  · cases e
/-- the exception that a clause takes, among the frozen ones -/
theorem caught {L : Lay} {wd : Wd} {s : Sto} {k : Nat} {ds : List D} {d : Option Addr} {a : Addr} (k0 : WdOk L wd s) (xr : XRep L wd d k ds) (ha : wd.H a = none) :
    Ext wd ⟨upd wd.F a (exq a (.ref (L.ca k)) d), wd.mu, upd wd.H a (exq a (.ref (L.ca k)) d)⟩ ∧ WdOk L ⟨upd wd.F a (exq a (.ref (L.ca k)) d), wd.mu, upd wd.H a (exq a (.ref (L.ca k)) d)⟩ s ∧
    Is L (upd wd.F a (exq a (.ref (L.ca k)) d)) wd.mu (.ref a) (.exn k ds) := by
  have x := Ext.frozen (o := exq a (.ref (L.ca k)) d) k0 ha
  refine ⟨x, k0.frozen ha, ?_⟩
  rcases xr with ⟨d0, fs, rfl, h1, h2, h3⟩ | ⟨h1, rfl, rfl⟩
  · exact .exn upd_same (x.fle _ _ h1) h2 (h3.ext x)
  · exact .exz upd_same h1
theorem handlers {T : Tb} {n : Nat} {L : Lay} {X : Cx} (gd : Gd G T n L c X) {W : WX} {Dn : Ends} {w : Nat} {k : Nat} {ds : List D} : ∀ {l : List ST} {hs : List ExceptHandler}, HSnd G c hs l → ∀ {g : En} {s : Sto} {wd0 wd : Wd} {st : L2.St} {d : Option Addr}, Ext wd0 wd → WdOk L wd s → Slots L wd0 wd st g → XRep L wd d k ds →
    SPost L wd0 wd W Dn (evHs T (callsAt T n) w l k ds g s) → wCl X.K W Dn (clOf T n L l) (.ref (L.ca k)) d st wd.H := by
  intro l hs hh
  induction hh with
  | nil =>
    intro g s wd0 wd st d x k0 sl xr h
    unfold evHs at h
    exact h wd d st x (Lat.refl _) k0 sl xr
  | @cons x0 k1 nm i b bs np p hs l xs hg hp hk hn hb r ih =>
    intro g s wd0 wd st d x k0 sl xr h
    unfold evHs at h
    split at h
    · rename_i e
      obtain ⟨dk, dh, e1, e2, e3, e4, e5⟩ := isExc_some e
      unfold clOf wCl
      refine ⟨true, ?_, fun _ a ha => ?_, fun z => by cases z⟩
      · rw [(gd.xc.xcl k dk e1 e2).exm k1 dh e3 e4, ← e5]
      · obtain ⟨g', eg, h2⟩ := optF_post h
        obtain ⟨y1, y2, y3⟩ := caught (k := k) k0 xr ha
        have sl2 := sl.ext y1
        refine ⟨w, g', s, wd0, _, rfl, x.trans y1, y2, ?_, Fl.cut_post (SPost.shift y1.lat h2)⟩
        cases i with
        | none =>
          cases eg
          exact sl2
        | some j =>
          unfold putX at eg
          simp only at eg
          split at eg
          · rename_i hj
            cases eg
            exact sl2.put hj y3
          · cases eg
    · rename_i e
      obtain ⟨dk, dh, e1, e2, e3, e4, e5⟩ := isExc_some e
      unfold clOf wCl
      refine ⟨false, ?_, fun z => (by cases z), fun _ => ih x k0 sl xr h⟩
      rw [(gd.xc.xcl k dk e1 e2).exm k1 dh e3 e4, ← e5]
    · exact False.elim h
theorem st_tr {body : List PySem.Stmt} {xs hs : List ST} {h0 : ExceptHandler} {hds : List ExceptHandler} (hblk : c.blk = none) (hb : SsSnd G c body xs) (hh : HSnd G c (h0 :: hds) hs) : SSnd G c (.Try body (h0 :: hds) [] [] pos) [.tr xs hs] := fun T n L X gd W tk po => by
  obtain ⟨h1, h2⟩ := gd.stk hblk
  refine ⟨_, ps_tr (tb := fun W => ssS T n L W xs) h1 h2 gd.nd tk (fun W' pn xe tk' po' => hb.pss (gd.tr pn xe) tk' po') (hh.ok gd), fun w g s wd0 wd st D x k sl h => ?_⟩
  rw [evSs_one] at h
  unfold evS at h
  refine ⟨w, g, s, wd0, wd, rfl, x, k, sl, ?_⟩
  cases e : evSs T (callsAt T n) w xs g s with
  | ex k1 ds g' s' =>
    rw [e] at h
    intro wd' a st' x' l' k' sl' xr
    exact handlers gd hh x' k' sl' xr (SPost.shift l' h)
  | _ => rw [e] at h; exact h
theorem s_atx {a : PySem.Expr} {x : E} {nm : Str} {m : Nat} (hm : G.nm[m]? = some nm) (hb : plainBase a = true) (ha : ESnd G c a x) : ESnd G c (.Attribute a nm pos) (.atx m x) := fun T n L X gd W tk => by
  obtain ⟨ta, p1, q1⟩ := ha T n L X gd W tk
  have en := gd.nmn m nm hm
  subst en
  refine ⟨fun st H Q => ta st H fun v H1 => ∃ (q : Addr) (k : Nat) (cd : CD) (dd : Addr) (fs : List (Str × V)) (u : V), v = .ref q ∧ T.cl.lookup k = some cd ∧ cd.kind = 2 ∧ m ∈ cd.flds ∧ H1 q = some (exq q (.ref (L.ca k)) (some dd)) ∧ H1 dd = some (.xd fs) ∧ fs.lookup (L.nm m) = some u ∧ Q u H1, ⟨fun pins s st H Q I h => ?_⟩, fun g s wd0 wd st Q k sl r => ?_⟩
  · refine attr_of (base_eq hb) (thn (p1.run pins s st H _ I h) fun u s1 ⟨v, H1, I1, rx, q, k, cd, dd, fs, u0, ex, e1, e2, e3, ea, ed, l, qq⟩ => ?_)
    subst ex
    obtain rfl : u = Value.ref q := rx
    have F := gd.xc.xcl k cd e1 e2
    obtain ⟨fI, B, newId, i, bmB, fd, S⟩ := F.mkx
    obtain ⟨oe, vs, ha, h1, h2, hd⟩ := exq_at I1.hok ea
    have hx : ObjOk X.prog X.w H1 s1.heap dd (.xd fs) := I1.hok dd _ ed
    obtain ⟨mA, hns, hr⟩ := hx
    obtain ⟨od, ho, hl⟩ := lookIn_ns hns
    obtain ⟨u, hu, ru⟩ := RelO.some_of (v := u0) (o := mA (L.nm m)) (by rw [← l]; exact hr _)
    have J : PySem.W.InstAt s1.heap q oe (L.ca k) (some od) := ⟨ha, h1, by unfold PySem.W.notCls; rw [hd] <;> rfl, by rw [h2]; exact ho⟩
    exact HandSPX.exc_get I1.kIn J F.ga F.gg S.exC (PySem.W.findObj_own S.hdt (F.no m e3) rfl (by rw [hl, hu])) (handed_of ru) ⟨u0, H1, I1.tok _, ru, qq⟩
  · unfold evE at r
    refine q1 g s wd0 wd st _ k sl (r.bind.mono fun d s1 wd1 x1 k1 r1 v i => ?_)
    cases d with
    | exn k2 ds =>
      simp only at r1
      split at r1
      · rename_i cd hcd
        split at r1
        · rename_i hkd
          obtain ⟨y, e1, r2⟩ := RPost.opt k1 r1
          have hfl := (gd.xc.xcl k2 cd hcd hkd).fl
          have key : ∀ {ks : List Nat} {fs : List (Str × V)} {ds : List D}, fs.map (·.1) = ks.map L.nm → IsAll L wd1.F wd1.mu (fs.map (·.2)) ds → lookK m ks ds = some y → m ∈ ks ∧ ∃ u, fs.lookup (L.nm m) = some u ∧ Is L wd1.F wd1.mu u y := by
            intro ks
            induction ks with
            | nil => intro fs ds h1 h2 h3; simp [lookK] at h3
            | cons k3 ks ih =>
              intro fs ds h1 h2 h3
              cases fs with
              | nil => cases h1
              | cons f fs =>
                obtain ⟨f1, f2⟩ := f
                simp only [List.map_cons, List.cons.injEq] at h1
                cases h2 with
                | cons i1 i2 =>
                  unfold lookK at h3
                  split at h3
                  · rename_i hq
                    cases h3
                    subst hq
                    refine ⟨List.mem_cons_self, f2, ?_, i1⟩
                    simp [List.lookup, h1.1]
                  · rename_i hq
                    obtain ⟨z1, u, z2, z3⟩ := ih h1.2 i2 h3
                    refine ⟨List.mem_cons_of_mem _ z1, u, ?_, z3⟩
                    have ne : (L.nm m == f1) = false := by
                      rw [beq_eq_false_iff_ne, h1.1]
                      exact fun z => hq (gd.nmi _ _ z).symm
                    simp only [List.lookup, ne]
                    exact z2
          cases i with
          | exn h1 h2 h3 h4 =>
            rename_i q0 dd fs
            rw [hfl] at h3
            obtain ⟨z1, u, z2, z3⟩ := key h3 h4 e1
            exact ⟨q0, k2, cd, dd, fs, u, rfl, hcd, hkd, z1, k1.sub _ _ h1, k1.sub _ _ h2, z2, r2 u z3⟩
          | exz h1 h2 =>
            rw [← hfl, h2] at e1
            simp [lookK] at e1
        · exact False.elim r1
      · exact False.elim r1
    | _ => exact False.elim r1
/-- a built-in exception class, by its name -/
def xbOf (x : Str) : Option (Nat × String) := if x = "ValueError" then some (9001, "ValueError") else if x = "LookupError" then some (9002, "LookupError") else none
theorem xbOf_mem {x : Str} {p : Nat × String} (h : xbOf x = some p) : p ∈ xbN ∧ 9000 ≤ p.1 := by
  unfold xbOf at h
  split at h
  · cases h; exact ⟨by decide, by decide⟩
  · split at h
    · cases h; exact ⟨by decide, by decide⟩
    · cases h
theorem xbOf_boot {x : Str} {p : Nat × String} (h : xbOf x = some p) : bootBuiltins x = some (.type p.2) ∧ x ≠ "__name__" ∧ (x == ("__debug__" : Str)) = false := by
  unfold xbOf at h
  split at h
  · rename_i e; subst e; cases h; refine ⟨by decide +kernel, by decide +kernel, by decide +kernel⟩
  · split at h
    · rename_i e; subst e; cases h; refine ⟨by decide +kernel, by decide +kernel, by decide +kernel⟩
    · cases h
def XNm (G : Gn) (c : Ct) (x : Str) (m : Nat) : Prop := globB c.sc x = true ∧ plainN x = true ∧ ((∃ p, xbOf x = some p ∧ p.1 = m ∧ x ∈ G.fre) ∨ (G.cl.lookup x = some m ∧ m < 9000))
/-- isinstance(e, c), e an exception -/
def rIsX (K : PySem.W.Frag) : List V → Hp → VK → Prop := fun xs H Q => ∃ (a D : Addr) (d : Option Addr) (c : V) (cv : Value) (b : Bool), xs = [.ref a, c] ∧ (∀ u, RelV c u → u = cv) ∧ H a = some (exq a (.ref D) d) ∧ (∀ dd, d = some dd → ∃ fs, H dd = some (.xd fs)) ∧
  (PySem.W.clsIn K D).isSome = true ∧ PySem.W.findIn K (.ref D) "__getattribute__" = some (some (.builtin "BaseException.__getattribute__")) ∧ PySem.W.findIn K (.ref D) "__getattr__" = some none ∧ PySem.W.subIn K (.ref D) (.type "BaseException") = some true ∧
  PySem.W.findIn K (.ref D) "__class__" = some (some (.builtin "object.__class__")) ∧ PySem.W.specialIn K (.builtin "object.__class__") "__get__" = some (some (.builtin "getset_descriptor.__get__")) ∧ PySem.W.takesIn K (.builtin "object.__class__") = some true ∧ PySem.W.mroIn K D (.type "object") = some true ∧
  PySem.W.kitOne K (.ref D) cv = some b ∧ Q (.bl b) H
theorem call_isX {X : Cx} : CallR X (.builtin "isinstance") (rIsX X.K) := by
  intro pins s σ H xs us Q I r h
  obtain ⟨a, D, d, c, cv, b, rfl, hcv, ea, ed, k0, k1, k2, k3, k4, k5, k6, k7, e, q⟩ := h
  cases r with
  | cons rx rr =>
    cases rr with
    | cons rt rr =>
      cases rr
      cases rx
      have ec := hcv _ rt
      subst ec
      obtain ⟨oe, vs, ha, h1, h2, hd⟩ := exq_at I.hok ea
      have J : ∃ od, PySem.W.InstAt s.heap a oe D od := by
        cases d with
        | none => exact ⟨none, ha, h1, by unfold PySem.W.notCls; rw [hd] <;> rfl, by rw [h2]; trivial⟩
        | some dd =>
          obtain ⟨fs, hx⟩ := ed dd rfl
          obtain ⟨mA, hns, _⟩ := (show ObjOk X.prog X.w H s.heap dd (.xd fs) from I.hok dd _ hx)
          obtain ⟨od, ho, _⟩ := lookIn_ns hns
          exact ⟨some od, ha, h1, by unfold PySem.W.notCls; rw [hd] <;> rfl, by rw [h2]; exact ho⟩
      obtain ⟨od, J⟩ := J
      exact PySem.W.kia_one (PySem.W.kitx_exc k0 k1 k2 k3 k4 k5 k6 k7) I.kIn J e (fun z => nomatch z) fun tk => ⟨.bl b, H, I.kept (t' := tk) fun _ _ z => z, rfl, q⟩
theorem s_isx {a : PySem.Expr} {x : E} {x2 : Str} {m : Nat} {p p2 : Pos} (hg : globB c.sc "isinstance" = true) (hf : ("isinstance" : Str) ∈ G.fre) (ha : ESnd G c a x) (hs : noStar a = true) (ht : XNm G c x2 m) :
    ESnd G c (.Call (.Name "isinstance" p) [a, .Name x2 p2] [] pos) (.isx x m) := fun T n L X gd W tk => by
  obtain ⟨ta, p1, q1⟩ := ha T n L X gd W tk
  obtain ⟨h1, h2, h3⟩ := ht
  obtain ⟨v2, u2, p3, cv, cb⟩ : ∃ v u, PE X (.Name x2 p2) (tC v) ∧ (∀ w, RelV v w → w = u) ∧ ((∃ p, xbOf x2 = some p ∧ p.1 = m ∧ u = .type p.2) ∨ (m < 9000 ∧ u = .ref (L.ca m))) := by
    rcases h3 with ⟨pp, h4, h5, h6⟩ | ⟨h4, h5⟩
    · obtain ⟨z1, z2, z3⟩ := xbOf_boot h4
      exact ⟨.ty pp.2, _, pe_bltn (glob_of gd h1) (gd.fre x2 h6) z1 rfl z2 z3, fun w h => h, .inl ⟨pp, h4, h5, rfl⟩⟩
    · exact ⟨.ref (L.ca m), _, pe_glob (glob_of gd h1) (gd.cls x2 m h4).1 rfl (pn1 h2), fun w h => h, .inr ⟨h5, rfl⟩⟩
  refine ⟨_, pe_callB call_isX (glob_of gd hg) (gd.fre _ hf) isi_name (pa_cons p1 (pa_cons p3 pa_nil (star_cons rfl)) (star_cons hs)) (by decide +kernel) (by decide +kernel) (star_cons hs) (star_any (by rfl)), fun g s wd0 wd st Q k sl r => ?_⟩
  unfold evE at r
  refine q1 g s wd0 wd st _ k sl (r.bind.mono fun d s1 wd1 x1 k1 r1 v i => ?_)
  cases d with
  | exn k2 ds =>
    obtain ⟨b, e1, r2⟩ := RPost.opt k1 r1.bind
    have q := r2.now k1 _ (.bl _)
    unfold isX at e1
    split at e1
    · rename_i cd hcd
      obtain ⟨hh, e2⟩ := ite_some e1
      · rw [Bool.and_eq_true, decide_eq_true_eq, Bool.or_eq_true, decide_eq_true_eq] at hh
        subst e2
        have F := gd.xc.xcl k2 cd hcd hh.1
        obtain ⟨fI, B, newId, i0, bmB, fd, S⟩ := F.mkx
        have hcl : (PySem.W.clsIn X.K (L.ca k2)).isSome = true := by
          obtain ⟨cd', hc', _⟩ := PySem.W.any_some S.hdt
          rw [hc']
          rfl
        have kit : PySem.W.kitOne X.K (.ref (L.ca k2)) u2 = some (decide (k2 = m) || cd.sup.contains m) := by
          rcases cb with ⟨pp, h4, h5, rfl⟩ | ⟨h5, rfl⟩
          · obtain ⟨z1, z2⟩ := xbOf_mem h4
            rw [← h5]
            exact F.kib pp z1
          · rcases hh.2 with z | z
            · omega
            · split at z
              · rename_i e he
                exact F.kit m e he (of_decide_eq_true z)
              · cases z
        have fin : ∀ (q0 : Addr) (dd : Option Addr), wd1.H q0 = some (exq q0 (.ref (L.ca k2)) dd) → (∀ d1, dd = some d1 → ∃ fs, wd1.H d1 = some (.xd fs)) → rIsX X.K [.ref q0, v2] wd1.H Q := fun q0 dd z1 z2 =>
          ⟨q0, L.ca k2, dd, v2, u2, _, rfl, cv, z1, z2, hcl, F.ga, F.gg, S.exC, F.c1, F.c2, F.c3, F.c4, kit, q⟩
        cases i with
        | exn g1 g2 g3 g4 => exact fin _ _ (k1.sub _ _ g1) fun d1 e => (by cases e; exact ⟨_, k1.sub _ _ g2⟩)
        | exz g1 g2 => exact fin _ _ (k1.sub _ _ g1) fun d1 e => (by cases e)
    · cases e1
  | _ => exact False.elim r1
theorem pe_mkx {X : Cx} {e : PySem.Expr} {t : L2.St → Hp → XK → Prop} (h : PMk X e t) : PE X e (fun st H Q => t st H fun cls d H' => ∀ a, H' a = none → Q (.ref a) (upd H' a (exq a cls d))) := by
  refine ⟨fun pins s st H Q I hq => thn (h pins s st H _ I hq) fun u s1 hu => ?_⟩
  obtain ⟨a, oe, vs, sI, H', cls, d, rfl, J, k, hne, ha, hz, hd, h1, na, os, ag, r, q⟩ := hu
  have J1 := J.kept (h' := s1.heap) (t' := s1.toks) k
  have J2 : Inv X pins st H' s1 := ⟨J1.ok, os.trans J.os, ag, J1.base, J1.loc, J1.cell, J1.free, J1.freeC, J1.pin, J1.hok, J1.len⟩
  have nL : a ≠ X.env.locals := fun z => by
    obtain ⟨m, hm, _⟩ := J.loc
    obtain ⟨o, es, ep, e1, _⟩ := hm
    rw [← z, hne] at e1
    cases e1
  exact ⟨.ref a, _, track J hne J2 ha hz hd nL, rfl, q a na⟩
theorem s_mkx {x : Str} {k : Nat} {p : Pos} {es : List PySem.Expr} {xs : List E} (hc : c.calm = true) (hg : globB c.sc x = true) (hp : plainN x = true) (hk : G.cl.lookup x = some k) (ha : ASnd G c es xs) :
    ESnd G c (.Call (.Name x p) es [] pos) (.mkx k xs) := fun T n L X gd W tk => by
  obtain ⟨hst, hln, ha⟩ := ha
  obtain ⟨ta, p1, q1⟩ := ha T n L X gd W tk
  by_cases hd : ∃ d, T.cl.lookup k = some d ∧ d.kind = 2
  · obtain ⟨d, hd1, hd2⟩ := hd
    obtain ⟨fI, B, newId, i, bmB, fd, S⟩ := (gd.xc.xcl k d hd1 hd2).mkx
    have hfl := (gd.xc.xcl k d hd1 hd2).fl
    have hr : Room (0 + 1) X.A := (gd.room hc).mono (by omega)
    have hm := (gd.cls x k hk).1
    have main : ∀ (t : TA), (∀ g s wd0 wd st Q, WdOk L wd s → Slots L wd0 wd st g → RPost L wd (WE W st) (AllP L Q) (evEs T (callsAt T n) xs g s) → t st wd.H Q) → PMk X (.Call (.Name x p) es [] pos) (tMkS (L.ca k) (d.flds.map L.nm) t) →
        ∃ te, PE X (.Call (.Name x p) es [] pos) te ∧ ∀ g s wd0 wd st Q, WdOk L wd s → Slots L wd0 wd st g → RPost L wd (WE W st) (VP L Q) (evE T (callsAt T n) (.mkx k xs) g s) → te st wd.H Q := fun t qt pm => by
      refine ⟨_, pe_mkx pm, fun g s wd0 wd st Q k0 sl h => ?_⟩
      unfold evE at h
      have h : RPost L wd (WE W st) (VP L Q) ((evEs T (callsAt T n) xs g s).bind fun ds s => if excN T k ds.length = true then .ok (.exn k ds) s else .no) := by
        split at h
        · exact h
        · exact False.elim h
      refine qt g s wd0 wd st _ k0 sl (h.bind.mono fun ds s1 wd1 x1 k1 r1 vs is => ?_)
      split at r1
      · rename_i hx
        obtain ⟨d', e1, e2, e3⟩ := excN_some hx
        rw [hd1] at e1
        cases e1
        refine ⟨by rw [is.length, List.length_map, e3], fun hz a ha => ?_, fun hz d0 hd0 a ha => ?_⟩
        · have hfz : d.flds = [] := List.map_eq_nil_iff.mp hz
          have hds : ds = [] := List.eq_nil_of_length_eq_zero (by rw [← e3, hfz]; rfl)
          obtain ⟨y1, y2, y3⟩ := caught (k := k) (ds := ds) (d := none) k1 (.inr ⟨by rw [hfl, hfz], rfl, hds⟩) ha
          exact r1 _ y1 y2 _ y3
        · obtain ⟨y1, y2, y3⟩ := xrep_new (k := k) k1 hfl is e3.symm hd0
          obtain ⟨z1, z2, z3⟩ := caught (k := k) y2 y3 ha
          exact r1 _ (y1.trans z1) z2 _ z3
      · exact False.elim r1
    cases es with
    | nil =>
      have hx0 : xs = [] := List.eq_nil_of_length_eq_zero (by rw [← hln]; rfl)
      subst hx0
      refine main tNil (fun g s wd0 wd st Q k0 sl r => ?_) (pmk_sup0 S hr gd.xc.mgs (glob_of gd hg) hm (pn1 hp))
      unfold evEs at r
      exact r.now k0 [] .nil
    | cons e es => exact main ta q1 (pmk_sup S hr gd.xc.mgs (glob_of gd hg) hm p1 hst (pn1 hp))
  · refine ⟨fun _ _ _ => False, ⟨fun _ _ _ _ _ _ h => h.elim⟩, fun g s wd0 wd st Q k0 sl h => ?_⟩
    unfold evE at h
    split at h
    · rename_i hx
      obtain ⟨d, e1, e2, _⟩ := excN_some hx
      exact absurd ⟨d, e1, e2⟩ hd
    · exact h
end
end Bd
namespace Bd
open PySem PySem.Spec PyProof.Rows L2
section
variable {G : Gn} {c : Ct} {pos : Pos}
theorem few_args {X : Cx} {e : PySem.Expr} (h : noStar e = true) : ((backTo pos (starEach [e] X.env)).all (fun x => !x.1) && (backToKw pos (keywordEach [] X.env)).all (fun x => x.1.isSome) && decide ([e].length + ([] : List Keyword).length + (if ([] : List Keyword).isEmpty then 0 else 1) < 30)) = true := by
  have h1 : [e].all noStar = true := by simp [h]
  rw [all_plain h1]
  rfl
/-- t.count(k), a tuple of whole numbers -/
theorem tup_count {X : Cx} {pins : List (Addr × Obj)} {st : L2.St} {H : Hp} {s : Shared} {Q : VK} {a : Addr} {ns : List Int} {k : Int} {t : Tok} (I : Inv X pins st H s) (hT : SqT X.K H a (ns.map V.int)) (q : Q (.int (ns.count k : Nat)) H) :
    wpAny (model X.prog X.w) X.A (call (.builtin "tuple.count") [.ref a, .int k t]) (EP X pins st Q) X.xe s := by
  obtain ⟨its, rv, ⟨⟨oc, dd, od, sl⟩, ho, hc, n, hd⟩, _⟩ := I.tuple hT
  simp only at hc hd
  subst hc hd
  have hi := ints_of_vals rv
  have hn : (its.toArray.toList.countP (eqk k) : Nat) = ns.count k := eqk_count hi
  refine call_meets PySem.F.slot_tuple_count ⟨_, ho, rfl⟩ PySem.F.entry_tuple_count (PySem.F.args_tuple_count_2 _ _) (SeqAt.tuple_countAt a its.toArray n dd sl (.int k t) (eqk k)) ⟨ho, fun y m => (eqk_gives hi y (by simpa using m)).at _ _, ?_⟩
  rw [hn]
  exact ⟨.int (ns.count k : Nat), H, I.tok _, ⟨s.toks, rfl⟩, q⟩
def tTCnt (to : TE) (t : TA) : TE := fun st H Q => to st H fun x H1 => (∃ a vs, x = .ref a ∧ KT H1 a vs) ∧ t st H1 fun xs H2 => ∃ (a : Addr) (ns : List Int) (k : Int), x = .ref a ∧ xs = [.int k] ∧ KT H2 a (ns.map V.int) ∧ Q (.int (ns.count k : Nat)) H2
theorem pe_tcnt {X : Cx} {o e : PySem.Expr} {to : TE} {t : TA} {apos cpos : Pos} (ho : PE X o to) (ha : PA X [e] t) (hb : attributeBase o "count" X.env (eval o X.env) = eval o X.env)
    (hf : ((backTo cpos (starEach [e] X.env)).all (fun x => !x.1) && (backToKw cpos (keywordEach [] X.env)).all (fun x => x.1.isSome) && decide ([e].length + ([] : List Keyword).length + (if ([] : List Keyword).isEmpty then 0 else 1) < 30)) = true)
    (hl : (apos.endLine == cpos.line) = true) (hs : starEach [e] X.env = (false, eval e X.env) :: starEach [] X.env) : PE X (.Call (.Attribute o "count" apos) [e] [] cpos) (tTCnt to t) := by
  refine ⟨fun pins s st H Q I w => wpAny_Call_method_late hb hf hl rfl (thn (ho.run pins s st H _ I w) fun v s1 w1 => ?_)⟩
  obtain ⟨x, H1, I1, r1, ⟨a, vs, ex, ob, e1, e2, e3⟩, w2⟩ := w1
  subst ex
  cases r1
  have g : s1.heap.get? a = some ob := (I1.hok a _ e1).1
  refine ⟨"tuple", "tuple.count", PySem.F.plainAttrs_tuple, PySem.F.slot_tuple_count, PySem.F.type_tuple_count, ⟨ob, g, e2⟩, fun b eb => ?_, ?_⟩
  · cases eb
    exact ⟨ob, g, e3⟩
  · have hA := ha.run cpos pins s1 st H1 _ I1 w2
    rw [hs] at hA ⊢
    refine Calls.callWith_builtin rfl (Calls.evalArgs_plain (thn hA fun us s2 w3 => ?_))
    obtain ⟨xs, H2, I2, r2, a2, ns, k, ea, ex, hk, q⟩ := w3
    cases ea
    subst ex
    obtain ⟨u, eu, ru⟩ := Vals.one r2
    subst eu
    obtain ⟨tk, rfl⟩ := ru
    exact tup_count I2 hk.sq q
theorem s_cnt {o e : PySem.Expr} {x y : E} {apos : Pos} (hb : plainBase o = true) (hp : (apos.endLine == pos.line) = true) (hs : noStar e = true) (ho : OSnd G c o x) (he : ESnd G c e y) :
    ESnd G c (.Call (.Attribute o "count" apos) [e] [] pos) (.bm .count x [y]) := fun T n L X gd W tk => by
  obtain ⟨to, p0, q0⟩ := ho T n L X gd W tk
  obtain ⟨te, p1, q1⟩ := he T n L X gd W tk
  refine ⟨_, pe_alt (pe_bm PySem.F.plainAttrs_list PySem.F.slot_list_count PySem.F.type_list_count mt_lcount p0 (pa_cons p1 pa_nil (star_cons hs)) (base_eq hb) (few_args hs) hp (star_cons hs) rfl)
    (pe_tcnt p0 (pa_cons p1 pa_nil (star_cons hs)) (base_eq hb) (few_args hs) hp (star_cons hs)), fun g s wd0 wd st Q k sl r => ?_⟩
  unfold evE at r
  cases e0 : evB (evE T (callsAt T n) x g s) x g s with
  | no => rw [e0] at r; exact False.elim r
  | ex k0 ys s1 =>
    rw [e0] at r
    refine .inl (q0 g s wd0 wd st _ k sl ?_)
    rw [e0]
    exact r
  | ok d s1 =>
    rw [e0] at r
    cases d with
    | lst xs =>
      refine .inl (q0 g s wd0 wd st _ k sl ?_)
      rw [e0]
      intro wd1 x1 k1 v i
      obtain ⟨q, vs, rfl, h1, h2⟩ := i.lst k1
      refine ⟨.inl ⟨rfl, vs, SqL.of h1⟩, ?_⟩
      have r2 := RPost.shift x1 r
      obtain ⟨d', ed, r2⟩ := RPost.opt k1 (RPost.now k1 r2.bind).bind
      cases ed
      unfold evEs at r2
      refine q1 g s1 wd0 wd1 st _ k1 (sl.ext x1) (r2.bind.bind.mono fun y1 s2 wd2 x2 k2 r3 v2 i2 => ?_)
      unfold evEs at r3
      have r4 : RPost L wd2 (WE W st) (VP L Q) (optR (bmD Bm.count (D.lst xs) [y1]) s2) := RPost.now (a := [y1]) (s := s2) (P := fun b s1 wd1 => RPost L wd1 (WE W st) (VP L Q) (optR (bmD Bm.count (D.lst xs) b) s1)) k2 r3
      obtain ⟨z, e2, r5⟩ := RPost.opt k2 r4
      obtain ⟨q', vs', e3, h1', h2'⟩ := (i.ext x2).lst k2
      cases e3
      cases y1 with
      | int m =>
        cases i2
        unfold bmD at e2
        simp only at e2
        obtain ⟨l, e4, rfl⟩ := Option.map_eq_some_iff.mp e2
        have e5 := h2'.ints e4
        subst e5
        exact ⟨q, l, m, rfl, rfl, SqL.of h1', r5 _ (.int _)⟩
      | _ => cases e2
    | tup xs =>
      refine .inr (q0 g s wd0 wd st _ k sl ?_)
      rw [e0]
      intro wd1 x1 k1 v i
      obtain ⟨q, vs, rfl, h1, h2⟩ := i.tup k1
      refine ⟨⟨q, vs, rfl, h1⟩, ?_⟩
      have r2 := RPost.shift x1 r
      obtain ⟨d', ed, r2⟩ := RPost.opt k1 (RPost.now k1 r2.bind).bind
      cases ed
      unfold evEs at r2
      refine q1 g s1 wd0 wd1 st _ k1 (sl.ext x1) (r2.bind.bind.mono fun y1 s2 wd2 x2 k2 r3 v2 i2 => ?_)
      unfold evEs at r3
      have r4 : RPost L wd2 (WE W st) (VP L Q) (optR (bmD Bm.count (D.tup xs) [y1]) s2) := RPost.now (a := [y1]) (s := s2) (P := fun b s1 wd1 => RPost L wd1 (WE W st) (VP L Q) (optR (bmD Bm.count (D.tup xs) b) s1)) k2 r3
      obtain ⟨z, e2, r5⟩ := RPost.opt k2 r4
      obtain ⟨q', vs', e3, h1', h2'⟩ := (i.ext x2).tup k2
      cases e3
      cases y1 with
      | int m =>
        cases i2
        unfold bmD at e2
        simp only at e2
        obtain ⟨l, e4, rfl⟩ := Option.map_eq_some_iff.mp e2
        have e5 := h2'.ints e4
        subst e5
        exact ⟨q, l, m, rfl, rfl, h1', r5 _ (.int _)⟩
      | _ => cases e2
    | _ => exact False.elim r
theorem flat_ints (l : List Int) : (l.map V.int).all flatV = true := by
  rw [List.all_eq_true]
  intro v hv
  obtain ⟨i, -, rfl⟩ := List.mem_map.mp hv
  rfl
end
section
variable {X : Cx}
theorem mt_sidx : MtR X "str.index" (fun x xs H Q => ∃ (a b : Str) (k : Nat), x = .str a ∧ xs = [.str b] ∧ PySem.Txt.index0 a b = some k ∧ Q (.int (k : Nat)) H) := by
  intro pins s σ H x xs v us Q I rx rs h
  obtain ⟨a, b, k, rfl, rfl, hk, h⟩ := h
  obtain ⟨t, rfl⟩ := rx
  cases rs with
  | cons r1 rs =>
    cases rs
    obtain ⟨u, rfl⟩ := r1
    cases q : Builtin.Str.occurrences a b 0 a.length 1 with
    | nil =>
      unfold PySem.Txt.index0 at hk
      rw [q] at hk
      cases hk
    | cons j rest =>
      unfold PySem.Txt.index0 at hk
      rw [q] at hk
      obtain rfl : j = k := by simpa using hk
      exact PySem.SC.index q ⟨.int (j : Nat), H, I.tok _, ⟨_, rfl⟩, h⟩
end
section
variable {G : Gn} {c : Ct} {pos : Pos}
theorem s_index {o e : PySem.Expr} {x y : E} {apos : Pos} (hb : plainBase o = true) (hp : (apos.endLine == pos.line) = true) (hs : noStar e = true) (ho : OSnd G c o x) (he : ESnd G c e y) :
    ESnd G c (.Call (.Attribute o "index" apos) [e] [] pos) (.bm .index x [y]) := fun T n L X gd W tk => by
  obtain ⟨to, p0, q0⟩ := ho T n L X gd W tk
  obtain ⟨te, p1, q1⟩ := he T n L X gd W tk
  refine ⟨_, pe_alt (pe_bm PySem.F.plainAttrs_list PySem.F.slot_list_index PySem.F.type_list_index mt_index p0 (pa_cons p1 pa_nil (star_cons hs)) (base_eq hb) (few_args hs) hp (star_cons hs) rfl) (pe_m1 PySem.F.slot_str_index PySem.F.type_str_index mt_sidx p0 p1 (star_cons hs) (base_eq hb) hp), fun g s wd0 wd st Q k sl r => ?_⟩
  unfold evE at r
  cases e0 : evB (evE T (callsAt T n) x g s) x g s with
  | no => rw [e0] at r; exact False.elim r
  | ex k0 ys s1 =>
    rw [e0] at r
    refine .inl (q0 g s wd0 wd st _ k sl ?_)
    rw [e0]
    exact r
  | ok d s1 =>
    rw [e0] at r
    cases d with
    | lst xs =>
      refine .inl (q0 g s wd0 wd st _ k sl ?_)
      rw [e0]
      intro wd1 x1 k1 v i
      obtain ⟨q, vs, rfl, h1, h2⟩ := i.lst k1
      refine ⟨.inl ⟨rfl, vs, SqL.of h1⟩, ?_⟩
      have r2 := RPost.shift x1 r
      obtain ⟨d', ed, r2⟩ := RPost.opt k1 (RPost.now k1 r2.bind).bind
      cases ed
      unfold evEs at r2
      refine q1 g s1 wd0 wd1 st _ k1 (sl.ext x1) (r2.bind.bind.mono fun y1 s2 wd2 x2 k2 r3 v2 i2 => ?_)
      unfold evEs at r3
      have r4 : RPost L wd2 (WE W st) (VP L Q) (optR (bmD Bm.index (D.lst xs) [y1]) s2) := RPost.now (a := [y1]) (s := s2) (P := fun b s1 wd1 => RPost L wd1 (WE W st) (VP L Q) (optR (bmD Bm.index (D.lst xs) b) s1)) k2 r3
      obtain ⟨z, e2, r5⟩ := RPost.opt k2 r4
      obtain ⟨q', vs', e3, h1', h2'⟩ := (i.ext x2).lst k2
      cases e3
      cases y1 with
      | int m =>
        cases i2
        unfold bmD at e2
        simp only at e2
        obtain ⟨l, e4, e6⟩ := Option.bind_eq_some_iff.mp e2
        obtain ⟨j, e7, rfl⟩ := Option.map_eq_some_iff.mp e6
        have e5 := h2'.ints e4
        subst e5
        rw [List.idxOf?, List.findIdx?_eq_some_iff_getElem] at e7
        obtain ⟨hj, hj1, hj2⟩ := e7
        refine ⟨q, l.map V.int, .int m, j, .int l[j], rfl, rfl, SqL.of h1', rfl, flat_ints l, by simp [hj], ?_, fun m' z' hm hz => ?_, r5 _ (.int _)⟩
        · have : l[j] = m := by simpa using hj1
          rw [this]
          simp [eqV]
        · have hm2 : m' < l.length := by omega
          rw [List.getElem?_map, List.getElem?_eq_getElem hm2] at hz
          cases hz
          have := hj2 m' hm
          simp [eqV] at this ⊢
          exact this
      | _ => cases e2
    | str a =>
      refine .inr (q0 g s wd0 wd st _ k sl ?_)
      rw [e0]
      intro wd1 x1 k1 v i
      have hv := i.str
      subst hv
      refine ⟨⟨a, rfl⟩, ?_⟩
      have r2 := RPost.shift x1 r
      obtain ⟨d', ed, r2⟩ := RPost.opt k1 (RPost.now k1 r2.bind).bind
      cases ed
      unfold evEs at r2
      refine q1 g s1 wd0 wd1 st _ k1 (sl.ext x1) (r2.bind.bind.mono fun y1 s2 wd2 x2 k2 r3 v2 i2 => ?_)
      unfold evEs at r3
      have r4 : RPost L wd2 (WE W st) (VP L Q) (optR (bmD Bm.index (D.str a) [y1]) s2) := RPost.now (a := [y1]) (s := s2) (P := fun b s1 wd1 => RPost L wd1 (WE W st) (VP L Q) (optR (bmD Bm.index (D.str a) b) s1)) k2 r3
      obtain ⟨z, e2, r5⟩ := RPost.opt k2 r4
      cases y1 with
      | str b =>
        cases i2
        unfold bmD at e2
        simp only at e2
        obtain ⟨j, e7, rfl⟩ := Option.map_eq_some_iff.mp e2
        exact ⟨a, b, j, rfl, rfl, e7, r5 _ (.int _)⟩
      | _ => cases e2
    | _ => exact False.elim r
/-- a new list goes into the store -/
theorem s_sto {e : PySem.Expr} {x : E} (h : FSnd G c e x) : ESnd G c e (.sto x) := fun T n L X gd W tk => by
  obtain ⟨te, p, q⟩ := h T n L X gd W tk
  refine ⟨te, p, fun g s wd0 wd st Q k sl r => q g s wd0 wd st Q k sl ?_⟩
  unfold evE at r
  cases e0 : evE T (callsAt T n) x g s with
  | no => rw [e0] at r; exact r
  | ex c0 ys s1 => rw [e0] at r; exact r
  | ok d s1 =>
    rw [e0] at r
    cases d with
    | lst xs =>
      have r : RPost L wd (WE W st) (VP L Q) (.ok (.loc s1.length) (s1 ++ [.lst xs])) := r
      refine fun wd1 x1 k1 => ⟨xs, rfl, fun p vs hp is => ?_⟩
      have f : Fresh wd ⟨wd1.F, wd1.mu, upd wd1.H p (.lst vs)⟩ p := by
        have f1 : Fresh wd1 ⟨wd1.F, wd1.mu, upd wd1.H p (.lst vs)⟩ p := Fresh.of_laid (o := .lst vs) k1 hp
        exact ⟨x1.dom p hp, f1.nF, f1.nM⟩
      have x2 : Ext wd ⟨wd1.F, wd1.mu, upd wd1.H p (.lst vs)⟩ := x1.trans (Ext.laid k1 hp)
      obtain ⟨x3, k3⟩ := f.store (m := .lst xs) x2 (k1.laid hp) upd_same ⟨vs, upd_same, is⟩
      refine r ⟨wd1.F, wd1.mu ++ [p], upd wd1.H p (.lst vs)⟩ x3 k3 (.ref p) (.loc ?_)
      show (wd1.mu ++ [p])[s1.length]? = some p
      rw [← k1.len]
      simp
    | _ => exact False.elim r
end
end Bd
namespace Bd
open PySem PySem.Spec PyProof.Rows L2
section
variable {L : Lay} {F : Hp} {mu : List Addr}
theorem IsAll.strs : ∀ {vs : List V} {ds : List D} {l : List Str}, IsAll L F mu vs ds → strsOf ds = some l → vs = l.map V.str
  | _, _, _, .nil, e => by
    cases e
    rfl
  | _, _, l, .cons h t, e => by
    rename_i v vs d ds
    cases d with
    | str i =>
      cases h
      unfold strsOf at e
      obtain ⟨r, q, e2⟩ := Option.map_eq_some_iff.mp e
      subst e2
      rw [IsAll.strs t q]
      rfl
    | _ => cases e
theorem IsAll.of_strs : ∀ l : List Str, IsAll L F mu (l.map V.str) (l.map D.str)
  | [] => .nil
  | i :: l => .cons (.str i) (IsAll.of_strs l)
end
section
variable {G : Gn} {c : Ct} {pos : Pos}
theorem s_split {o e : PySem.Expr} {x y : E} {apos : Pos} (hb : plainBase o = true) (hp : (apos.endLine == pos.line) = true) (hs : noStar e = true) (ho : OSnd G c o x) (he : ESnd G c e y) :
    GSnd G c (.Call (.Attribute o "split" apos) [e] [] pos) (.bm .split x [y]) := fun T n L X gd W tk => by
  obtain ⟨to, p0, q0⟩ := ho T n L X gd W tk
  obtain ⟨te, p1, q1⟩ := he T n L X gd W tk
  refine ⟨_, pe_split p0 p1 (star_cons hs) (base_eq hb) hp, fun g s wd0 wd st Q k sl r => ?_⟩
  unfold evE at r
  refine q0 g s wd0 wd st _ k sl (r.bind.mono fun d s1 wd1 x1 k1 r1 v i => ?_)
  obtain ⟨d', ed, r2⟩ := RPost.opt k1 r1.bind
  cases d with
  | str a =>
    cases ed
    have hv := i.str
    subst hv
    refine ⟨⟨a, rfl⟩, ?_⟩
    unfold evEs at r2
    refine q1 g s1 wd0 wd1 st _ k1 (sl.ext x1) (r2.bind.bind.mono fun y1 s2 wd2 x2 k2 r3 v2 i2 => ?_)
    unfold evEs at r3
    have r4 : RPost L wd2 (WE W st) (fun d s' wd' => Res L wd' s' d Q) (optR (bmD Bm.split (D.str a) [y1]) s2) := RPost.now (a := [y1]) (s := s2) (P := fun b s1 wd1 => RPost L wd1 (WE W st) (fun d s' wd' => Res L wd' s' d Q) (optR (bmD Bm.split (D.str a) b) s1)) k2 r3
    obtain ⟨z, e2, r5⟩ := RPost.opt k2 r4
    cases y1 with
    | str b =>
      cases i2
      unfold bmD at e2
      simp only at e2
      obtain ⟨e3, rfl⟩ := ite_some e2
      rw [Bool.and_eq_true, Bool.not_eq_true'] at e3
      exact ⟨a, b, rfl, rfl, e3.1, Nat.le_of_ble_eq_true e3.2, fun p hp => r5.nl (IsAll.of_strs _) hp⟩
    | _ => cases e2
  | lst _ => cases ed
  | _ => exact False.elim r1
theorem s_join {o e : PySem.Expr} {x y : E} {apos : Pos} (hb : plainBase o = true) (hp : (apos.endLine == pos.line) = true) (hs : noStar e = true) (ho : OSnd G c o x) (he : ESnd G c e y) :
    ESnd G c (.Call (.Attribute o "join" apos) [e] [] pos) (.bm .join x [y]) := fun T n L X gd W tk => by
  obtain ⟨to, p0, q0⟩ := ho T n L X gd W tk
  obtain ⟨te, p1, q1⟩ := he T n L X gd W tk
  refine ⟨_, pe_join p0 p1 (star_cons hs) (base_eq hb) hp, fun g s wd0 wd st Q k sl r => ?_⟩
  unfold evE at r
  refine q0 g s wd0 wd st _ k sl (r.bind.mono fun d s1 wd1 x1 k1 r1 v i => ?_)
  obtain ⟨d', ed, r2⟩ := RPost.opt k1 r1.bind
  cases d with
  | str a =>
    cases ed
    have hv := i.str
    subst hv
    refine ⟨⟨a, rfl⟩, ?_⟩
    unfold evEs at r2
    refine q1 g s1 wd0 wd1 st _ k1 (sl.ext x1) (r2.bind.bind.mono fun y1 s2 wd2 x2 k2 r3 v2 i2 => ?_)
    unfold evEs at r3
    have r4 : RPost L wd2 (WE W st) (VP L Q) (optR (bmD Bm.join (D.str a) [y1]) s2) := RPost.now (a := [y1]) (s := s2) (P := fun b s1 wd1 => RPost L wd1 (WE W st) (VP L Q) (optR (bmD Bm.join (D.str a) b) s1)) k2 r3
    obtain ⟨z, e2, r5⟩ := RPost.opt k2 r4
    cases y1 with
    | lst xs =>
      unfold bmD at e2
      simp only at e2
      obtain ⟨ys, e3, e4⟩ := Option.bind_eq_some_iff.mp e2
      obtain ⟨e5, rfl⟩ := ite_some e4
      have i3 : IsB L wd2 v2 (.lst xs) := Or.inl i2
      obtain ⟨q, vs, rfl, h1, h2⟩ := i3.lst k2
      have h3 := h2.strs e3
      subst h3
      exact ⟨a, q, ys, rfl, rfl, .inl (SqL.of h1), Nat.le_of_ble_eq_true e5, r5 _ (.str _)⟩
    | _ => cases e2
  | lst _ => cases ed
  | _ => exact False.elim r1
end
end Bd
namespace Bd
open PySem PySem.Spec PyProof.Rows L2
section
variable {G : Gn} {c : Ct} {pos : Pos}
theorem smallI_log {i : Int} (h : smallI i = true) : i.natAbs.log2 < 1920 := by
  unfold smallI at h
  have h := of_decide_eq_true h
  by_cases h0 : i.natAbs = 0
  · rw [h0]; decide
  · rw [Nat.log2_lt h0]
    exact Nat.lt_trans h (by decide +kernel)
theorem small_line {n : Nat} (h : small n = true) : n ≤ sizeLine := by
  have := Nat.le_of_ble_eq_true h
  rw [sizeLine_eq]
  omega
theorem s_fmt {a : PySem.Expr} {x : E} (ha : ESnd G c a x) : ESnd G c (.FormattedValue a (-1) none pos) (.fmt x) := fun T n L X gd W tk => by
  obtain ⟨ta, p1, q1⟩ := ha T n L X gd W tk
  refine ⟨_, pe_fmt p1, fun g s wd0 wd st Q k sl r => ?_⟩
  unfold evE at r
  refine q1 g s wd0 wd st _ k sl (r.bind.mono fun d s1 wd1 x1 k1 r1 v i => ?_)
  obtain ⟨t, e1, r2⟩ := RPost.opt k1 r1.bind
  have q := r2.now k1 _ (.str _)
  cases d with
  | str y =>
    cases i
    obtain ⟨h1, rfl⟩ := ite_some (show (if small y.length = true then some y else none) = some t from e1)
    exact .inl ⟨y, rfl, small_line h1, q⟩
  | int j =>
    cases i
    obtain ⟨h1, rfl⟩ := ite_some (show (if smallI j = true then some (toString j : Str) else none) = some t from e1)
    exact .inr ⟨j, rfl, smallI_log h1, q⟩
  | _ => cases e1
/-- the parts -/
def JSnd (G : Gn) (c : Ct) (es : List PySem.Expr) (xs : List E) : Prop := ∀ (T : Tb) (n : Nat) (L : Lay) (X : Cx), Gd G T n L c X → ∀ W : WX, Takes X W → ∃ ts, PJ X es ts ∧
  ∀ acc g s wd0 wd st Q, WdOk L wd s → Slots L wd0 wd st g → RPost L wd (WE W st) (VP L Q) (evJ T (callsAt T n) xs acc g s) → tJs ts acc st wd.H fun out H1 => Q (.str out) H1
theorem j_nil : JSnd G c [] [] := fun T n L X gd W tk => ⟨[], .nil, fun acc g s wd0 wd st Q k sl r => by
  unfold evJ at r
  exact r.now k _ (.str _)⟩
theorem j_cons {e : PySem.Expr} {es : List PySem.Expr} {x : E} {xs : List E} (h : ESnd G c e x) (h2 : JSnd G c es xs) : JSnd G c (e :: es) (x :: xs) := fun T n L X gd W tk => by
  obtain ⟨te, p1, q1⟩ := h T n L X gd W tk
  obtain ⟨ts, p2, q2⟩ := h2 T n L X gd W tk
  refine ⟨te :: ts, .cons p1 p2, fun acc g s wd0 wd st Q k sl r => ?_⟩
  unfold evJ at r
  refine q1 g s wd0 wd st _ k sl (r.bind.mono fun d s1 wd1 x1 k1 r1 v i => ?_)
  cases d with
  | str y =>
    cases i
    simp only at r1
    split at r1
    · rename_i hs
      exact ⟨y, rfl, small_line hs, q2 (acc ++ y) g s1 wd0 wd1 st Q k1 (sl.ext x1) r1⟩
    · exact False.elim r1
  | _ => exact False.elim r1
theorem s_fst {e1 e2 : PySem.Expr} {es : List PySem.Expr} {xs : List E} (h : JSnd G c (e1 :: e2 :: es) xs) : ESnd G c (.JoinedStr (e1 :: e2 :: es) pos) (.fst xs) := fun T n L X gd W tk => by
  obtain ⟨ts, p1, q1⟩ := h T n L X gd W tk
  refine ⟨_, pe_joined p1, fun g s wd0 wd st Q k sl r => ?_⟩
  unfold evE at r
  exact q1 _ g s wd0 wd st Q k sl r
theorem ixI_some {n m : Nat} {d : D} (h : ixI n d = some m) : ∃ j, d = .int j ∧ ixN n j = some m := by
  cases d with
  | int j => exact ⟨j, rfl, h⟩
  | _ => cases h
theorem prD_some {d : D} {p : D × D} (h : prD d = some p) : d = .tup [p.1, p.2] := by
  unfold prD at h
  split at h
  · cases h; rfl
  · cases h
theorem st_set2 {x y : Str} {i j : Nat} {kt : Nat} {pt p2 p3 p4 p5 : Pos} {ke le e : PySem.Expr} {kx lx z : E} (hc : c.calm = true) (hi : c.N[i]? = some x) (hv : visB c.sc x = true) (hp : plainN x = true) (hj : c.N[j]? = some y) (hv2 : visB c.sc y = true) (hp2 : plainN y = true)
    (hk : ESnd G c ke kx) (hs : noSlice ke = true) (hl : ESnd G c le lx) (hs2 : noSlice le = true) (h : ESnd G c e z)
    (hw : ∀ (env : Env), env.scope = c.sc → env.scope.kind = .function → swappedStores [.Tuple [.Subscript (.Name x p3) ke p2, .Subscript (.Name y p5) le p4] kt pt] e env = pure none) :
    SSnd G c (.Assign [.Tuple [.Subscript (.Name x p3) ke p2, .Subscript (.Name y p5) le p4] kt pt] e pos) [.set2 i kx j lx z] := fun T n L X gd W tk po => by
  obtain ⟨te, p, q⟩ := h T n L X gd W tk
  obtain ⟨t1, p1, q1⟩ := hk T n L X gd W tk
  obtain ⟨t2, p2', q2⟩ := hl T n L X gd W tk
  have base : ∀ ts', (X.Ok → PS X (.Assign [.Tuple [.Subscript (.Name x p3) ke p2, .Subscript (.Name y p5) le p4] kt pt] e pos) ts') → PS X (.Assign [.Tuple [.Subscript (.Name x p3) ke p2, .Subscript (.Name y p5) le p4] kt pt] e pos) ts' := fun ts' hh => ⟨fun pins s st H D I hq => (hh I.ok).run pins s st H D I hq⟩
  have ns : ([.Subscript (.Name x p3) ke p2, .Subscript (.Name y p5) le p4] : List PySem.Expr).all noStar = true := rfl
  obtain ⟨a1, a2⟩ := assign_len (env := X.env) ns
  have pg := pg_tup (k := kt) (pos := pt) (n := 2) (gd.hcalm.trans hc) (pgs_cons (pg_sub (pe_slot gd hi hv hp) p1 set_list (sub_assign hs)) (pgs_cons (pg_sub (pe_slot gd hj hv2 hp2) p2' set_list (sub_assign hs2)) pgs_nil (by rw [assign_cons rfl]; rfl)) (by rw [assign_cons rfl]; rfl)) a1 a2
  refine ⟨_, base _ fun ok => ps_asg p pg (swaps_nt (t := .Tuple [.Subscript (.Name x p3) ke p2, .Subscript (.Name y p5) le p4] kt pt) (l := pos.line) (env := X.env) rfl) (hw X.env gd.hsc ok.kind) rfl, fun w g s wd0 wd st D x1 k sl hh => ?_⟩
  rw [evSs_one] at hh
  unfold evS at hh
  refine q g s wd0 wd st _ k sl ((fl_post x1 sl hh).mono fun d s1 wd1 y1 k1 z1 v iv => ?_)
  obtain ⟨pr, e1, z2⟩ := optF_post z1
  rw [prD_some e1] at iv
  have sl1 := sl.ext y1
  obtain ⟨xs, eo, z3⟩ := optF_post z2
  cases iv with
  | tup h1 h2 =>
    rename_i a0 vs0
    cases h2 with
    | cons i1 h2 =>
      cases h2 with
      | cons i2 h2 =>
        cases h2
        rename_i v1 v2
        refine ⟨a0, [v1, v2], rfl, (h1.mono k1.sub).sq, rfl, v1, [v2], rfl, ?_⟩
        obtain ⟨a, vs, ea, hH, is⟩ := sl1.own eo
        refine ⟨.ref a, ea, q1 g s1 wd0 wd1 st _ k1 sl1 ((fl_post (x1.trans y1) sl1 z3).mono fun kd s2 wd2 y2 k2 z4 kv ik => ?_)⟩
        obtain ⟨m, em, z5⟩ := optF_post z4
        obtain ⟨jj, rfl, em⟩ := ixI_some em
        cases ik
        obtain ⟨a', vs', ea', hH', is'⟩ := (sl1.ext y2).own eo
        rw [ea] at ea'
        cases ea'
        have l1 := is'.length
        refine ⟨a, vs', jj, m, rfl, rfl, hH', by rw [l1]; exact em, ?_⟩
        obtain ⟨w1, w2, w3⟩ := (sl1.ext y2).wr ((x1.trans y1).trans y2) k2 eo ea (IsAll.set (i1.ext y2) m is')
        obtain ⟨ys, eo2, z6⟩ := optF_post z5
        refine ⟨v2, [], rfl, ?_⟩
        obtain ⟨b, us, eb, hHb, isb⟩ := w3.own eo2
        refine ⟨.ref b, eb, q2 _ s2 wd0 _ st _ w2 w3 ((fl_post w1 w3 (SPost.shift ⟨Same.refl _, fun _ _ z => z⟩ z6)).mono fun ld s3 wd3 y3 k3 z7 lv il => ?_)⟩
        obtain ⟨m2, em2, z8⟩ := optF_post z7
        obtain ⟨j2, rfl, em2⟩ := ixI_some em2
        cases il
        obtain ⟨b', us', eb', hHb', isb'⟩ := (w3.ext y3).own eo2
        rw [eb] at eb'
        cases eb'
        have l2 := isb'.length
        refine ⟨b, us', j2, m2, rfl, rfl, hHb', by rw [l2]; exact em2, rfl, ?_⟩
        have i2w : Is L wd2.F wd2.mu v2 pr.2 := i2.ext y2
        have i2' : Is L wd3.F wd3.mu v2 pr.2 := i2w.mono y3.fle y3.mle
        obtain ⟨u1, u2, u3⟩ := (w3.ext y3).wr (w1.trans y3) k3 eo2 eb (IsAll.set i2' m2 isb')
        exact z8 ⟨wd3.F, wd3.mu, upd wd3.H b (.lst (us'.set m2 v2))⟩ st u1 ⟨Same.refl _, fun _ _ z => z⟩ u2 u3
end
end Bd
namespace Bd
open PySem PySem.Spec PyProof.Rows L2
/-- a set comprehension of ints: N turns, P what holds ahead of each -/
def tScI (w : World) (wi : TI) (go : L2.TG) (tt : TT) (te : TE) (vs : List Nat) : TE := fun st H Q => wi st H fun J H1 => ∀ D, H1 D = none → ∃ (N : Nat) (P : Nat → Hp → Prop), P 0 (upd H1 D (SetO w D (fun _ => false) 0)) ∧
  ∀ i H', i ≤ N → P i H' → (i = N ∧ J.stop i H' ∧ Q (.ref D) H') ∨ (i < N ∧ J.go i H' ∧ ∀ x G0, J.yld i H' x G0 → go x (L2.wipe st vs) G0 fun st2 G1 => L2.wipe st2 vs = L2.wipe st vs ∧ tt st2 G1 fun b G2 =>
    (b = false → P (i + 1) G2) ∧ (b = true → te st2 G2 fun y G3 => ∃ k S n, y = .int k ∧ G3 D = some (SetO w D S n) ∧ n + 1 < scanBound ∧ P (i + 1) (upd G3 D (SetO w D (fun j => S j || decide (j = k)) (if S k = true then n else n + 1)))))
section
variable {X : Cx}
/-- an int goes into a tracked set -/
theorem add_int_set {pins : List (Addr × Obj)} {st : L2.St} {H : Hp} {s : Shared} {E : Value → Shared → Prop} {D : Addr} {S : Int → Bool} {n : Nat} {k : Int} {t : Tok} {Q : Value → Shared → Prop} (I : Inv X pins st H s) (hD : H D = some (SetO X.w D S n)) (room : n + 1 < scanBound)
    (h : ∀ s', Inv X pins st (upd H D (SetO X.w D (fun j => S j || decide (j = k)) (if S k = true then n else n + 1))) s' → Q .none s') : wpAny (model X.prog X.w) X.A (call (.builtin "set.add") [.ref D, .int k t]) Q E s :=
  wpAny_mono (mt_sadd (X := { X with xe := E }) pins s st H (.ref D) [.int k] (.ref D) [.int k t] (fun v H' => v = .non ∧ H' = upd H D (SetO X.w D (fun j => S j || decide (j = k)) (if S k = true then n else n + 1)))
      ⟨I.ok.toTry X.pn E, I.os, I.bare, I.base, I.loc, I.cell, I.free, I.freeC, I.pin, I.hok, I.len⟩ rfl (.cons ⟨t, rfl⟩ .nil) ⟨D, k, S, n, rfl, rfl, hD, room, rfl, rfl⟩) (fun u s1 z => by
    obtain ⟨v, H', J, rv, ev, eH⟩ := z
    subst ev eH
    obtain rfl : u = Value.none := rv
    exact h s1 ⟨I.ok, J.os, J.bare, J.base, J.loc, J.cell, J.free, J.freeC, J.pin, J.hok, J.len⟩) fun _ _ z => z
/-- the turns within the block Y -/
theorem blk_turns {Y : Cx} {tgE el : PySem.Expr} {cs : List PySem.Expr} {go : L2.TG} {tt : TT} {te : TE} {itr : PySem.Expr} {sc : Scope} {pos : Pos} {J : It} {fo : List Addr} {it D : Addr} {tn : Nat → Heap → Prop} {st : L2.St} {vs : List Nat} {N : Nat} {P : Nat → Hp → Prop} {Qz : Hp → Prop} {R : Result → Shared → Prop}
    (hc : Y.calm = true) (nx : Y.xe = fun _ _ => False) (T : Turn Y.prog Y.w Y.K tgE J fo it tn) (far : ∀ H', (∀ b ∈ fo, H' b = none) → ∀ b ∈ fo, FpOk Y [] H' b) (pg : PG Y tgE go) (pt : PTs Y cs tt) (pe : PE Y el te)
    (each : ∀ i H', i ≤ N → P i H' → (i = N ∧ J.stop i H' ∧ Qz H') ∨ (i < N ∧ J.go i H' ∧ ∀ x G0, J.yld i H' x G0 → go x (L2.wipe st vs) G0 fun st2 G1 => L2.wipe st2 vs = L2.wipe st vs ∧ tt st2 G1 fun b G2 =>
      (b = false → P (i + 1) G2) ∧ (b = true → te st2 G2 fun y G3 => ∃ k S n, y = .int k ∧ G3 D = some (SetO Y.w D S n) ∧ n + 1 < scanBound ∧ P (i + 1) (upd G3 D (SetO Y.w D (fun j => S j || decide (j = k)) (if S k = true then n else n + 1))))))
    (out : ∀ H' s', Inv Y [] (L2.wipe st vs) H' s' → Qz H' → R (.ok .next) s') {H : Hp} {s : Shared} (I0 : Inv Y [] (L2.wipe st vs) H s) (t0 : tn 0 s.heap) (f0 : ∀ b ∈ fo, H b = none) (p0 : P 0 H) :
    codeAny (model Y.prog Y.w) Y.A (.compLoop (.SetComp el [⟨tgE, itr, cs, 0⟩] sc pos) 0 (.ref it) (.ref D) Y.env) R s := by
  let Ahead : Nat → Shared → Prop := fun m s1 => ∃ i H1, m + i = N ∧ Inv Y [] (L2.wipe st vs) H1 s1 ∧ tn i s1.heap ∧ (∀ b ∈ fo, H1 b = none) ∧ P i H1
  have low : ∀ {E : Value → Shared → Prop} {A0 : Type} {t : Sem A0} {Q1 Q2 : A0 → Shared → Prop} {s1 : Shared}, wpAny (model Y.prog Y.w) Y.A t Q1 Y.xe s1 → (∀ a s2, Q1 a s2 → Q2 a s2) → wpAny (model Y.prog Y.w) Y.A t Q2 E s1 := fun {E A0 t Q1 Q2 s1} h1 h2 => by
    rw [nx] at h1
    exact wpAny_mono h1 h2 fun _ _ z => z.elim
  refine PpSet.compLoopS_any Ahead (fun m s1 hm => ?_) N ⟨0, H, rfl, I0, t0, f0, p0⟩
  obtain ⟨i, H1, hmi, I1, t1, f1, p1⟩ := hm
  rcases each i H1 (by omega) p1 with ⟨rfl, stop, qz⟩ | ⟨hlt, goes, turn⟩
  · refine wpAny_mono (T.done Y rfl rfl rfl hc i [] s1 _ H1 (fun _ _ => False) I1 (far H1 f1) t1 stop) (fun r s2 z => ?_) fun _ _ z => z.elim
    obtain ⟨rfl, I2⟩ := z
    exact out H1 s2 I2 qz
  · refine wpAny_mono (T.item Y rfl rfl rfl hc i [] s1 _ H1 (fun _ _ => False) I1 (far H1 f1) t1 goes) (fun r s2 z => ?_) fun _ _ z => z.elim
    obtain ⟨u, rfl, z⟩ := z
    refine wpAny_mono z (fun _ s3 z => ?_) fun _ _ z => z.elim
    obtain ⟨x, G0, I3, rx, yl, t3, f3⟩ := z
    have K3 := I3.pinned (far G0 f3) (T.obj _ _ t3)
    -- behind the element: the pinned iterator is as it was
    have last : ∀ {st2 : L2.St} {G : Hp} {s4 : Shared}, Inv Y ([] ++ pinsAt fo s3.heap) st2 G s4 → L2.wipe st2 vs = L2.wipe st vs → P (i + 1) G → ∃ m', m' < m ∧ Ahead m' s4 := fun {st2 G s4} I4 ew p4 => by
      have same : ∀ b ∈ fo, ∀ o, s3.heap.get? b = some o → s4.heap.get? b = some o ∧ G b = none := fun b hb o e => by
        have w := I4.pin (b, o) (List.mem_append.mpr (.inr (List.mem_append.mpr (.inr (mem_pinsAt hb e)))))
        exact ⟨w.1, w.2.1⟩
      refine ⟨m - 1, by omega, i + 1, G, by omega, Inv.weak (Inv.unpinned (pins := []) I4) ?_ ?_, T.keep _ _ _ t3 fun b hb o e => (same b hb o e).1, fun b hb => ?_, p4⟩
      · rw [← ew, wipe_length]
      · intro j v e
        rw [← ew] at e
        exact (wipe_some e).1
      · obtain ⟨o, e, _⟩ := T.obj _ _ t3 b hb
        exact (same b hb o e).2
    refine low (pg.run _ s3 _ G0 x u _ K3 rx (turn x G0 yl)) fun _ s4 z => ?_
    obtain ⟨st2, G1, I4, ew, q4⟩ := z
    refine low (pt.run _ s4 st2 G1 _ I4 q4) fun b s5 z => ?_
    obtain ⟨G2, I5, no, yes⟩ := z
    cases b with
    | false => exact last I5 ew (no rfl)
    | true =>
      refine low (pe.run _ s5 st2 G2 _ I5 (yes rfl)) fun v s6 z => ?_
      obtain ⟨y, G3, I6, rv, k, S, n, rfl, eD, room, p6⟩ := z
      obtain ⟨t, rfl⟩ := rv
      exact add_int_set I6 eD room fun s7 I7 => last I7 ew p6
/-- the new set's object -/
abbrev set0 (w : World) : Obj := { cls := .type "set", dict := none, data := .set #[] 0 (.fresh 0 0 (!w.params.followText "set-order")) }
theorem pe_scI {tgE el itr : PySem.Expr} {cs : List PySem.Expr} {sc : Scope} {own : List (Str × Nat)} {pos : Pos} {wi : TI} {go : L2.TG} {tt : TT} {te : TE} (hc : X.calm = true) (nd : X.N.Nodup) (hi : PI X tgE itr wi) (bk : BlkOk X.N X.env.scope sc own)
    (hg : ∀ (s : Shared) (H : Hp) (C : Addr) (cl : List (Str × Addr)) (fo : List Addr), PG (X.blk s H sc (compEnvC sc cl C X.env) fo) tgE go) (ht : ∀ (s : Shared) (H : Hp) (C : Addr) (cl : List (Str × Addr)) (fo : List Addr), PTs (X.blk s H sc (compEnvC sc cl C X.env) fo) cs tt)
    (he : ∀ (s : Shared) (H : Hp) (C : Addr) (cl : List (Str × Addr)) (fo : List Addr), PE (X.blk s H sc (compEnvC sc cl C X.env) fo) el te) (hs : ∀ x, foldedSetIterable itr X.env x = pure x) :
    PE X (.SetComp el [⟨tgE, itr, cs, 0⟩] sc pos) (tScI X.w wi go tt te (own.map (·.2))) := by
  refine ⟨fun pins s st H Q I h => ?_⟩
  have cap : ∀ y ∈ sc.names, y.2 = .free → ∃ c, X.env.cells.lookup y.1 = some c := fun y hy e => (bk.free y hy e).elim (fun z => I.ok.has _ (.inl z)) fun z => I.ok.has _ (.inr z)
  rw [PpSet.eval_SetComp]
  refine wpAny_comprehension_free (use := none) rfl hs (closure_ok cap) bk.kind (fun y hy e => (bk.uniq y hy).trans (congrArg some e)) (thn (hi.run pins s st H _ I h) fun xv s1 hx => thn hx fun itv s2 h2 => ?_)
  obtain ⟨it, fo, tn, J, H2, rfl, I2, T, t2, f2, q⟩ := h2
  have free2 : H2 s2.heap.objs.size = none := I2.hok.fresh (Nat.le_refl _)
  obtain ⟨N, P, p0, each⟩ := q s2.heap.objs.size free2
  have I3 : Inv X pins st (upd H2 s2.heap.objs.size (SetO X.w s2.heap.objs.size (fun _ => false) 0)) { s2 with heap := s2.heap.push (set0 X.w) } := I2.laid (t' := s2.toks) (fun b o e => Heap.get?_push_of_some _ e) (Nat.le_refl _) (setO_new (setR_fresh X.w))
  have below : ∀ b ∈ fo, b < s2.heap.objs.size := fun b hb => let ⟨_, e, _⟩ := T.obj _ _ t2 b hb; Heap.lt_size e
  have f3 : ∀ b ∈ fo, FpOk X pins (upd H2 s2.heap.objs.size (SetO X.w s2.heap.objs.size (fun _ => false) 0)) b ∧ b < (s2.heap.push (set0 X.w)).objs.size := fun b hb => by
    have lt := below b hb
    refine ⟨⟨?_, (f2 b hb).2⟩, ?_⟩
    · rw [upd_ne (Nat.ne_of_lt lt)]
      exact (f2 b hb).1
    · rw [Heap.size_push]
      exact Nat.lt_succ_of_lt lt
  have I4 := block_start I3 bk nd f3
  refine PpSet.newSet_ok (newEnv_comp ?_)
  generalize eC : (s2.heap.push (set0 X.w)).objs.size = C at I4 ⊢
  generalize eH : upd H2 s2.heap.objs.size (SetO X.w s2.heap.objs.size (fun _ => false) 0) = H3 at I3 I4 f3 p0
  generalize eD : s2.heap.objs.size = D at each free2 ⊢
  generalize e3 : ({ s2 with heap := s2.heap.push (set0 X.w) } : Shared) = s3 at I3 I4
  have hp3 : s3.heap = s2.heap.push (set0 X.w) := by rw [← e3]
  have t4 : tn 0 (pushCells (s3.heap.push { cls := .type "dict", data := .dict #[] }) sc.names) := T.keep _ _ _ t2 fun b _ o e => pushCells_keeps _ _ _ _ (Heap.get?_push_of_some _ (by rw [hp3]; exact Heap.get?_push_of_some _ e))
  have sz3 : s3.heap.objs.size = C := by rw [hp3]; exact eC
  have far : ∀ H', (∀ b ∈ fo, H' b = none) → ∀ b ∈ fo, FpOk (X.blk s3 H3 sc (compEnvC sc (cellsFrom (C + 1) sc.names (cloFrom X.env.cells sc.names [])) C X.env) fo) [] H' b := fun H' hn b hb =>
    ⟨hn b hb, (I4.ok.exf b hb).1, I4.ok.exfs b hb, .inl hb, (I4.ok.exf b hb).2, fun p hp => nomatch (show p ∈ ([] : List (Addr × Obj)) from hp)⟩
  have out : ∀ H' s', Inv (X.blk s3 H3 sc (compEnvC sc (cellsFrom (C + 1) sc.names (cloFrom X.env.cells sc.names [])) C X.env) fo) [] (L2.wipe st (own.map (·.2))) H' s' → Q (.ref D) H' → compPost (model X.prog X.w) X.A X.xe none (EP X pins st Q) (.ref D) C (.ok .next) s' := fun H' s' I5 hq => by
    have I6 : Inv X pins st H' s' := I3.call' (ch := fo) I5.os I5.base I5.hok I5.bare fun b hb => by
      obtain ⟨_, z1, _, z2, z3, z4⟩ := (f3 b hb).1
      exact ⟨z2, z1, z3, z4⟩
    obtain ⟨m, hm, _⟩ := I5.loc
    obtain ⟨c0, c1, _, c2, c3, c4⟩ := I3.fpOk (b := C) (H' := H') (Nat.le_of_eq sz3) I5.free
    exact ⟨m, hm, fun h' sb => ⟨.ref D, H', I6.turned (t' := s'.toks) (it := C) (fun b o hb e => (sb.2 b hb).trans e) c0 c1 c2 c3 c4, rfl, hq⟩⟩
  have lp := blk_turns (Y := X.blk s3 H3 sc (compEnvC sc (cellsFrom (C + 1) sc.names (cloFrom X.env.cells sc.names [])) C X.env) fo) (Qz := fun H' => Q (.ref D) H') (R := compPost (model X.prog X.w) X.A X.xe none (EP X pins st Q) (.ref D) C) (itr := itr) (sc := sc) (pos := pos) hc rfl T far (hg s3 H3 C _ fo) (ht s3 H3 C _ fo) (he s3 H3 C _ fo) each out I4 t4 (fun b hb => (f3 b hb).1.1) p0
  exact PpSet.codeAny_compStart_set lp (T.self X.A 0 _ _ _ t4 lp)
end
theorem calmOk {A : Type} (a : A) (s : Sto) : (R.ok a s).calm = .ok a s := rfl
theorem bindOk {A B : Type} (a : A) (s : Sto) (k : A → Sto → R B) : (R.ok a s).bind k = k a s := rfl
theorem sc_walk {w : World} {T : Tb} {n : Nat} {L : Lay} {tg : TG} {elt : E} {tst : Option E} {g : En} {own : List Nat} {J : It} {vs : List V} {ds l : List D} {wd0 wd : Wd} {s : Sto} {st : L2.St} {E : XK} {Q : VK} (its : ItS L vs ds l J) (k : WdOk L wd s) (sl : Slots L wd0 wd st g)
    (ps : Paired (IsB L wd) vs ds) (ho : ∀ i ∈ slotsT tg, i ∈ own) (hlen : l.length ≤ 60) (D0 : Addr) (hD : wd.H D0 = none)
    (r : RPost L wd E (fun r s' wd' => Res L wd' s' (.lst ((ssetL (intsL r)).map .int)) Q) (lcL (fun y s => (lcF T (callsAt T n) tg elt tst g own y s).bind intO) l s)) :
    ∃ (N : Nat) (P : Nat → Hp → Prop), P 0 (upd wd.H D0 (SetO w D0 (fun _ => false) 0)) ∧ ∀ i H', i ≤ N → P i H' → (i = N ∧ J.stop i H' ∧ rSortedSet w [.ref D0] H' Q) ∨ (i < N ∧ J.go i H' ∧ ∀ x G0, J.yld i H' x G0 → gS L tg x (L2.wipe st own) G0 fun st2 G1 => L2.wipe st2 own = L2.wipe st own ∧
      tsS T n L W0 tst st2 G1 fun b G2 => (b = false → P (i + 1) G2) ∧ (b = true → teS T n L W0 elt st2 G2 fun y G3 => ∃ k S n, y = .int k ∧ G3 D0 = some (SetO w D0 S n) ∧ n + 1 < scanBound ∧ P (i + 1) (upd G3 D0 (SetO w D0 (fun j => S j || decide (j = k)) (if S k = true then n else n + 1))))) := by
  let Ah : Nat → Hp → Prop := fun i H => ∃ wd1 s1 es, wd1.H = H ∧ WdOk L wd1 s1 ∧ Ext wd wd1 ∧ Fresh wd wd1 D0 ∧ H D0 = some (SetO w D0 (fun j => decide (j ∈ es)) es.eraseDups.length) ∧ es.length ≤ i ∧
    RPost L wd E (fun r s' wd' => Res L wd' s' (.lst ((ssetL (es ++ intsL r)).map .int)) Q) (lcL (fun y s => (lcF T (callsAt T n) tg elt tst g own y s).bind intO) (l.drop i) s1)
  refine ⟨l.length, Ah, ⟨⟨wd.F, wd.mu, upd wd.H D0 (SetO w D0 (fun _ => false) 0)⟩, s, [], rfl, k.laid hD, Ext.laid k hD, Fresh.of_laid (o := SetO w D0 (fun _ => false) 0) k hD, by simpa using (upd_same), Nat.zero_le _, by simpa using r⟩, ?_⟩
  rintro i H hi ⟨wd1, s1, es, rfl, k1, x1, f1, eD, hes, r1⟩
  have ps1 := paired_ext x1 ps
  by_cases hlt : i < l.length
  · have hd : l[i]? = some l[i] := List.getElem?_eq_getElem hlt
    obtain ⟨go, yl⟩ := (its wd1 s1 k1 ps1 i).2 _ hd
    refine .inr ⟨hlt, go, fun x H' hy => ?_⟩
    obtain ⟨wd2, rfl, x2, k2, ix⟩ := yl x H' hy
    obtain ⟨f2, eD2⟩ := f1.ext eD x2
    rw [List.drop_eq_getElem_cons hlt] at r1
    unfold lcL at r1
    have sl2 : Slots L wd0 wd2 (L2.wipe st own) (wipG g own) := ((sl.ext x1).ext x2).wipe own
    -- what behind this turn is wanted
    have rest : ∀ {o : Option D} {s2 : Sto} {wd5 : Wd}, (lcF T (callsAt T n) tg elt tst g own l[i] s1).bind intO = .ok o s2 → Ext wd wd5 → WdOk L wd5 s2 → Fresh wd wd5 D0 → ∀ es', (es' = es ∧ o = none ∨ ∃ m, o = some (.int m) ∧ es' = es ++ [m]) → wd5.H D0 = some (SetO w D0 (fun j => decide (j ∈ es')) es'.eraseDups.length) → Ah (i + 1) wd5.H := fun {o s2 wd5} ho5 x5 k5 f5 es' hes' e5 => by
      rw [ho5] at r1
      rw [calmOk, bindOk] at r1
      refine ⟨wd5, s2, es', rfl, k5, x5, f5, e5, ?_, ?_⟩
      · rcases hes' with ⟨rfl, _⟩ | ⟨m, _, rfl⟩
        · omega
        · simp
          omega
      · cases hr : lcL (fun y s => (lcF T (callsAt T n) tg elt tst g own y s).bind intO) (l.drop (i + 1)) s2 with
        | no => rw [hr] at r1; exact r1
        | ex k0 ys s5 => rw [hr] at r1; exact r1
        | ok rr s5 =>
          rw [hr] at r1
          intro wd6 x6 k6
          have z := r1 wd6 x6 k6
          rcases hes' with ⟨rfl, rfl⟩ | ⟨m, rfl, rfl⟩
          · exact z
          · simpa [intsL] using z
    cases hF : (lcF T (callsAt T n) tg elt tst g own l[i] s1).bind intO with
    | no => rw [hF] at r1; exact False.elim r1
    | ex k0 ys s2 => rw [hF] at r1; exact False.elim r1
    | ok o s2 =>
      have hF0 := hF
      unfold lcF at hF
      cases hs : setT tg l[i] (wipG g own) with
      | none => rw [hs] at hF; cases hF
      | some g' =>
        rw [hs] at hF
        simp only [bindG] at hF
        refine ⟨wd2, s1, wd0, wipG g own, l[i], g', rfl, k2, sl2, ix, hs, fun st2 sl3 off => ⟨?_, ?_⟩⟩
        · rw [off.wipe ho]
          apply List.ext_getElem?
          intro j
          rw [wipe_get, wipe_get]
          by_cases hm : j ∈ own
          · simp only [if_pos hm]
            cases st[j]? <;> rfl
          · simp only [if_neg hm]
        · cases ht : evTs T (callsAt T n) tst g' s1 with
          | no => rw [ht] at hF; cases hF
          | ex k0 ys s3 => rw [ht] at hF; cases hF
          | ok b s3 =>
            rw [ht] at hF
            simp only [R.bind] at hF
            refine ⟨g', s1, wd0, wd2, rfl, k2, sl3, ?_⟩
            rw [ht]
            intro wd3 x3 k3
            obtain ⟨f3, eD3⟩ := f2.ext eD2 x3
            have xx3 : Ext wd wd3 := (x1.trans x2).trans x3
            cases b with
            | bl b =>
              refine ⟨b, rfl, fun hb => ?_, fun hb => ?_⟩
              · subst hb
                simp only [tstR, R.bind, intO] at hF
                cases hF
                exact rest hF0 xx3 k3 f3 es (.inl ⟨rfl, rfl⟩) eD3
              · subst hb
                simp only [tstR] at hF
                cases he : evE T (callsAt T n) elt g' s3 with
                | no => rw [he] at hF; cases hF
                | ex k0 ys s4 => rw [he] at hF; cases hF
                | ok d s4 =>
                  rw [he] at hF
                  simp only [R.bind] at hF
                  refine ⟨g', s3, wd0, wd3, rfl, k3, sl3.ext x3, ?_⟩
                  rw [he]
                  intro wd4 x4 k4 v iv
                  obtain ⟨f4, eD4⟩ := f3.ext eD3 x4
                  have xx4 := xx3.trans x4
                  cases d with
                  | int m =>
                    cases iv
                    cases hF
                    have hn := dups_le es
                    have hsb : (64 : Nat) < scanBound := by decide
                    refine ⟨m, _, _, rfl, eD4, by omega, ?_⟩
                    refine rest (wd5 := ⟨wd4.F, wd4.mu, upd wd4.H D0 _⟩) hF0 (f4.write xx4) (f4.writeOk k4) ⟨f4.new, f4.nF, f4.nM⟩ (es ++ [m]) (.inr ⟨m, rfl, rfl⟩) ?_
                    show upd wd4.H D0 _ D0 = _
                    rw [upd_same, dups_snoc]
                    congr 2
                    funext j
                    simp
                  | _ => cases hF
            | _ => cases hF
  · have e : i = l.length := by omega
    subst e
    refine .inl ⟨rfl, (its wd1 s1 k1 ps1 l.length).1 rfl, ?_⟩
    rw [List.drop_length] at r1
    unfold lcL at r1
    have z : Res L wd1 s1 (.lst ((ssetL (es ++ intsL [])).map .int)) Q := r1 wd1 x1 k1
    have z2 : NewL L wd1 ((ssetL es).map .int) Q := by
      rw [show es ++ intsL [] = es by simp [intsL]] at z
      exact z
    have hn := dups_le es
    refine ⟨D0, _, _, rfl, eD, by omega, fun ns p pw mem hl hp => ?_⟩
    have : ns = ssetL es := asc_ext pw (ssetL_asc es) fun j => by rw [mem j, ssetL_mem]; simp
    rw [this]
    exact z2 p _ hp (IsAll.of_ints _)
section
variable {G : Gn} {c : Ct}
theorem sorted_name : bootBuiltins "sorted" = some (.builtin "sorted") := by decide +kernel
theorem s_scs {elt tgE iter : PySem.Expr} {ifs : List PySem.Expr} {scope : Scope} {p pos pos2 : Pos} {x it : E} {tg : TG} {tst : Option E} {tu : Bool} (hc : c.calm = true) (hgl : globB c.sc "sorted" = true) (hfr : ("sorted" : Str) ∈ G.fre) (hi : ISnd G c iter it tu) (htu : (!tu || isTupE tgE) = true) (hns : notSet iter = true)
    (hok : blkC c.N c.sc scope (ownOf c.N (slotsT tg)) = true) (hg : KSnd G (c.inner scope) tgE tg) (ht : XSnd G (c.inner scope) ifs tst) (he : ESnd G (c.inner scope) elt x) :
    GSnd G c (.Call (.Name "sorted" p) [.SetComp elt [⟨tgE, iter, ifs, 0⟩] scope pos] [] pos2) (.scs x tg it tst) := fun T n L X gd W tk => by
  obtain ⟨wi, p1, q1⟩ := hi T n L X gd W tk tgE (fun z => by rw [z] at htu; simpa using htu)
  have bok : BlkOk X.N X.env.scope scope (ownOf c.N (slotsT tg)) := by
    rw [gd.hN, gd.hsc]
    exact blkOk_by hok
  have pe := pe_scI (pos := pos) (go := gS L tg) (tt := tsS T n L W0 tst) (te := teS T n L W0 x) (gd.hcalm.trans hc) gd.nd p1 bok (fun s H C cl fp => hg T n L _ (gd.blk scope s H C cl fp)) (fun s H C cl fp => ht.pts (gd.blk scope s H C cl fp) takes0) (fun s H C cl fp => he.pe (gd.blk scope s H C cl fp) takes0) (folded_of hns)
  refine ⟨_, pe_callB (cr_sortedSet (gd.hcalm.trans hc)) (glob_of gd hgl) (gd.fre _ hfr) sorted_name (pa_cons pe pa_nil (star_cons rfl)) (by decide +kernel) (by decide +kernel) (star_cons rfl) (star_any (by rfl)), fun g s wd0 wd st Q k sl r => ?_⟩
  unfold evE at r
  refine q1 g s wd0 wd st _ k sl (r.bind.mono fun d s1 wd1 x1 k1 r1 => ?_)
  obtain ⟨l, e1, r2⟩ := RPost.opt k1 r1.bind
  obtain ⟨l', e2, r3⟩ := RPost.opt k1 r2.bind
  obtain ⟨hsm, rfl⟩ := ite_some e2
  refine ⟨l, e1, fun J vs ds its ps _ D0 hD => ?_⟩
  rw [ownOf_snd]
  have r4 : RPost L wd1 (WE W st) (fun r s' wd' => Res L wd' s' (.lst ((ssetL (intsL r)).map .int)) Q) (lcL (fun y s => (lcF T (callsAt T n) tg x tst g (slotsT tg) y s).bind intO) l s1) := by
    have r5 : RPost L wd1 (WE W st) (fun d s' wd' => Res L wd' s' d Q) ((lcL (fun y s => (lcF T (callsAt T n) tg x tst g (slotsT tg) y s).bind intO) l s1).bind fun r s => .ok (.lst ((ssetL (intsL r)).map .int)) s) := r3
    cases hr : lcL (fun y s => (lcF T (callsAt T n) tg x tst g (slotsT tg) y s).bind intO) l s1 with
    | no => rw [hr] at r5; exact r5
    | ex k0 ys s2 => rw [hr] at r5; exact r5
    | ok rr s2 => rw [hr] at r5; exact r5
  exact sc_walk its k1 (sl.ext x1) ps (fun i h => h) (Nat.le_of_ble_eq_true hsm) D0 hD r4
end
end Bd
namespace Bd
open PySem PySem.Spec PyProof.Rows L2
section
variable {P : Program} {w : World} {A : Around} {E : Value → Shared → Prop} {s : Shared}
/-- an empty set, as the model lays it -/
def setE (w : World) : Obj := { cls := .type "set", dict := none, data := .set #[] 0 (.fresh 0 0 (!w.params.followText "set-order")) }
theorem setE_at {h : Heap} : (h.push (setE w)).get? h.objs.size = some (setE w) := Heap.get?_push_size _ rfl
/-- the loop over the list's items -/
theorem fill_list {l : Addr} {vs : Array Value} {ns : List Int} {R : Result → Shared → Prop} (hh : A.handled = none) (hl : s.heap.IsList l vs) (hi : IntsAre vs.toList ns) (hb : ns.length + 1 < scanBound)
    (h : ∀ h' tk c, SetR w h' s.heap.objs.size (fun j => decide (j ∈ ns)) c → c ≤ ns.length → (∀ b o, s.heap.get? b = some o → h'.get? b = some o) → R (.ok (.ret .none)) { s with heap := h', toks := tk }) :
    codeAny (model P w) A (.builtin "set.update.loop" ⟨[.ref s.heap.objs.size, .ref (s.heap.push (setE w)).objs.size], []⟩) R { s with heap := (s.heap.push (setE w)).push { cls := .type "list_iterator", data := .fields #[.ref l, .int 0 0] } } := by
  obtain ⟨ol, hol, -⟩ := id hl
  have hlt : l < s.heap.objs.size := Heap.lt_size hol
  have hsz : (s.heap.push (setE w)).objs.size = s.heap.objs.size + 1 := Heap.size_push ..
  have hne : l ≠ (s.heap.push (setE w)).objs.size := by
    rw [hsz]
    exact Nat.ne_of_lt (Nat.lt_succ_of_lt hlt)
  have hn : vs.size = ns.length := by
    have := IntsAre.length hi
    simpa using this
  have hl1 : (s.heap.push (setE w)).IsList l vs := hl.push _
  have hv : ∀ (i : Nat) (v : Value), vs[i]? = some v → ∃ k t, ns[i]? = some k ∧ v = .int k t := fun i v e => by
    have hlt : i < ns.length := by
      rw [← hn]
      exact (Array.getElem?_eq_some_iff.mp e).1
    obtain ⟨t, q⟩ := IntsAre.int_at hi i v (by rw [Array.getElem?_toList]; exact e)
    refine ⟨ns[i], t, List.getElem?_eq_getElem hlt, ?_⟩
    rw [q, List.getD_eq_getElem?_getD, List.getElem?_eq_getElem hlt]
    rfl
  have hS : s.heap.objs.size ∉ [(s.heap.push (setE w)).objs.size, l] := by
    rw [hsz]
    intro m
    rcases List.mem_cons.mp m with z | m
    · exact Nat.ne_of_lt (Nat.lt_succ_self _) z
    · rcases List.mem_cons.mp m with z | m
      · exact Nat.ne_of_gt hlt z
      · cases m
  have W := (Walks.list (prog := P) (w := w) (A := A.in1) hh _ l hne vs).toS
  refine set_update_ints W s.heap.objs.size hS ns hn hb hv (vs.size - 0) 0 _ rfl (Nat.zero_le _) ⟨⟨_, Heap.get?_push_size _ rfl, rfl, rfl⟩, hl1.push _⟩ ⟨0, Nat.le_refl 0, setR_new_at (Heap.get?_push_of_some _ setE_at)⟩ fun s1 c hm hc hR => ?_
  obtain ⟨h1, g1, d1, t1, o1⟩ := s1
  have e1 := hm.gens
  have e2 := hm.drawn
  have e3 := hm.os
  simp only at e1 e2 e3
  subst e1 e2 e3
  refine h h1 t1 c hR (by omega) fun b o e => ?_
  have hbl : b < s.heap.objs.size := Heap.lt_size e
  refine hm.heap b o (fun m => ?_) (Heap.get?_push_of_some _ (Heap.get?_push_of_some _ e))
  rcases List.mem_cons.mp m with z | m
  · exact Nat.ne_of_lt hbl z
  · rcases List.mem_cons.mp m with z | m
    · rw [hsz] at z
      exact Nat.ne_of_lt (Nat.lt_succ_of_lt hbl) z
    · cases m
theorem call_setL {l : Addr} {vs : Array Value} {ns : List Int} {Q : Value → Shared → Prop} (hh : A.handled = none) (hl : s.heap.IsList l vs) (hi : IntsAre vs.toList ns) (hb : ns.length + 1 < scanBound)
    (h : ∀ h' tk c, SetR w h' s.heap.objs.size (fun j => decide (j ∈ ns)) c → c ≤ ns.length → (∀ b o, s.heap.get? b = some o → h'.get? b = some o) → Q (.ref s.heap.objs.size) { s with heap := h', toks := tk }) :
    wpAny (model P w) A (call (.type "set") [.ref l]) Q E s := by
  have kc := F.called_set
  obtain ⟨c0, tl, hmro⟩ := kc.mro
  have k1 := kc.made
  have k2 := kc.sub
  have k3 := kc.notType
  have k4 := kc.canCreate
  have k5 := F.typeCall_set_1 (.ref l)
  refine wpAny_call (codeAny_of_tree ?_)
  change wpAny _ _ (callAny (.type "set") _) _ _ _
  refine wpAny_pure ⟨Code.quiet_builtin _ (by decide +kernel), codeAny_builtin F.entry_type_call ?_⟩
  rw [Around.under_plain (weight_type_call_type "set" [.ref l] []) rfl]
  repeat any_goals (first | assumption | wp_step)
  refine codeAny_mono (code_set_led1 (.ref l) (E := E) (Q₁ := fun v s1 => v = .ref s.heap.objs.size ∧ s1 = { s with heap := s.heap.push (setE w) }) ⟨rfl, rfl⟩) fun r s1 hr => ?_
  cases r with
  | error e => exact hr
  | ok fl =>
    cases fl with
    | ret v =>
      obtain ⟨rfl, rfl⟩ := hr
      have ty : Shared.TypeIs { s with heap := s.heap.push (setE w) } (.ref s.heap.objs.size) "set" := ⟨_, setE_at, rfl⟩
      have k6 := kc.init.lookup
      have k7 := kc.init.bind (.ref s.heap.objs.size)
      repeat any_goals (first | assumption | wp_step)
      refine codeAny_mono (codeAny_call_builtin (R := wants (fun v s2 => v = .none ∧ ∃ h' tk c, s2 = { s with heap := h', toks := tk } ∧ SetR w h' s.heap.objs.size (fun j => decide (j ∈ ns)) c ∧ c ≤ ns.length ∧ ∀ b o, s.heap.get? b = some o → h'.get? b = some o) E)
        kc.init.plain F.entry_set_init (check_set_init_1 ty ?_)) fun r2 s2 hr2 => ?_
      · obtain ⟨⟨oc, od, oda, osl⟩, hol, hcl, nl, hdl⟩ := id hl
        simp only at hcl hdl
        subst hcl hdl
        have hol1 : (s.heap.push (setE w)).get? l = some { cls := .type "list", dict := od, data := .seq vs nl, slots := osl } := Heap.get?_push_of_some _ hol
        have k8 := F.sub_list_set
        have k9 := F.sub_list_frozenset
        have ne : (Value.type "list" == Value.type "dict") = false := by decide
        unfold Builtin.«set.__init__» noKeywords Builtin.Frozenset.updateFrom
        generalize hp : pyIter = PI
        wp_walk
        subst hp
        refine wpAny_pyIter_list (hl.push _) ?_
        refine wpAny_bind (wpAny_runValue ?_)
        have hh3 : A.in1.in1.handled = none := by simp [hh]
        refine fill_list hh3 hl hi hb fun h' tk c hR hc hk => ?_
        change wpAny _ _ _ _ _ _
        refine wpAny_pure ?_
        change wpAny _ _ (ret Value.none) _ _ _
        exact wpAny_pure ⟨rfl, h', tk, c, rfl, hR, hc, hk⟩
      · cases r2 with
        | error e => exact hr2
        | ok f2 =>
          cases f2 with
          | ret v2 =>
            obtain ⟨rfl, h', tk, c, rfl, hR, hc, hk⟩ := hr2
            repeat any_goals (first | assumption | wp_step)
            exact h h' tk c hR hc hk
          | _ => exact hr2.elim
    | _ => exact hr.elim
end
section
variable {X : Cx}
/-- set(xs), xs a list of whole numbers -/
def rSetL (K : PySem.W.Frag) (w : World) : List V → Hp → VK → Prop := fun xs H Q => ∃ (l : Addr) (ns : List Int), xs = [.ref l] ∧ SqL K H l (ns.map V.int) ∧ ns.length ≤ 60 ∧
  ∀ a c, H a = none → c ≤ ns.length → Q (.ref a) (upd H a (SetO w a (fun j => decide (j ∈ ns)) c))
theorem cr_setL (hc : X.calm = true) : CallR X (.type "set") (rSetL X.K X.w) := by
  intro pins s st H xs us Q I r w
  obtain ⟨l, ns, rfl, hl, h60, q⟩ := w
  rw [Vals.ref1 r]
  obtain ⟨its, rv, pl, hz⟩ := I.list hl
  have hi : IntsAre its.toArray.toList ns := ints_of_vals rv
  have hn : H s.heap.objs.size = none := I.hok.fresh (Nat.le_refl _)
  refine call_setL (I.ok.hd hc) pl.isList hi (by unfold scanBound; omega) fun h' tk c hR hcn hk => ?_
  exact ⟨.ref s.heap.objs.size, _, I.laid (t' := tk) hk (Nat.le_refl _) (setO_new hR), rfl, q _ c hn hcn⟩
end
section
variable {G : Gn} {c : Ct}
theorem set_name : bootBuiltins "set" = some (.type "set") := by decide +kernel
theorem s_sst {e : PySem.Expr} {p p2 p3 pos : Pos} {x : E} (hc : c.calm = true) (h1 : globB c.sc "sorted" = true) (h2 : ("sorted" : Str) ∈ G.fre) (h3 : globB c.sc "set" = true) (h4 : ("set" : Str) ∈ G.fre) (hs : noStar e = true) (he : OSnd G c e x) :
    GSnd G c (.Call (.Name "sorted" p) [.Call (.Name "set" p2) [e] [] p3] [] pos) (.sst x) := fun T n L X gd W tk => by
  obtain ⟨te, pe, qe⟩ := he T n L X gd W tk
  have hcal := gd.hcalm.trans hc
  have ps := pe_callTy (p := p2) (pos := p3) (cr_setL hcal) (glob_of gd h3) (gd.fre _ h4) set_name (pa_cons pe pa_nil (star_cons hs)) (by decide +kernel) (by decide +kernel) (star_cons hs) (star_any (by rfl))
  refine ⟨_, pe_callB (cr_sortedSet hcal) (glob_of gd h1) (gd.fre _ h2) sorted_name (pa_cons ps pa_nil (star_cons rfl)) (by decide +kernel) (by decide +kernel) (star_cons rfl) (star_any (by rfl)), fun g s wd0 wd st Q k sl r => ?_⟩
  unfold evE at r
  refine qe g s wd0 wd st _ k sl (r.bind.mono fun d s1 wd1 x1 k1 r1 v i => ?_)
  cases d with
  | lst xs =>
    obtain ⟨l, e1, r2⟩ := RPost.opt k1 (show RPost L wd1 _ _ (optR (if Nat.ble xs.length 60 then intsOf xs else none) s1) from RPost.bind r1)
    obtain ⟨hsm, e2⟩ : Nat.ble xs.length 60 = true ∧ intsOf xs = some l := by
      split at e1
      · rename_i q
        exact ⟨q, e1⟩
      · cases e1
    obtain ⟨q0, vs, rfl, hq1, hq2⟩ := i.lst k1
    have hv := hq2.ints e2
    subst hv
    have hlen : l.length ≤ 60 := by
      have := hq2.length
      have := Nat.le_of_ble_eq_true hsm
      simp at *
      omega
    refine ⟨q0, l, rfl, SqL.of hq1, hlen, fun a cc ha hcc => ?_⟩
    refine ⟨a, _, cc, rfl, upd_same, by omega, fun ns p pw mem hl hp => ?_⟩
    have hns : ns = ssetL l := asc_ext pw (ssetL_asc l) fun j => by
      rw [mem j, ssetL_mem]
      simp
    have z : Res L ⟨wd1.F, wd1.mu, upd wd1.H a (SetO X.w a (fun j => decide (j ∈ l)) cc)⟩ s1 (.lst ((ssetL l).map .int)) Q := r2 _ (Ext.laid k1 ha) (k1.laid ha)
    rw [hns]
    exact z p _ hp (IsAll.of_ints _)
  | _ => exact False.elim r1
end
end Bd
namespace Bd
open PySem PySem.Spec PyProof.Rows L2
abbrev CE_ (G : Gn) (c : Ct) (e : PySem.Expr) := Option {x : E // ESnd G c e x}
abbrev CT_ (G : Gn) (c : Ct) (e : PySem.Expr) := Option {x : E // TSnd G c e x}
abbrev CG_ (G : Gn) (c : Ct) (e : PySem.Expr) := Option {x : E // GSnd G c e x}
abbrev CO_ (G : Gn) (c : Ct) (e : PySem.Expr) := Option {x : E // OSnd G c e x}
abbrev CQ_ (G : Gn) (c : Ct) (e : PySem.Expr) := Option {x : E // QSnd G c e x}
/-- the compilers at hand -/
structure Cmp (G : Gn) where
  e : (c : Ct) → (e : PySem.Expr) → CE_ G c e
  t : (c : Ct) → (e : PySem.Expr) → CT_ G c e
  g : (c : Ct) → (e : PySem.Expr) → CG_ G c e
/-- the slot of a name -/
def slotOf (c : Ct) (x : Str) : Option {i : Nat // c.N[i]? = some x ∧ visB c.sc x = true ∧ plainN x = true} :=
  if h1 : visB c.sc x = true then if h2 : plainN x = true then (match c.N.idxOf? x with
    | some i => if h : c.N[i]? = some x then some ⟨i, h, h1, h2⟩ else none
    | none => none) else none else none
section
variable {G : Gn}
def cName (c : Ct) (x : Str) (pos : Pos) : CE_ G c (.Name x pos) := match slotOf c x with
  | some ⟨i, h⟩ => some ⟨.var i, s_var h.1 h.2.1 h.2.2⟩
  | none => match hd : G.ct.lookup x with
    | some d => if h : globB c.sc x = true ∧ flatC d = true ∧ plainN x = true then some ⟨.cst d, s_glob h.1 hd h.2.1 h.2.2⟩ else none
    | none => none
/-- read at once -/
def cO (r : Cmp G) (c : Ct) (e : PySem.Expr) : CO_ G c e := match e with
  | .Name x pos => (match slotOf c x with
    | some ⟨i, h⟩ => if c.ow.contains i then some ⟨.brw i, s_brw h.1 h.2.1 h.2.2⟩ else some ⟨.var i, (s_var h.1 h.2.1 h.2.2).os rfl⟩
    | none => (r.e c (.Name x pos)).bind fun ⟨x, h⟩ => if hx : notBrw x = true then some ⟨x, h.os hx⟩ else none)
  | e => (r.e c e).bind fun ⟨x, h⟩ => if hx : notBrw x = true then some ⟨x, h.os hx⟩ else none
def cQ (r : Cmp G) (c : Ct) (e : PySem.Expr) : CQ_ G c e := match e with
  | .Name x pos => (match slotOf c x with
    | some ⟨i, h⟩ => if c.ow.contains i then some ⟨.brw i, q_brw (s_brw h.1 h.2.1 h.2.2)⟩ else some ⟨.var i, q_of (s_var h.1 h.2.1 h.2.2) rfl⟩
    | none => (r.e c (.Name x pos)).bind fun ⟨x, h⟩ => if hx : notBrw x = true then some ⟨x, q_of h hx⟩ else none)
  | e => (r.e c e).bind fun ⟨x, h⟩ => if hx : notBrw x = true then some ⟨x, q_of h hx⟩ else none
def cA (r : Cmp G) (c : Ct) : (es : List PySem.Expr) → Option {xs : List E // ASnd G c es xs}
  | [] => some ⟨[], s_nil⟩
  | e :: es => if hs : noStar e = true then (r.e c e).bind fun ⟨x, h⟩ => (cA r c es).map fun ⟨xs, hx⟩ => ⟨x :: xs, s_cons h hs hx⟩ else none
def cB (r : Cmp G) (c : Ct) : (es : List PySem.Expr) → Option {xs : List E // BSnd G c es xs}
  | [] => some ⟨[], b_nil⟩
  | e :: es => if hs : noStar e = true then (cO r c e).bind fun ⟨x, h⟩ => (cB r c es).map fun ⟨xs, hx⟩ => ⟨x :: xs, b_cons h hs hx⟩ else none
def cJ (r : Cmp G) (c : Ct) : (es : List PySem.Expr) → Option {xs : List E // JSnd G c es xs}
  | [] => some ⟨[], j_nil⟩
  | e :: es => (r.e c e).bind fun ⟨x, h⟩ => (cJ r c es).map fun ⟨xs, hx⟩ => ⟨x :: xs, j_cons h hx⟩
def cD (r : Cmp G) (c : Ct) : (ks : List (Option PySem.Expr)) → (vs : List PySem.Expr) → Option {p : List Key × List E // DSnd G c ks vs p.1 p.2}
  | [], [] => some ⟨([], []), d_nil⟩
  | k :: ks, v :: vs => (match hk : keyE k with
    | some k0 => (r.e c v).bind fun ⟨x, h⟩ => (cD r c ks vs).map fun ⟨p, hp⟩ => ⟨(k0 :: p.1, x :: p.2), d_cons hk h hp⟩
    | none => none)
  | _, _ => none
def cAnd (r : Cmp G) (c : Ct) (pos : Pos) : (es : List PySem.Expr) → CE_ G c (.BoolOp .And es pos)
  | [] => none
  | [a] => (r.e c a).map fun ⟨x, h⟩ => ⟨x, s_one h⟩
  | a :: b :: rest => (r.e c a).bind fun ⟨x, h⟩ => (cAnd r c pos (b :: rest)).map fun ⟨y, h2⟩ => ⟨.and x y, s_and h h2⟩
/-- int(..) -/
def isIntC : PySem.Expr → Bool
  | .Call (.Name f _) _ _ _ => decide (f = "int")
  | _ => false
def cOr (r : Cmp G) (c : Ct) (pos : Pos) : (es : List PySem.Expr) → CE_ G c (.BoolOp .Or es pos)
  | [] => none
  | [a] => (r.e c a).map fun ⟨x, h⟩ => ⟨x, s_one h⟩
  | a :: b :: rest => (r.e c a).bind fun ⟨x, h⟩ => (cOr r c pos (b :: rest)).map fun ⟨y, h2⟩ => if isIntC a then ⟨.orv x y, s_orv h h2⟩ else ⟨.or x y, s_or h h2⟩
def cAndT (r : Cmp G) (c : Ct) (pos : Pos) : (es : List PySem.Expr) → Option {x : E // WSnd G c (.BoolOp .And es pos) x}
  | [] => none
  | [a] => (r.t c a).map fun ⟨x, h⟩ => ⟨x, w_and1 h⟩
  | a :: b :: rest => (r.t c a).bind fun ⟨x, h⟩ => (cAndT r c pos (b :: rest)).map fun ⟨y, h2⟩ => ⟨.and x y, w_and h h2⟩
def cOrT (r : Cmp G) (c : Ct) (pos : Pos) : (es : List PySem.Expr) → Option {x : E // WSnd G c (.BoolOp .Or es pos) x}
  | [] => none
  | [a] => (r.t c a).map fun ⟨x, h⟩ => ⟨x, w_or1 h⟩
  | a :: b :: rest => (r.t c a).bind fun ⟨x, h⟩ => (cOrT r c pos (b :: rest)).map fun ⟨y, h2⟩ => ⟨.or x y, w_or h h2⟩
/-- is a side an owned list's name -/
def isOwn (c : Ct) : PySem.Expr → Bool
  | .Name x _ => (match slotOf c x with
    | some ⟨i, _⟩ => c.ow.contains i
    | none => false)
  | _ => false
def cCmp (r : Cmp G) (c : Ct) (a b : PySem.Expr) (op : CmpOp) (pos : Pos) : CE_ G c (.Compare a [op] [b] pos) :=
  if hm : markOk op b = true then
    if isOwn c a || isOwn c b then (cO r c a).bind fun ⟨x, h1⟩ => (cO r c b).map fun ⟨y, h2⟩ => ⟨.cmpb op x y, s_cmpb h1 h2 hm⟩
    else if hc : c.calm = true then (r.e c a).bind fun ⟨x, h1⟩ => (r.e c b).map fun ⟨y, h2⟩ => ⟨.cmp op x y, s_cmp hc h1 h2 hm⟩ else none
  else none
def cCmpT (r : Cmp G) (c : Ct) (a b : PySem.Expr) (op : CmpOp) (pos : Pos) : CT_ G c (.Compare a [op] [b] pos) :=
  if hm : markOk op b = true then
    if isOwn c a || isOwn c b then (cO r c a).bind fun ⟨x, h1⟩ => (cO r c b).map fun ⟨y, h2⟩ => ⟨.cmpb op x y, t_cmpb h1 h2 hm⟩
    else if hc : c.calm = true then (r.e c a).bind fun ⟨x, h1⟩ => (r.e c b).map fun ⟨y, h2⟩ => ⟨.cmp op x y, t_cmp hc h1 h2 hm⟩ else none
  else none
def cP (r : Cmp G) (c : Ct) : (e : Option PySem.Expr) → Option {x : Option E // PSnd G c e x}
  | none => some ⟨none, s_pn⟩
  | some e => (r.e c e).map fun ⟨x, h⟩ => ⟨some x, s_ps h⟩
def cTy (c : Ct) (x : Str) : Option {t : Ty // TyNm G c x t} :=
  if h1 : globB c.sc x = true ∧ plainN x = true then (match hb : btOf x with
    | some b => if hf : x ∈ G.fre then some ⟨.bt b, h1.1, h1.2, .inl ⟨b, rfl, hb, hf⟩⟩ else none
    | none => (match hk : G.cl.lookup x with
      | some k => some ⟨.own k, h1.1, h1.2, .inr ⟨k, rfl, hk⟩⟩
      | none => none)) else none
def cXN (c : Ct) (x : Str) : Option {m : Nat // XNm G c x m} :=
  if h1 : globB c.sc x = true ∧ plainN x = true then (match hb : xbOf x with
    | some b => if hf : x ∈ G.fre then some ⟨b.1, h1.1, h1.2, .inl ⟨b, hb, rfl, hf⟩⟩ else none
    | none => (match hk : G.cl.lookup x with
      | some k => if h : k < 9000 then some ⟨k, h1.1, h1.2, .inr ⟨hk, h⟩⟩ else none
      | none => none)) else none
/-- is a name that of an exception class -/
def isXc (G : Gn) (x : Str) : Bool := (xbOf x).isSome || (match G.cl.lookup x with
  | some k => G.exs.contains k
  | none => false)
/-- what holds an exception, by its name -/
def xBase : PySem.Expr → Bool
  | .Name z _ => z == "error" || z == "_law_error"
  | .Subscript (.Name z _) _ _ => z == "_law_errors"
  | _ => false
mutual
def cK (c : Ct) : (e : PySem.Expr) → Option {t : TG // KSnd G c e t}
  | .Name x pos => (match c.N.idxOf? x with
    | some i => if h : c.N[i]? = some x ∧ locB c.sc x = true ∧ tgOk c x = true then some ⟨.nm i, k_name h.1 h.2.1 h.2.2⟩ else none
    | none => none)
  | .Tuple es kk pos => if hc : c.calm = true then (cKs c es).map fun ⟨ts, h⟩ => ⟨.tp ts, k_tup hc h⟩ else none
  | _ => none
def cKs (c : Ct) : (es : List PySem.Expr) → Option {ts : List TG // KsSnd G c es ts}
  | [] => some ⟨[], ks_nil⟩
  | e :: es => if hs : noStar e = true then (cK c e).bind fun ⟨t, h⟩ => (cKs c es).map fun ⟨ts, hh⟩ => ⟨t :: ts, ks_cons h hs hh⟩ else none
end
theorem Gd.ow {T : Tb} {n : Nat} {L : Lay} {c : Ct} {X : Cx} (gd : Gd G T n L c X) (o : List Nat) : Gd G T n L { c with ow := o } X :=
  ⟨gd.hK, gd.hN, gd.nd, gd.hsc, gd.hcalm, gd.hfn, gd.room, gd.un, gd.gu, gd.sysm, gd.ctv, gd.fre, gd.fns, gd.cls, gd.nmi, gd.nmn, gd.nsp, gd.clf, gd.xc, gd.stk, gd.call⟩
theorem isnd_ow {c : Ct} {e : PySem.Expr} {x : E} {tu : Bool} {o : List Nat} (h : ISnd G { c with ow := o } e x tu) : ISnd G c e x tu := fun T n L X gd W tk tg ht => h T n L X (gd.ow o) W tk tg ht
def cI (r : Cmp G) (c : Ct) (e : PySem.Expr) : Option {p : E × Bool // ISnd G c e p.1 p.2} := match e with
  | .Call (.Name f p) [a] [] pos => if hn : f = "range" then (if h : noStar a = true ∧ globB c.sc "range" = true ∧ ("range" : Str) ∈ G.fre then (r.e c a).map fun ⟨x, hx⟩ => ⟨(.rng1 x, false), by subst hn; exact i_rng1 hx h.1 h.2.1 h.2.2⟩ else none)
    else if hn : f = "enumerate" then (if h : noStar a = true ∧ globB c.sc "enumerate" = true ∧ ("enumerate" : Str) ∈ G.fre then (cQ r c a).map fun ⟨x, hx⟩ => ⟨(.enum x, true), by subst hn; exact i_enum hx h.1 h.2.1 h.2.2⟩ else none)
    else (cQ r c (.Call (.Name f p) [a] [] pos)).bind fun ⟨x, hx⟩ => if hp : plainIt x = true then some ⟨(x, false), i_val hx hp⟩ else none
  | .Call (.Name f p) [a, b] [] pos => if hn : f = "range" then (if h : noStar a = true ∧ noStar b = true ∧ globB c.sc "range" = true ∧ ("range" : Str) ∈ G.fre then (r.e c a).bind fun ⟨x, hx⟩ => (r.e c b).map fun ⟨y, hy⟩ => ⟨(.rng2 x y, false), by subst hn; exact i_rng2 hx hy h.1 h.2.1 h.2.2.1 h.2.2.2⟩ else none)
    else if hn : f = "zip" then (if h : noStar a = true ∧ noStar b = true ∧ globB c.sc "zip" = true ∧ ("zip" : Str) ∈ G.fre then (cQ r c a).bind fun ⟨x, hx⟩ => (cQ r c b).map fun ⟨y, hy⟩ => ⟨(.zip2 x y, true), by subst hn; exact i_zip2 hx hy h.1 h.2.1 h.2.2.1 h.2.2.2⟩ else none)
    else (cQ r c (.Call (.Name f p) [a, b] [] pos)).bind fun ⟨x, hx⟩ => if hp : plainIt x = true then some ⟨(x, false), i_val hx hp⟩ else none
  | .Call (.Name f p) [a, b, d] [] pos => if hn : f = "zip" then (if h : noStar a = true ∧ noStar b = true ∧ noStar d = true ∧ globB c.sc "zip" = true ∧ ("zip" : Str) ∈ G.fre then (cQ r c a).bind fun ⟨x, hx⟩ => (cQ r c b).bind fun ⟨y, hy⟩ => (cQ r c d).map fun ⟨z, hz⟩ => ⟨(.zip3 x y z, true), by subst hn; exact i_zip3 hx hy hz h.1 h.2.1 h.2.2.1 h.2.2.2.1 h.2.2.2.2⟩ else none)
    else if hn : f = "range" then (if h : noStar a = true ∧ noStar b = true ∧ noStar d = true ∧ globB c.sc "range" = true ∧ ("range" : Str) ∈ G.fre then (r.e c a).bind fun ⟨x, hx⟩ => (r.e c b).bind fun ⟨y, hy⟩ => (r.e c d).map fun ⟨z, hz⟩ => ⟨(.rng3 x y z, false), by subst hn; exact i_rng3 hx hy hz h.1 h.2.1 h.2.2.1 h.2.2.2.1 h.2.2.2.2⟩ else none)
    else (cQ r c (.Call (.Name f p) [a, b, d] [] pos)).bind fun ⟨x, hx⟩ => if hp : plainIt x = true then some ⟨(x, false), i_val hx hp⟩ else none
  | e => (cQ r c e).bind fun ⟨x, hx⟩ => if hp : plainIt x = true then some ⟨(x, false), i_val hx hp⟩ else none
/-- what one comprehension walks -/
def cL (r : Cmp G) (c : Ct) (e : PySem.Expr) : Option {p : E × Bool // LSnd G c e p.1 p.2} := match cI r c e with
  | some ⟨(x, tu), h⟩ => if hp : plainIt x = false then some ⟨(x, tu), l_of h hp⟩ else (cQ r c e).bind fun ⟨x2, hx⟩ => if hp2 : plainIt x2 = true then some ⟨(x2, false), l_val hx hp2⟩ else none
  | none => none
def cX (r : Cmp G) (c : Ct) : (ifs : List PySem.Expr) → Option {x : Option E // XSnd G c ifs x}
  | [] => some ⟨none, trivial⟩
  | [e] => (r.t c e).map fun ⟨x, h⟩ => ⟨some x, h⟩
  | _ => none
def stepG (r : Cmp G) (c : Ct) (e : PySem.Expr) : CG_ G c e := match e with
  | .List es pos => (cA r c es).bind fun ⟨xs, h⟩ => if hl : small xs.length = true then some ⟨.lst xs, s_lst h hl⟩ else none
  | .BinOp a op b pos => (cO r c a).bind fun ⟨x, h1⟩ => (cO r c b).map fun ⟨y, h2⟩ => ⟨.bin op x y, s_bin h1 h2⟩
  | .Subscript a (.Slice none none (some (.Constant (.int 2) k p1)) p3) pos => (cO r c a).map fun ⟨x, h⟩ => ⟨.stp false x, s_stp h (.inl ⟨rfl, rfl⟩)⟩
  | .Subscript a (.Slice (some (.Constant (.int 1) k0 p0)) none (some (.Constant (.int 2) k p1)) p3) pos => (cO r c a).map fun ⟨x, h⟩ => ⟨.stp true x, s_stp h (.inr ⟨rfl, k0, p0, rfl⟩)⟩
  | .Subscript a (.Slice none none (some (.UnaryOp .USub (.Constant (.int 1) k p1) p2)) p3) pos => (cO r c a).map fun ⟨x, h⟩ => ⟨.rev x, s_rev h⟩
  | .Subscript a (.Slice none none (some es) p3) pos => (cO r c a).bind fun ⟨x, h⟩ => (cP r c (some es)).map fun ⟨xs, hs⟩ => ⟨.stx x xs, s_stx h hs⟩
  | .Subscript a (.Slice l u none p2) pos => (cO r c a).bind fun ⟨x, h⟩ => (cP r c l).bind fun ⟨xl, hl⟩ => (cP r c u).map fun ⟨xu, hu⟩ => ⟨.slc x xl xu, s_slc h hl hu⟩
  | .ListComp elt [⟨tgE, iter, ifs, 0⟩] scope pos =>
    if hc : c.calm = true ∧ notSet iter = true then (cL r c iter).bind fun ⟨(it, tu), hi⟩ => (cK (c.inner scope) tgE).bind fun ⟨tg, hg⟩ => (cX r (c.inner scope) ifs).bind fun ⟨tst, ht⟩ => (r.e (c.inner scope) elt).bind fun ⟨x, he⟩ =>
      if h : (!tu || isTupE tgE) = true ∧ blkC c.N c.sc scope (ownOf c.N (slotsT tg)) = true then some ⟨.lc x tg it tst, s_lc hc.1 hi h.1 hc.2 h.2 hg ht he⟩ else none
    else none
  | .ListComp elt [⟨tgE, iter, [], 0⟩, ⟨tg1E, iter1, ifs, 0⟩] scope pos =>
    if hc : c.calm = true ∧ notSet iter = true ∧ notSet iter1 = true then (cI r c iter).bind fun ⟨(it, tu), hi⟩ => (cK (c.inner scope) tgE).bind fun ⟨tg, hg⟩ => (cI r { c.inner scope with ow := [] } iter1).bind fun ⟨(it1, tu1), hi1⟩ => (cK (c.inner scope) tg1E).bind fun ⟨tg1, hg1⟩ => (cX r (c.inner scope) ifs).bind fun ⟨tst, ht⟩ => (r.e (c.inner scope) elt).bind fun ⟨x, he⟩ =>
      if h : (!tu || isTupE tgE) = true ∧ (!tu1 || isTupE tg1E) = true ∧ topBrw it1 = false ∧ blkC c.N c.sc scope (ownOf c.N (slotsT tg ++ slotsT tg1)) = true then some ⟨.lc2 x tg it tg1 it1 tst, s_lc2 hc.1 hi h.1 hc.2.1 (isnd_ow hi1) h.2.1 hc.2.2 h.2.2.1 h.2.2.2 hg hg1 ht he⟩ else none
    else none
  | .Call (.Attribute o nm apos) [e] [] pos => if hn : nm = "split" then (if h : plainBase o = true ∧ (apos.endLine == pos.line) = true ∧ noStar e = true then (cO r c o).bind fun ⟨x, ho⟩ => (r.e c e).map fun ⟨y, he⟩ => ⟨.bm .split x [y], by subst hn; exact s_split h.1 h.2.1 h.2.2 ho he⟩ else none) else none
  | .Call (.Name f p) [.SetComp elt [⟨tgE, iter, ifs, 0⟩] scope pos] [] pos2 =>
    if hn : f = "sorted" then (if hc : c.calm = true ∧ notSet iter = true ∧ globB c.sc "sorted" = true ∧ ("sorted" : Str) ∈ G.fre then (cI r c iter).bind fun ⟨(it, tu), hi⟩ => (cK (G := G) (c.inner scope) tgE).bind fun ⟨tg, hg⟩ => (cX r (c.inner scope) ifs).bind fun ⟨tst, ht⟩ => (r.e (c.inner scope) elt).bind fun ⟨x, he⟩ =>
      if h : (!tu || isTupE tgE) = true ∧ blkC c.N c.sc scope (ownOf c.N (slotsT tg)) = true then some ⟨.scs x tg it tst, by subst hn; exact s_scs hc.1 hc.2.2.1 hc.2.2.2 hi h.1 hc.2.1 h.2 hg ht he⟩ else none
    else none) else none
  | .Call (.Name f p2) [.Call (.Name f2 p) [a] [] pos] [] pos2 =>
    if hq : f = "sorted" ∧ f2 = "set" then (if q : c.calm = true ∧ globB c.sc "sorted" = true ∧ ("sorted" : Str) ∈ G.fre ∧ globB c.sc "set" = true ∧ ("set" : Str) ∈ G.fre ∧ noStar a = true then (cO r c a).map fun ⟨x, he⟩ => ⟨.sst x, by
      obtain ⟨rfl, rfl⟩ := hq
      exact s_sst q.1 q.2.1 q.2.2.1 q.2.2.2.1 q.2.2.2.2.1 q.2.2.2.2.2 he⟩ else none)
    else if hn : f = "list" ∧ f2 = "range" then (if h : c.calm = true ∧ noStar a = true ∧ globB c.sc "range" = true ∧ ("range" : Str) ∈ G.fre ∧ globB c.sc "list" = true ∧ ("list" : Str) ∈ G.fre then (r.e c a).map fun ⟨x, hx⟩ => ⟨.rng1 x, by
      obtain ⟨rfl, rfl⟩ := hn
      exact s_lrng1 h.1 hx h.2.1 h.2.2.1 h.2.2.2.1 h.2.2.2.2.1 h.2.2.2.2.2⟩ else none)
    else (match hb : biOf f 1 with
      | some (b, v, m) => (cB r c [.Call (.Name f2 p) [a] [] pos]).bind fun ⟨xs, h⟩ => if hh : c.calm = true ∧ globB c.sc f = true ∧ f ∈ G.fre ∧ xs.length = m then some ⟨.bi b xs, s_bi hh.1 hb hh.2.1 hh.2.2.1 h hh.2.2.2⟩ else none
      | none => none)
  | .Call (.Name f p2) [.Call (.Name f2 p) [a, b] [] pos] [] pos2 =>
    if hn : f = "list" ∧ f2 = "range" then (if h : c.calm = true ∧ noStar a = true ∧ noStar b = true ∧ globB c.sc "range" = true ∧ ("range" : Str) ∈ G.fre ∧ globB c.sc "list" = true ∧ ("list" : Str) ∈ G.fre then (r.e c a).bind fun ⟨x, hx⟩ => (r.e c b).map fun ⟨y, hy⟩ => ⟨.rng2 x y, by
      obtain ⟨rfl, rfl⟩ := hn
      exact s_lrng2 h.1 hx hy h.2.1 h.2.2.1 h.2.2.2.1 h.2.2.2.2.1 h.2.2.2.2.2.1 h.2.2.2.2.2.2⟩ else none)
    else (match hb : biOf f 1 with
      | some (bb, v, m) => (cB r c [.Call (.Name f2 p) [a, b] [] pos]).bind fun ⟨xs, h⟩ => if hh : c.calm = true ∧ globB c.sc f = true ∧ f ∈ G.fre ∧ xs.length = m then some ⟨.bi bb xs, s_bi hh.1 hb hh.2.1 hh.2.2.1 h hh.2.2.2⟩ else none
      | none => none)
  | .Call (.Name f p) (a :: as) [] pos => (match hb : biOf f (as.length + 1) with
      | some (b, v, m) => (cB r c (a :: as)).bind fun ⟨xs, h⟩ => if hh : c.calm = true ∧ globB c.sc f = true ∧ f ∈ G.fre ∧ xs.length = m then some ⟨.bi b xs, s_bi hh.1 hb hh.2.1 hh.2.2.1 h hh.2.2.2⟩ else none
      | none => none)
  | _ => none
end
end Bd
namespace Bd
open PySem PySem.Spec PyProof.Rows L2
section
variable {G : Gn}
def ofG (r : Cmp G) (c : Ct) (e : PySem.Expr) : CE_ G c e := (stepG r c e).map fun ⟨x, h⟩ => ⟨x, h.es⟩
/-- a display of displays -/
def nestE : List PySem.Expr → Bool
  | .List _ _ :: _ => true
  | _ => false
def cCall (r : Cmp G) (c : Ct) (f : Str) (p : Pos) (es : List PySem.Expr) (pos : Pos) : CE_ G c (.Call (.Name f p) es [] pos) :=
  if h0 : c.calm = true ∧ globB c.sc f = true ∧ plainN f = true then
    (match hf : G.fn.lookup f with
    | some k => (cA r c es).map fun ⟨xs, h⟩ => ⟨.call k xs, s_call h0.1 h0.2.1 h0.2.2 hf h⟩
    | none => (match hk : G.cl.lookup f with
      | some k => (cA r c es).map fun ⟨xs, h⟩ => if G.exs.contains k then ⟨.mkx k xs, s_mkx h0.1 h0.2.1 h0.2.2 hk h⟩ else ⟨.mk k xs, s_mk h0.1 h0.2.1 h0.2.2 hk h⟩
      | none => ofG r c (.Call (.Name f p) es [] pos)))
  else none
def stepE (r : Cmp G) (c : Ct) (e : PySem.Expr) : CE_ G c e := match e with
  | .Constant (.int i) j pos => some ⟨.cst (.int i), s_int⟩
  | .Constant (.bool i) j pos => some ⟨.cst (.bl i), s_bl⟩
  | .Constant .none j pos => some ⟨.cst .non, s_non⟩
  | .Constant (.str i) j pos => some ⟨.cst (.str i), s_str⟩
  | .Name x pos => cName c x pos
  | .Tuple es k pos => (cA r c es).bind fun ⟨xs, h⟩ => if hl : small xs.length = true then some ⟨.tup xs, s_tup h hl⟩ else none
  | .List es pos => if (c.ow.contains 9998 && !nestE es) = true then (cA r c es).bind fun ⟨xs, h⟩ => if hl : small xs.length = true then some ⟨.lsn xs, s_lsn h hl⟩ else none else ofG r c (.List es pos)
  | .Dict ks vs pos => (cD r c ks vs).bind fun ⟨(ks', xs), h⟩ => if hh : Nat.ble ks'.length 15 = true ∧ decide ks'.Nodup = true then some ⟨.dsp ks' xs, s_dsp h hh.1 hh.2⟩ else none
  | .UnaryOp .USub a pos => (r.e c a).map fun ⟨x, h⟩ => ⟨.neg x, s_neg h⟩
  | .FormattedValue a cv none pos => if hn : cv = -1 then (r.e c a).map fun ⟨x, h⟩ => ⟨.fmt x, by subst hn; exact s_fmt h⟩ else none
  | .JoinedStr (e1 :: e2 :: es) pos => (cJ r c (e1 :: e2 :: es)).map fun ⟨xs, h⟩ => ⟨.fst xs, s_fst h⟩
  | .UnaryOp .Not a pos => (r.e c a).map fun ⟨x, h⟩ => ⟨.not x, s_not h⟩
  | .Compare a [op] [b] pos => cCmp r c a b op pos
  | .Compare a [op, op2] [b, d] pos => if hm : marks2 op op2 b d = true then (r.e c a).bind fun ⟨x, h1⟩ => (r.e c b).bind fun ⟨y, h2⟩ => (r.e c d).map fun ⟨z, h3⟩ => ⟨.cmp2 op op2 x y z, s_cmp2 h1 h2 h3 hm⟩ else none
  | .BoolOp .And es pos => cAnd r c pos es
  | .BoolOp .Or es pos => cOr r c pos es
  | .IfExp t a b pos => (r.t c t).bind fun ⟨z, h0⟩ => (r.e c a).bind fun ⟨x, h1⟩ => (r.e c b).map fun ⟨y, h2⟩ => ⟨.ife z x y, s_ife h0 h1 h2⟩
  | .Call (.Name f p) [a, .Name x2 p2] [] pos => if hn : f = "isinstance" then (if h : globB c.sc "isinstance" = true ∧ ("isinstance" : Str) ∈ G.fre ∧ noStar a = true then (r.e c a).bind fun ⟨x, hx⟩ => if isXc G x2 = true then (cXN (G := G) c x2).map fun ⟨m, ht⟩ => ⟨.isx x m, by subst hn; exact s_isx h.1 h.2.1 hx h.2.2 ht⟩ else (cTy (G := G) c x2).map fun ⟨ty, ht⟩ => ⟨.isi x ty, by subst hn; exact s_isi h.1 h.2.1 hx h.2.2 ht⟩ else none)
      else cCall r c f p [a, .Name x2 p2] pos
  | .Call (.Name f p) es [] pos => cCall r c f p es pos
  | .Call (.Attribute o nm apos) [e] [] pos => if hn : nm = "count" then (if h : plainBase o = true ∧ (apos.endLine == pos.line) = true ∧ noStar e = true then (cO r c o).bind fun ⟨x, ho⟩ => (r.e c e).map fun ⟨y, he⟩ => ⟨.bm .count x [y], by subst hn; exact s_cnt h.1 h.2.1 h.2.2 ho he⟩ else none)
    else if hn : nm = "index" then (if h : plainBase o = true ∧ (apos.endLine == pos.line) = true ∧ noStar e = true then (cO r c o).bind fun ⟨x, ho⟩ => (r.e c e).map fun ⟨y, he⟩ => ⟨.bm .index x [y], by subst hn; exact s_index h.1 h.2.1 h.2.2 ho he⟩ else none)
    else if nm = "split" then ofG r c (.Call (.Attribute o nm apos) [e] [] pos)
    else if hn : nm = "join" then (if h : plainBase o = true ∧ (apos.endLine == pos.line) = true ∧ noStar e = true then (cO r c o).bind fun ⟨x, ho⟩ => (r.e c e).map fun ⟨y, he⟩ => ⟨.bm .join x [y], by subst hn; exact s_join h.1 h.2.1 h.2.2 ho he⟩ else none)
    else (match G.nm.idxOf? nm with
    | some m => if h : c.calm = true ∧ G.nm[m]? = some nm ∧ plainBase o = true ∧ [e].length < 20 ∧ (apos.endLine == pos.line) = true then (r.e c o).bind fun ⟨x, ho⟩ => (cA r c [e]).map fun ⟨xs, ha⟩ => ⟨.meth m x xs, s_meth h.1 h.2.1 h.2.2.1 h.2.2.2.1 h.2.2.2.2 ho ha⟩ else none
    | none => none)
  | .Call (.Attribute o nm apos) es [] pos => (match G.nm.idxOf? nm with
    | some m => if h : c.calm = true ∧ G.nm[m]? = some nm ∧ plainBase o = true ∧ es.length < 20 ∧ (apos.endLine == pos.line) = true then (r.e c o).bind fun ⟨x, ho⟩ => (cA r c es).map fun ⟨xs, ha⟩ => ⟨.meth m x xs, s_meth h.1 h.2.1 h.2.2.1 h.2.2.2.1 h.2.2.2.2 ho ha⟩ else none
    | none => none)
  | .Attribute a nm pos => (match G.nm.idxOf? nm with
    | some m => if xBase a then (if h : G.nm[m]? = some nm ∧ plainBase a = true then (r.e c a).map fun ⟨x, hx⟩ => ⟨.atx m x, s_atx h.1 h.2 hx⟩ else none) else if h : c.calm = true ∧ G.nm[m]? = some nm ∧ 20 ≤ m ∧ plainBase a = true then (r.e c a).map fun ⟨x, hx⟩ => ⟨.att m x, s_att h.1 h.2.1 h.2.2.1 h.2.2.2 hx⟩ else none
    | none => none)
  | .Subscript a b pos => (match stepG r c (.Subscript a b pos) with
    | some ⟨x, h⟩ => some ⟨x, h.es⟩
    | none => if h : c.calm = true ∧ noSlice b = true then (cO r c a).bind fun ⟨x, h1⟩ => (r.e c b).map fun ⟨y, h2⟩ => ⟨.idx x y, s_idx h.1 h.2 h1 h2⟩ else none)
  | e => ofG r c e
def stepT (r : Cmp G) (c : Ct) (e : PySem.Expr) : CT_ G c e := match e with
  | .UnaryOp .Not a pos => (r.t c a).map fun ⟨x, h⟩ => ⟨.not x, t_not h⟩
  | .BoolOp .And es pos => (cAndT r c pos es).map fun ⟨x, h⟩ => ⟨x, h.ts⟩
  | .BoolOp .Or es pos => (cOrT r c pos es).map fun ⟨x, h⟩ => ⟨x, h.ts⟩
  | .Compare a [op] [b] pos => cCmpT r c a b op pos
  | .Compare a [op, op2] [b, d] pos => if hm : marks2 op op2 b d = true then (r.e c a).bind fun ⟨x, h1⟩ => (r.e c b).bind fun ⟨y, h2⟩ => (r.e c d).map fun ⟨z, h3⟩ => ⟨.cmp2 op op2 x y z, t_cmp2 h1 h2 h3 hm⟩ else none
  | e => if hp : plainT e = true then (r.e c e).map fun ⟨x, h⟩ => ⟨x, t_val h hp⟩ else none
def comp (G : Gn) : Nat → Cmp G
  | 0 => ⟨fun _ _ => none, fun _ _ => none, fun _ _ => none⟩
  | n + 1 => ⟨stepE (comp G n), stepT (comp G n), stepG (comp G n)⟩
def eFuel : Nat := 30
def cmp (G : Gn) : Cmp G := comp G eFuel
mutual
def varsE : E → List Nat
  | .var i => [i]
  | .tup es => varsEs es
  | .lst es => varsEs es
  | .dsp _ es => varsEs es
  | .dsn _ es => varsEs es
  | .lsn es => varsEs es
  | .bin _ a b => varsE a ++ varsE b
  | .neg a => varsE a
  | .cmp _ a b => varsE a ++ varsE b
  | .cmpb _ a b => varsE a ++ varsE b
  | .cmp2 _ _ a b c => varsE a ++ varsE b ++ varsE c
  | .and a b => varsE a ++ varsE b
  | .or a b => varsE a ++ varsE b
  | .orv a b => varsE a ++ varsE b
  | .not a => varsE a
  | .ife a b c => varsE a ++ varsE b ++ varsE c
  | .call _ es => varsEs es
  | .mk _ es => varsEs es
  | .mkx _ es => varsEs es
  | .meth _ o es => varsE o ++ varsEs es
  | .att _ o => varsE o
  | .atx _ o => varsE o
  | .bi _ es => varsEs es
  | .bm _ o es => varsE o ++ varsEs es
  | .isi a _ => varsE a
  | .isx a _ => varsE a
  | .idx a b => varsE a ++ varsE b
  | .slc a l u => varsE a ++ varsO l ++ varsO u
  | .rev a => varsE a
  | .stx a l => varsE a ++ varsO l
  | .stp _ a => varsE a
  | .enum a => varsE a
  | .zip2 a b => varsE a ++ varsE b
  | .zip3 a b c => varsE a ++ varsE b ++ varsE c
  | .rng1 a => varsE a
  | .rng2 a b => varsE a ++ varsE b
  | .rng3 a b c => varsE a ++ varsE b ++ varsE c
  | .lc x _ it t => varsE x ++ varsE it ++ varsO t
  | .lc2 x _ it _ it1 t => varsE x ++ varsE it ++ varsE it1 ++ varsO t
  | .scs x _ it t => varsE x ++ varsE it ++ varsO t
  | .sst x => varsE x
  | .sto x => varsE x
  | .fmt a => varsE a
  | .fst es => varsEs es
  | _ => []
def varsEs : List E → List Nat
  | [] => []
  | e :: es => varsE e ++ varsEs es
def varsO : Option E → List Nat
  | none => []
  | some e => varsE e
end
abbrev CS_ (G : Gn) (c : Ct) (s : PySem.Stmt) := Option {xs : List ST // SSnd G c s xs}
abbrev CSs_ (G : Gn) (c : Ct) (s : List PySem.Stmt) := Option {xs : List ST // SsSnd G c s xs}
/-- freeze what leaves -/
def frzS {c : Ct} {s : PySem.Stmt} : (is : List Nat) → {xs : List ST // SSnd G c s xs} → {xs : List ST // SSnd G c s xs}
  | [], x => x
  | i :: is, x => let y := frzS is x; ⟨.frz i :: y.1, s_frz i y.2⟩
def outs (c : Ct) (vs : List Nat) : List Nat := (vs.filter fun i => c.ow.contains i).eraseDups
def cExpr (c : Ct) (e : PySem.Expr) (pos : Pos) : CS_ G c (.Expr e pos) := match e with
  | .Constant (.str x) j p2 => some ⟨[.pas], st_doc⟩
  | .Call (.Attribute (.Name x p3) nm apos) [.Call (.Attribute (.Name z p4) nm2 apos2) [e] [] p5] [] p2 =>
    if hn : nm = "append" ∧ nm2 = "pop" then (match slotOf c x, slotOf c z with
      | some ⟨i, hi⟩, some ⟨j, hj⟩ => if h : noStar e = true ∧ (apos.endLine == p2.line) = true ∧ (apos2.endLine == p5.line) = true then ((cmp G).e c e).map fun ⟨y, hy⟩ => ⟨[.apop i j y], by
          obtain ⟨rfl, rfl⟩ := hn
          exact st_apop hi.1 hi.2.1 hi.2.2 hj.1 hj.2.1 hj.2.2 hy h.1 h.2.1 h.2.2⟩ else none
      | _, _ => none)
    else if hn : nm = "append" then (match slotOf c x with
      | some ⟨i, hi⟩ => if h : noStar (.Call (.Attribute (.Name z p4) nm2 apos2) [e] [] p5) = true ∧ (apos.endLine == p2.line) = true then ((cmp G).e c (.Call (.Attribute (.Name z p4) nm2 apos2) [e] [] p5)).map fun ⟨y, hy⟩ => frzS (outs c (varsE y)) ⟨[.app i y], by
          subst hn
          exact st_app hi.1 hi.2.1 hi.2.2 hy h.1 h.2⟩ else none
      | none => none)
    else ((cmp G).e c (.Call (.Attribute (.Name x p3) nm apos) [.Call (.Attribute (.Name z p4) nm2 apos2) [e] [] p5] [] p2)).map fun ⟨y, hy⟩ => frzS (outs c (varsE y)) ⟨[.ex y], st_ex hy rfl⟩
  | .Call (.Attribute (.Name x p3) nm apos) [e] [] p2 =>
    if hn : nm = "append" then (match slotOf c x with
      | some ⟨i, hi⟩ => if h : noStar e = true ∧ (apos.endLine == p2.line) = true then ((cmp G).e c e).map fun ⟨y, hy⟩ => frzS (outs c (varsE y)) ⟨[.app i y], by
          subst hn
          exact st_app hi.1 hi.2.1 hi.2.2 hy h.1 h.2⟩ else none
      | none => none)
    else if hn : nm = "extend" then (match slotOf c x with
      | some ⟨i, hi⟩ => if h : noStar e = true ∧ (apos.endLine == p2.line) = true then ((cmp G).e c e).map fun ⟨y, hy⟩ => frzS (outs c (varsE y)) ⟨[.ext i y], by
          subst hn
          exact st_ext hi.1 hi.2.1 hi.2.2 hy h.1 h.2⟩ else none
      | none => none)
    else if hn : nm = "pop" then (match slotOf c x with
      | some ⟨i, hi⟩ => if h : noStar e = true ∧ (apos.endLine == p2.line) = true then ((cmp G).e c e).map fun ⟨y, hy⟩ => frzS (outs c (varsE y)) ⟨[.pop i y], by
          subst hn
          exact st_pop hi.1 hi.2.1 hi.2.2 hy h.1 h.2⟩ else none
      | none => none)
    else ((cmp G).e c (.Call (.Attribute (.Name x p3) nm apos) [e] [] p2)).map fun ⟨y, hy⟩ => frzS (outs c (varsE y)) ⟨[.ex y], st_ex hy rfl⟩
  | e => if hn : notComp e = true then ((cmp G).e c e).map fun ⟨y, hy⟩ => frzS (outs c (varsE y)) ⟨[.ex y], st_ex hy hn⟩ else none
/-- one part of a pair: a new list for an owned name -/
def cM (c : Ct) (i : Nat) (e : PySem.Expr) : Option {p : Bool × E // MSnd G c p.1 e p.2} :=
  if c.ow.contains i then (match stepG (cmp G) c e with
    | some ⟨x, h⟩ => some ⟨(true, x), m_ow h⟩
    | none => ((cmp G).e c e).map fun ⟨x, h⟩ => ⟨(false, x), m_sh h⟩)
  else ((cmp G).e c e).map fun ⟨x, h⟩ => ⟨(false, x), m_sh h⟩
end
end Bd
namespace Bd
open PySem PySem.Spec PyProof.Rows L2
section
variable {G : Gn}
/-- what is not covered: it may not be reached -/
def stNo : ST := .ex (.brw 0)
theorem st_no {c : Ct} {s : PySem.Stmt} : SSnd G c s [stNo] := fun T n L X gd W tk po => ⟨_, ps_never, fun w g st wd0 wd sl D x k s hh => by
  rw [evSs_one] at hh
  unfold stNo at hh
  unfold evS at hh
  unfold evE at hh
  exact False.elim hh⟩
def orNo {c : Ct} {s : PySem.Stmt} (x : CS_ G c s) : {xs : List ST // SSnd G c s xs} := x.getD ⟨[stNo], st_no⟩
def cAsgName (c : Ct) (y : Str) (py : Pos) (e : PySem.Expr) (pos : Pos) : CS_ G c (.Assign [.Name y py] e pos) := match c.N.idxOf? y with
  | none => none
  | some i => if hh : c.N[i]? = some y ∧ locB c.sc y = true ∧ tgOk c y = true then (match e with
    | .ListComp elt [⟨tgE, iter, ifs, 0⟩] scope p2 =>
      if hc : c.calm = true ∧ notSet iter = true then (cL (cmp G) c iter).bind fun ⟨(it, tu), hi⟩ => (cK (G := G) (c.inner scope) tgE).bind fun ⟨tg, hg⟩ => (cX (cmp G) (c.inner scope) ifs).bind fun ⟨tst, ht⟩ => ((cmp G).e (c.inner scope) elt).bind fun ⟨x, he⟩ =>
        if h : (!tu || isTupE tgE) = true ∧ blkC c.N c.sc scope (ownOf c.N (slotsT tg)) = true then some (frzS (outs c (varsE (.lc x tg it tst))) ⟨[if c.ow.contains i = true then .own i (.lc x tg it tst) else .asg (.nm i) (.lc x tg it tst)], st_lcN hh.1 hh.2.1 hh.2.2 hc.1 hi h.1 hc.2 h.2 hg ht he⟩) else none
      else none
    | .ListComp elt [⟨tgE, iter, [], 0⟩, ⟨tg1E, iter1, ifs, 0⟩] scope p2 =>
      if hc : c.calm = true ∧ notSet iter = true ∧ notSet iter1 = true then (cI (cmp G) c iter).bind fun ⟨(it, tu), hi⟩ => (cK (G := G) (c.inner scope) tgE).bind fun ⟨tg, hg⟩ => (cI (cmp G) { c.inner scope with ow := [] } iter1).bind fun ⟨(it1, tu1), hi1⟩ => (cK (G := G) (c.inner scope) tg1E).bind fun ⟨tg1, hg1⟩ => (cX (cmp G) (c.inner scope) ifs).bind fun ⟨tst, ht⟩ => ((cmp G).e (c.inner scope) elt).bind fun ⟨x, he⟩ =>
        if h : (!tu || isTupE tgE) = true ∧ (!tu1 || isTupE tg1E) = true ∧ topBrw it1 = false ∧ blkC c.N c.sc scope (ownOf c.N (slotsT tg ++ slotsT tg1)) = true then some (frzS (outs c (varsE (.lc2 x tg it tg1 it1 tst))) ⟨[if c.ow.contains i = true then .own i (.lc2 x tg it tg1 it1 tst) else .asg (.nm i) (.lc2 x tg it tg1 it1 tst)], st_lc2N hh.1 hh.2.1 hh.2.2 hc.1 hi h.1 hc.2.1 (isnd_ow hi1) h.2.1 hc.2.2 h.2.2.1 h.2.2.2 hg hg1 ht he⟩) else none
      else none
    | e => if hn : notComp e = true then
        if c.ow.contains (5000 + i) then (match stepG (cmp G) c e with
          | some ⟨x, h⟩ => some (frzS (outs c (varsE x)) ⟨[.asg (.nm i) (.sto x)], st_asg hh.1 hh.2.1 hh.2.2 (s_sto h.fs) hn⟩)
          | none => none)
        else if c.ow.contains i then (match stepG (cmp G) c e with
          | some ⟨x, h⟩ => some (frzS (outs c (varsE x)) ⟨[.own i x], st_own hh.1 hh.2.1 hh.2.2 h.fs hn⟩)
          | none => ((cmp G).e c e).map fun ⟨x, h⟩ => frzS (outs c (varsE x)) ⟨[.asg (.nm i) x], st_asg hh.1 hh.2.1 hh.2.2 h hn⟩)
        else ((cmp G).e c e).map fun ⟨x, h⟩ => frzS (outs c (varsE x)) ⟨[.asg (.nm i) x], st_asg hh.1 hh.2.1 hh.2.2 h hn⟩
      else none) else none
/-- is an owned name set -/
def isNew (c : Ct) (x : Str) (e : PySem.Expr) : Bool := (match c.N.idxOf? x with
  | some i => c.ow.contains i
  | none => false)
def cParT (c : Ct) (ts : List PySem.Expr) (kt : Nat) (pt : Pos) (vs : List PySem.Expr) (k2 : Nat) (pt2 pos : Pos) (hw : swF c.sc ts vs = some none) : CS_ G c (.Assign [.Tuple ts kt pt] (.Tuple vs k2 pt2) pos) :=
  (cK (G := G) c (.Tuple ts kt pt)).bind fun ⟨t, hk⟩ => (match t, hk with
    | .tp us, hk => ((cmp G).e c (.Tuple vs k2 pt2)).map fun ⟨x, h⟩ => frzS (outs c (varsE x)) ⟨[.asg (.tp us) x], st_tup hk h fun env he hf => swF_ok hf (by rw [he]; exact hw)⟩
    | _, _ => none)
/-- a[k], b[l] = .. -/
def cSet2 (c : Ct) (x : Str) (p3 : Pos) (ke : PySem.Expr) (p2 : Pos) (y : Str) (p5 : Pos) (le : PySem.Expr) (p4 : Pos) (kt : Nat) (pt : Pos) (vs : List PySem.Expr) (k2 : Nat) (pt2 pos : Pos) (hw : swF c.sc [.Subscript (.Name x p3) ke p2, .Subscript (.Name y p5) le p4] vs = some none) :
    CS_ G c (.Assign [.Tuple [.Subscript (.Name x p3) ke p2, .Subscript (.Name y p5) le p4] kt pt] (.Tuple vs k2 pt2) pos) := match slotOf c x, slotOf c y with
  | some ⟨i, hi⟩, some ⟨j, hj⟩ => if h : c.calm = true ∧ noSlice ke = true ∧ noSlice le = true then ((cmp G).e c ke).bind fun ⟨kx, hk⟩ => ((cmp G).e c le).bind fun ⟨lx, hl⟩ => ((cmp G).e c (.Tuple vs k2 pt2)).map fun ⟨z, hz⟩ =>
      frzS (outs c (varsE kx ++ varsE lx ++ varsE z)) ⟨[.set2 i kx j lx z], st_set2 h.1 hi.1 hi.2.1 hi.2.2 hj.1 hj.2.1 hj.2.2 hk h.2.1 hl h.2.2 hz fun env he hf => swF_ok hf (by rw [he]; exact hw)⟩ else none
  | _, _ => none
def cPar (c : Ct) (ts : List PySem.Expr) (kt : Nat) (pt : Pos) (vs : List PySem.Expr) (k2 : Nat) (pt2 pos : Pos) : CS_ G c (.Assign [.Tuple ts kt pt] (.Tuple vs k2 pt2) pos) := match hw : swF c.sc ts vs with
  | some none => (match ts, vs, hw with
    | [.Name x px, .Name y py], [a, b], hw => if isNew c x a || isNew c y b then (match c.N.idxOf? x, c.N.idxOf? y with
      | some i, some j => (cM (G := G) c i a).bind fun ⟨(o1, xa), ha⟩ => (cM (G := G) c j b).bind fun ⟨(o2, xb), hb⟩ =>
        if h : c.calm = true ∧ c.N[i]? = some x ∧ c.N[j]? = some y ∧ decide (i ≠ j) = true ∧ (locB c.sc x = true ∧ tgOk c x = true) ∧ (locB c.sc y = true ∧ tgOk c y = true) ∧ noStar a = true ∧ noStar b = true then
          some (frzS (outs c (varsE xa ++ varsE xb)) ⟨[.par [(i, o1), (j, o2)] [xa, xb]], st_par2N h.1 h.2.1 h.2.2.1 h.2.2.2.1 h.2.2.2.2.1 h.2.2.2.2.2.1 hw ha hb h.2.2.2.2.2.2.1 h.2.2.2.2.2.2.2⟩) else none
      | _, _ => none) else cParT c [.Name x px, .Name y py] kt pt [a, b] k2 pt2 pos hw
    | [.Subscript (.Name x p3) ke p2, .Subscript (.Name y p5) le p4], vs, hw => cSet2 c x p3 ke p2 y p5 le p4 kt pt vs k2 pt2 pos hw
    | ts, vs, hw => cParT c ts kt pt vs k2 pt2 pos hw)
  | some (some names) => (match ts, vs, hw with
    | [.Name x px, .Name y py], [a, b], hw => (match c.N.idxOf? x, c.N.idxOf? y with
      | some i, some j => (cM (G := G) c i a).bind fun ⟨(o1, xa), ha⟩ => (cM (G := G) c j b).bind fun ⟨(o2, xb), hb⟩ =>
        if h : c.calm = true ∧ c.N[i]? = some x ∧ c.N[j]? = some y ∧ decide (i ≠ j) = true ∧ swLocal c.sc x = true ∧ swLocal c.sc y = true ∧ names = [x, y] ∧ noStar a = true ∧ noStar b = true then
          some (frzS (outs c (varsE xa ++ varsE xb)) ⟨[.par [(i, o1), (j, o2)] [xa, xb]], st_par2 h.1 h.2.1 h.2.2.1 h.2.2.2.1 h.2.2.2.2.1 h.2.2.2.2.2.1 (by rw [hw, h.2.2.2.2.2.2.1]) ha hb h.2.2.2.2.2.2.2.1 h.2.2.2.2.2.2.2.2⟩) else none
      | _, _ => none)
    | [.Name x px, .Name y py, .Name z pz], [a, b, e], hw => (match c.N.idxOf? x, c.N.idxOf? y, c.N.idxOf? z with
      | some i, some j, some l => (cM (G := G) c i a).bind fun ⟨(o1, xa), ha⟩ => (cM (G := G) c j b).bind fun ⟨(o2, xb), hb⟩ => (cM (G := G) c l e).bind fun ⟨(o3, xe), he⟩ =>
        if h : (c.calm = true ∧ c.N[i]? = some x ∧ c.N[j]? = some y ∧ c.N[l]? = some z) ∧ decide (i ≠ j ∧ i ≠ l ∧ j ≠ l) = true ∧ (swLocal c.sc x = true ∧ swLocal c.sc y = true ∧ swLocal c.sc z = true) ∧ names = [x, y, z] ∧ noStar a = true ∧ noStar b = true ∧ noStar e = true then
          some (frzS (outs c (varsE xa ++ varsE xb ++ varsE xe)) ⟨[.par [(i, o1), (j, o2), (l, o3)] [xa, xb, xe]], st_par3 h.1.1 h.1.2.1 h.1.2.2.1 h.1.2.2.2 h.2.1 h.2.2.1.1 h.2.2.1.2.1 h.2.2.1.2.2 (by rw [hw, h.2.2.2.1]) ha hb he h.2.2.2.2.1 h.2.2.2.2.2.1 h.2.2.2.2.2.2⟩) else none
      | _, _, _ => none)
    | _, _, _ => none)
  | none => none
def storeFlag : Nat := 9999
def cRet (c : Ct) (e : PySem.Expr) (pos : Pos) : CS_ G c (.Return (some e) pos) := match e with
  | .Dict ks vs p2 => if c.ow.contains storeFlag then (cD (cmp G) c ks vs).bind fun ⟨(ks', xs), h⟩ => if hh : Nat.ble ks'.length 15 = true ∧ decide ks'.Nodup = true then some (frzS (outs c (varsEs xs)) ⟨[.ret (.dsn ks' xs)], st_ret (s_dsn h hh.1 hh.2)⟩) else none
      else ((cmp G).e c (.Dict ks vs p2)).map fun ⟨x, h⟩ => frzS (outs c (varsE x)) ⟨[.ret x], st_ret h⟩
  | .List es p2 => if c.ow.contains storeFlag then (cA (cmp G) c es).bind fun ⟨xs, h⟩ => if hl : small xs.length = true then some (frzS (outs c (varsEs xs)) ⟨[.ret (.lsn xs)], st_ret (s_lsn h hl)⟩) else none
      else ((cmp G).e c (.List es p2)).map fun ⟨x, h⟩ => frzS (outs c (varsE x)) ⟨[.ret x], st_ret h⟩
  | e => ((cmp G).e c e).map fun ⟨x, h⟩ => frzS (outs c (varsE x)) ⟨[.ret x], st_ret h⟩
def cSub (c : Ct) (oe ke : PySem.Expr) (p2 : Pos) (e : PySem.Expr) (pos : Pos) : CS_ G c (.Assign [.Subscript oe ke p2] e pos) :=
  if h0 : noSlice ke = true then
    let other : CS_ G c (.Assign [.Subscript oe ke p2] e pos) := ((cmp G).e c oe).bind fun ⟨ox, ho⟩ => ((cmp G).e c ke).bind fun ⟨kx, hk⟩ => ((cmp G).e c e).map fun ⟨y, h⟩ => frzS (outs c (varsE ox ++ varsE kx ++ varsE y)) ⟨[.sets ox kx y], st_sets ho hk h0 h⟩
    (match oe with
    | .Name x p3 => (match slotOf c x with
      | some ⟨i, hi⟩ => if c.ow.contains i then ((cmp G).e c ke).bind fun ⟨kx, hk⟩ => ((cmp G).e c e).map fun ⟨y, h⟩ => frzS (outs c (varsE kx ++ varsE y)) ⟨[.seti i kx y], st_seti hi.1 hi.2.1 hi.2.2 hk h0 h⟩
          else ((cmp G).e c (.Name x p3)).bind fun ⟨ox, ho⟩ => ((cmp G).e c ke).bind fun ⟨kx, hk⟩ => ((cmp G).e c e).map fun ⟨y, h⟩ => frzS (outs c (varsE ox ++ varsE kx ++ varsE y)) ⟨[.sets ox kx y], st_sets ho hk h0 h⟩
      | none => none)
    | oe => ((cmp G).e c oe).bind fun ⟨ox, ho⟩ => ((cmp G).e c ke).bind fun ⟨kx, hk⟩ => ((cmp G).e c e).map fun ⟨y, h⟩ => frzS (outs c (varsE ox ++ varsE kx ++ varsE y)) ⟨[.sets ox kx y], st_sets ho hk h0 h⟩)
  else none
def cHs (rs : (c : Ct) → (ss : List PySem.Stmt) → CSs_ G c ss) (c : Ct) : (hs : List ExceptHandler) → Option {l : List ST // HSnd G c hs l}
  | [] => some ⟨[], .nil⟩
  | .ExceptHandler (some (.Name x np)) none (b :: bs) p :: hs => (match hk : G.cl.lookup x with
    | some k => if h : globB c.sc x = true ∧ plainN x = true then (rs { c with calm := false } (b :: bs)).bind fun ⟨xs, hb⟩ => (cHs rs c hs).map fun ⟨l, hl⟩ => ⟨.cls k none xs :: l, .cons h.1 h.2 hk (.inl ⟨rfl, rfl⟩) hb hl⟩ else none
    | none => none)
  | .ExceptHandler (some (.Name x np)) (some nm) (b :: bs) p :: hs => (match hk : G.cl.lookup x, c.N.idxOf? nm with
    | some k, some j => if h : globB c.sc x = true ∧ plainN x = true ∧ c.N[j]? = some nm ∧ c.sc.names.lookup nm = some .local then (rs { c with calm := false } (b :: bs)).bind fun ⟨xs, hb⟩ => (cHs rs c hs).map fun ⟨l, hl⟩ => ⟨.cls k (some j) xs :: l, .cons h.1 h.2.1 hk (.inr ⟨nm, j, rfl, rfl, h.2.2.1, h.2.2.2⟩) hb hl⟩ else none
    | _, _ => none)
  | _ => none
def stepS (rs : (c : Ct) → (ss : List PySem.Stmt) → CSs_ G c ss) (c : Ct) (s : PySem.Stmt) : CS_ G c s := match s with
  | .Expr e pos => cExpr c e pos
  | .Pass pos => some ⟨[.pas], st_pass⟩
  | .Break pos => some ⟨[.brk], st_break⟩
  | .Continue pos => some ⟨[.cnt], st_cont⟩
  | .Return none pos => some ⟨[.retn], st_retn⟩
  | .Return (some e) pos => cRet c e pos
  | .If t a b pos => ((cmp G).t c t).bind fun ⟨x, hx⟩ => (rs c a).bind fun ⟨xs, ha⟩ => (rs c b).map fun ⟨ys, hb⟩ => frzS (outs c (varsE x)) ⟨[.ife x xs ys], st_if hx ha hb⟩
  | .For tgE iter body [] pos => (cI (cmp G) { c with ow := [] } iter).bind fun ⟨(x, tu), hi⟩ => (cK (G := G) c tgE).bind fun ⟨tg, hg⟩ => (rs c body).bind fun ⟨xs, hb⟩ =>
      if h : c.calm = true ∧ (!tu || isTupE tgE) = true ∧ notSet iter = true ∧ topBrw x = false then some (frzS (outs c (varsE x)) ⟨[.forr tg x xs], st_for h.1 (isnd_ow hi) h.2.1 h.2.2.1 h.2.2.2 hg hb⟩) else none
  | .While t body [] pos => ((cmp G).t c t).bind fun ⟨x, hx⟩ => (rs c body).map fun ⟨xs, hb⟩ => ⟨[.whl x xs], st_while hx hb⟩
  | .Raise (some (.Call (.Name x p) es [] p2)) none pos => (match hk : G.cl.lookup x with
    | some k => if h : c.calm = true ∧ globB c.sc x = true ∧ plainN x = true then (cA (cmp G) c es).map fun ⟨xs, hx⟩ => frzS (outs c (varsEs xs)) ⟨[.rse k xs], st_rse h.1 h.2.1 h.2.2 hk hx⟩ else none
    | none => none)
  | .Try body (h0 :: hds) [] [] pos => if h : c.blk = none then (rs c body).bind fun ⟨xs, hb⟩ => (cHs rs c (h0 :: hds)).map fun ⟨l, hl⟩ => ⟨[.tr xs l], st_tr h hb hl⟩ else none
  | .Assign [.Name y py] e pos => cAsgName c y py e pos
  | .Assign [.Tuple ts kt pt] (.Tuple vs k2 pt2) pos => cPar c ts kt pt vs k2 pt2 pos
  | .Assign [.Tuple ts kt pt] e pos => if h : notTupE e = true then (cK (G := G) c (.Tuple ts kt pt)).bind fun ⟨t, hk⟩ => (match t, hk with
      | .tp us, hk => ((cmp G).e c e).map fun ⟨x, hx⟩ => frzS (outs c (varsE x)) ⟨[.asg (.tp us) x], st_tup hk hx fun env _ _ => swapped_not h⟩
      | _, _ => none) else none
  | .Assign [.Subscript oe ke p2] e pos => cSub c oe ke p2 e pos
  | .Assign [.Attribute oe nm p2] e pos => (match G.nm.idxOf? nm with
    | some m => if h : G.nm[m]? = some nm ∧ 20 ≤ m then ((cmp G).e c oe).bind fun ⟨ox, ho⟩ => ((cmp G).e c e).map fun ⟨y, hy⟩ => frzS (outs c (varsE ox ++ varsE y)) ⟨[.setf ox m y], st_setf h.1 h.2 ho hy⟩ else none
    | none => none)
  | .AugAssign (.Subscript (.Name x p3) ke p2) .Add e pos => (match slotOf c x with
    | some ⟨i, hi⟩ => if h : noSlice ke = true then ((cmp G).e c ke).bind fun ⟨kx, hk⟩ => ((cmp G).e c e).map fun ⟨y, hy⟩ => frzS (outs c (varsE kx ++ varsE y)) ⟨[.augi i kx y], st_augi hi.1 hi.2.1 hi.2.2 hk h hy⟩ else none
    | none => none)
  | _ => none
def cSs (st : (c : Ct) → (s : PySem.Stmt) → CS_ G c s) (c : Ct) : (ss : List PySem.Stmt) → {xs : List ST // SsSnd G c ss xs}
  | [] => ⟨[], ss_nil⟩
  | s :: ss => let x := orNo (st c s); let y := cSs st c ss; ⟨x.1 ++ y.1, ss_cons x.2 y.2⟩
def compS (G : Gn) : Nat → (c : Ct) → (ss : List PySem.Stmt) → CSs_ G c ss
  | 0, _, _ => none
  | n + 1, c, ss => some (cSs (stepS (compS G n)) c ss)
/-- the body of a def -/
def compB (G : Gn) (N : List Str) (ow : List Nat) (sc : Scope) (body : List PySem.Stmt) : CSs_ G ⟨N, ow, sc, none, true⟩ body := compS G 20 ⟨N, ow, sc, none, true⟩ body
end
end Bd
namespace Bd
open PySem PySem.Spec PyProof.Rows L2
/-- the law is called at the heap behind the top: by a promise with the guards told (after the hand layer's law_call) -/
theorem law_callG {P : Program} {w : World} {K : PySem.W.Frag} {mg mb : Str → Option Value} {k : Nat} {fa a : Addr} {sp : Sp} {s1 : Shared} {vs : List Value} {ns : List Int}
    (kin : K.In s1.heap) (nsg : s1.heap.Ns mainGlobals mg) (nsb : s1.heap.Ns builtinsNs mb) (nbb : ∀ x : Str, x ≠ "__name__" → mb x = bootBuiltins x) (lim : s1.heap.NoLimit) (hgen : s1.gens = #[])
    (hobj : s1.heap.get? a = some { cls := .type "list", data := .seq vs.toArray }) (hint : IntsAre vs ns) (hlen : ns.length ≤ sizeLine) (room : Room k callerA)
    (F : ∀ base : Heap, ∃ fd ps, FnG P w K mg base k fa fd ps sp ∧ Binds K fd ps [])
    (want : ∀ H : Hp, Only H → SqL K H a (ns.map V.int) → sp [.ref a] H (fun v _ => v = .bl true) fun _ _ _ => False) :
    codeAny (model P w) callerA (.call (.ref fa) ⟨[.ref a], []⟩) (fun r s' => r = .ok (.ret (.bool true)) ∧ OldK s1.heap s'.heap ∧ s'.os = s1.os ∧ AllBare s'.gens) s1 := by
  have rel := vals_ints hint
  have len := hint.length
  have main : ∀ H : Hp, Only H → SqL K H a (ns.map V.int) → HOk P w H s1.heap → (∀ b, H b ≠ none → b = a) → (H a ≠ none → K.lookup a = none) →
      codeAny (model P w) callerA (.call (.ref fa) ⟨[.ref a], []⟩) (fun r s' => r = .ok (.ret (.bool true)) ∧ OldK s1.heap s'.heap ∧ s'.os = s1.os ∧ AllBare s'.gens) s1 := by
    intro H only sq hok alone apart
    have under : ∀ {b : Addr} {o : Obj}, s1.heap.get? b = some o → H b = none → (hidT s1.heap H).get? b = some o := fun e n => hidT_get e n
    have dictFree : ∀ {b : Addr} {o : Obj} {es : Array DictEntry} {ep : Nat}, s1.heap.get? b = some o → o.data = .dict es ep → H b = none := fun {b o es ep} e d => by
      cases hb : H b with
      | none => rfl
      | some u =>
        have eb : b = a := alone b (fun z => by rw [hb] at z; cases z)
        rw [eb, hobj] at e
        cases e
        have d2 : Data.seq vs.toArray _ = Data.dict es ep := d
        cases d2
    have nsUnder : ∀ {b : Addr} {m : Str → Option Value}, s1.heap.Ns b m → (hidT s1.heap H).Ns b m := fun {b m} ⟨o, es, ep, e, d, r⟩ => ⟨o, es, ep, under e (dictFree e d), d, r⟩
    have kUnder : K.In (hidT s1.heap H) := fun b o e => under (kin b o e) (by
      cases hb : H b with
      | none => rfl
      | some u =>
        have eb : b = a := alone b (fun z => by rw [hb] at z; cases z)
        rw [eb] at e hb
        rw [apart (fun z => by rw [hb] at z; cases z)] at e
        cases e)
    have md : Mod K mg (hidT s1.heap H) := ⟨kUnder, nsUnder nsg, ⟨mb, nsUnder nsb, nbb⟩, let ⟨mc, h1, h2⟩ := lim; ⟨mc, nsUnder h1, h2⟩⟩
    have ev : Env0 P w K mg (hidT s1.heap H) callerA [] s1 H := ⟨rfl, md, fun b o e => of_hidT e, Nat.le_of_eq (hidT_size _ _), trivial, fun b hb => absurd (show b ∈ ([] : List Addr) from hb) (by simp), hok, .of_eq hgen⟩
    obtain ⟨fd, ps, FF, bb⟩ := F (hidT s1.heap H)
    have hl1 := FF.len _ _ _ _ (want H only sq)
    have bd := bb s1 [.ref a] kin (by rw [List.append_nil]; exact hl1)
    rw [List.append_nil] at bd
    refine codeAny_mono (FF.run callerA [] s1 H ⟨[.ref a], []⟩ [.ref a] [.ref a] _ _ room rfl ev bd (.cons rfl .nil) (want H only sq)) fun r s' z => ?_
    cases r with
    | error e =>
      have z2 : CX P w [] H s1 (fun _ _ _ => False) e s' := z
      unfold CX at z2
      obtain ⟨_, _, _, _, _, _, _, _, _, _, _, _, bad⟩ := z2
      exact bad.elim
    | ok fl =>
      cases fl with
      | ret u =>
        obtain ⟨v, H2, os, bare, un, hok2, rv, ev2⟩ := z
        have ev3 : v = .bl true := ev2
        subst ev3
        obtain rfl : u = Value.bool true := rv
        refine ⟨rfl, OldK.of_keep fun b o e => ?_, os, bare⟩
        cases hb : H b with
        | none => exact un.keep b o e hb (by intro z; exact absurd (show b ∈ ([] : List Addr) from z) (by simp)) (by simp)
        | some u =>
          rcases only b with no | ⟨ob, xs, yes⟩
          · rw [hb] at no
            cases no
          · have yes2 := un.frzs b ob _ yes
            have o1 := (hok b _ yes).1
            have o2 := (hok2 b _ yes2).1
            rw [e] at o1
            cases o1
            exact o2
      | _ => exact False.elim z
  cases hk : K.lookup a with
  | some o =>
    have e := kin a o hk
    rw [hobj] at e
    cases e
    exact main (fun _ => none) (fun _ => .inl rfl) (.inr ⟨_, vs.toArray, _, hk, rfl, rfl, rfl, by rw [List.size_toArray, len]; exact hlen, by simpa using rel⟩) (fun b u z => nomatch (show (none : Option HO) = some u from z)) (fun b z => absurd rfl z) fun z => absurd rfl z
  | none =>
    let H0 : Hp := fun b => if b = a then some (.frz { cls := .type "list", data := .seq vs.toArray } (.lst (ns.map V.int))) else none
    have at_ : H0 a = some (.frz { cls := .type "list", data := .seq vs.toArray } (.lst (ns.map V.int))) := if_pos rfl
    have off : ∀ b, b ≠ a → H0 b = none := fun b nb => if_neg nb
    refine main H0 (fun b => ?_) (.inl (.inr ⟨_, at_⟩)) (fun b u z => ?_) (fun b z => ?_) fun _ => hk
    · by_cases eb : b = a
      · subst eb
        exact .inr ⟨_, _, at_⟩
      · exact .inl (off b eb)
    · by_cases eb : b = a
      · subst eb
        rw [at_] at z
        cases z
        exact ⟨hobj, by rw [List.length_map]; exact hlen, vs, _, rel, hobj⟩
      · rw [off b eb] at z
        cases z
    · by_cases eb : b = a
      · exact eb
      · exact absurd (off b eb) z
theorem wd_start (L : Lay) (H : Hp) : WdOk L ⟨H, [], H⟩ [] where
  sub := Same.refl _
  inj := fun i j a e => by simp at e
  apart := fun i a e => by simp at e
  len := rfl
  sto := fun n m e => by simp at e
/-- the goal that the head leaves, from the evaluator's word -/
theorem law_end {l : PySem.W.OpenLaw} {n m : Nat} {q : Program} {loose : List Str} {XP : (Str → Option Value) → Heap → Prop} {YP : World → Heap → Prop} {d : DefRec}
    (hn : l.most = some n) (hn2 : n ≤ sizeLine) (hdf : d.params.defaults = []) (room : Room (lv m) callerA)
    (F : ∀ (w : World) (mg : Str → Option Value) (fa : Addr) (h : Heap), YP w h → h.Ns mainGlobals mg → mg d.name = some (.ref fa) →
      ∃ (G : Gn) (T : Tb) (L : Lay) (f : Nat) (fd : FD), L.K.In h ∧ L.fa f = fa ∧ T.fn.lookup f = some fd ∧ Bs l.prog G T L mg ∧ (∀ f d, T.fn.lookup f = some d → Def G L f d) ∧ ∀ ns : List Int, ns.length ≤ n → ∃ s', (callsAt T m).call f [.scr ns] [] = .ok (.bl true) s') :
    PySem.W.WalkO q loose XP YP l.row.toRowW d [] (fun f vs => PySem.call f vs) := by
  refine Att.attach_call hn hdf fun w s0 s1 mg mb fa o pm cd doc a vs ns G Y ho hd hcd hmg hobj hints hlen hg => ?_
  obtain ⟨Gn0, T, L, f, fd, kin, efa, ef, B, defs, ev⟩ := F w mg fa _ Y G.T.g hmg
  subst efa
  refine law_callG (sp := spF T m L f) kin G.T.g G.T.b G.T.builtins G.T.nolimit hg hobj hints (Nat.le_trans hlen hn2) room (fun base => calls_ok B defs m f fd ef) fun H only sq => ?_
  obtain ⟨s', es⟩ := ev ns hlen
  refine ⟨H, [], [], [.scr ns], wd_start L H, .cons (.scr sq) .nil, ?_⟩
  rw [es]
  intro wd x k v i
  cases i
  rfl
end Bd
namespace Bd
open PySem PySem.Spec PyProof.Rows L2
/-- where a def stands: a module's name, a class's method, the getter of a class's property -/
inductive Pa where
  | glo (x : Str) | mth (c m : Str) | prp (c m : Str)
def paA (K : PySem.W.Frag) : Pa → Addr
  | .glo x => He.ga K x
  | .mth c m => He.ma K (He.ga K c) m
  | .prp c m => (match PySem.W.recIn K (He.ma K (He.ga K c) m) "property" with
    | some (.ref g :: _) => g
    | _ => 0)
/-- one def of the program -/
structure FnE where
  id : Nat
  pa : Pa
  name : Str
  qual : Str
  params : Arguments
  body : List PySem.Stmt
  scope : Scope
  N : List Str
  ps : List Str
  ow : List Nat
/-- an exception class of the program -/
structure XE where
  id : Nat
  base : Nat
  params : Arguments
  ps : List Str
structure HdT where
  G : Gn
  fns : List FnE
  cls : List (Nat × Str × CD)
  xs : List XE
  file : Str
def nmF (nm : List Str) (i : Nat) : Str := match nm[i]? with
  | some x => x
  | none => ⟨#[1114112 + i]⟩
def HdT.pa (h : HdT) (f : Nat) : Pa := match h.fns.find? (fun e => e.id == f) with
  | some e => e.pa
  | none => .glo ""
def HdT.cn (h : HdT) (k : Nat) : Str := match h.cls.find? (fun e => e.1 == k) with
  | some e => e.2.1
  | none => ""
def HdT.fl (h : HdT) (k : Nat) : List Nat := match h.cls.find? (fun e => e.1 == k) with
  | some e => e.2.2.flds
  | none => []
def HdT.lay (h : HdT) (K : PySem.W.Frag) : Lay := ⟨K, fun k => He.ga K (h.cn k), fun f => paA K (h.pa f), nmF h.G.nm, h.fl⟩
abbrev FnW2 : Type := Option (Str × Str × Arguments × FuncBody × Scope × Addr × List (Str × Addr) × Addr)
def fnW2 (K : PySem.W.Frag) (p : Pa) : FnW2 := match K.lookup (paA K p) with
  | some ⟨_, _, .func fd, _⟩ => some (fd.name, fd.qualname, fd.params, fd.body, fd.scope, fd.globals, fd.closure, fd.builtins)
  | _ => none
def FnE.val (e : FnE) : FnW2 := some (e.name, e.qual, e.params, .stmts e.body, e.scope, mainGlobals, [], builtinsNs)
def isNone : Value → Bool
  | .none => true
  | _ => false
def FnE.ok (K : PySem.W.Frag) (e : FnE) : Bool := match K.lookup (paA K e.pa) with
  | some ⟨_, _, .func fd, _⟩ => PySem.W.codeIn K fd.code e.qual && isNone fd.defaults
  | _ => false
/-- only plain parameters -/
def plainA (a : Arguments) (ps : List Str) : Prop := ∀ (x qual : Str) (body : List PySem.Stmt) (scope : Scope) (kV doc pm : Value) (an : Option Addr) (cdv ct : Value) (us : List Value), us.length = ps.length → bindArgs (PySem.W.fnOf x qual a body scope .none kV doc pm an cdv ct) ⟨us, []⟩ = pure (ps.zip us)
theorem FnE.obj {K : PySem.W.Frag} {e : FnE} (h1 : fnW2 K e.pa = e.val) (h2 : e.ok K = true) (hb : plainA e.params e.ps) :
    ∃ (oc : Value) (od : Option Addr) (dV kV doc pm cdv ct : Value) (an : Option Addr) (osl : Array (Option Value)), K.lookup (paA K e.pa) = some ⟨oc, od, .func (PySem.W.fnOf e.name e.qual e.params e.body e.scope dV kV doc pm an cdv ct), osl⟩ ∧ PySem.W.codeIn K cdv e.qual = true ∧
      Binds K (PySem.W.fnOf e.name e.qual e.params e.body e.scope dV kV doc pm an cdv ct) e.ps [] := by
  unfold FnE.ok at h2
  unfold fnW2 at h1
  cases q : K.lookup (paA K e.pa) with
  | none => rw [q] at h2; cases h2
  | some o =>
    obtain ⟨oc, od, dt, osl⟩ := o
    rw [q] at h1 h2
    cases dt with
    | func fd =>
      obtain ⟨n1, n2, n3, n4, n5, n6, n7, n8, n9, n10, n11, n12, n13, n14, n15⟩ := fd
      have e2 : (some (n1, n2, n3, n4, n5, n6, n7, n15) : FnW2) = some (e.name, e.qual, e.params, .stmts e.body, e.scope, mainGlobals, [], builtinsNs) := h1
      simp only [Option.some.injEq, Prod.mk.injEq] at e2
      obtain ⟨g1, g2, g3, g4, g5, g6, g7, g8⟩ := e2
      subst g1 g2 g3 g4 g5 g6 g7 g8
      have h3 : (PySem.W.codeIn K n13 e.qual && isNone n8) = true := h2
      rw [Bool.and_eq_true] at h3
      cases n8 with
      | none => exact ⟨oc, od, .none, n9, n10, n11, n13, n14, n12, osl, rfl, h3.1, Binds.all fun us hl => hb _ _ _ _ _ _ _ _ _ _ us hl⟩
      | _ => exact absurd h3.2 (by intro z; cases z)
    | _ => cases h2
def nmOk (nm : List Str) : Bool := decide nm.Nodup && nm.all fun x => x.cps.toList.all fun c => decide (c < 1114112)
theorem nmF_inj {nm : List Str} (h : nmOk nm = true) : ∀ i j, nmF nm i = nmF nm j → i = j := by
  unfold nmOk at h
  rw [Bool.and_eq_true, decide_eq_true_eq] at h
  have low : ∀ (i : Nat) (x : Str), nm[i]? = some x → ∀ k : Nat, x ≠ (⟨#[1114112 + k]⟩ : Str) := fun i x e k z => by
    have h1 := List.all_eq_true.mp h.2 x (List.mem_of_getElem? e)
    rw [z] at h1
    have h2 : decide (1114112 + k < 1114112) = true := by simpa using h1
    have h3 := of_decide_eq_true h2
    omega
  intro i j e
  unfold nmF at e
  cases hi : nm[i]? with
  | some x =>
    rw [hi] at e
    cases hj : nm[j]? with
    | some y =>
      rw [hj] at e
      simp only at e
      subst e
      exact nodup_ix h.1 hi hj
    | none =>
      rw [hj] at e
      exact absurd e (low i x hi j)
  | none =>
    rw [hi] at e
    cases hj : nm[j]? with
    | some y =>
      rw [hj] at e
      exact absurd e.symm (low j y hj i)
    | none =>
      rw [hj] at e
      simp at e
      exact e
def eqV (a b : Option (Option Value)) : Bool := decide (a = b)
def clsB (K : PySem.W.Frag) (C : Addr) : Bool := PySem.W.plainGet K C Str.empty && PySem.W.hasDictIn K C && PySem.W.plainOver K C && eqV (PySem.W.findIn K (.ref C) "__setattr__") (some (some (.builtin "object.__setattr__")))
theorem clsB_ok {K : PySem.W.Frag} {C : Addr} (h : clsB K C = true) : Cls K C := by
  unfold clsB at h
  simp only [Bool.and_eq_true] at h
  exact ⟨h.1.1.1, h.1.1.2, h.1.2, of_decide_eq_true h.2⟩
def methB (K : PySem.W.Frag) (C : Addr) (m : Str) (f : Addr) : Bool := eqV (PySem.W.findIn K (.ref C) m) (some (some (.ref f))) && PySem.W.isFn K (.ref f) && PySem.W.keepIn K (.ref f) && PySem.W.fnIn K f
theorem methB_ok {K : PySem.W.Frag} {C f : Addr} {m : Str} (h : methB K C m f = true) : Meth K C m f ∧ PySem.W.fnIn K f = true := by
  unfold methB at h
  simp only [Bool.and_eq_true] at h
  exact ⟨⟨of_decide_eq_true h.1.1.1, h.1.1.2, h.1.2⟩, h.2⟩
def propB (K : PySem.W.Frag) (C : Addr) (m : Str) (g : Addr) : Bool := (match PySem.W.findIn K (.ref C) m with
  | some (some (.ref p)) => eqV (PySem.W.specialIn K (.ref p) "__get__") (some (some (.builtin "property.__get__"))) && decide (PySem.W.takesIn K (.ref p) = some true) && (match PySem.W.recIn K p "property" with
    | some (.ref q :: _) => decide (q = g)
    | _ => false)
  | _ => false)
theorem propB_ok {K : PySem.W.Frag} {C g : Addr} {m : Str} (h : propB K C m g = true) : ∃ p, PropOf K C m p g := by
  unfold propB at h
  split at h
  · rename_i p e
    simp only [Bool.and_eq_true] at h
    obtain ⟨⟨h1, h2⟩, h3⟩ := h
    split at h3
    · rename_i q r e2
      have := of_decide_eq_true h3
      subst this
      exact ⟨p, e, of_decide_eq_true h1, of_decide_eq_true h2, r, e2⟩
    · cases h3
  · cases h
def mkB (K : PySem.W.Frag) (C f : Addr) : Bool := PySem.W.makesIn K C && eqV (PySem.W.findIn K (.ref C) "__init__") (some (some (.ref f))) && PySem.W.isFn K (.ref f) && PySem.W.keepIn K (.ref C)
theorem mkB_ok {K : PySem.W.Frag} {C f : Addr} (h : mkB K C f = true) : Mk K C f := by
  unfold mkB at h
  simp only [Bool.and_eq_true] at h
  exact ⟨h.1.1.1, of_decide_eq_true h.1.1.2, h.1.2, h.2⟩
theorem mem_look {B : Type} : ∀ {l : List (Nat × B)} {k : Nat} {b : B}, l.lookup k = some b → (k, b) ∈ l
  | (a, c) :: r, k, b, e => by
    rw [List.lookup_cons] at e
    cases q : (k == a) with
    | true =>
      rw [q] at e
      have e1 := beq_iff_eq.mp q
      cases e
      subst e1
      exact List.mem_cons_self
    | false =>
      rw [q] at e
      exact List.mem_cons_of_mem _ (mem_look e)
/-- all that is asked of a class k -/
def clfB (h : HdT) (T : Tb) (K : PySem.W.Frag) (k : Nat) (d : CD) : Bool :=
  let L := h.lay K
  let C := L.ca k
  clsB K C && eqV (PySem.W.findIn K (.ref C) "__class__") (some (some (.builtin "object.__class__"))) && eqV (PySem.W.specialIn K (.builtin "object.__class__") "__get__") (some (some (.builtin "getset_descriptor.__get__"))) &&
  decide (PySem.W.takesIn K (.builtin "object.__class__") = some true) && decide (PySem.W.mroIn K C (.type "object") = some true) &&
  ((List.range h.G.nm.length).all fun i => decide (i < 20) || (d.meths.lookup i).isSome || (d.props.lookup i).isSome || eqV (PySem.W.findIn K (.ref C) (L.nm i)) (some none)) &&
  (d.meths.all fun p => methB K C (L.nm p.1) (L.fa p.2)) && (d.props.all fun p => propB K C (L.nm p.1) (L.fa p.2)) && mkB K C (L.fa d.init) &&
  (tyNs.all fun n => decide (PySem.W.kitOne K (.ref C) (.type n) = some false) && decide (PySem.W.kitOne K (.type n) (.ref C) = some false) && PySem.W.notFirst K C (.type n)) &&
  (T.cl.all fun p => !decide (p.2.kind < 2) || (decide (PySem.W.kitOne K (.ref C) (.ref (L.ca p.1)) = some (decide (k = p.1))) && PySem.W.notFirst K C (.ref (L.ca p.1)))) && PySem.W.noSeq K C
theorem clfB_ok {h : HdT} {T : Tb} {K : PySem.W.Frag} {k : Nat} {d : CD} (c : clfB h T K k d = true) : ClF K (h.lay K) h.G T k d := by
  unfold clfB at c
  simp only [Bool.and_eq_true] at c
  obtain ⟨⟨⟨⟨⟨⟨⟨⟨⟨⟨⟨c1, c2⟩, c3⟩, c4⟩, c5⟩, c6⟩, c7⟩, c8⟩, c9⟩, c10⟩, c11⟩, c12⟩ := c
  refine { cl := clsB_ok c1, ty1 := of_decide_eq_true c2, ty2 := of_decide_eq_true c3, ty3 := of_decide_eq_true c4, ty4 := of_decide_eq_true c5, no := fun i h20 hl hm hp => ?_, me := fun m f e => ?_, pr := fun m f e => ?_, init := mkB_ok c9, kob := fun n hn => ?_, kbo := fun n hn => ?_, koo := fun e de he hk => ?_, nft := fun n hn => ?_, nfo := fun e de he hk => ?_, nsq := c12 }
  · have z := List.all_eq_true.mp c6 i (List.mem_range.mpr hl)
    rw [hm, hp] at z
    simp only [Option.isSome_none, Bool.or_false, Bool.or_eq_true, decide_eq_true_eq] at z
    rcases z with z | z
    · omega
    · show PySem.W.findIn K (.ref ((h.lay K).ca k)) ((h.lay K).nm i) = some none
      exact of_decide_eq_true z
  · exact methB_ok (List.all_eq_true.mp c7 (m, f) (mem_look e))
  · exact propB_ok (List.all_eq_true.mp c8 (m, f) (mem_look e))
  · have z := List.all_eq_true.mp c10 n hn
    simp only [Bool.and_eq_true, decide_eq_true_eq] at z
    exact z.1.1
  · have z := List.all_eq_true.mp c10 n hn
    simp only [Bool.and_eq_true, decide_eq_true_eq] at z
    exact z.1.2
  · have z := List.all_eq_true.mp c11 (e, de) (mem_look he)
    simp only [Bool.or_eq_true, Bool.and_eq_true, decide_eq_true_eq, Bool.not_eq_true', decide_eq_false_iff_not] at z
    rcases z with z | z
    · exact absurd hk z
    · exact z.1
  · have z := List.all_eq_true.mp c10 n hn
    simp only [Bool.and_eq_true, decide_eq_true_eq] at z
    exact z.2
  · have z := List.all_eq_true.mp c11 (e, de) (mem_look he)
    simp only [Bool.or_eq_true, Bool.and_eq_true, decide_eq_true_eq, Bool.not_eq_true', decide_eq_false_iff_not] at z
    rcases z with z | z
    · exact absurd hk z
    · exact z.2
structure XB where
  B : String
  newId : String
  i : String
  bmB : List Value
def xbV : XB := ⟨"ValueError", "ValueError.__new__", "ValueError.__init__", [.type "ValueError", .type "Exception", .type "BaseException", .type "object"]⟩
def xbL : XB := ⟨"LookupError", "LookupError.__new__", "LookupError.__init__", [.type "LookupError", .type "Exception", .type "BaseException", .type "object"]⟩
def xbOn (n : Nat) : XB := if n = 0 then xbV else xbL
theorem xbOn_ok (n : Nat) : ExcBaseFacts (xbOn n).B (xbOn n).newId (xbOn n).i (xbOn n).bmB ∧ StoreFacts (xbOn n).B (xbOn n).bmB "object.__setattr__" "object" ∧ PySem.W.KxsFacts (xbOn n).B (xbOn n).i := by
  unfold xbOn
  split
  · exact ⟨PySem.F.excBase_ValueError, PySem.F.store_ValueError, PySem.W.kxs_ValueError⟩
  · exact ⟨PySem.F.excBase_LookupError, PySem.F.store_LookupError, PySem.W.kxs_LookupError⟩
def isFnK : ScopeKind → Bool
  | .function => true
  | _ => false
def isGI : Option NameKind → Bool
  | some .globalImplicit => true
  | _ => false
def isFr : Option NameKind → Bool
  | some .free => true
  | _ => false
def isLo : Option NameKind → Bool
  | some .local => true
  | _ => false
def isCe : NameKind → Bool
  | .cell => true
  | _ => false
def slfB (a : Arguments) : Bool := match (a.posonlyargs ++ a.args).head? with
  | some ar => ar.arg == "self"
  | none => false
def bodB (b : FuncBody) (fl : List Str) : Bool := match b with
  | .stmts b => decide (supB b = some fl)
  | _ => false
def cloB (K : PySem.W.Frag) (C : Addr) (cl : List (Str × Addr)) : Bool := match cl.lookup ("__class__" : Str) with
  | some cc => cellAt K cc C
  | none => false
def fdB (K : PySem.W.Frag) (C : Addr) (file : Str) (fl : List Str) (fd : FuncData) : Bool :=
  bodB fd.body fl && cloB K C fd.closure && fileAt K fd.code file && PySem.W.codeIn K fd.code fd.qualname && isFnK fd.scope.kind && !fd.scope.isCoroutine && !fd.scope.isGenerator &&
  isGI (fd.scope.names.lookup ("super" : Str)) && isFr (fd.scope.names.lookup ("__class__" : Str)) && ((("self" : Str) :: fl).all fun x => isLo (fd.scope.names.lookup x)) && (fd.scope.names.all fun x => !isCe x.2) &&
  ((("self" : Str) :: fl).all fun x => !(x == ("__debug__" : Str))) && slfB fd.params && decide (fd.globals = mainGlobals) && decide (fd.builtins = builtinsNs) && isNone fd.defaults
def supXB (K : PySem.W.Frag) (C : Addr) (file : Str) (x : XB) (fl : List Str) : Bool :=
  PySem.W.excInitIn K C x.bmB x.newId && PySem.W.excOver K C x.bmB && PySem.W.hasDictIn K C && eqV (PySem.W.findIn K (.ref C) "__setattr__") (some (some (.builtin "object.__setattr__"))) &&
  (fl.all fun f => decide (PySem.W.takerIn K C f = some none)) && decide fl.Nodup && decide (fl.length ≤ 100) && decide (PySem.W.subIn K (.ref C) (.type "BaseException") = some true) && decide (PySem.W.subIn K (.ref C) (.type x.B) = some true) &&
  decide (PySem.W.typeIn K (.ref C) = some (.type "type")) && PySem.W.keepIn K (.ref C) && eqV (PySem.W.findIn K (.ref C) "__init__") (some (some (.ref (He.ma K C "__init__")))) && decide (PySem.W.typeIn K (.ref (He.ma K C "__init__")) = some (.type "function")) &&
  eqV (PySem.W.nsIn K cStatics "thirdparty.any") (some none) && eqV (PySem.W.ks_superIn K C C "__init__") (some (some (.builtin x.i))) && decide (PySem.W.mroIn K C (.ref C) = some true) && !(fl.contains ("self" : Str)) &&
  (match fnAt K (He.ma K C "__init__") with
  | some fd => fdB K C file fl fd
  | none => false)
/-- how such a class binds its arguments -/
def plainX (a : Arguments) (ps : List Str) : Prop := ∀ (n1 n2 : Str) (n4 : FuncBody) (n5 : Scope) (n6 : Addr) (n7 : List (Str × Addr)) (n9 n10 n11 : Value) (n12 : Option Addr) (n13 n14 : Value) (n15 : Addr) (us : List Value), us.length = ps.length →
  bindArgs ⟨n1, n2, a, n4, n5, n6, n7, .none, n9, n10, n11, n12, n13, n14, n15⟩ ⟨us, []⟩ = pure (ps.zip us)
def PxAll : List XE → Prop
  | [] => True
  | x :: r => plainX x.params x.ps ∧ PxAll r
theorem PxAll.mem : ∀ {l : List XE}, PxAll l → ∀ x ∈ l, plainX x.params x.ps
  | [], _, x, m => by simp at m
  | y :: r, h, x, m => by
    rcases List.mem_cons.mp m with rfl | m
    · exact h.1
    · exact PxAll.mem h.2 x m
theorem supXB_ok {P : Program} {K : PySem.W.Frag} {C : Addr} {n : Nat} {fl : List Str} {a : Arguments} (htop : (P.main.scope.names.lookup ("super" : Str)).isSome = false) (c : supXB K C P.main.file (xbOn n) fl = true)
    (ha : (fnAt K (He.ma K C "__init__")).map (fun fd => fd.params) = some a) (hb : plainX a (("self" : Str) :: fl)) : ∃ fI B newId i bmB fd, SupX P K C fI B newId i bmB fl fd := by
  unfold supXB at c
  simp only [Bool.and_eq_true] at c
  obtain ⟨⟨⟨⟨⟨⟨⟨⟨⟨⟨⟨⟨⟨⟨⟨⟨⟨c1, c2⟩, c3⟩, c4⟩, c5⟩, c6⟩, c7⟩, c8⟩, c9⟩, c10⟩, c11⟩, c12⟩, c13⟩, c14⟩, c15⟩, c16⟩, c17⟩, c18⟩ := c
  obtain ⟨x1, x2, x3⟩ := xbOn_ok n
  cases hfd : fnAt K (He.ma K C "__init__") with
  | none => rw [hfd] at c18; cases c18
  | some fd =>
    rw [hfd] at c18 ha
    simp only [Option.map_some, Option.some.injEq] at ha
    unfold fdB at c18
    simp only [Bool.and_eq_true] at c18
    obtain ⟨⟨⟨⟨⟨⟨⟨⟨⟨⟨⟨⟨⟨⟨⟨d1, d2⟩, d3⟩, d4⟩, d5⟩, d6⟩, d7⟩, d8⟩, d9⟩, d10⟩, d11⟩, d12⟩, d13⟩, d14⟩, d15⟩, d16⟩ := c18
    have lo : ∀ x ∈ ("self" : Str) :: fl, fd.scope.names.lookup x = some .local := fun x hx => by
      have z := List.all_eq_true.mp d10 x hx
      unfold isLo at z
      split at z
      · assumption
      · cases z
    refine ⟨He.ma K C "__init__", (xbOn n).B, (xbOn n).newId, (xbOn n).i, (xbOn n).bmB, fd, {
      FB := x1, SF := x2, KF := x3, ini := c1, ovr := c2, hdt := c3, sa := of_decide_eq_true c4, tk := fun f hf => of_decide_eq_true (List.all_eq_true.mp c5 f hf), nd := of_decide_eq_true c6, lt := of_decide_eq_true c7,
      exC := of_decide_eq_true c8, subB := of_decide_eq_true c9, tyC := of_decide_eq_true c10, kC := c11, iC := of_decide_eq_true c12, tI := of_decide_eq_true c13, opq := of_decide_eq_true c14, sup := of_decide_eq_true c15, mroC := of_decide_eq_true c16,
      fn := hfd, body := ?_, clo := ?_, file := d3, code := d4, kind := ?_, cor := by simpa using d6, gen := by simpa using d7, nsup := ?_, ncls := ?_, nloc := lo, nslf := by simpa using c17, ncel := fun x hx z => ?_, ndbg := fun x hx => ?_, par := ?_,
      glob := of_decide_eq_true d14, blt := of_decide_eq_true d15, bnd := ?_, top := htop }⟩
    · unfold bodB at d1
      split at d1
      · rename_i b hb
        exact ⟨b, hb, of_decide_eq_true d1⟩
      · cases d1
    · unfold cloB at d2
      split at d2
      · rename_i cc hc
        exact ⟨cc, hc, d2⟩
      · cases d2
    · unfold isFnK at d5
      split at d5
      · assumption
      · cases d5
    · unfold isGI at d8
      split at d8
      · assumption
      · cases d8
    · unfold isFr at d9
      split at d9
      · assumption
      · cases d9
    · have q := List.all_eq_true.mp d11 x hx
      rw [z] at q
      cases q
    · simpa using List.all_eq_true.mp d12 x hx
    · unfold slfB at d13
      split at d13
      · rename_i ar h1
        exact ⟨ar, h1, eq_of_beq d13⟩
      · cases d13
    · obtain ⟨n1, n2, n3, n4, n5, n6, n7, n8, n9, n10, n11, n12, n13, n14, n15⟩ := fd
      dsimp only at ha d16
      subst ha
      unfold isNone at d16
      cases n8 with
      | none => exact Binds.all fun us hl => hb _ _ _ _ _ _ _ _ _ _ _ _ _ us hl
      | _ => cases d16
/-- all that is asked of an exception class k -/
def xcB (h : HdT) (T : Tb) (K : PySem.W.Frag) (x : XE) (k : Nat) (d : CD) : Bool :=
  let L := h.lay K
  let C := L.ca k
  supXB K C h.file (xbOn x.base) (d.flds.map L.nm) && decide (x.ps = ("self" : Str) :: d.flds.map L.nm) && decide (L.flds k = d.flds) && eqV (PySem.W.findIn K (.ref C) "__getattribute__") (some (some (.builtin "BaseException.__getattribute__"))) &&
  eqV (PySem.W.findIn K (.ref C) "__getattr__") (some none) && eqV (PySem.W.findIn K (.ref C) "__class__") (some (some (.builtin "object.__class__"))) && eqV (PySem.W.specialIn K (.builtin "object.__class__") "__get__") (some (some (.builtin "getset_descriptor.__get__"))) &&
  decide (PySem.W.takesIn K (.builtin "object.__class__") = some true) && decide (PySem.W.mroIn K C (.type "object") = some true) && (d.flds.all fun f => eqV (PySem.W.findIn K (.ref C) (L.nm f)) (some none)) &&
  (T.cl.all fun p => !decide (2 ≤ p.2.kind) || (decide (PySem.W.exmOne K (.ref C) (.ref (L.ca p.1)) = some (decide (k = p.1) || d.sup.contains p.1)) && decide (PySem.W.kitOne K (.ref C) (.ref (L.ca p.1)) = some (decide (k = p.1) || d.sup.contains p.1)))) &&
  (xbN.all fun p => decide (PySem.W.kitOne K (.ref C) (.type p.2) = some (decide (k = p.1) || d.sup.contains p.1)))
theorem xcB_ok {P : Program} {h : HdT} {T : Tb} {K : PySem.W.Frag} {x : XE} {k : Nat} {d : CD} (hfile : P.main.file = h.file) (htop : (P.main.scope.names.lookup ("super" : Str)).isSome = false) (c : xcB h T K x k d = true)
    (ha : (fnAt K (He.ma K ((h.lay K).ca k) "__init__")).map (fun fd => fd.params) = some x.params) (hb : plainX x.params x.ps) : XcF P K (h.lay K) T k d := by
  unfold xcB at c
  simp only [Bool.and_eq_true] at c
  obtain ⟨⟨⟨⟨⟨⟨⟨⟨⟨⟨⟨c1, c2⟩, c3⟩, c4⟩, c5⟩, c6⟩, c7⟩, c8⟩, c9⟩, c10⟩, c11⟩, c12⟩ := c
  have e2 := of_decide_eq_true c2
  rw [e2] at hb
  rw [← hfile] at c1
  refine { mkx := supXB_ok htop c1 ha hb, fl := of_decide_eq_true c3, ga := of_decide_eq_true c4, gg := of_decide_eq_true c5, c1 := of_decide_eq_true c6, c2 := of_decide_eq_true c7, c3 := of_decide_eq_true c8, c4 := of_decide_eq_true c9, no := fun f hf => of_decide_eq_true (List.all_eq_true.mp c10 f hf), exm := fun e de he hk => ?_, kit := fun e de he hk => ?_, kib := fun p hp => of_decide_eq_true (List.all_eq_true.mp c12 p hp) }
  · have z := List.all_eq_true.mp c11 (e, de) (mem_look he)
    simp only [Bool.or_eq_true, Bool.and_eq_true, decide_eq_true_eq, Bool.not_eq_true', decide_eq_false_iff_not] at z
    rcases z with z | z
    · exact absurd hk z
    · exact z.1
  · have z := List.all_eq_true.mp c11 (e, de) (mem_look he)
    simp only [Bool.or_eq_true, Bool.and_eq_true, decide_eq_true_eq, Bool.not_eq_true', decide_eq_false_iff_not] at z
    rcases z with z | z
    · exact absurd hk z
    · exact z.2
def ctB (K : PySem.W.Frag) (x : Str) (d : D) : Bool := match PySem.W.nsIn K mainGlobals x with
  | some (some u) => He.relB (vOf d) u
  | _ => false
def bsB (h : HdT) (T : Tb) (K : PySem.W.Frag) : Bool :=
  let L := h.lay K
  (K.lookup sysModules).isSome && (h.G.ct.all fun p => ctB K p.1 p.2) && (h.G.fre.all fun x => eqV (PySem.W.nsIn K mainGlobals x) (some none)) &&
  (h.G.fn.all fun p => eqV (PySem.W.nsIn K mainGlobals p.1) (some (some (.ref (L.fa p.2)))) && PySem.W.keepIn K (.ref (L.fa p.2))) &&
  (h.G.cl.all fun p => eqV (PySem.W.nsIn K mainGlobals p.1) (some (some (.ref (L.ca p.2)))) && PySem.W.keepIn K (.ref (L.ca p.2))) &&
  (T.cl.all fun p => !decide (p.2.kind < 2) || clfB h T K p.1 p.2) && eqV (PySem.W.nsIn K mainGlobals "super") (some none) &&
  (T.cl.all fun p => !decide (p.2.kind = 2) || (h.xs.any fun x => decide (x.id = p.1) && xcB h T K x p.1 p.2))
def spNm : List Str := ["__eq__", "__ne__", "__len__", "__str__", "__getitem__", "__setitem__", "__call__"]
theorem memS {B : Type} : ∀ {l : List (Str × B)} {k : Str} {b : B}, l.lookup k = some b → (k, b) ∈ l := fun e => PySem.mem_of_lookup e
theorem bsB_ok {h : HdT} {T : Tb} {K : PySem.W.Frag} {hp : Heap} {mg : Str → Option Value} (X : K.In hp) (N : hp.Ns mainGlobals mg) (hn : nmOk h.G.nm = true) (hs : ((h.G.nm.drop 1).take 7 == spNm) = true) {P : Program} (hfile : P.main.file = h.file) (htop : (P.main.scope.names.lookup ("super" : Str)).isSome = false) (hx : ∀ x ∈ h.xs, plainX x.params x.ps)
    (hxs : (h.xs.map fun x => (fnAt K (He.ma K ((h.lay K).ca x.id) "__init__")).map fun fd => fd.params) = h.xs.map fun x => some x.params) (c : bsB h T K = true) : Bs P h.G T (h.lay K) mg := by
  unfold bsB at c
  simp only [Bool.and_eq_true] at c
  obtain ⟨⟨⟨⟨⟨⟨⟨c1, c2⟩, c3⟩, c4⟩, c5⟩, c6⟩, c7⟩, c8⟩ := c
  have sp := eq_of_beq hs
  have at_ : ∀ i x, spNm[i]? = some x → nmF h.G.nm (i + 1) = x := fun i x e => by
    have hi : i < 7 := (List.getElem?_eq_some_iff.mp e).1
    rw [← sp, List.getElem?_take_of_lt hi, List.getElem?_drop] at e
    unfold nmF
    rw [Nat.add_comm i 1, e]
  refine { sysm := c1, ctv := fun x d e => ?_, fre := fun x hx => ?_, fns := fun x f e => ?_, cls := fun x k e => ?_, nmi := nmF_inj hn, nmn := fun i x e => ?_, nsp := ⟨at_ 0 _ rfl, at_ 1 _ rfl, at_ 2 _ rfl, at_ 3 _ rfl, at_ 4 _ rfl, at_ 5 _ rfl, at_ 6 _ rfl⟩, clf := fun k d e hk => ?_, xc := ⟨PySem.W.mg_none_of X N (of_decide_eq_true c7), fun k d e hk => ?_⟩ }
  · have z := List.all_eq_true.mp c2 (x, d) (memS e)
    unfold ctB at z
    split at z
    · rename_i u eu
      exact ⟨u, PySem.W.mg_of X N eu, He.relB_ok z⟩
    · cases z
  · exact PySem.W.mg_none_of X N (of_decide_eq_true (List.all_eq_true.mp c3 x hx))
  · have z := List.all_eq_true.mp c4 (x, f) (memS e)
    rw [Bool.and_eq_true] at z
    exact ⟨PySem.W.mg_of X N (of_decide_eq_true z.1), z.2⟩
  · have z := List.all_eq_true.mp c5 (x, k) (memS e)
    rw [Bool.and_eq_true] at z
    exact ⟨PySem.W.mg_of X N (of_decide_eq_true z.1), z.2⟩
  · show nmF h.G.nm i = x
    unfold nmF
    rw [e]
  · have z := List.all_eq_true.mp c6 (k, d) (mem_look e)
    rw [Bool.or_eq_true] at z
    rcases z with z | z
    · simp [hk] at z
    · exact clfB_ok z
  · have z := List.all_eq_true.mp c8 (k, d) (mem_look e)
    rw [Bool.or_eq_true] at z
    rcases z with z | z
    · simp [hk] at z
    · obtain ⟨x, xm, z⟩ := List.any_eq_true.mp z
      rw [Bool.and_eq_true, decide_eq_true_eq] at z
      have xa := List.map_inj_left.mp hxs x xm
      rw [z.1] at xa
      exact xcB_ok hfile htop z.2 xa (hx x xm)
abbrev AlB : Type := Bool × List FnW2 × List (Option Arguments)
def obsB (h : HdT) (T : Tb) (K : PySem.W.Frag) : AlB := (bsB h T K && h.fns.all fun e => e.ok K, h.fns.map fun e => fnW2 K e.pa, h.xs.map fun x => (fnAt K (He.ma K ((h.lay K).ca x.id) "__init__")).map fun fd => fd.params)
def valB (h : HdT) : AlB := (true, h.fns.map FnE.val, h.xs.map fun x => some x.params)
def obsBG (as : List Addr) (h : HdT) (T : Tb) (g : Addr → Option Obj) : AlB := obsB h T (He.frG g as)
def hookB (as : List Addr) (h : HdT) (T : Tb) : PySem.W.Hook where
  α := AlB
  obs := fun s => obsBG as h T s.heap.get?
  val := fun _ => valB h
  says := fun _ hp => ∃ K : PySem.W.Frag, K.In hp ∧ obsB h T K = valB h
  of := fun _ _ e => ⟨_, He.frG_in, e⟩
  keeps := fun _ _ _ ⟨K, hK, c⟩ k => ⟨K, PySem.W.Frag.In.keeps hK k, c⟩
theorem obsBG_eq {as : List Addr} {h : HdT} {T : Tb} {g : Addr → Option Obj} {s : Shared} (e : ∀ a, g a = s.heap.get? a) : obsBG as h T g = (hookB as h T).obs s := by
  have e2 : g = s.heap.get? := funext e
  rw [e2]
  rfl
end Bd
namespace Bd
open PySem PySem.Spec PyProof.Rows L2
/-- what must be seen of a def's text -/
structure FnX (G : Gn) (e : FnE) (d : FD) : Prop where
  sc : FnScope e.N e.ps e.scope
  np : d.np = e.ps.length
  ns : d.ns = e.N.length
  bind : plainA e.params e.ps
  body : (compB G e.N e.ow e.scope e.body).map (fun x => x.1) = some d.body
theorem def_of {h : HdT} {T : Tb} {K : PySem.W.Frag} (c : obsB h T K = valB h) {e : FnE} (he : e ∈ h.fns) {d : FD} (x : FnX h.G e d) {f : Nat} (hp : h.pa f = e.pa) : Def h.G (h.lay K) f d := by
  have c1 : (bsB h T K && h.fns.all fun e => e.ok K) = true := congrArg (fun z : AlB => z.1) c
  have c2 : (h.fns.map fun e => fnW2 K e.pa) = h.fns.map FnE.val := congrArg (fun z : AlB => z.2.1) c
  rw [Bool.and_eq_true] at c1
  have h1 : fnW2 K e.pa = e.val := List.map_inj_left.mp c2 e he
  have h2 := List.all_eq_true.mp c1.2 e he
  obtain ⟨y, e1, e2⟩ : ∃ y, compB h.G e.N e.ow e.scope e.body = some y ∧ y.1 = d.body := by
    have z := x.body
    cases q : compB h.G e.N e.ow e.scope e.body with
    | none => rw [q] at z; cases z
    | some y =>
      rw [q] at z
      exact ⟨y, rfl, by simpa using z⟩
  refine ⟨e.name, e.qual, e.params, e.body, e.scope, e.N, e.ps, ⟨?_, x.sc, x.np, x.ns, e.ow, ?_⟩⟩
  · have z := FnE.obj h1 h2 x.bind
    show ∃ (oc : Value) (od : Option Addr) (dV kV doc pm cdv ct : Value) (an : Option Addr) (osl : Array (Option Value)), K.lookup (paA K (h.pa f)) = _ ∧ _ ∧ _
    rw [hp]
    exact z
  · rw [← e2]
    exact y.2
/-- every def of the table is seen -/
inductive FxAll (h : HdT) : List (Nat × FD) → Prop
  | nil : FxAll h []
  | cons {f : Nat} {d : FD} {r : List (Nat × FD)} (i : Nat) (e : FnE) : h.fns[i]? = some e → FnX h.G e d → h.pa f = e.pa → FxAll h r → FxAll h ((f, d) :: r)
theorem FxAll.append {h : HdT} : ∀ {l m : List (Nat × FD)}, FxAll h l → FxAll h m → FxAll h (l ++ m)
  | _, _, .nil, s => s
  | _, _, .cons i e h1 h2 h3 t, s => .cons i e h1 h2 h3 (t.append s)
theorem FxAll.defs {h : HdT} {T : Tb} {K : PySem.W.Frag} (c : obsB h T K = valB h) : ∀ {l : List (Nat × FD)}, FxAll h l → ∀ f d, (f, d) ∈ l → Def h.G (h.lay K) f d
  | _, .cons i e h1 h2 h3 t, f, d, m => by
    rcases List.mem_cons.mp m with q | q
    · cases q
      exact def_of c (List.mem_of_getElem? h1) h2 h3
    · exact t.defs c f d q
theorem all_defs {h : HdT} {T : Tb} {K : PySem.W.Frag} (c : obsB h T K = valB h) (x : FxAll h T.fn) : ∀ f d, T.fn.lookup f = some d → Def h.G (h.lay K) f d := fun f d e => x.defs c f d (mem_look e)
end Bd
namespace Bd
open PySem L2
section
variable {A B : Type} {T : Tb} {C : Calls} {w : Nat} {g : En} {s : Sto}
@[simp] theorem bind_ok (a : A) (s : Sto) (k : A → Sto → R B) : (R.ok a s).bind k = k a s := id rfl
@[simp] theorem bind_ex (c : Nat) (xs : List D) (s : Sto) (k : A → Sto → R B) : (R.ex c xs s : R A).bind k = .ex c xs s := id rfl
@[simp] theorem bind_no (k : A → Sto → R B) : (R.no : R A).bind k = .no := id rfl
@[simp] theorem bind_ite (P : Prop) [Decidable P] (x y : R A) (k : A → Sto → R B) : (if P then x else y).bind k = if P then x.bind k else y.bind k := by split <;> rfl
@[simp] theorem calm_ok (a : A) (s : Sto) : (R.ok a s).calm = .ok a s := id rfl
@[simp] theorem calm_ite (P : Prop) [Decidable P] (x y : R A) : (if P then x else y).calm = if P then x.calm else y.calm := by split <;> rfl
@[simp] theorem calm_no : (R.no : R A).calm = .no := id rfl
@[simp] theorem fl_ok (a : A) (s : Sto) (k : A → Sto → Fl) : (R.ok a s).fl g k = k a s := id rfl
@[simp] theorem fl_ex (c : Nat) (xs : List D) (s : Sto) (k : A → Sto → Fl) : (R.ex c xs s : R A).fl g k = .ex c xs g s := id rfl
@[simp] theorem fl_no (k : A → Sto → Fl) : (R.no : R A).fl g k = .no := id rfl
@[simp] theorem fl_ite (P : Prop) [Decidable P] (x y : R A) (k : A → Sto → Fl) : (if P then x else y).fl g k = if P then x.fl g k else y.fl g k := by split <;> rfl
@[simp] theorem fl_bind (r : R A) (k : A → Sto → R B) (h : B → Sto → Fl) : (r.bind k).fl g h = r.fl g fun a s => (k a s).fl g h := by cases r <;> rfl
@[simp] theorem bind_bind {B' : Type} (r : R A) (k : A → Sto → R B) (h : B → Sto → R B') : (r.bind k).bind h = r.bind fun a s => (k a s).bind h := by cases r <;> rfl
@[simp] theorem optR_some (a : A) (s : Sto) : optR (some a) s = .ok a s := id rfl
@[simp] theorem optR_none (s : Sto) : optR (none : Option A) s = .no := id rfl
@[simp] theorem optR_ite (P : Prop) [Decidable P] (x y : Option A) (s : Sto) : optR (if P then x else y) s = if P then optR x s else optR y s := by split <;> rfl
@[simp] theorem optF_some (a : A) (k : A → Fl) : optF (some a) k = k a := id rfl
@[simp] theorem optF_none (k : A → Fl) : optF (none : Option A) k = .no := id rfl
@[simp] theorem optF_ite (P : Prop) [Decidable P] (x y : Option A) (k : A → Fl) : optF (if P then x else y) k = if P then optF x k else optF y k := by split <;> rfl
@[simp] theorem bindG_some (g : En) (k : En → R A) : bindG (some g) k = k g := id rfl
@[simp] theorem blR_some (b : Bool) (s : Sto) : blR (some b) s = .ok (.bl b) s := id rfl
@[simp] theorem tstR_bl (b : Bool) (x y : R A) : tstR (.bl b) x y = if b = true then x else y := by cases b <;> rfl
@[simp] theorem ite_and (P : Prop) [Decidable P] (q : Bool) (s : Sto) : (if P then R.ok (D.bl q) s else R.ok (D.bl false) s) = R.ok (D.bl (decide P && q)) s := by by_cases h : P <;> simp [h]
@[simp] theorem ite_or (P : Prop) [Decidable P] (q : Bool) (s : Sto) : (if P then R.ok (D.bl true) s else R.ok (D.bl q) s) = R.ok (D.bl (decide P || q)) s := by by_cases h : P <;> simp [h]
def varR (o : Option Sl) (s : Sto) : R D := match o with
  | some (.sh d) => .ok d s
  | _ => .no
@[simp] theorem varR_sh (d : D) (s : Sto) : varR (some (.sh d)) s = .ok d s := id rfl
@[simp] theorem evB_eq (r : R D) (e : E) (g : En) (s : Sto) : evB r e g s = (match e with
  | .brw i => optR (brwD g i) s
  | _ => r) := rfl
@[simp] theorem evE_cst (d : D) : evE T C (.cst d) g s = .ok d s := by rw [evE]
@[simp] theorem evE_var (i : Nat) : evE T C (.var i) g s = varR g[i]? s := by rw [evE]; rfl
@[simp] theorem evE_tup (es : List E) : evE T C (.tup es) g s = (evEs T C es g s).bind fun ds s => .ok (.tup ds) s := by rw [evE]
@[simp] theorem evE_lst (es : List E) : evE T C (.lst es) g s = (evEs T C es g s).bind fun ds s => .ok (.lst ds) s := by rw [evE]
@[simp] theorem evE_dsp (ks : List Key) (es : List E) : evE T C (.dsp ks es) g s = (evEs T C es g s).bind fun ds s => .ok (.dct ks ds) s := by rw [evE]
@[simp] theorem evE_dsn (ks : List Key) (es : List E) : evE T C (.dsn ks es) g s = (evEs T C es g s).bind fun ds s => .ok (.loc s.length) (s ++ [.dct ks ds]) := by rw [evE]
@[simp] theorem evE_lsn (es : List E) : evE T C (.lsn es) g s = (evEs T C es g s).bind fun ds s => .ok (.loc s.length) (s ++ [.lst ds]) := by rw [evE]
@[simp] theorem evE_bin (op : Operator) (a b : E) : evE T C (.bin op a b) g s = (evB (evE T C a g s) a g s).bind fun x s => (evB (evE T C b g s) b g s).bind fun y s => optR (binD op x y) s := by rw [evE]
def negR (d : D) (s : Sto) : R D := match d with
  | .int i => .ok (.int (-i)) s
  | _ => .no
@[simp] theorem negR_int (i : Int) (s : Sto) : negR (.int i) s = .ok (.int (-i)) s := id rfl
@[simp] theorem evE_neg (a : E) : evE T C (.neg a) g s = (evE T C a g s).bind negR := by rw [evE]; rfl
@[simp] theorem evE_cmp (op : CmpOp) (a b : E) : evE T C (.cmp op a b) g s = (evE T C a g s).bind fun x s => (evE T C b g s).bind fun y s => cmpD T C op x y s := by rw [evE]
@[simp] theorem evE_cmpb (op : CmpOp) (a b : E) : evE T C (.cmpb op a b) g s = (evB (evE T C a g s) a g s).bind fun x s => (evB (evE T C b g s) b g s).bind fun y s => blR (cmpB op x y) s := by rw [evE]
@[simp] theorem evE_cmp2 (o p : CmpOp) (a b c : E) : evE T C (.cmp2 o p a b c) g s = (evE T C a g s).bind fun x s => (evE T C b g s).bind fun y s => (optR (cmpB o x y) s).bind fun r s => if r then (evE T C c g s).bind fun z s => blR (cmpB p y z) s else .ok (.bl false) s := by rw [evE]
@[simp] theorem evE_and (a b : E) : evE T C (.and a b) g s = (evE T C a g s).bind fun x s => tstR x (evE T C b g s) (.ok (.bl false) s) := by rw [evE]
@[simp] theorem evE_sst (a : E) : evE T C (.sst a) g s = (evB (evE T C a g s) a g s).bind fun x s => sstR x s := by rw [evE]
theorem sstR_lst {l : List Int} (h : l.length ≤ 60) (s : Sto) : sstR (.lst (l.map .int)) s = .ok (.lst ((ssetL l).map .int)) s := by
  have e : Nat.ble (l.map D.int).length 60 = true := Nat.ble_eq_true_of_le (by simpa using h)
  have e2 : intsOf (l.map D.int) = some l := by
    induction l with
    | nil => rfl
    | cons a l ih => simp [intsOf, ih (by simp at h; omega) (Nat.ble_eq_true_of_le (by simp at h ⊢; omega))]
  unfold sstR
  simp only [e, e2, if_true, optR, R.bind]
@[simp] theorem evE_orv (a b : E) : evE T C (.orv a b) g s = (evE T C a g s).bind fun x s => orvR x s (evE T C b g s) := by rw [evE]
@[simp] theorem orvR_int (i : Int) (s : Sto) (r : R D) : orvR (.int i) s r = if i = 0 then r else .ok (.int i) s := id rfl
@[simp] theorem evE_or (a b : E) : evE T C (.or a b) g s = (evE T C a g s).bind fun x s => tstR x (.ok (.bl true) s) (evE T C b g s) := by rw [evE]
@[simp] theorem evE_not (a : E) : evE T C (.not a) g s = (evE T C a g s).bind fun x s => tstR x (.ok (.bl false) s) (.ok (.bl true) s) := by rw [evE]
@[simp] theorem evE_ife (t a b : E) : evE T C (.ife t a b) g s = (evE T C t g s).bind fun x s => tstR x (evE T C a g s) (evE T C b g s) := by rw [evE]
@[simp] theorem evE_call (f : Nat) (es : List E) : evE T C (.call f es) g s = (evEs T C es g s).bind fun ds s => C.call f ds s := by rw [evE]
@[simp] theorem evE_mk (f : Nat) (es : List E) : evE T C (.mk f es) g s = (evEs T C es g s).bind fun ds s => C.make f ds s := by rw [evE]
@[simp] theorem evE_meth (m : Nat) (o : E) (es : List E) : evE T C (.meth m o es) g s = (evE T C o g s).bind fun x s => (optR (methF T m x s) s).bind fun f s => (evEs T C es g s).bind fun ds s => C.call f (x :: ds) s := by rw [evE]
@[simp] theorem evE_att (a : Nat) (o : E) : evE T C (.att a o) g s = (evE T C o g s).bind fun x s => attD T C a x s := by rw [evE]
@[simp] theorem evE_bi (b : Bi) (es : List E) : evE T C (.bi b es) g s = (evOs T C es g s).bind fun ds s => biD T C b ds s := by rw [evE]
@[simp] theorem evE_bm (b : Bm) (o : E) (es : List E) : evE T C (.bm b o es) g s = (evB (evE T C o g s) o g s).bind fun x s => (optR (if bmOk b x then some x else none) s).bind fun x s => (evEs T C es g s).bind fun ds s => optR (bmD b x ds) s := by rw [evE]
@[simp] theorem evE_isi (a : E) (t : Ty) : evE T C (.isi a t) g s = (evE T C a g s).bind fun x s => (optR (isT T t x s) s).bind fun r s => .ok (.bl r) s := by rw [evE]
@[simp] theorem evE_idx (a b : E) : evE T C (.idx a b) g s = (evB (evE T C a g s) a g s).bind fun x s => (evE T C b g s).bind fun y s => idxD T C x y s := by rw [evE]
@[simp] theorem evE_slc (a : E) (l u : Option E) : evE T C (.slc a l u) g s = (evB (evE T C a g s) a g s).bind fun x s => (evOp T C l g s).bind fun i s => (evOp T C u g s).bind fun j s => optR (slcD x i j) s := by rw [evE]
def revR (d : D) (s : Sto) : R D := match d with
  | .tup xs => .ok (.tup xs.reverse) s
  | .lst xs => .ok (.lst xs.reverse) s
  | _ => .no
@[simp] theorem revR_tup (xs : List D) (s : Sto) : revR (.tup xs) s = .ok (.tup xs.reverse) s := id rfl
@[simp] theorem revR_lst (xs : List D) (s : Sto) : revR (.lst xs) s = .ok (.lst xs.reverse) s := id rfl
def stpR (o : Bool) (x : D) (s : Sto) : R D := match x with
  | .tup xs => .ok (.tup (evy (xs.drop (if o then 1 else 0)))) s
  | _ => .no
@[simp] theorem evE_stp (o : Bool) (a : E) : evE T C (.stp o a) g s = (evB (evE T C a g s) a g s).bind (stpR o) := by rw [evE]; rfl
@[simp] theorem stpR_tup (o : Bool) (xs : List D) : stpR o (.tup xs) s = .ok (.tup (evy (xs.drop (if o then 1 else 0)))) s := id rfl
@[simp] theorem evE_stx (a : E) (l : Option E) : evE T C (.stx a l) g s = (evB (evE T C a g s) a g s).bind fun x s => (evOp T C l g s).bind fun z s => optR (stxD x z) s := by rw [evE]
@[simp] theorem stxD_1 (xs : List D) : stxD (.tup xs) (some 1) = some (.tup xs) := id rfl
@[simp] theorem stxD_m1 (xs : List D) : stxD (.tup xs) (some (-1)) = some (.tup xs.reverse) := id rfl
@[simp] theorem evE_rev (a : E) : evE T C (.rev a) g s = (evB (evE T C a g s) a g s).bind revR := by rw [evE]; rfl
def lcG (f : A → Sto → R (Option D)) : List A → Sto → R (List D)
  | [], s => .ok [] s
  | x :: xs, s => (f x s).calm.bind fun o s1 => (lcG f xs s1).bind fun r s2 => .ok (match o with
    | some d => d :: r
    | none => r) s2
theorem lcL_eq (f : D → Sto → R (Option D)) : ∀ (l : List D) (s : Sto), lcL f l s = lcG f l s
  | [], s => rfl
  | x :: xs, s => by
    unfold lcL lcG
    congr 1
    funext o s1
    rw [lcL_eq f xs s1]
    try (cases o <;> rfl)
@[simp] theorem lcG_map {A' : Type} (h : A' → A) (f : A → Sto → R (Option D)) : ∀ (l : List A') (s : Sto), lcG f (l.map h) s = lcG (fun a => f (h a)) l s
  | [], s => rfl
  | x :: xs, s => by
    rw [List.map_cons]
    unfold lcG
    congr 1
    funext o s1
    rw [lcG_map h f xs s1]
theorem zipL_eq : ∀ (l m : List D), zipL l m = (l.zip m).map fun p => .tup [p.1, p.2]
  | [], _ => by simp [zipL]
  | _ :: _, [] => by simp [zipL]
  | x :: xs, y :: ys => by
    unfold zipL
    rw [zipL_eq xs ys]
    simp
theorem enumL_eq : ∀ (k : Nat) (l : List D), enumL k l = (l.zipIdx k).map fun p => .tup [.int (p.2 : Nat), p.1]
  | _, [] => by simp [enumL]
  | k, x :: xs => by
    unfold enumL
    rw [enumL_eq (k + 1) xs]
    simp
def enumR (x : D) (s : Sto) : R D := (optR (seqOf x) s).bind fun l s => .ok (.lst ((l.zipIdx 0).map fun p => .tup [.int (p.2 : Nat), p.1])) s
def zipR (x y : D) (s : Sto) : R D := (optR (seqOf x) s).bind fun l s => (optR (seqOf y) s).bind fun m s => .ok (.lst ((l.zip m).map fun p => .tup [p.1, p.2])) s
@[simp] theorem evE_enum (a : E) : evE T C (.enum a) g s = (evB (evE T C a g s) a g s).bind enumR := by
  rw [evE]
  congr 1
  funext x s
  unfold enumR
  simp only [enumL_eq]
@[simp] theorem evE_zip2 (a b : E) : evE T C (.zip2 a b) g s = (evB (evE T C a g s) a g s).bind fun x s => (evB (evE T C b g s) b g s).bind fun y s => zipR x y s := by
  rw [evE]
  congr 1
  funext x s
  congr 1
  funext y s
  unfold zipR
  simp only [zipL_eq]
@[simp] theorem enumR_tup (xs : List D) : enumR (.tup xs) s = .ok (.lst ((xs.zipIdx 0).map fun p => .tup [.int (p.2 : Nat), p.1])) s := id rfl
@[simp] theorem enumR_lst (xs : List D) : enumR (.lst xs) s = .ok (.lst ((xs.zipIdx 0).map fun p => .tup [.int (p.2 : Nat), p.1])) s := id rfl
@[simp] theorem zipR_tt (xs ys : List D) : zipR (.tup xs) (.tup ys) s = .ok (.lst ((xs.zip ys).map fun p => .tup [p.1, p.2])) s := id rfl
@[simp] theorem zipR_tl (xs ys : List D) : zipR (.tup xs) (.lst ys) s = .ok (.lst ((xs.zip ys).map fun p => .tup [p.1, p.2])) s := id rfl
@[simp] theorem zipR_lt (xs ys : List D) : zipR (.lst xs) (.tup ys) s = .ok (.lst ((xs.zip ys).map fun p => .tup [p.1, p.2])) s := id rfl
@[simp] theorem zipR_ll (xs ys : List D) : zipR (.lst xs) (.lst ys) s = .ok (.lst ((xs.zip ys).map fun p => .tup [p.1, p.2])) s := id rfl
def rngR (i j : D) (s : Sto) : R D := match i, j with
  | .int i, .int j => (optR (rngD i j) s).bind fun l s => .ok (.lst l) s
  | _, _ => .no
@[simp] theorem evE_rng1 (a : E) : evE T C (.rng1 a) g s = (evE T C a g s).bind fun x s => rngR (.int 0) x s := by
  rw [evE]
  congr 1
  funext x s
  cases x <;> rfl
@[simp] theorem evE_rng2 (a b : E) : evE T C (.rng2 a b) g s = (evE T C a g s).bind fun x s => (evE T C b g s).bind fun y s => rngR x y s := by
  rw [evE]
  congr 1
@[simp] theorem evE_rng3 (a b c : E) : evE T C (.rng3 a b c) g s = (evE T C a g s).bind fun x s => (evE T C b g s).bind fun y s => (evE T C c g s).bind fun z s => rng3R x y z s := by rw [evE]
theorem rng3_int {i j c : Int} (h1 : 0 ≤ i) (h2 : i < 1000000) (h3 : 0 ≤ j) (h4 : j < 1000000) (h5 : 0 < c) (h6 : c ≤ 1000) (s : Sto) : rng3R (.int i) (.int j) (.int c) s = .ok (.lst ((List.range (if i < j then (j - i - 1) / c + 1 else 0).toNat).map fun k => .int (i + (k : Nat) * c))) s := by
  have hz : Builtin.Range.rangeSize i j c = if i < j then (j - i - 1) / c + 1 else 0 := by
    unfold Builtin.Range.rangeSize
    rw [if_pos (show c > 0 from h5)]
  have hn : 0 ≤ Builtin.Range.rangeSize i j c ∧ Builtin.Range.rangeSize i j c ≤ 1000000 := by
    rw [hz]
    split
    · have a1 : 0 ≤ (j - i - 1) / c := Int.ediv_nonneg (by omega) (by omega)
      have a2 : (j - i - 1) / c ≤ j - i - 1 := Int.ediv_le_self _ (by omega)
      omega
    · omega
  have hm : Builtin.Range.rangeSize i j c * c ≤ 1000000 * 1000 := Int.mul_le_mul hn.2 h6 (by omega) (by omega)
  have hm0 : 0 ≤ Builtin.Range.rangeSize i j c * c := Int.mul_nonneg hn.1 (by omega)
  have hs : Builtin.Range.small i j c = true := by
    unfold Builtin.Range.small
    generalize Builtin.Range.rangeSize i j c = n at *
    simp only [Builtin.Range.rangeFitsLong, Bool.and_eq_true, Bool.or_eq_true, decide_eq_true_eq, beq_iff_eq, show c > 0 from h5, if_true]
    omega
  show (optR (rngD3 i j c) s).bind _ = _
  unfold rngD3
  rw [if_pos]
  · rw [hz]
    rfl
  · simp only [Bool.and_eq_true, decide_eq_true_eq]
    exact ⟨⟨⟨h5, by omega⟩, hs⟩, Nat.ble_eq_true_of_le (by omega)⟩
theorem rngR_int {i j : Int} (h1 : -(2 ^ 62) ≤ i) (h2 : i < 2 ^ 62) (h3 : -(2 ^ 62) ≤ j) (h4 : j < 2 ^ 62) (h5 : (j - i).toNat ≤ 16777216) : rngR (.int i) (.int j) s = .ok (.lst ((List.range (j - i).toNat).map fun k => .int (i + (k : Nat)))) s := by
  show (optR (rngD i j) s).bind _ = _
  unfold rngD
  rw [if_pos]
  · rfl
  · simp only [Bool.and_eq_true, decide_eq_true_eq]
    exact ⟨⟨⟨⟨h1, h2⟩, h3⟩, h4⟩, Nat.ble_eq_true_of_le h5⟩
theorem rngR_nat {n : Nat} (h : n ≤ 16777216) : rngR (.int 0) (.int (n : Int)) s = .ok (.lst ((List.range n).map fun k => .int (k : Nat))) s := by
  rw [rngR_int (by omega) (by omega) (by omega) (by omega) (by omega)]
  simp
open Classical in
/-- a walk in which the store stays as it is -/
noncomputable def lcsG (f : A → Sto → R (Option D)) (s : Sto) : List A → R (List D)
  | [] => .ok [] s
  | x :: xs => (f x s).calm.bind fun o s1 => if s1 = s then (lcsG f s xs).bind fun r s2 => .ok (match o with
    | some d => d :: r
    | none => r) s2 else .no
theorem lcsL_eq (f : D → Sto → R (Option D)) (s : Sto) : ∀ l : List D, lcsL f s l = lcsG f s l
  | [] => rfl
  | x :: xs => by
    unfold lcsL lcsG
    congr 1
    funext o s1
    rw [lcsL_eq f s xs]
    all_goals
      split
      · congr 1
      · rfl
/-- where each turn leaves the store alone -/
theorem lcsG_eq {f : A → Sto → R (Option D)} {s : Sto} : ∀ {l : List A}, (∀ a ∈ l, ∃ o, f a s = .ok o s) → lcsG f s l = lcG f l s
  | [], _ => rfl
  | x :: xs, h => by
    obtain ⟨o, e⟩ := h x List.mem_cons_self
    unfold lcsG lcG
    rw [e]
    simp only [calm_ok, bind_ok, if_pos]
    rw [lcsG_eq fun a m => h a (List.mem_cons_of_mem _ m)]
theorem lcsG_map {A' : Type} (h : A' → A) (f : A → Sto → R (Option D)) (s : Sto) : ∀ l : List A', lcsG f s (l.map h) = lcsG (fun a => f (h a)) s l
  | [] => rfl
  | x :: xs => by
    rw [List.map_cons]
    unfold lcsG
    congr 1
    funext o s1
    rw [lcsG_map h f s xs]
/-- a comprehension over a value -/
noncomputable def lcR (f : D → Sto → R (Option D)) (x : D) (s : Sto) : R D := match x with
  | .loc n => (match s[n]? with
    | some (.lst l) => (optR (if small l.length then some l else none) s).bind fun l s => (lcsG f s l).bind fun r s => .ok (.lst r) s
    | _ => .no)
  | .str x => (optR (if small (chsD x).length then some (chsD x) else none) s).bind fun l s => (lcsG f s l).bind fun r s => .ok (.lst r) s
  | x => (optR (seqOf x) s).bind fun l s => (optR (if small l.length then some l else none) s).bind fun l s => (lcG f l s).bind fun r s => .ok (.lst r) s
theorem lcX_eq (f : D → Sto → R (Option D)) (x : D) (s : Sto) : lcX f x s = lcR f x s := by
  cases x with
  | loc n =>
    unfold lcX lcR
    simp only [lcsL_eq]
    all_goals
      cases s[n]? with
      | none => rfl
      | some m => cases m <;> rfl
  | str y => simp only [lcX, lcR, lcsL_eq]
  | _ => simp only [lcX, lcR, lcL_eq]
@[simp] theorem evE_lc (elt : E) (tg : TG) (it : E) (tst : Option E) : evE T C (.lc elt tg it tst) g s = (evB (evE T C it g s) it g s).bind fun x s => lcR (fun y s => bindG (setT tg y (wipG g (slotsT tg))) fun g' => (evTs T C tst g' s).bind fun b s => tstR b ((evE T C elt g' s).bind fun d s => .ok (some d) s) (.ok none s)) x s := by
  rw [evE]
  congr 1
  funext x s
  exact lcX_eq _ x s
@[simp] theorem stoR_lst (l : List D) (s : Sto) : stoR (.lst l) s = .ok (.loc s.length) (s ++ [.lst l]) := id rfl
@[simp] theorem evE_sto (a : E) : evE T C (.sto a) g s = (evE T C a g s).bind stoR := by
  rw [evE]
/-- sorted({..}) over a value -/
def scR (f : D → Sto → R (Option D)) (x : D) (s : Sto) : R D := (optR (seqOf x) s).bind fun l s => (optR (if Nat.ble l.length 60 then some l else none) s).bind fun l s => (lcG (fun y s => (f y s).bind intO) l s).bind fun r s => .ok (.lst ((ssetL (intsL r)).map .int)) s
@[simp] theorem evE_scs (elt : E) (tg : TG) (it : E) (tst : Option E) : evE T C (.scs elt tg it tst) g s = (evB (evE T C it g s) it g s).bind fun x s => scR (fun y s => bindG (setT tg y (wipG g (slotsT tg))) fun g' => (evTs T C tst g' s).bind fun b s => tstR b ((evE T C elt g' s).bind fun d s => .ok (some d) s) (.ok none s)) x s := by
  rw [evE]
  congr 1
  funext x s
  unfold scR
  simp only [lcL_eq]
theorem scR_tup {f : D → Sto → R (Option D)} {xs : List D} (h : xs.length ≤ 60) : scR f (.tup xs) s = (lcG (fun y s => (f y s).bind intO) xs s).bind fun r s => .ok (.lst ((ssetL (intsL r)).map .int)) s := by
  show (optR (if Nat.ble xs.length 60 then some xs else none) s).bind _ = _
  rw [if_pos (Nat.ble_eq_true_of_le h)]
  rfl
theorem scR_lst {f : D → Sto → R (Option D)} {xs : List D} (h : xs.length ≤ 60) : scR f (.lst xs) s = (lcG (fun y s => (f y s).bind intO) xs s).bind fun r s => .ok (.lst ((ssetL (intsL r)).map .int)) s := by
  show (optR (if Nat.ble xs.length 60 then some xs else none) s).bind _ = _
  rw [if_pos (Nat.ble_eq_true_of_le h)]
  rfl
@[simp] theorem intO_int (k : Int) : intO (some (.int k)) s = .ok (some (.int k)) s := id rfl
@[simp] theorem intO_none : intO none s = .ok none s := id rfl
@[simp] theorem intsL_map (l : List Int) : intsL (l.map .int) = l := by
  induction l with
  | nil => rfl
  | cons x xs ih => simp [intsL, ih]
theorem smallLe {n : Nat} (h : n ≤ 16777216) : small n = true := Nat.ble_eq_true_of_le h
theorem lcR_lst {f : D → Sto → R (Option D)} {xs : List D} (h : xs.length ≤ 16777216) : lcR f (.lst xs) s = (lcG f xs s).bind fun r s => .ok (.lst r) s := by
  show (optR (if small xs.length then some xs else none) s).bind _ = _
  rw [if_pos (smallLe h)]
  rfl
theorem lcR_str {f : D → Sto → R (Option D)} {x : Str} {s : Sto} (h : x.cps.size ≤ 16777216) : lcR f (.str x) s = (lcsG f s (chsD x)).bind fun r s => .ok (.lst r) s := by
  have hl : (chsD x).length ≤ 16777216 := by simpa [chsD] using h
  show (optR (if small (chsD x).length then some (chsD x) else none) s).bind _ = _
  rw [if_pos (smallLe hl)]
  rfl
theorem lcR_loc {f : D → Sto → R (Option D)} {n : Nat} {xs : List D} {s : Sto} (h0 : s[n]? = some (MO.lst xs)) (h : xs.length ≤ 16777216) : lcR f (.loc n) s = (lcsG f s xs).bind fun r s => .ok (.lst r) s := by
  unfold lcR
  simp only [h0]
  show (optR (if small xs.length then some xs else none) s).bind _ = _
  rw [if_pos (smallLe h)]
  rfl
theorem lcR_tup {f : D → Sto → R (Option D)} {xs : List D} (h : xs.length ≤ 16777216) : lcR f (.tup xs) s = (lcG f xs s).bind fun r s => .ok (.lst r) s := by
  show (optR (if small xs.length then some xs else none) s).bind _ = _
  rw [if_pos (smallLe h)]
  rfl
@[simp] theorem evEs_nil : evEs T C [] g s = .ok [] s := by rw [evEs]
@[simp] theorem evEs_cons (e : E) (es : List E) : evEs T C (e :: es) g s = (evE T C e g s).bind fun d s => (evEs T C es g s).bind fun ds s => .ok (d :: ds) s := by rw [evEs]
@[simp] theorem evJ_nil (acc : Str) : evJ T C [] acc g s = .ok (.str acc) s := by rw [evJ]
noncomputable def jR (T : Tb) (C : Calls) (es : List E) (acc : Str) (g : En) (d : D) (s : Sto) : R D := match d with
  | .str y => if small (acc ++ y).length then evJ T C es (acc ++ y) g s else .no
  | _ => .no
@[simp] theorem jR_str (es : List E) (acc y : Str) : jR T C es acc g (.str y) s = if small (acc ++ y).length then evJ T C es (acc ++ y) g s else .no := id rfl
@[simp] theorem evJ_cons (e : E) (es : List E) (acc : Str) : evJ T C (e :: es) acc g s = (evE T C e g s).bind fun d s => jR T C es acc g d s := by rw [evJ]; rfl
@[simp] theorem evE_fst (es : List E) : evE T C (.fst es) g s = evJ T C es ⟨#[]⟩ g s := by rw [evE]
@[simp] theorem evE_fmt (a : E) : evE T C (.fmt a) g s = (evE T C a g s).bind fun x s => (optR (fstD x) s).bind fun t s => .ok (.str t) s := by rw [evE]
@[simp] theorem evOs_nil : evOs T C [] g s = .ok [] s := by rw [evOs]
@[simp] theorem evOs_cons (e : E) (es : List E) : evOs T C (e :: es) g s = (evB (evE T C e g s) e g s).bind fun d s => (evOs T C es g s).bind fun ds s => .ok (d :: ds) s := by rw [evOs]
def intR (d : D) (s : Sto) : R (Option Int) := match d with
  | .int i => .ok (some i) s
  | _ => .no
@[simp] theorem intR_int (i : Int) : intR (.int i) s = .ok (some i) s := id rfl
@[simp] theorem evOp_none : evOp T C none g s = .ok none s := by rw [evOp]
@[simp] theorem evOp_some (e : E) : evOp T C (some e) g s = (evE T C e g s).bind intR := by rw [evOp]; rfl
@[simp] theorem evTs_none : evTs T C none g s = .ok (.bl true) s := by rw [evTs]
@[simp] theorem evTs_some (e : E) : evTs T C (some e) g s = evE T C e g s := by rw [evTs]
noncomputable def seqF (T : Tb) (C : Calls) (w : Nat) (r : Fl) (ts : List ST) : Fl := r.andThen fun g s => evSs T C w ts g s
@[simp] theorem seqF_nx (ts : List ST) : seqF T C w (.nx g s) ts = evSs T C w ts g s := id rfl
@[simp] theorem seqF_rt (d : D) (ts : List ST) : seqF T C w (.rt d s) ts = .rt d s := id rfl
@[simp] theorem seqF_bk (ts : List ST) : seqF T C w (.bk g s) ts = .bk g s := id rfl
@[simp] theorem seqF_ct (ts : List ST) : seqF T C w (.ct g s) ts = .ct g s := id rfl
@[simp] theorem seqF_ex (c : Nat) (xs : List D) (ts : List ST) : seqF T C w (.ex c xs g s) ts = .ex c xs g s := id rfl
@[simp] theorem seqF_no (ts : List ST) : seqF T C w .no ts = .no := id rfl
@[simp] theorem seqF_ite (P : Prop) [Decidable P] (x y : Fl) (ts : List ST) : seqF T C w (if P then x else y) ts = if P then seqF T C w x ts else seqF T C w y ts := by split <;> rfl
@[simp] theorem rSs_nil : evSs T C w [] g s = .nx g s := by rw [evSs]
@[simp] theorem rSs_cons (t : ST) (ts : List ST) : evSs T C w (t :: ts) g s = seqF T C w (evS T C w t g s) ts := by rw [evSs]; rfl
@[simp] theorem evS_ex (e : E) : evS T C w (.ex e) g s = (evE T C e g s).fl g fun _ s => .nx g s := by rw [evS]
@[simp] theorem evS_asg (t : TG) (e : E) : evS T C w (.asg t e) g s = (evE T C e g s).fl g fun d s => optF (setT t d g) fun g' => .nx g' s := by rw [evS]
def ownF (g : En) (i : Nat) (d : D) (s : Sto) : Fl := match d with
  | .lst xs => if i < g.length then .nx (g.set i (.ow (.lst xs))) s else .no
  | _ => .no
@[simp] theorem ownF_lst (i : Nat) (xs : List D) : ownF g i (.lst xs) s = if i < g.length then .nx (g.set i (.ow (.lst xs))) s else .no := id rfl
@[simp] theorem evS_own (i : Nat) (e : E) : evS T C w (.own i e) g s = (evE T C e g s).fl g (ownF g i) := by rw [evS]; rfl
@[simp] theorem evS_par (ts : List (Nat × Bool)) (es : List E) : evS T C w (.par ts es) g s = (evEs T C es g s).fl g fun ds s => optF (setPar ts ds g) fun g' => .nx g' s := by rw [evS]
@[simp] theorem evS_frz (i : Nat) : evS T C w (.frz i) g s = optF (frzG g i) fun g' => .nx g' s := by rw [evS]
def setiF (g : En) (i : Nat) (xs : List D) (d kd : D) (s : Sto) : Fl := match kd with
  | .int j => optF (ixN xs.length j) fun n => .nx (g.set i (.ow (.lst (xs.set n d)))) s
  | _ => .no
@[simp] theorem setiF_int (i : Nat) (xs : List D) (d : D) (j : Int) : setiF g i xs d (.int j) s = optF (ixN xs.length j) fun n => .nx (g.set i (.ow (.lst (xs.set n d)))) s := id rfl
@[simp] theorem evS_seti (i : Nat) (k e : E) : evS T C w (.seti i k e) g s = (evE T C e g s).fl g fun d s => optF (owL g i) fun xs => (evE T C k g s).fl g fun kd s => setiF g i xs d kd s := by rw [evS]; rfl
noncomputable def augF (T : Tb) (C : Calls) (g : En) (i : Nat) (xs : List D) (e : E) (kd : D) (s : Sto) : Fl := match kd with
  | .int j => optF (ixN xs.length j) fun n => optF xs[n]? fun old => (evE T C e g s).fl g fun d s => (match old, d with
      | .int a, .int b => .nx (g.set i (.ow (.lst (xs.set n (.int (a + b)))))) s
      | _, _ => .no)
  | _ => .no
@[simp] theorem augF_int (i : Nat) (xs : List D) (e : E) (j : Int) : augF T C g i xs e (.int j) s = optF (ixN xs.length j) fun n => optF xs[n]? fun old => (evE T C e g s).fl g fun d s => (match old, d with
      | .int a, .int b => .nx (g.set i (.ow (.lst (xs.set n (.int (a + b)))))) s
      | _, _ => .no) := rfl
@[simp] theorem evS_augi (i : Nat) (k e : E) : evS T C w (.augi i k e) g s = optF (owL g i) fun xs => (evE T C k g s).fl g fun kd s => augF T C g i xs e kd s := by rw [evS]; rfl
@[simp] theorem evS_sets (o k e : E) : evS T C w (.sets o k e) g s = (evE T C e g s).fl g fun d s => (evE T C o g s).fl g fun od s => (evE T C k g s).fl g fun kd s => optF (setsD od kd d s) fun s => .nx g s := by rw [evS]
def setfF (T : Tb) (g : En) (a : Nat) (d od : D) (s : Sto) : Fl := match od with
  | .loc n => (match s[n]? with
    | some (.ins c ks xs) => if fldOk T c a && decide (ks.length < 900) then .nx g (s.set n (.ins c (putK a d ks xs).1 (putK a d ks xs).2)) else .no
    | _ => .no)
  | _ => .no
theorem setfF_loc {a n c : Nat} {d : D} {ks : List Nat} {xs : List D} (h : s[n]? = some (.ins c ks xs)) (h1 : fldOk T c a = true) (h2 : ks.length < 900) : setfF T g a d (.loc n) s = .nx g (s.set n (.ins c (putK a d ks xs).1 (putK a d ks xs).2)) := by
  unfold setfF
  simp [h, h1, h2]
@[simp] theorem evS_setf (o : E) (a : Nat) (e : E) : evS T C w (.setf o a e) g s = (evE T C e g s).fl g fun d s => (evE T C o g s).fl g fun od s => setfF T g a d od s := by rw [evS]; rfl
@[simp] theorem evS_set2 (i : Nat) (k : E) (j : Nat) (l e : E) : evS T C w (.set2 i k j l e) g s = (evE T C e g s).fl g fun d s => optF (prD d) fun p => optF (owL g i) fun xs => (evE T C k g s).fl g fun kd s => optF (ixI xs.length kd) fun n =>
      optF (owL (g.set i (.ow (.lst (xs.set n p.1)))) j) fun ys => (evE T C l (g.set i (.ow (.lst (xs.set n p.1)))) s).fl (g.set i (.ow (.lst (xs.set n p.1)))) fun ld s => optF (ixI ys.length ld) fun m => .nx ((g.set i (.ow (.lst (xs.set n p.1)))).set j (.ow (.lst (ys.set m p.2)))) s := by rw [evS]
@[simp] theorem evS_app (i : Nat) (e : E) : evS T C w (.app i e) g s = optF (owL g i) fun xs => (evE T C e g s).fl g fun d s => if small (xs.length + 1) then .nx (g.set i (.ow (.lst (xs ++ [d])))) s else .no := by rw [evS]
def extF (g : En) (i : Nat) (xs : List D) (d : D) (s : Sto) : Fl := match d with
  | .lst ys => if small (xs.length + ys.length) then .nx (g.set i (.ow (.lst (xs ++ ys)))) s else .no
  | _ => .no
@[simp] theorem extF_lst (i : Nat) (xs ys : List D) : extF g i xs (.lst ys) s = if small (xs.length + ys.length) then .nx (g.set i (.ow (.lst (xs ++ ys)))) s else .no := id rfl
@[simp] theorem evS_ext (i : Nat) (e : E) : evS T C w (.ext i e) g s = optF (owL g i) fun xs => (evE T C e g s).fl g fun d s => extF g i xs d s := by rw [evS]; rfl
def apopF (g : En) (i j : Nat) (xs ys : List D) (d : D) (s : Sto) : Fl := match d with
  | .int k => optF (ixN ys.length k) fun n => optF ys[n]? fun y => if small (xs.length + 1) && small ys.length then .nx ((g.set j (.ow (.lst (ys.eraseIdx n)))).set i (.ow (.lst (xs ++ [y])))) s else .no
  | _ => .no
@[simp] theorem apopF_int (i j : Nat) (xs ys : List D) (k : Int) : apopF g i j xs ys (.int k) s = optF (ixN ys.length k) fun n => optF ys[n]? fun y => if small (xs.length + 1) && small ys.length then .nx ((g.set j (.ow (.lst (ys.eraseIdx n)))).set i (.ow (.lst (xs ++ [y])))) s else .no := id rfl
@[simp] theorem evS_apop (i j : Nat) (e : E) : evS T C w (.apop i j e) g s = if i = j then .no else optF (owL g i) fun xs => optF (owL g j) fun ys => (evE T C e g s).fl g fun d s => apopF g i j xs ys d s := by rw [evS]; rfl
@[simp] theorem evS_ret (e : E) : evS T C w (.ret e) g s = (evE T C e g s).fl g fun d s => .rt d s := by rw [evS]
@[simp] theorem evS_retn : evS T C w .retn g s = .rt .non s := by rw [evS]
@[simp] theorem evS_brk : evS T C w .brk g s = .bk g s := by rw [evS]
@[simp] theorem evS_cnt : evS T C w .cnt g s = .ct g s := by rw [evS]
@[simp] theorem evS_pas : evS T C w .pas g s = .nx g s := by rw [evS]
noncomputable def iteF (T : Tb) (C : Calls) (w : Nat) (a b : List ST) (g : En) (d : D) (s : Sto) : Fl := match d with
  | .bl true => evSs T C w a g s
  | .bl false => evSs T C w b g s
  | _ => .no
@[simp] theorem iteF_bl (a b : List ST) (c : Bool) : iteF T C w a b g (.bl c) s = if c = true then evSs T C w a g s else evSs T C w b g s := by cases c <;> rfl
@[simp] theorem evS_ife (t : E) (a b : List ST) : evS T C w (.ife t a b) g s = (evE T C t g s).fl g (iteF T C w a b g) := by rw [evS]; rfl
def forG (f : A → En → Sto → Fl) : List A → En → Sto → Fl
  | [], g, s => .nx g s
  | x :: xs, g, s => (match f x g s with
    | .nx g' s' => forG f xs g' s'
    | .ct g' s' => forG f xs g' s'
    | .bk g' s' => .nx g' s'
    | r => r)
theorem forL_eq (f : D → En → Sto → Fl) : ∀ (l : List D) (g : En) (s : Sto), forL f l g s = forG f l g s
  | [], g, s => rfl
  | x :: xs, g, s => by
    unfold forL forG
    cases f x g s <;> simp only [forL_eq f xs]
@[simp] theorem forG_map {A' : Type} (h : A' → A) (f : A → En → Sto → Fl) : ∀ (l : List A') (g : En) (s : Sto), forG f (l.map h) g s = forG (fun a => f (h a)) l g s
  | [], g, s => rfl
  | x :: xs, g, s => by
    rw [List.map_cons]
    unfold forG
    cases f (h x) g s <;> simp only [forG_map h f xs]
noncomputable def forF (T : Tb) (C : Calls) (w : Nat) (t : TG) (it : E) (body : List ST) (g : En) (x : D) (s : Sto) : Fl := optF (seqOf x) fun l => optF (frzI g it) fun g => forG (fun y g s => optF (setT t y g) fun g' => evSs T C w body g' s) l g s
@[simp] theorem evS_forr (t : TG) (it : E) (body : List ST) : evS T C w (.forr t it body) g s = (evB (evE T C it g s) it g s).fl g (forF T C w t it body g) := by
  rw [evS]
  congr 1
  funext x s
  unfold forF
  simp only [forL_eq]
@[simp] theorem evS_whl (t : E) (body : List ST) : evS T C w (.whl t body) g s = whlL (fun g s => evE T C t g s) (fun g s => evSs T C w body g s) w g s := by rw [evS]
end
end Bd
namespace Bd
open PySem L2
@[simp] theorem setT_nm (i : Nat) (d : D) (g : En) : setT (.nm i) d g = if i < g.length then some (g.set i (.sh d)) else none := by rw [setT]
@[simp] theorem setT_tp (ts : List TG) (xs : List D) (g : En) : setT (.tp ts) (.tup xs) g = if ts.length = xs.length then setTs ts xs g else none := by rw [setT]
@[simp] theorem setT_tl (ts : List TG) (xs : List D) (g : En) : setT (.tp ts) (.lst xs) g = if ts.length = xs.length then setTs ts xs g else none := by rw [setT]
@[simp] theorem setTs_nil (xs : List D) (g : En) : setTs [] xs g = some g := by rw [setTs]
@[simp] theorem setTs_cons (t : TG) (ts : List TG) (x : D) (xs : List D) (g : En) : setTs (t :: ts) (x :: xs) g = (setT t x g).bind fun g' => setTs ts xs g' := by rw [setTs]
@[simp] theorem slotsT_nm (i : Nat) : slotsT (.nm i) = [i] := by rw [slotsT]
@[simp] theorem slotsT_tp (ts : List TG) : slotsT (.tp ts) = slotsTs ts := by rw [slotsT]
@[simp] theorem slotsTs_nil : slotsTs [] = [] := by rw [slotsTs]
@[simp] theorem slotsTs_cons (t : TG) (ts : List TG) : slotsTs (t :: ts) = slotsT t ++ slotsTs ts := by rw [slotsTs]
@[simp] theorem wipG_nil (g : En) : wipG g [] = g := id rfl
@[simp] theorem wipG_cons (g : En) (i : Nat) (is : List Nat) : wipG g (i :: is) = (wipG g is).set i .un := id rfl
def brwO (o : Option Sl) : Option D := match o with
  | some (.ow (.lst xs)) => some (.lst xs)
  | some (.sh (.lst xs)) => some (.lst xs)
  | _ => none
@[simp] theorem brwO_ow (xs : List D) : brwO (some (.ow (.lst xs))) = some (.lst xs) := id rfl
@[simp] theorem brwO_sh (xs : List D) : brwO (some (.sh (.lst xs))) = some (.lst xs) := id rfl
@[simp] theorem brwD_eq (g : En) (i : Nat) : brwD g i = brwO g[i]? := id rfl
def owO (o : Option Sl) : Option (List D) := match o with
  | some (.ow (.lst xs)) => some xs
  | _ => none
@[simp] theorem owO_ow (xs : List D) : owO (some (.ow (.lst xs))) = some xs := id rfl
@[simp] theorem owL_eq (g : En) (i : Nat) : owL g i = owO g[i]? := id rfl
def frzO (g : En) (i : Nat) (o : Option Sl) : Option En := match o with
  | some (.ow d) => some (g.set i (.sh d))
  | some (.sh d) => some (g.set i (.sh d))
  | _ => none
@[simp] theorem frzO_ow (g : En) (i : Nat) (d : D) : frzO g i (some (.ow d)) = some (g.set i (.sh d)) := id rfl
@[simp] theorem frzO_sh (g : En) (i : Nat) (d : D) : frzO g i (some (.sh d)) = some (g.set i (.sh d)) := id rfl
@[simp] theorem frzG_eq (g : En) (i : Nat) : frzG g i = frzO g i g[i]? := id rfl
@[simp] theorem frzI_eq (g : En) (e : E) : frzI g e = (match e with
  | .brw i => frzG g i
  | _ => some g) := rfl
@[simp] theorem setPar_nil (g : En) : setPar [] [] g = some g := id rfl
@[simp] theorem setPar_cons (i : Nat) (o : Bool) (ts : List (Nat × Bool)) (d : D) (ds : List D) (g : En) : setPar ((i, o) :: ts) (d :: ds) g = if decide (i < g.length) && (!o || isLst d) then setPar ts ds (g.set i (if o then .ow d else .sh d)) else none := id rfl
@[simp] theorem prD_2 (a b : D) : prD (.tup [a, b]) = some (a, b) := id rfl
@[simp] theorem ixI_int (n : Nat) (j : Int) : ixI n (.int j) = ixN n j := id rfl
@[simp] theorem isLst_lst (xs : List D) : isLst (.lst xs) = true := id rfl
@[simp] theorem add_int (i j : Int) : binD .Add (.int i) (.int j) = some (.int (i + j)) := id rfl
@[simp] theorem sub_int (i j : Int) : binD .Sub (.int i) (.int j) = some (.int (i - j)) := id rfl
theorem mul_int {i j : Int} (h : mulOk i j = true) : binD .Mult (.int i) (.int j) = some (.int (i * j)) := by
  show (if mulOk i j then some (D.int (i * j)) else if bigOk i j then some (D.int (i * j)) else none) = _
  rw [if_pos h]
theorem mul_big {i j : Int} (h1 : i.natAbs < 2 ^ 400) (h2 : j.natAbs < 2 ^ 400) : binD .Mult (.int i) (.int j) = some (.int (i * j)) := by
  show (if mulOk i j then some (D.int (i * j)) else if bigOk i j then some (D.int (i * j)) else none) = _
  have : bigOk i j = true := by
    unfold bigOk
    rw [Bool.and_eq_true, decide_eq_true_eq, decide_eq_true_eq]
    exact ⟨h1, h2⟩
  rw [this]
  split <;> rfl
theorem mod_int {i j : Int} (h : 0 < j) : binD .Mod (.int i) (.int j) = some (.int (i % j)) := by
  show (if decide (0 < j) then some (D.int (i % j)) else none) = _
  rw [if_pos (by simpa using h)]
theorem div_int {i j : Int} (h : 0 < j) (h2 : j < 2 ^ 9000) : binD .FloorDiv (.int i) (.int j) = some (.int (i / j)) := by
  show (if decide (0 < j) && decide (j < 2 ^ 9000) then some (D.int (i / j)) else if decide (j < 0) && decide (-j < 2 ^ 9000) then some (D.int (Int.fdiv i j)) else none) = _
  rw [if_pos]
  simp only [Bool.and_eq_true, decide_eq_true_eq]
  exact ⟨h, h2⟩
theorem fdiv_int {i j : Int} (h : j ≠ 0) (h1 : -j < 2 ^ 9000) (h2 : j < 2 ^ 9000) : binD .FloorDiv (.int i) (.int j) = some (.int (Int.fdiv i j)) := by
  rcases Int.lt_trichotomy j 0 with q | q | q
  · show (if decide (0 < j) && decide (j < 2 ^ 9000) then some (D.int (i / j)) else if decide (j < 0) && decide (-j < 2 ^ 9000) then some (D.int (Int.fdiv i j)) else none) = _
    rw [if_neg, if_pos]
    · simp only [Bool.and_eq_true, decide_eq_true_eq]
      exact ⟨q, h1⟩
    · simp only [Bool.and_eq_true, decide_eq_true_eq]
      exact fun z => absurd z.1 (Int.not_lt.mpr (Int.le_of_lt q))
  · exact absurd q h
  · rw [div_int q h2, Int.fdiv_eq_ediv_of_nonneg i (Int.le_of_lt q)]
theorem pow_int {i j : Int} (h : 0 ≤ j) (h2 : j ≤ 1000) (h3 : i.natAbs < 2 ^ 64) : binD .Pow (.int i) (.int j) = some (.int (i ^ j.toNat)) := by
  show (if decide (0 ≤ j) && decide (j ≤ 1000) && decide (i.natAbs < 2 ^ 64) then some (D.int (i ^ j.toNat)) else none) = _
  rw [if_pos]
  simp only [Bool.and_eq_true, decide_eq_true_eq]
  exact ⟨⟨h, h2⟩, h3⟩
@[simp] theorem pow_10_18 : binD .Pow (.int 10) (.int 18) = some (.int 1000000000000000000) := id rfl
@[simp] theorem pow_10_30 : binD .Pow (.int 10) (.int 30) = some (.int 1000000000000000000000000000000) := id rfl
@[simp] theorem pow_10_40 : binD .Pow (.int 10) (.int 40) = some (.int 10000000000000000000000000000000000000000) := id rfl
@[simp] theorem pow_10_59 : binD .Pow (.int 10) (.int 59) = some (.int 100000000000000000000000000000000000000000000000000000000000) := id rfl
theorem add_tup {x y : List D} (h : x.length + y.length ≤ 16777216) : binD .Add (.tup x) (.tup y) = some (.tup (x ++ y)) := by
  show (if small (x.length + y.length) then some (D.tup (x ++ y)) else none) = _
  rw [if_pos (smallLe h)]
theorem add_lst {x y : List D} (h : x.length + y.length ≤ 16777216) : binD .Add (.lst x) (.lst y) = some (.lst (x ++ y)) := by
  show (if small (x.length + y.length) then some (D.lst (x ++ y)) else none) = _
  rw [if_pos (smallLe h)]
theorem mul_tup {x : List D} {j : Int} (h1 : 0 ≤ j) (h2 : j ≤ 1000) (h4 : x.length ≤ 1000) : binD .Mult (.tup x) (.int j) = some (.tup (List.replicate j.toNat x).flatten) := by
  show (if decide (0 ≤ j) && decide (j ≤ 1000) && decide (x.length ≤ 1000) then some (D.tup (List.replicate j.toNat x).flatten) else none) = _
  rw [if_pos]
  simp only [Bool.and_eq_true, decide_eq_true_eq]
  exact ⟨⟨h1, h2⟩, h4⟩
theorem mul_lst {x : List D} {j : Int} (h1 : j < 1000) (h2 : -1000 < j) (h3 : x.length * j.toNat ≤ 16777216) : binD .Mult (.lst x) (.int j) = some (.lst (List.replicate j.toNat x).flatten) := by
  show (if decide (j < 1000) && decide (-1000 < j) && small (x.length * j.toNat) then some (D.lst (List.replicate j.toNat x).flatten) else none) = _
  rw [if_pos]
  simp only [Bool.and_eq_true, decide_eq_true_eq]
  exact ⟨⟨h1, h2⟩, smallLe h3⟩
@[simp] theorem cmpB_lt (i j : Int) : cmpB .Lt (.int i) (.int j) = some (decide (i < j)) := id rfl
@[simp] theorem cmpB_le (i j : Int) : cmpB .LtE (.int i) (.int j) = some (decide (i ≤ j)) := id rfl
@[simp] theorem cmpB_gt (i j : Int) : cmpB .Gt (.int i) (.int j) = some (decide (j < i)) := id rfl
@[simp] theorem cmpB_ge (i j : Int) : cmpB .GtE (.int i) (.int j) = some (decide (j ≤ i)) := id rfl
@[simp] theorem cmpB_is (a b : D) : cmpB .Is a b = if isNon b then some (isNon a) else isBl a b := id rfl
@[simp] theorem cmpB_isn (a b : D) : cmpB .IsNot a b = if isNon b then some (!isNon a) else (isBl a b).map fun r => !r := id rfl
@[simp] theorem isBl_bl (u v : Bool) : isBl (.bl u) (.bl v) = some (decide (u = v)) := id rfl
@[simp] theorem cmpB_eq (a b : D) : cmpB .Eq a b = eqD a b := id rfl
@[simp] theorem cmpB_ne (a b : D) : cmpB .NotEq a b = (eqD a b).map fun r => !r := id rfl
section
variable {T : Tb} {C : Calls} {s : Sto}
@[simp] theorem cmpD_lt (a b : D) : cmpD T C .Lt a b s = blR (cmpB .Lt a b) s := id rfl
@[simp] theorem cmpD_le (a b : D) : cmpD T C .LtE a b s = blR (cmpB .LtE a b) s := id rfl
@[simp] theorem cmpD_gt (a b : D) : cmpD T C .Gt a b s = blR (cmpB .Gt a b) s := id rfl
@[simp] theorem cmpD_ge (a b : D) : cmpD T C .GtE a b s = blR (cmpB .GtE a b) s := id rfl
@[simp] theorem cmpD_is (a b : D) : cmpD T C .Is a b s = blR (cmpB .Is a b) s := id rfl
@[simp] theorem cmpD_isn (a b : D) : cmpD T C .IsNot a b s = blR (cmpB .IsNot a b) s := id rfl
@[simp] theorem cmpD_in (a b : D) : cmpD T C .In a b s = blR (cmpB .In a b) s := id rfl
@[simp] theorem cmpD_nin (a b : D) : cmpD T C .NotIn a b s = blR (cmpB .NotIn a b) s := id rfl
theorem cmpD_eq {a b : D} (h : clsOf a s = none) : cmpD T C .Eq a b s = blR (eqD a b) s := by
  show (match clsOf a s with
    | some _ => ownC T C nEq a b s
    | none => blR (cmpB .Eq a b) s) = _
  rw [h]
  rfl
theorem cmpD_ne {a b : D} (h : clsOf a s = none) : cmpD T C .NotEq a b s = blR ((eqD a b).map fun r => !r) s := by
  show (match clsOf a s with
    | some _ => ownC T C nNe a b s
    | none => blR (cmpB .NotEq a b) s) = _
  rw [h]
  rfl
@[simp] theorem eq_non (b : D) : cmpD T C .Eq .non b s = blR (eqD .non b) s := id rfl
@[simp] theorem eq_bl (x : Bool) (b : D) : cmpD T C .Eq (.bl x) b s = blR (eqD (.bl x) b) s := id rfl
@[simp] theorem eq_int (x : Int) (b : D) : cmpD T C .Eq (.int x) b s = blR (eqD (.int x) b) s := id rfl
@[simp] theorem eq_str (x : Str) (b : D) : cmpD T C .Eq (.str x) b s = blR (eqD (.str x) b) s := id rfl
@[simp] theorem eq_tup (x : List D) (b : D) : cmpD T C .Eq (.tup x) b s = blR (eqD (.tup x) b) s := id rfl
@[simp] theorem eq_lst (x : List D) (b : D) : cmpD T C .Eq (.lst x) b s = blR (eqD (.lst x) b) s := id rfl
@[simp] theorem ne_non (b : D) : cmpD T C .NotEq .non b s = blR ((eqD .non b).map fun r => !r) s := id rfl
@[simp] theorem ne_bl (x : Bool) (b : D) : cmpD T C .NotEq (.bl x) b s = blR ((eqD (.bl x) b).map fun r => !r) s := id rfl
@[simp] theorem ne_int (x : Int) (b : D) : cmpD T C .NotEq (.int x) b s = blR ((eqD (.int x) b).map fun r => !r) s := id rfl
@[simp] theorem ne_str (x : Str) (b : D) : cmpD T C .NotEq (.str x) b s = blR ((eqD (.str x) b).map fun r => !r) s := id rfl
@[simp] theorem ne_tup (x : List D) (b : D) : cmpD T C .NotEq (.tup x) b s = blR ((eqD (.tup x) b).map fun r => !r) s := id rfl
@[simp] theorem ne_lst (x : List D) (b : D) : cmpD T C .NotEq (.lst x) b s = blR ((eqD (.lst x) b).map fun r => !r) s := id rfl
@[simp] theorem len_tup (xs : List D) : biD T C .len [.tup xs] s = .ok (.int xs.length) s := id rfl
@[simp] theorem len_lst (xs : List D) : biD T C .len [.lst xs] s = .ok (.int xs.length) s := id rfl
@[simp] theorem len_scr (xs : List Int) : biD T C .len [.scr xs] s = .ok (.int xs.length) s := id rfl
@[simp] theorem abs_int (i : Int) : biD T C .abs [.int i] s = .ok (.int (if i < 0 then -i else i)) s := id rfl
@[simp] theorem min_int (i j : Int) : biD T C .min [.int i, .int j] s = .ok (.int (if j < i then j else i)) s := id rfl
@[simp] theorem max_int (i j : Int) : biD T C .max [.int i, .int j] s = .ok (.int (if j > i then j else i)) s := id rfl
@[simp] theorem int_int (i : Int) : biD T C .int [.int i] s = .ok (.int i) s := id rfl
@[simp] theorem int_bl (k : Bool) : biD T C .int [.bl k] s = .ok (.int (if k then 1 else 0)) s := id rfl
@[simp] theorem tuple_tup (xs : List D) : biD T C .tuple [.tup xs] s = .ok (.tup xs) s := id rfl
@[simp] theorem tuple_lst (xs : List D) : biD T C .tuple [.lst xs] s = .ok (.tup xs) s := id rfl
@[simp] theorem list_tup (xs : List D) : biD T C .list [.tup xs] s = .ok (.lst xs) s := id rfl
@[simp] theorem list_lst (xs : List D) : biD T C .list [.lst xs] s = .ok (.lst xs) s := id rfl
@[simp] theorem list_scr (xs : List Int) : biD T C .list [.scr xs] s = .ok (.lst (xs.map .int)) s := id rfl
@[simp] theorem intsOf_map (l : List Int) : intsOf (l.map .int) = some l := by
  induction l with
  | nil => rfl
  | cons x xs ih => simp [intsOf, ih]
@[simp] theorem intsOf_mapf {A : Type} (f : A → Int) (l : List A) : intsOf (l.map fun a => .int (f a)) = some (l.map f) := by
  induction l with
  | nil => rfl
  | cons x xs ih => simp [intsOf, ih]
@[simp] theorem blsOf_mapf {A : Type} (f : A → Bool) (l : List A) : blsOf (l.map fun a => .bl (f a)) = some (l.map f) := by
  induction l with
  | nil => rfl
  | cons x xs ih => simp [blsOf, ih]
@[simp] theorem max_int3 (i j k : Int) : biD T C .max [.int i, .int j, .int k] s = .ok (.int (if (if j > i then j else i) < k then k else if j > i then j else i)) s := id rfl
@[simp] theorem max_tup (xs : List D) : biD T C .max [.tup xs] s = (optR ((intsOf xs).bind fun l => l.max?) s).bind fun m s => .ok (.int m) s := id rfl
@[simp] theorem sum_lst (xs : List D) : biD T C .sum [.lst xs] s = (optR (intsOf xs) s).bind fun l s => .ok (.int l.sum) s := id rfl
@[simp] theorem sumTup (xs : List D) : biD T C .sum [.tup xs] s = (optR (intsOf xs) s).bind fun l s => .ok (.int l.sum) s := id rfl
@[simp] theorem all_lst (xs : List D) : biD T C .all [.lst xs] s = (optR (blsOf xs) s).bind fun l s => .ok (.bl (l.all id)) s := id rfl
@[simp] theorem any_lst (xs : List D) : biD T C .any [.lst xs] s = (optR (blsOf xs) s).bind fun l s => .ok (.bl (l.any id)) s := id rfl
@[simp] theorem sorted_lst (xs : List D) : biD T C .sorted [.lst xs] s = (optR (sortX xs) s).bind fun ys s => .ok (.lst ys) s := id rfl
@[simp] theorem min_lst (xs : List D) : biD T C .min [.lst xs] s = (optR (minX xs) s).bind fun d s => .ok d s := id rfl
@[simp] theorem sortX_map (l : List Int) : sortX (l.map .int) = some ((isort l).map .int) := by
  unfold sortX
  rw [intsOf_map]
@[simp] theorem sortX_mapf {A : Type} (f : A → Int) (l : List A) : sortX (l.map fun a => .int (f a)) = some ((isort (l.map f)).map .int) := by
  unfold sortX
  rw [intsOf_mapf]
theorem ints_tup {x : D} {xs : List D} (h : sortOk (x :: xs) = true) : intsOf (x :: xs) = none := by
  unfold sortOk at h
  cases x with
  | int i =>
    unfold toPys at h
    simp only [toPy] at h
    cases q : toPys xs with
    | none => rw [q] at h; cases h
    | some ps => rw [q] at h; simp [tupP] at h
  | _ => rfl
/-- sorted tuples -/
theorem sortX_perm {xs : List D} (h : sortOk xs = true) : ∃ ys, sortX xs = some ys ∧ ys.Perm xs := by
  cases xs with
  | nil =>
    have := sortX_map []
    simp [isort] at this
    exact ⟨[], this, .refl _⟩
  | cons x xs =>
    unfold sortX
    rw [ints_tup h]
    simp only
    rw [if_pos h]
    exact ⟨_, rfl, List.mergeSort_perm _ _⟩
theorem sortX_tup {x : D} {xs : List D} (h : sortOk (x :: xs) = true) : sortX (x :: xs) = some ((x :: xs).mergeSort (PySem.W.dataLe false encD)) := by
  unfold sortX
  rw [ints_tup h]
  simp only
  rw [if_pos h]
theorem minX_tup {x : D} {xs : List D} (h : sortOk (x :: xs) = true) : minX (x :: xs) = some (xs.foldl (fun a y => if PySem.W.dataLt (encD y) (encD a) then y else a) x) := by
  unfold minX
  rw [ints_tup h]
  simp only
  rw [if_pos h]
theorem index_ints {l : List Int} {k : Int} {i : Nat} (h : l.idxOf? k = some i) : bmD .index (.lst (l.map .int)) [.int k] = some (.int (i : Nat)) := by
  show ((intsOf (l.map .int)).bind fun l => (l.idxOf? k).map fun i => D.int (i : Nat)) = _
  rw [intsOf_map]
  simp [h]
@[simp] theorem bmOk_idx (xs : List D) : bmOk .index (.lst xs) = true := id rfl
@[simp] theorem repr_any (x : D) : biD T C .repr [x] s = (optR (reprD x) s).bind fun t s => .ok (.str t) s := id rfl
@[simp] theorem idx_tup (xs : List D) (k : Int) : idxD T C (.tup xs) (.int k) s = optR ((ixN xs.length k).bind fun j => xs[j]?) s := id rfl
@[simp] theorem idx_lst (xs : List D) (k : Int) : idxD T C (.lst xs) (.int k) s = optR ((ixN xs.length k).bind fun j => xs[j]?) s := id rfl
@[simp] theorem slc_tup (xs : List D) (l u : Option Int) : slcD (.tup xs) l u = some (.tup (cutL xs l u)) := id rfl
@[simp] theorem slc_lst (xs : List D) (l u : Option Int) : slcD (.lst xs) l u = some (.lst (cutL xs l u)) := id rfl
@[simp] theorem slc_scr (xs : List Int) (l u : Option Int) : slcD (.scr xs) l u = some (.lst ((cutL xs l u).map .int)) := id rfl
theorem ixN_nat {n k : Nat} (h : k < n) : ixN n (k : Int) = some k := by
  unfold ixN
  rw [if_pos (by omega), if_pos (by omega), Int.toNat_natCast]
theorem ixN_int {n : Nat} {k : Int} (h : 0 ≤ k) (h2 : k < n) : ixN n k = some k.toNat := by
  unfold ixN
  rw [if_pos h, if_pos h2]
@[simp] theorem ixN_zero (n : Nat) : ixN (n + 1) 0 = some 0 := by
  unfold ixN
  rw [if_pos (by omega), if_pos (by omega)]
  rfl
@[simp] theorem ixN_last (n : Nat) : ixN (n + 1) (-1) = some n := by
  unfold ixN
  rw [if_neg (by omega), if_pos (by omega)]
  congr 1
  omega
@[simp] theorem isT_non (t : Bt) : isT T (.bt t) .non s = some (subBt .non t) := id rfl
@[simp] theorem isT_bl (b : Bool) (t : Bt) : isT T (.bt t) (.bl b) s = some (subBt .bool t) := id rfl
@[simp] theorem isT_int (b : Int) (t : Bt) : isT T (.bt t) (.int b) s = some (subBt .int t) := id rfl
@[simp] theorem isT_str (b : Str) (t : Bt) : isT T (.bt t) (.str b) s = some (subBt .str t) := id rfl
@[simp] theorem isT_tup (b : List D) (t : Bt) : isT T (.bt t) (.tup b) s = some (subBt .tuple t) := id rfl
@[simp] theorem isT_lst (b : List D) (t : Bt) : isT T (.bt t) (.lst b) s = some (subBt .list t) := id rfl
@[simp] theorem isT_dct (ks : List Key) (b : List D) (t : Bt) : isT T (.bt t) (.dct ks b) s = some (subBt .dict t) := id rfl
end
@[simp] theorem isNon_non : isNon .non = true := id rfl
@[simp] theorem isNon_bl (b : Bool) : isNon (.bl b) = false := id rfl
@[simp] theorem isNon_int (b : Int) : isNon (.int b) = false := id rfl
@[simp] theorem isNon_str (b : Str) : isNon (.str b) = false := id rfl
@[simp] theorem isNon_tup (b : List D) : isNon (.tup b) = false := id rfl
@[simp] theorem isNon_lst (b : List D) : isNon (.lst b) = false := id rfl
@[simp] theorem isNon_obj (c : Nat) (ks : List Nat) (b : List D) : isNon (.obj c ks b) = false := id rfl
@[simp] theorem eqD_str (x y : Str) : eqD (.str x) (.str y) = some (decide (x = y)) := id rfl
@[simp] theorem eqD_int (x y : Int) : eqD (.int x) (.int y) = some (decide (x = y)) := by
  show some (x == y) = _
  congr 1
def OkR {A : Type} (r : R A) (Q : A → Sto → Prop) : Prop := match r with
  | .ok a s => Q a s
  | _ => False
/-- kept shut, so that nobody evaluates it -/
structure Ok {A : Type} (r : R A) (Q : A → Sto → Prop) : Prop where
  of ::
  out : OkR r Q
@[simp] theorem Ok_ok {A : Type} (a : A) (s : Sto) (Q : A → Sto → Prop) : Ok (.ok a s) Q ↔ Q a s := ⟨fun h => h.out, fun h => ⟨h⟩⟩
theorem Ok.get {A : Type} {r : R A} {Q : A → Sto → Prop} (h : Ok r Q) : ∃ a s, r = .ok a s ∧ Q a s := by
  have h := h.out
  cases r with
  | ok a s => exact ⟨a, s, rfl, h⟩
  | ex => exact h.elim
  | no => exact h.elim
theorem Ok.mono {A : Type} {r : R A} {Q Q' : A → Sto → Prop} (h : Ok r Q) (k : ∀ a s, Q a s → Q' a s) : Ok r Q' := by
  obtain ⟨a, s, rfl, q⟩ := h.get
  exact ⟨k a s q⟩
theorem Ok.bind {A B : Type} {r : R A} {k : A → Sto → R B} {Q : A → Sto → Prop} {Q' : B → Sto → Prop} (h : Ok r Q) (h2 : ∀ a s, Q a s → Ok (k a s) Q') : Ok (r.bind k) Q' := by
  obtain ⟨a, s, rfl, q⟩ := h.get
  exact h2 a s q
/-- what a statement comes to -/
structure Po where
  nx : En → Sto → Prop
  rt : D → Sto → Prop
  bk : En → Sto → Prop := fun _ _ => False
  ct : En → Sto → Prop := fun _ _ => False
  ex : Nat → List D → En → Sto → Prop := fun _ _ _ _ => False
def HfR (r : Fl) (P : Po) : Prop := match r with
  | .nx g s => P.nx g s
  | .rt d s => P.rt d s
  | .bk g s => P.bk g s
  | .ct g s => P.ct g s
  | .ex c xs g s => P.ex c xs g s
  | .no => False
/-- kept shut -/
structure Hf (r : Fl) (P : Po) : Prop where
  of ::
  out : HfR r P
@[simp] theorem Hf_nx (g : En) (s : Sto) (P : Po) : Hf (.nx g s) P ↔ P.nx g s := ⟨fun h => h.out, fun h => ⟨h⟩⟩
@[simp] theorem Hf_rt (d : D) (s : Sto) (P : Po) : Hf (.rt d s) P ↔ P.rt d s := ⟨fun h => h.out, fun h => ⟨h⟩⟩
@[simp] theorem Hf_bk (g : En) (s : Sto) (P : Po) : Hf (.bk g s) P ↔ P.bk g s := ⟨fun h => h.out, fun h => ⟨h⟩⟩
@[simp] theorem Hf_ct (g : En) (s : Sto) (P : Po) : Hf (.ct g s) P ↔ P.ct g s := ⟨fun h => h.out, fun h => ⟨h⟩⟩
@[simp] theorem Hf_ex (c : Nat) (xs : List D) (g : En) (s : Sto) (P : Po) : Hf (.ex c xs g s) P ↔ P.ex c xs g s := ⟨fun h => h.out, fun h => ⟨h⟩⟩
theorem Hf.elim {P : Po} {X : Prop} (h : Hf .no P) : X := h.out.elim
theorem Hf.seq {T : Tb} {C : Calls} {w : Nat} {r : Fl} {ts : List ST} {P : Po} (h : Hf r { P with nx := fun g s => Hf (evSs T C w ts g s) P }) : Hf (seqF T C w r ts) P := by
  cases r with
  | nx g s => exact h.out
  | rt => exact ⟨h.out⟩
  | bk => exact ⟨h.out⟩
  | ct => exact ⟨h.out⟩
  | ex => exact ⟨h.out⟩
  | no => exact h.elim
theorem Hf.mono {r : Fl} {P P' : Po} (h : Hf r P) (h1 : ∀ g s, P.nx g s → P'.nx g s) (h2 : ∀ d s, P.rt d s → P'.rt d s) (h3 : ∀ g s, P.bk g s → P'.bk g s) (h4 : ∀ g s, P.ct g s → P'.ct g s) (h5 : ∀ c xs g s, P.ex c xs g s → P'.ex c xs g s) : Hf r P' := by
  cases r with
  | nx g s => exact ⟨h1 _ _ h.out⟩
  | rt g s => exact ⟨h2 _ _ h.out⟩
  | bk g s => exact ⟨h3 _ _ h.out⟩
  | ct g s => exact ⟨h4 _ _ h.out⟩
  | ex c xs g s => exact ⟨h5 _ _ _ _ h.out⟩
  | no => exact h.elim
theorem Hf.fl {A : Type} {r : R A} {g : En} {k : A → Sto → Fl} {Q : A → Sto → Prop} {P : Po} (h : Ok r Q) (h2 : ∀ a s, Q a s → Hf (k a s) P) : Hf (r.fl g k) P := by
  obtain ⟨a, s, rfl, q⟩ := h.get
  exact h2 a s q
/-- a for by what holds ahead of each turn -/
theorem Hf.forG {A : Type} {f : A → En → Sto → Fl} {P : Po} (I : List A → En → Sto → Prop) (step : ∀ x xs g s, I (x :: xs) g s → Hf (f x g s) { nx := I xs, rt := P.rt, bk := P.nx, ct := I xs, ex := P.ex }) (fin : ∀ g s, I [] g s → P.nx g s) :
    ∀ (l : List A) (g : En) (s : Sto), I l g s → Hf (Bd.forG f l g s) P
  | [], g, s, h => ⟨fin g s h⟩
  | x :: xs, g, s, h => by
    have z := step x xs g s h
    unfold Bd.forG
    cases q : f x g s with
    | nx g' s' => rw [q] at z; exact Hf.forG I step fin xs g' s' z.out
    | ct g' s' => rw [q] at z; exact Hf.forG I step fin xs g' s' z.out
    | bk g' s' => rw [q] at z; exact ⟨z.out⟩
    | rt d s' => rw [q] at z; exact ⟨z.out⟩
    | ex c ys g' s' => rw [q] at z; exact ⟨z.out⟩
    | no => rw [q] at z; exact z.elim
/-- the def's body -/
theorem Ok.call {T : Tb} {C : Calls} {f : Nat} {d : FD} {ds : List D} {s : Sto} {Q : D → Sto → Prop} (h : T.fn.lookup f = some d) (hl : ds.length = d.np) (h2 : Hf (evSs T C wFuel d.body (startG d.ns ds) s) { nx := fun _ s => Q .non s, rt := Q }) : Ok (callF T C f ds s) Q := by
  unfold callF
  rw [h]
  simp only
  rw [if_pos hl]
  cases q : evSs T C wFuel d.body (startG d.ns ds) s with
  | nx g s' => rw [q] at h2; exact ⟨h2.out⟩
  | rt d s' => rw [q] at h2; exact ⟨h2.out⟩
  | bk => rw [q] at h2; exact h2.out.elim
  | ct => rw [q] at h2; exact h2.out.elim
  | ex => rw [q] at h2; exact h2.out.elim
  | no => rw [q] at h2; exact h2.elim
theorem call_eq {T : Tb} {C : Calls} {f : Nat} {d : FD} {ds : List D} {s : Sto} (h : T.fn.lookup f = some d) (hl : ds.length = d.np) : callF T C f ds s = endR (evSs T C wFuel d.body (startG d.ns ds) s) := by
  unfold callF
  rw [h]
  simp only
  rw [if_pos hl]
@[simp] theorem endR_nx (g : En) (s : Sto) : endR (.nx g s) = .ok .non s := id rfl
@[simp] theorem endR_rt (d : D) (s : Sto) : endR (.rt d s) = .ok d s := id rfl
@[simp] theorem endR_ite (P : Prop) [Decidable P] (x y : Fl) : endR (if P then x else y) = if P then endR x else endR y := by split <;> rfl
theorem at_succ (T : Tb) (n : Nat) (f : Nat) (ds : List D) (s : Sto) : (callsAt T (n + 1)).call f ds s = callF T (callsAt T n) f ds s := rfl
theorem lcG_pure {A : Type} {f : A → Sto → R (Option D)} {s : Sto} (h : A → D) : ∀ {l : List A}, (∀ a ∈ l, f a s = .ok (some (h a)) s) → lcG f l s = .ok (l.map h) s
  | [], _ => rfl
  | x :: xs, q => by
    unfold lcG
    rw [q x List.mem_cons_self]
    simp only [calm_ok, bind_ok]
    rw [lcG_pure h fun a m => q a (List.mem_cons_of_mem _ m)]
    rfl
@[simp] theorem lcG_pure' {A : Type} (h : A → D) (l : List A) (s : Sto) : lcG (fun a s => .ok (some (h a)) s) l s = .ok (l.map h) s := lcG_pure h fun _ _ => rfl
theorem lcG_filt {A : Type} {f : A → Sto → R (Option D)} {s : Sto} (p : A → Bool) (h : A → D) : ∀ {l : List A}, (∀ a ∈ l, f a s = .ok (if p a then some (h a) else none) s) → lcG f l s = .ok ((l.filter p).map h) s
  | [], _ => rfl
  | x :: xs, q => by
    unfold lcG
    rw [q x List.mem_cons_self]
    simp only [calm_ok, bind_ok]
    rw [lcG_filt p h fun a m => q a (List.mem_cons_of_mem _ m)]
    cases e : p x <;> simp [e]
theorem lcG_ok {A : Type} {f : A → Sto → R (Option D)} (I : Sto → Prop) (P : A → D → Prop) : ∀ {l : List A} {s : Sto}, I s → (∀ a ∈ l, ∀ s, I s → Ok (f a s) fun o s' => I s' ∧ ∃ d, o = some d ∧ P a d) → Ok (lcG f l s) fun r s' => I s' ∧ r.length = l.length ∧ ∀ (i : Nat) (a : A) (d : D), l[i]? = some a → r[i]? = some d → P a d
  | [], s, hs, _ => ⟨⟨hs, rfl, fun i a d e => by simp at e⟩⟩
  | x :: xs, s, hs, q => by
    unfold lcG
    obtain ⟨o, s1, e, h1, d, rfl, hd⟩ := (q x List.mem_cons_self s hs).get
    rw [e]
    simp only [calm_ok, bind_ok]
    obtain ⟨r, s2, e2, h2, hl, hp⟩ := (lcG_ok I P h1 fun a m => q a (List.mem_cons_of_mem _ m)).get
    rw [e2]
    refine ⟨⟨h2, by simp [hl], fun i a d' e1 e3 => ?_⟩⟩
    cases i with
    | zero =>
      simp at e1 e3
      subst e1 e3
      exact hd
    | succ i => exact hp i a d' (by simpa using e1) (by simpa using e3)
end Bd
namespace Bd
open PySem L2
/-- of a built-in kind (not the script) -/
def pl : D → Bool
  | .non => true | .bl _ => true | .int _ => true | .str _ => true | .tup _ => true | .lst _ => true | .dct _ _ => true
  | _ => false
@[simp] theorem pl_non : pl .non = true := id rfl
@[simp] theorem pl_bl (b : Bool) : pl (.bl b) = true := id rfl
@[simp] theorem pl_int (i : Int) : pl (.int i) = true := id rfl
@[simp] theorem pl_str (i : Str) : pl (.str i) = true := id rfl
@[simp] theorem pl_tup (i : List D) : pl (.tup i) = true := id rfl
@[simp] theorem pl_lst (i : List D) : pl (.lst i) = true := id rfl
@[simp] theorem pl_dct (k : List Key) (i : List D) : pl (.dct k i) = true := id rfl
def Vb : Nat → Nat
  | 0 => 100
  | k + 1 => 40 * (Vb k + 2) + 3
theorem Vb_le (k : Nat) : Vb k ≤ Vb (k + 1) := by
  show Vb k ≤ 40 * (Vb k + 2) + 3
  omega
theorem Vb_mono {k j : Nat} (h : k ≤ j) : Vb k ≤ Vb j := by
  induction h with
  | refl => exact Nat.le_refl _
  | step _ ih => exact Nat.le_trans ih (Vb_le _)
/-- can be shown: k levels -/
def Vd (k : Nat) (d : D) : Prop := ∃ p, toPz d = some p ∧ p.showable = true ∧ p.depth ≤ k ∧ p.shown.length ≤ Vb k
theorem Vd.mono {k j : Nat} {d : D} (h : Vd k d) (hk : k ≤ j) : Vd j d := by
  obtain ⟨p, h1, h2, h3, h4⟩ := h
  exact ⟨p, h1, h2, Nat.le_trans h3 hk, Nat.le_trans h4 (Vb_mono hk)⟩
theorem toPzs_ok {k : Nat} : ∀ {xs : List D}, (∀ x ∈ xs, Vd k x) → ∃ ps, toPzs xs = some ps ∧ PyData.showableAll ps = true ∧ PyData.depthAll ps ≤ k ∧ ps.length = xs.length ∧ ((PyData.shownAll ps).map (·.length)).sum ≤ xs.length * Vb k
  | [], _ => ⟨[], by simp [toPzs], by simp [PyData.showableAll], by simp [PyData.depthAll], rfl, by simp [PyData.shownAll]⟩
  | x :: xs, h => by
    obtain ⟨p, h1, h2, h3, h4⟩ := h x List.mem_cons_self
    obtain ⟨ps, g1, g2, g3, g4, g5⟩ := toPzs_ok (xs := xs) fun y m => h y (List.mem_cons_of_mem _ m)
    refine ⟨p :: ps, by simp [toPzs, h1, g1], by simp [PyData.showableAll, h2, g2], ?_, by simp [g4], ?_⟩
    · simp only [PyData.depthAll]
      omega
    · simp only [PyData.shownAll, List.map_cons, List.sum_cons, List.length_cons]
      rw [Nat.add_mul]
      omega
theorem shownAll_len : ∀ ps : List PyData, (PyData.shownAll ps).length = ps.length
  | [] => by simp [PyData.shownAll]
  | p :: ps => by simp [PyData.shownAll, shownAll_len ps]
theorem vb_seq {k n a : Nat} (hn : n ≤ 40) (h : a ≤ n * Vb k) : a + 2 * n + 3 ≤ Vb (k + 1) := by
  show _ ≤ 40 * (Vb k + 2) + 3
  have : n * Vb k ≤ 40 * Vb k := Nat.mul_le_mul_right _ hn
  omega
theorem Vd.tup {k : Nat} {xs : List D} (hl : xs.length ≤ 40) (h : ∀ x ∈ xs, Vd k x) : Vd (k + 1) (.tup xs) := by
  obtain ⟨ps, g1, g2, g3, g4, g5⟩ := toPzs_ok h
  refine ⟨.tuple ps, by simp [toPz, g1], by simpa [PyData.showable] using g2, by simp only [PyData.depth]; omega, ?_⟩
  simp only [PyData.shown]
  refine Nat.le_trans (tupleText_len_le _) ?_
  rw [shownAll_len, g4]
  exact vb_seq hl g5
theorem Vd.lst {k : Nat} {xs : List D} (hl : xs.length ≤ 40) (h : ∀ x ∈ xs, Vd k x) : Vd (k + 1) (.lst xs) := by
  obtain ⟨ps, g1, g2, g3, g4, g5⟩ := toPzs_ok h
  refine ⟨.list ps, by simp [toPz, g1], by simpa [PyData.showable] using g2, by simp only [PyData.depth]; omega, ?_⟩
  simp only [PyData.shown]
  refine Nat.le_trans (listText_len_le _) ?_
  rw [shownAll_len, g4]
  exact vb_seq hl g5
theorem Vd.non : Vd 0 .non := ⟨.none, by simp [toPz], by simp [PyData.showable], by simp [PyData.depth], by decide⟩
theorem Vd.bl (b : Bool) : Vd 0 (.bl b) := ⟨.bool b, by simp [toPz], by simp [PyData.showable], by simp [PyData.depth], by cases b <;> decide⟩
theorem Vd.int {i : Int} (h : i.natAbs < 10 ^ 90) : Vd 0 (.int i) := by
  refine ⟨.int i, by simp [toPz], ?_, by simp [PyData.depth], ?_⟩
  · simp only [PyData.showable, decide_eq_true_eq]
    by_cases h0 : i.natAbs = 0
    · rw [h0]; decide
    · rw [Nat.log2_lt h0]
      exact Nat.lt_trans h (by decide +kernel)
  · simp only [PyData.shown]
    rw [ofString_length]
    have := int_text_length_le10 (k := 90) (by decide) h
    show _ ≤ 100
    omega
/-- a text of few plain signs -/
theorem Vd.str {x : Str} (h : (x.cps.toList.all fun c => decide (c < 16 ^ 8)) = true) (hl : x.cps.size ≤ 9) : Vd 0 (.str x) := by
  refine ⟨.str x, by simp [toPz], by simp [PyData.showable], by simp [PyData.depth], ?_⟩
  have hx : (PyData.str x).leavesShort 8 = true := by simpa only [PyData.leavesShort] using h
  have e := PyData.shown_le 8 (by omega) (.str x) hx
  simp only [PyData.weight] at e
  show _ ≤ 100
  omega
theorem Vd.pl {k : Nat} {d : D} (h : Vd k d) : pl d = true := by
  obtain ⟨p, h1, _⟩ := h
  cases d <;> simp [toPz] at h1 ⊢
/-- plain through and through -/
def dp (d : D) : Bool := (toPz d).isSome
theorem Vd.dp {k : Nat} {d : D} (h : Vd k d) : dp d = true := by
  obtain ⟨p, h1, _⟩ := h
  simp [Bd.dp, h1]
theorem dp_pl {d : D} (h : dp d = true) : pl d = true := by
  cases d <;> simp [dp, toPz] at h ⊢
theorem dps_mem : ∀ {xs : List D}, (toPzs xs).isSome = true → ∀ x ∈ xs, dp x = true
  | [], _, x, m => by simp at m
  | y :: ys, h, x, m => by
    rw [toPzs] at h
    cases e : toPz y with
    | none => simp [e] at h
    | some p =>
      cases e2 : toPzs ys with
      | none => simp [e, e2] at h
      | some ps =>
        rcases List.mem_cons.mp m with rfl | m
        · simp [dp, e]
        · exact dps_mem (by simp [e2]) x m
theorem dq_tup {xs : List D} (h : dp (.tup xs) = true) : ∀ x ∈ xs, dp x = true := dps_mem (by simpa [dp, toPz] using h)
theorem dq_lst {xs : List D} (h : dp (.lst xs) = true) : ∀ x ∈ xs, dp x = true := dps_mem (by simpa [dp, toPz] using h)
theorem Vb3 : Vb 3 ≤ 16777216 := by decide
theorem Vd.repr {d : D} (h : Vd 3 d) : ∃ t, reprD d = some t := by
  obtain ⟨p, h1, h2, h3, h4⟩ := h
  refine ⟨p.shown, ?_⟩
  unfold reprD
  rw [h1]
  simp only [Option.bind_some]
  rw [if_pos]
  simp only [Bool.and_eq_true]
  exact ⟨⟨h2, Nat.ble_eq_true_of_le (by omega)⟩, Nat.ble_eq_true_of_le (Nat.le_trans h4 Vb3)⟩
end Bd
namespace Bd
open PySem L2
theorem Ok.eq {A : Type} {r : R A} {a : A} {s : Sto} (h : Ok r fun d s' => d = a ∧ s' = s) : r = .ok a s := by
  obtain ⟨d, s', e, rfl, rfl⟩ := h.get
  exact e
theorem ixN_at {n k : Nat} (h : k < n) : ixN n (k : Int) = some k := ixN_nat h
@[simp] theorem ixN_1 (n : Nat) : ixN (n + 2) 1 = some 1 := ixN_nat (k := 1) (by omega)
@[simp] theorem ixN_2 (n : Nat) : ixN (n + 3) 2 = some 2 := ixN_nat (k := 2) (by omega)
@[simp] theorem ixN_3 (n : Nat) : ixN (n + 4) 3 = some 3 := ixN_nat (k := 3) (by omega)
@[simp] theorem ixN_4 (n : Nat) : ixN (n + 5) 4 = some 4 := ixN_nat (k := 4) (by omega)
@[simp] theorem ixN_5 (n : Nat) : ixN (n + 6) 5 = some 5 := ixN_nat (k := 5) (by omega)
@[simp] theorem ixN_6 (n : Nat) : ixN (n + 7) 6 = some 6 := ixN_nat (k := 6) (by omega)
@[simp] theorem ixN_7 (n : Nat) : ixN (n + 8) 7 = some 7 := ixN_nat (k := 7) (by omega)
@[simp] theorem seqOf_tup (xs : List D) : seqOf (.tup xs) = some xs := id rfl
@[simp] theorem seqOf_lst (xs : List D) : seqOf (.lst xs) = some xs := id rfl
@[simp] theorem seqOf_scr (xs : List Int) : seqOf (.scr xs) = some (xs.map .int) := id rfl
/-- a for by the number of turns done -/
theorem Hf.forI {A : Type} {f : A → En → Sto → Fl} {P : Po} {l : List A} (I : Nat → En → Sto → Prop) {g : En} {s : Sto} (h0 : I 0 g s)
    (step : ∀ i x g s, l[i]? = some x → I i g s → Hf (f x g s) { nx := I (i + 1), rt := P.rt, bk := P.nx, ct := I (i + 1), ex := P.ex }) (fin : ∀ g s, I l.length g s → P.nx g s) : Hf (Bd.forG f l g s) P := by
  refine Hf.forG (P := P) (fun xs g s => ∃ i, xs = l.drop i ∧ i ≤ l.length ∧ I i g s) ?_ ?_ l g s ⟨0, rfl, Nat.zero_le _, h0⟩
  · rintro x xs g s ⟨i, e, hi, h⟩
    have hx : l[i]? = some x := by
      have := congrArg (fun z => z[0]?) e
      simp at this
      exact this.symm
    have hlt : i < l.length := by
      rcases Nat.lt_or_ge i l.length with h | h
      · exact h
      · simp [List.getElem?_eq_none h] at hx
    have hxs : xs = l.drop (i + 1) := by
      have := congrArg List.tail e
      simpa using this
    refine (step i x g s hx h).mono ?_ ?_ ?_ ?_ ?_
    · intro g s h; exact ⟨i + 1, hxs, hlt, h⟩
    · intro d s h; exact h
    · intro g s h; exact h
    · intro g s h; exact ⟨i + 1, hxs, hlt, h⟩
    · intro c ys g s h; exact h
  · rintro g s ⟨i, e, hi, h⟩
    have : i = l.length := by
      have := congrArg List.length e
      simp at this
      omega
    subst this
    exact fin g s h
theorem cutL_to {A : Type} (xs : List A) {k : Int} (h : 0 ≤ k) : cutL xs none (some k) = xs.take k.toNat := by
  unfold cutL HT.sIx
  simp only [List.drop_zero, Nat.sub_zero]
  rw [if_neg (by omega)]
  rw [Nat.min_def]
  split
  · rfl
  · rw [List.take_of_length_le (by omega), List.take_of_length_le (by omega)]
theorem cutL_from {A : Type} (xs : List A) {k : Int} (h : 0 ≤ k) : cutL xs (some k) none = xs.drop k.toNat := by
  unfold cutL HT.sIx
  simp only
  rw [if_neg (by omega)]
  rw [List.take_of_length_le (by simp)]
  rw [Nat.min_def]
  split
  · rfl
  · rw [List.drop_of_length_le (by omega), List.drop_of_length_le (by omega)]
theorem cutL_both {A : Type} (xs : List A) {k m : Int} (h : 0 ≤ k) (h2 : 0 ≤ m) : cutL xs (some k) (some m) = (xs.drop k.toNat).take (m.toNat - k.toNat) := by
  unfold cutL HT.sIx
  simp only
  rw [if_neg (by omega), if_neg (by omega)]
  by_cases h1 : k.toNat ≤ xs.length
  · rw [Nat.min_eq_left h1]
    by_cases h3 : m.toNat ≤ xs.length
    · rw [Nat.min_eq_left h3]
    · rw [List.take_of_length_le (by simp; omega), List.take_of_length_le (by simp; omega)]
  · rw [List.drop_of_length_le (by omega), List.drop_of_length_le (by omega)]
    simp
@[simp] theorem cutL_tail {A : Type} (xs : List A) : cutL xs (some 1) none = xs.tail := by
  rw [cutL_from xs (by decide)]
  simp
@[simp] theorem cutL_init {A : Type} (xs : List A) : cutL xs none (some (-1)) = xs.dropLast := by
  unfold cutL HT.sIx
  simp only [List.drop_zero, Nat.sub_zero]
  rw [if_pos (by decide), List.dropLast_eq_take]
  congr 1
  omega
@[simp] theorem cutL_one {A : Type} (xs : List A) : cutL xs none (some 1) = xs.take 1 := cutL_to xs (by decide)
@[simp] theorem cutL_lastOne {A : Type} (xs : List A) : cutL xs (some (-1)) none = xs.drop (xs.length - 1) := by
  unfold cutL HT.sIx
  simp only
  rw [if_pos (by decide), List.take_of_length_le (by simp)]
  congr 1
  omega
end Bd
namespace Bd
open PySem L2
/-- can be compared: k levels -/
def Sp (k : Nat) (d : D) : Prop := ∃ p, toPy d = some p ∧ p.canLay0 = true ∧ p.depth ≤ k
theorem Sp.mono {k j : Nat} {d : D} (h : Sp k d) (hk : k ≤ j) : Sp j d := by
  obtain ⟨p, h1, h2, h3⟩ := h
  exact ⟨p, h1, h2, Nat.le_trans h3 hk⟩
theorem toPys_ok {k : Nat} : ∀ {xs : List D}, (∀ x ∈ xs, Sp k x) → ∃ ps, toPys xs = some ps ∧ PyData.canLayAll0 ps = true ∧ PyData.depthAll ps ≤ k ∧ ps.length = xs.length
  | [], _ => ⟨[], by simp [toPys], by simp [PyData.canLayAll0], by simp [PyData.depthAll], rfl⟩
  | x :: xs, h => by
    obtain ⟨p, h1, h2, h3⟩ := h x List.mem_cons_self
    obtain ⟨ps, g1, g2, g3, g4⟩ := toPys_ok (xs := xs) fun y m => h y (List.mem_cons_of_mem _ m)
    refine ⟨p :: ps, by simp [toPys, h1, g1], by simp [PyData.canLayAll0, h2, g2], ?_, by simp [g4]⟩
    simp only [PyData.depthAll]
    omega
theorem Sp.tup {k : Nat} {xs : List D} (h : ∀ x ∈ xs, Sp k x) : Sp (k + 1) (.tup xs) := by
  obtain ⟨ps, g1, g2, g3, g4⟩ := toPys_ok h
  exact ⟨.tuple ps, by simp [toPy, g1], by simpa [PyData.canLay0] using g2, by simp only [PyData.depth]; omega⟩
theorem Sp.lst {k : Nat} {xs : List D} (h : ∀ x ∈ xs, Sp k x) : Sp (k + 1) (.lst xs) := by
  obtain ⟨ps, g1, g2, g3, g4⟩ := toPys_ok h
  exact ⟨.list ps, by simp [toPy, g1], by simpa [PyData.canLay0] using g2, by simp only [PyData.depth]; omega⟩
theorem Sp.int (i : Int) : Sp 0 (.int i) := ⟨.int i, by simp [toPy], by simp [PyData.canLay0], by simp [PyData.depth]⟩
theorem Sp.bl (i : Bool) : Sp 0 (.bl i) := ⟨.bool i, by simp [toPy], by simp [PyData.canLay0], by simp [PyData.depth]⟩
theorem Sp.non : Sp 0 .non := ⟨.none, by simp [toPy], by simp [PyData.canLay0], by simp [PyData.depth]⟩
theorem Sp.str {x : Str} (h : PyData.strOk x = true) : Sp 0 (.str x) := ⟨.str x, by simp [toPy], by simpa [PyData.canLay0] using h, by simp [PyData.depth]⟩
theorem Sp.ints (l : List Int) : ∀ x ∈ l.map D.int, Sp 0 x := by
  intro x m
  obtain ⟨i, _, rfl⟩ := List.mem_map.mp m
  exact .int i
mutual
theorem eqv_self : ∀ p : PyData, p.canLay0 = true → PyData.eqv p p = true
  | .none, _ => by simp [PyData.eqv]
  | .bool _, _ => by simp [PyData.eqv]
  | .int _, _ => by simp [PyData.eqv]
  | .str _, _ => by simp [PyData.eqv]
  | .list xs, h => by simpa [PyData.eqv] using eqvAll_self xs (by simpa [PyData.canLay0] using h)
  | .tuple xs, h => by simpa [PyData.eqv] using eqvAll_self xs (by simpa [PyData.canLay0] using h)
  | .dict _, h => by simp [PyData.canLay0] at h
theorem eqvAll_self : ∀ ps : List PyData, PyData.canLayAll0 ps = true → PyData.eqvAll ps ps = true
  | [], _ => by simp [PyData.eqvAll]
  | p :: ps, h => by
    simp [PyData.canLayAll0] at h
    simp [PyData.eqvAll, eqv_self p h.1, eqvAll_self ps h.2]
end
theorem eqP_of {k : Nat} {a b : D} {p q : PyData} (hk : k ≤ 64) (h1 : toPy a = some p) (h2 : p.canLay0 = true) (h3 : p.depth ≤ k) (g1 : toPy b = some q) (g2 : q.canLay0 = true) (g3 : q.depth ≤ k) : eqP a b = some (PyData.eqv p q) := by
  unfold eqP
  rw [h1, g1]
  simp only
  rw [if_pos]
  simp only [SeqAt.shaped, Bool.and_eq_true, decide_eq_true_eq]
  exact ⟨⟨h2, by omega⟩, ⟨g2, by omega⟩⟩
theorem eqD_of {k : Nat} {a b : D} {p q : PyData} (hk : k ≤ 64) (h1 : toPy a = some p) (h2 : p.canLay0 = true) (h3 : p.depth ≤ k) (g1 : toPy b = some q) (g2 : q.canLay0 = true) (g3 : q.depth ≤ k) : eqD a b = some (PyData.eqv p q) := by
  have e := eqP_of hk h1 h2 h3 g1 g2 g3
  unfold eqD
  split
  · split
    · simp [toPy] at h1 g1
      subst h1 g1
      simp [PyData.eqv]
      rfl
    · exact e
  · exact e
theorem eqD_self {k : Nat} {d : D} (h : Sp k d) (hk : k ≤ 64) : eqD d d = some true := by
  obtain ⟨p, h1, h2, h3⟩ := h
  rw [eqD_of hk h1 h2 h3 h1 h2 h3, eqv_self p h2]
theorem eqD_lnil {k : Nat} {xs : List D} (h : ∀ x ∈ xs, Sp k x) (hk : k < 64) : eqD (.lst xs) (.lst []) = some xs.isEmpty := by
  obtain ⟨ps, g1, g2, g3, g4⟩ := toPys_ok h
  rw [eqD_of (k := k + 1) (p := .list ps) (q := .list []) hk (by simp [toPy, g1]) (by simpa [PyData.canLay0] using g2) (by simp only [PyData.depth]; omega) (by simp [toPy, toPys]) (by simp [PyData.canLay0, PyData.canLayAll0]) (by simp [PyData.depth, PyData.depthAll])]
  cases ps with
  | nil => cases xs with
    | nil => simp [PyData.eqv, PyData.eqvAll]
    | cons => simp at g4
  | cons => cases xs with
    | nil => simp at g4
    | cons => simp [PyData.eqv, PyData.eqvAll]
theorem eqD_tnil {k : Nat} {xs : List D} (h : ∀ x ∈ xs, Sp k x) (hk : k < 64) : eqD (.tup xs) (.tup []) = some xs.isEmpty := by
  obtain ⟨ps, g1, g2, g3, g4⟩ := toPys_ok h
  rw [eqD_of (k := k + 1) (p := .tuple ps) (q := .tuple []) hk (by simp [toPy, g1]) (by simpa [PyData.canLay0] using g2) (by simp only [PyData.depth]; omega) (by simp [toPy, toPys]) (by simp [PyData.canLay0, PyData.canLayAll0]) (by simp [PyData.depth, PyData.depthAll])]
  cases ps with
  | nil => cases xs with
    | nil => simp [PyData.eqv, PyData.eqvAll]
    | cons => simp at g4
  | cons => cases xs with
    | nil => simp at g4
    | cons => simp [PyData.eqv, PyData.eqvAll]
@[simp] theorem eqD_lints (l : List Int) : eqD (.lst (l.map .int)) (.lst []) = some l.isEmpty := by
  rw [eqD_lnil (Sp.ints l) (by decide)]
  simp
@[simp] theorem eqD_tints (l : List Int) : eqD (.tup (l.map .int)) (.tup []) = some l.isEmpty := by
  rw [eqD_tnil (Sp.ints l) (by decide)]
  simp
@[simp] theorem lcG_filt' {A : Type} (p : A → Prop) [DecidablePred p] (h : A → D) (l : List A) (s : Sto) : lcG (fun a s => if p a then R.ok (some (h a)) s else .ok none s) l s = .ok ((l.filter fun a => decide (p a)).map h) s := by
  rw [lcG_filt (fun a => decide (p a)) h fun a m => ?_]
  by_cases e : p a <;> simp [e]
@[simp] theorem lcG_filn' {A : Type} (p : A → Prop) [DecidablePred p] (h : A → D) (l : List A) (s : Sto) : lcG (fun a s => if p a then R.ok none s else .ok (some (h a)) s) l s = .ok ((l.filter fun a => decide (¬ p a)).map h) s := by
  rw [lcG_filt (fun a => decide (¬ p a)) h fun a m => ?_]
  by_cases e : p a <;> simp [e]
@[simp] theorem eqD_lintsf {A : Type} (f : A → Int) (l : List A) : eqD (.lst (l.map fun a => .int (f a))) (.lst []) = some l.isEmpty := by
  have := eqD_lints (l.map f)
  rw [List.map_map, List.isEmpty_map] at this
  exact this
@[simp] theorem eqD_tintsf {A : Type} (f : A → Int) (l : List A) : eqD (.tup (l.map fun a => .int (f a))) (.tup []) = some l.isEmpty := by
  have := eqD_tints (l.map f)
  rw [List.map_map, List.isEmpty_map] at this
  exact this
theorem Hf_ite (c : Prop) [Decidable c] (x y : Fl) (P : Po) : Hf (if c then x else y) P ↔ (c → Hf x P) ∧ (¬ c → Hf y P) := by
  by_cases h : c <;> simp [h]
theorem Ok_ite {A : Type} (c : Prop) [Decidable c] (x y : R A) (P : A → Sto → Prop) : Ok (if c then x else y) P ↔ (c → Ok x P) ∧ (¬ c → Ok y P) := by
  by_cases h : c <;> simp [h]
/-- a while by how many turns are left at most -/
theorem Hf.whl {t : En → Sto → R D} {f : En → Sto → Fl} {P : Po} (I : Nat → En → Sto → Prop)
    (step : ∀ k g s, I k g s → Ok (t g s) fun d s' => (d = .bl false ∧ P.nx g s') ∨ (d = .bl true ∧ ∃ k', k = k' + 1 ∧ Hf (f g s') { nx := I k', rt := P.rt, bk := P.nx, ct := I k', ex := P.ex })) :
    ∀ (n k : Nat) (g : En) (s : Sto), k < n → I k g s → Hf (whlL t f n g s) P
  | 0, k, g, s, h, _ => by omega
  | n + 1, k, g, s, h, hi => by
    obtain ⟨d, s', e, q⟩ := (step k g s hi).get
    unfold whlL
    rw [e]
    simp only [fl_ok]
    rcases q with ⟨rfl, q⟩ | ⟨rfl, k', rfl, q⟩
    · exact ⟨q⟩
    · simp only
      cases z : f g s' with
      | nx g2 s2 => rw [z] at q; exact Hf.whl I step n k' g2 s2 (by omega) q.out
      | ct g2 s2 => rw [z] at q; exact Hf.whl I step n k' g2 s2 (by omega) q.out
      | bk g2 s2 => rw [z] at q; exact ⟨q.out⟩
      | rt d s2 => rw [z] at q; exact ⟨q.out⟩
      | ex c ys g2 s2 => rw [z] at q; exact ⟨q.out⟩
      | no => rw [z] at q; exact q.elim
theorem rng_lit (n : Nat) (s : Sto) (h : n ≤ 16777216) : rngR (.int 0) (.int (n : Int)) s = .ok (.lst (((List.range n).map fun k : Nat => (k : Int)).map .int)) s := by
  rw [rngR_nat h, List.map_map]
  rfl
@[simp] theorem eqD_nn : eqD (.lst []) (.lst []) = some true := eqD_lints []
@[simp] theorem eqD_tt : eqD (.tup []) (.tup []) = some true := eqD_tints []
end Bd
namespace Bd
open PySem L2
structure Po.Le (P P' : Po) : Prop where
  nx : ∀ g s, P.nx g s → P'.nx g s
  rt : ∀ d s, P.rt d s → P'.rt d s
  bk : ∀ g s, P.bk g s → P'.bk g s
  ct : ∀ g s, P.ct g s → P'.ct g s
  ex : ∀ c xs g s, P.ex c xs g s → P'.ex c xs g s
theorem Po.Le.refl (P : Po) : Po.Le P P := ⟨fun _ _ h => h, fun _ _ h => h, fun _ _ h => h, fun _ _ h => h, fun _ _ _ _ h => h⟩
theorem Hf.seqL {T : Tb} {C : Calls} {w : Nat} {r : Fl} {ts : List ST} {P : Po} (h : ∀ P', Po.Le { P with nx := fun g s => Hf (evSs T C w ts g s) P } P' → Hf r P') : Hf (seqF T C w r ts) P := Hf.seq (h _ (.refl _))
theorem Hf.forK {A : Type} {f : A → En → Sto → Fl} {P : Po} {l : List A} (I : Nat → En → Sto → Prop) {g : En} {s : Sto} (h0 : I 0 g s)
    (step : ∀ i x g s P', l[i]? = some x → i < l.length → I i g s → Po.Le { nx := I (i + 1), rt := P.rt, bk := P.nx, ct := I (i + 1), ex := P.ex } P' → Hf (f x g s) P') (fin : ∀ g s, I l.length g s → P.nx g s) : Hf (Bd.forG f l g s) P :=
  Hf.forI I h0 (fun i x g s e hi => step i x g s _ e (List.getElem?_eq_some_iff.mp e).1 hi (.refl _)) fin
theorem Ok.callL {T : Tb} {C : Calls} {f : Nat} {d : FD} {ds : List D} {s : Sto} {Q : D → Sto → Prop} (h : T.fn.lookup f = some d) (hl : ds.length = d.np) (h2 : ∀ P', Po.Le { nx := fun _ s => Q .non s, rt := Q } P' → Hf (evSs T C wFuel d.body (startG d.ns ds) s) P') : Ok (callF T C f ds s) Q := Ok.call h hl (h2 _ (.refl _))
theorem Hf.whlK {t : En → Sto → R D} {f : En → Sto → Fl} {P : Po} (I : Nat → En → Sto → Prop)
    (step : ∀ k g s, I k g s → Ok (t g s) fun d s' => (d = .bl false ∧ P.nx g s') ∨ (d = .bl true ∧ ∃ k', k = k' + 1 ∧ ∀ P', Po.Le { nx := I k', rt := P.rt, bk := P.nx, ct := I k', ex := P.ex } P' → Hf (f g s') P')) (n k : Nat) {g : En} {s : Sto} (hk : k < n) (h0 : I k g s) : Hf (whlL t f n g s) P :=
  Hf.whl I (fun k g s hi => (step k g s hi).mono fun d s' z => z.imp id fun ⟨a, k', b, c⟩ => ⟨a, k', b, c _ (.refl _)⟩) n k g s hk h0
theorem Hf.fl' {A : Type} {r : R A} {g : En} {k : A → Sto → Fl} {a : A} {s : Sto} {P : Po} (h : r = .ok a s) (h2 : Hf (k a s) P) : Hf (r.fl g k) P := by
  rw [h]
  exact h2
@[simp] theorem div_2 (i : Int) : binD .FloorDiv (.int i) (.int 2) = some (.int (i / 2)) := div_int (by decide) (by decide +kernel)
theorem toPys_ints (l : List Int) : toPys (l.map .int) = some (l.map .int) := by
  induction l with
  | nil => simp [toPys]
  | cons x xs ih => simp [toPys, toPy, ih]
theorem inD_ints (p : Int) (l : List Int) : inD (.int p) (l.map .int) = some (decide (p ∈ l)) := by
  obtain ⟨q, g1, g2, g3⟩ := Sp.lst (Sp.ints l)
  rw [toPy, toPys_ints l] at g1
  simp at g1
  subst g1
  unfold inD
  rw [toPys_ints l]
  simp only [toPy]
  rw [if_pos]
  · congr 1
    rw [Bool.eq_iff_iff]
    simp [PyData.eqv]
  · simp only [SeqAt.shaped, Bool.and_eq_true, decide_eq_true_eq]
    exact ⟨⟨by simp [PyData.canLay0], by simp [PyData.depth]⟩, g2, by omega⟩
theorem in_ints (p : Int) (l : List Int) : cmpB .In (.int p) (.lst (l.map .int)) = some (decide (p ∈ l)) := inD_ints p l
theorem in_tints (p : Int) (l : List Int) : cmpB .In (.int p) (.tup (l.map .int)) = some (decide (p ∈ l)) := inD_ints p l
theorem nin_ints (p : Int) (l : List Int) : cmpB .NotIn (.int p) (.lst (l.map .int)) = some (!decide (p ∈ l)) := by
  show (inD (.int p) (l.map .int)).map _ = _
  rw [inD_ints]
  rfl
theorem isort_asc {l : List Int} (h : l.Nodup) : (isort l).Pairwise (· < ·) := by
  have h1 : (isort l).Pairwise (fun a b => decide (a ≤ b) = true) := List.pairwise_mergeSort (fun a b c => by simp; omega) (fun a b => by simp; omega) l
  have h2 : (isort l).Nodup := (List.mergeSort_perm l _).nodup_iff.mpr h
  have := h1.and h2
  refine this.imp ?_
  intro a b hab
  simp at hab
  omega
theorem nodup_inj {A : Type} {l : List A} (h : l.Nodup) (i j : Nat) (hi : i < l.length) (hj : j < l.length) (e : l[i] = l[j]) : i = j := by
  have p := List.pairwise_iff_getElem.mp h
  rcases Nat.lt_trichotomy i j with k | k | k
  · exact absurd e (p i j hi hj k)
  · exact k
  · exact absurd e.symm (p j i hj hi k)
theorem ixN_neg1 {n : Nat} (h : 0 < n) : ixN n (-1) = some (n - 1) := by
  obtain ⟨m, rfl⟩ : ∃ m, n = m + 1 := ⟨n - 1, by omega⟩
  rw [ixN_last]
  rfl
/-- of plain values: by looking -/
def vdC (k : Nat) (d : D) : Bool := match toPz d with
  | some p => p.showable && Nat.ble p.depth k && Nat.ble p.shown.length (Vb k)
  | none => false
theorem vdC_ok {k : Nat} {d : D} (h : vdC k d = true) : Vd k d := by
  unfold vdC at h
  cases e : toPz d with
  | none => simp [e] at h
  | some p =>
    simp only [e, Bool.and_eq_true] at h
    exact ⟨p, e, h.1.1, Nat.le_of_ble_eq_true h.1.2, Nat.le_of_ble_eq_true h.2⟩
theorem vdC_all {k : Nat} {l : List D} (h : l.all (vdC k) = true) : ∀ d ∈ l, Vd k d := fun d m => vdC_ok (List.all_eq_true.mp h d m)
def popF (g : En) (i : Nat) (xs : List D) (d : D) (s : Sto) : Fl := match d with
  | .int j => optF (ixN xs.length j) fun n => if small xs.length then .nx (g.set i (.ow (.lst (xs.eraseIdx n)))) s else .no
  | _ => .no
@[simp] theorem popF_int (g : En) (i : Nat) (xs : List D) (j : Int) (s : Sto) : popF g i xs (.int j) s = optF (ixN xs.length j) fun n => if small xs.length then .nx (g.set i (.ow (.lst (xs.eraseIdx n)))) s else .no := id rfl
@[simp] theorem evS_pop {T : Tb} {C : Calls} {w : Nat} {g : En} {s : Sto} (i : Nat) (e : E) : evS T C w (.pop i e) g s = optF (owL g i) fun xs => (evE T C e g s).fl g fun d s => popF g i xs d s := by rw [evS]; rfl
end Bd
namespace Bd
open PySem L2
section
variable {A B : Type} {T : Tb} {C : Calls} {w : Nat} {g : En} {s : Sto}
@[simp] theorem calm_ex (c : Nat) (xs : List D) (s : Sto) : (R.ex c xs s : R A).calm = .no := id rfl
@[simp] theorem endR_ex (c : Nat) (xs : List D) (g : En) (s : Sto) : endR (.ex c xs g s) = .ex c xs s := id rfl
@[simp] theorem evE_mkx (c : Nat) (es : List E) : evE T C (.mkx c es) g s = if excN T c es.length then (evEs T C es g s).bind fun ds s => if excN T c ds.length then .ok (.exn c ds) s else .no else .no := by rw [evE]
def fldX (T : Tb) (c a : Nat) (xs : List D) : Option D := match T.cl.lookup c with
  | some d => if d.kind = 2 then lookK a d.flds xs else none
  | none => none
def atxR (T : Tb) (a : Nat) (x : D) (s : Sto) : R D := match x with
  | .exn c xs => optR (fldX T c a xs) s
  | _ => .no
@[simp] theorem atxR_exn (a c : Nat) (xs : List D) (s : Sto) : atxR T a (.exn c xs) s = optR (fldX T c a xs) s := id rfl
@[simp] theorem evE_atx (a : Nat) (o : E) : evE T C (.atx a o) g s = (evE T C o g s).bind fun x s => atxR T a x s := by
  rw [evE]
  congr 1
  funext x s
  cases x <;> try rfl
  case exn c xs =>
    simp only [atxR, fldX]
    cases T.cl.lookup c with
    | none => rfl
    | some d =>
      simp only
      split <;> rfl
def isxR (T : Tb) (m : Nat) (x : D) (s : Sto) : R D := match x with
  | .exn c _ => (optR (isX T c m) s).bind fun r s => .ok (.bl r) s
  | _ => .no
@[simp] theorem isxR_exn (m c : Nat) (xs : List D) (s : Sto) : isxR T m (.exn c xs) s = (optR (isX T c m) s).bind fun r s => .ok (.bl r) s := id rfl
@[simp] theorem evE_isx (a : E) (m : Nat) : evE T C (.isx a m) g s = (evE T C a g s).bind fun x s => isxR T m x s := by
  rw [evE]
  congr 1
@[simp] theorem evS_rse (c : Nat) (es : List E) : evS T C w (.rse c es) g s = if excN T c es.length then (evEs T C es g s).fl g fun ds s => if excN T c ds.length then .ex c ds g s else .no else .no := by rw [evS]
noncomputable def trF (T : Tb) (C : Calls) (w : Nat) (hs : List ST) (r : Fl) : Fl := match r with
  | .ex k xs g s => evHs T C w hs k xs g s
  | r => r
@[simp] theorem evS_tr (body hs : List ST) : evS T C w (.tr body hs) g s = trF T C w hs (evSs T C w body g s) := by rw [evS]; rfl
@[simp] theorem trF_nx (hs : List ST) : trF T C w hs (.nx g s) = .nx g s := id rfl
@[simp] theorem trF_rt (hs : List ST) (d : D) : trF T C w hs (.rt d s) = .rt d s := id rfl
@[simp] theorem trF_bk (hs : List ST) : trF T C w hs (.bk g s) = .bk g s := id rfl
@[simp] theorem trF_ct (hs : List ST) : trF T C w hs (.ct g s) = .ct g s := id rfl
@[simp] theorem trF_ex (hs : List ST) (k : Nat) (xs : List D) : trF T C w hs (.ex k xs g s) = evHs T C w hs k xs g s := id rfl
@[simp] theorem trF_ite (hs : List ST) (P : Prop) [Decidable P] (x y : Fl) : trF T C w hs (if P then x else y) = if P then trF T C w hs x else trF T C w hs y := by split <;> rfl
noncomputable def clsF (T : Tb) (C : Calls) (w : Nat) (i : Option Nat) (suite r : List ST) (k : Nat) (xs : List D) (g : En) (s : Sto) (b : Option Bool) : Fl := match b with
  | some true => optF (putX i k xs g) fun g' => (evSs T C w suite g' s).cut i
  | some false => evHs T C w r k xs g s
  | none => .no
@[simp] theorem clsF_tt (i : Option Nat) (suite r : List ST) (k : Nat) (xs : List D) : clsF T C w i suite r k xs g s (some true) = optF (putX i k xs g) fun g' => (evSs T C w suite g' s).cut i := id rfl
@[simp] theorem clsF_ff (i : Option Nat) (suite r : List ST) (k : Nat) (xs : List D) : clsF T C w i suite r k xs g s (some false) = evHs T C w r k xs g s := id rfl
@[simp] theorem evHs_nil (k : Nat) (xs : List D) : evHs T C w [] k xs g s = .ex k xs g s := by rw [evHs]
@[simp] theorem evHs_cons (c : Nat) (i : Option Nat) (suite r : List ST) (k : Nat) (xs : List D) : evHs T C w (.cls c i suite :: r) k xs g s = clsF T C w i suite r k xs g s (isExc T k c) := by
  rw [evHs]
  cases isExc T k c with
  | none => rfl
  | some b => cases b <;> rfl
@[simp] theorem putX_none (k : Nat) (xs : List D) : putX none k xs g = some g := id rfl
@[simp] theorem putX_some (i k : Nat) (xs : List D) : putX (some i) k xs g = if i < g.length then some (g.set i (.sh (.exn k xs))) else none := id rfl
@[simp] theorem cutX_none : cutX none g = g := id rfl
@[simp] theorem cutX_some (i : Nat) : cutX (some i) g = g.set i .un := id rfl
@[simp] theorem cut_nx (i : Option Nat) : (Fl.nx g s).cut i = .nx (cutX i g) s := id rfl
@[simp] theorem cut_bk (i : Option Nat) : (Fl.bk g s).cut i = .bk (cutX i g) s := id rfl
@[simp] theorem cut_ct (i : Option Nat) : (Fl.ct g s).cut i = .ct (cutX i g) s := id rfl
@[simp] theorem cut_rt (i : Option Nat) (d : D) : (Fl.rt d s).cut i = .rt d s := id rfl
@[simp] theorem cut_ite (i : Option Nat) (P : Prop) [Decidable P] (x y : Fl) : (if P then x else y).cut i = if P then x.cut i else y.cut i := by split <;> rfl
end
theorem seqF_end {T : Tb} {C : Calls} {w : Nat} (r : Fl) : seqF T C w r [] = r := by
  cases r <;> simp
theorem Hf.tr {T : Tb} {C : Calls} {w : Nat} {hs : List ST} {r : Fl} {P : Po} (h : Hf r { P with ex := fun k xs g s => Hf (evHs T C w hs k xs g s) P }) : Hf (trF T C w hs r) P := by
  cases r with
  | nx g s => exact ⟨h.out⟩
  | rt => exact ⟨h.out⟩
  | bk => exact ⟨h.out⟩
  | ct => exact ⟨h.out⟩
  | ex => exact h.out
  | no => exact h.elim
theorem frzR_ex {s : Sto} {k : Nat} {xs : List D} {m : MO} (h : locsLt s.length xs = true) : frzR s (.ex k xs (s ++ [m])) = .ex k xs s := by
  unfold frzR
  simp [h]
@[simp] theorem isNon_exn (c : Nat) (b : List D) : isNon (.exn c b) = false := id rfl
@[simp] theorem isNon_loc (c : Nat) : isNon (.loc c) = false := id rfl
@[simp] theorem isNon_dct (c : List Key) (b : List D) : isNon (.dct c b) = false := id rfl
def Vw (k n : Nat) (d : D) : Prop := ∃ p, toPz d = some p ∧ p.showable = true ∧ p.depth ≤ k ∧ p.shown.length ≤ n
theorem Vw.mono {k j n m : Nat} {d : D} (h : Vw k n d) (hk : k ≤ j) (hn : n ≤ m) : Vw j m d := by
  obtain ⟨p, h1, h2, h3, h4⟩ := h
  exact ⟨p, h1, h2, Nat.le_trans h3 hk, Nat.le_trans h4 hn⟩
theorem Vd.vw {k : Nat} {d : D} (h : Vd k d) : Vw k (Vb k) d := h
theorem toPzs_w {k n : Nat} : ∀ {xs : List D}, (∀ x ∈ xs, Vw k n x) → ∃ ps, toPzs xs = some ps ∧ PyData.showableAll ps = true ∧ PyData.depthAll ps ≤ k ∧ ps.length = xs.length ∧ ((PyData.shownAll ps).map (·.length)).sum ≤ xs.length * n
  | [], _ => ⟨[], by simp [toPzs], by simp [PyData.showableAll], by simp [PyData.depthAll], rfl, by simp [PyData.shownAll]⟩
  | x :: xs, h => by
    obtain ⟨p, h1, h2, h3, h4⟩ := h x List.mem_cons_self
    obtain ⟨ps, g1, g2, g3, g4, g5⟩ := toPzs_w (xs := xs) fun y m => h y (List.mem_cons_of_mem _ m)
    refine ⟨p :: ps, by simp [toPzs, h1, g1], by simp [PyData.showableAll, h2, g2], ?_, by simp [g4], ?_⟩
    · simp only [PyData.depthAll]
      omega
    · simp only [PyData.shownAll, List.map_cons, List.sum_cons, List.length_cons]
      rw [Nat.add_mul]
      omega
theorem Vw.tup {k n m l : Nat} {xs : List D} (hl : xs.length ≤ l) (h : ∀ x ∈ xs, Vw k n x) (hm : l * (n + 2) + 3 ≤ m) : Vw (k + 1) m (.tup xs) := by
  obtain ⟨ps, g1, g2, g3, g4, g5⟩ := toPzs_w h
  refine ⟨.tuple ps, by simp [toPz, g1], by simpa [PyData.showable] using g2, by simp only [PyData.depth]; omega, ?_⟩
  simp only [PyData.shown]
  refine Nat.le_trans (tupleText_len_le _) ?_
  rw [shownAll_len, g4]
  refine Nat.le_trans ?_ hm
  have : xs.length * (n + 2) ≤ l * (n + 2) := Nat.mul_le_mul_right _ hl
  rw [Nat.mul_add] at this
  omega
theorem Vw.lst {k n m l : Nat} {xs : List D} (hl : xs.length ≤ l) (h : ∀ x ∈ xs, Vw k n x) (hm : l * (n + 2) + 3 ≤ m) : Vw (k + 1) m (.lst xs) := by
  obtain ⟨ps, g1, g2, g3, g4, g5⟩ := toPzs_w h
  refine ⟨.list ps, by simp [toPz, g1], by simpa [PyData.showable] using g2, by simp only [PyData.depth]; omega, ?_⟩
  simp only [PyData.shown]
  refine Nat.le_trans (listText_len_le _) ?_
  rw [shownAll_len, g4]
  refine Nat.le_trans ?_ hm
  have : xs.length * (n + 2) ≤ l * (n + 2) := Nat.mul_le_mul_right _ hl
  rw [Nat.mul_add] at this
  omega
theorem Vw.int {i : Int} (h : i.natAbs < 10 ^ 90) : Vw 0 100 (.int i) := Vd.int h
theorem Vw.non : Vw 0 100 .non := Vd.non
theorem Vw.bl (b : Bool) : Vw 0 100 (.bl b) := Vd.bl b
theorem Vw.dp {k n : Nat} {d : D} (h : Vw k n d) : dp d = true := by
  obtain ⟨p, h1, _⟩ := h
  simp [Bd.dp, h1]
theorem Vw.repr {k n : Nat} {d : D} (h : Vw k n d) (hk : k ≤ 60) (hn : n ≤ 16777216) : ∃ t, reprD d = some t := by
  obtain ⟨p, h1, h2, h3, h4⟩ := h
  refine ⟨p.shown, ?_⟩
  unfold reprD
  rw [h1]
  simp only [Option.bind_some]
  rw [if_pos]
  simp only [Bool.and_eq_true]
  exact ⟨⟨h2, Nat.ble_eq_true_of_le (by omega)⟩, Nat.ble_eq_true_of_le (Nat.le_trans h4 hn)⟩
theorem Vw.str {x : Str} {m : Nat} (h : (x.cps.toList.all fun c => decide (c < 16 ^ 8)) = true) (hl : x.cps.size ≤ m) : Vw 0 (10 * m + 8) (.str x) := by
  refine ⟨.str x, by simp [toPz], by simp [PyData.showable], by simp [PyData.depth], ?_⟩
  have hx : (PyData.str x).leavesShort 8 = true := by simpa only [PyData.leavesShort] using h
  have e := PyData.shown_le 8 (by omega) (.str x) hx
  simp only [PyData.weight] at e
  refine Nat.le_trans e ?_
  omega
theorem Vw.txt {z : String} {m : Nat} (h : z.length ≤ m) : Vw 0 (10 * m + 8) (.str (Str.ofString z)) := by
  refine Vw.str ?_ ?_
  · rw [List.all_eq_true]
    intro c hc
    rw [Str.ofString_eq_toList] at hc
    simp at hc
    obtain ⟨a, _, rfl⟩ := hc
    have := a.valid
    simp only [decide_eq_true_eq]
    have h2 : a.toNat < 4294967296 := a.val.toNat_lt
    exact h2
  · rw [Str.ofString_eq_toList]
    simp only [List.size_toArray, List.length_map]
    rw [String.length_toList]
    exact h
theorem Vw.num {i : Int} (h : i.natAbs < 10 ^ 90) : Vw 0 1000 (.str (toString i)) := (Vw.txt (z := toString i) (m := 91) (int_text_length_le10 (k := 90) (by decide) h)).mono (by omega) (by omega)
def vwC (k n : Nat) (d : D) : Bool := match toPz d with
  | some p => p.showable && Nat.ble p.depth k && Nat.ble p.shown.length n
  | none => false
theorem vwC_ok {k n : Nat} {d : D} (h : vwC k n d = true) : Vw k n d := by
  unfold vwC at h
  cases e : toPz d with
  | none => simp [e] at h
  | some p =>
    simp only [e, Bool.and_eq_true] at h
    exact ⟨p, e, h.1.1, Nat.le_of_ble_eq_true h.1.2, Nat.le_of_ble_eq_true h.2⟩
theorem vwC_all {k n : Nat} {l : List D} (h : l.all (vwC k n) = true) : ∀ d ∈ l, Vw k n d := fun d m => vwC_ok (List.all_eq_true.mp h d m)
def OcR {A : Type} (r : R A) (Q : A → Sto → Prop) (X : Nat → List D → Sto → Prop) : Prop := match r with
  | .ok a s => Q a s
  | .ex c xs s => X c xs s
  | .no => False
structure Oc {A : Type} (r : R A) (Q : A → Sto → Prop) (X : Nat → List D → Sto → Prop) : Prop where
  of ::
  out : OcR r Q X
theorem Oc.callL {T : Tb} {C : Calls} {f : Nat} {d : FD} {ds : List D} {s : Sto} {Q : D → Sto → Prop} {X : Nat → List D → Sto → Prop} (h : T.fn.lookup f = some d) (hl : ds.length = d.np)
    (h2 : ∀ P', Po.Le { nx := fun _ s => Q .non s, rt := Q, ex := fun c xs _ s => X c xs s } P' → Hf (evSs T C wFuel d.body (startG d.ns ds) s) P') : Oc (callF T C f ds s) Q X := by
  have h2 := h2 _ (.refl _)
  unfold callF
  rw [h]
  simp only
  rw [if_pos hl]
  cases q : evSs T C wFuel d.body (startG d.ns ds) s with
  | nx g s' => rw [q] at h2; exact ⟨h2.out⟩
  | rt d s' => rw [q] at h2; exact ⟨h2.out⟩
  | bk => rw [q] at h2; exact h2.out.elim
  | ct => rw [q] at h2; exact h2.out.elim
  | ex c xs g s' => rw [q] at h2; exact ⟨h2.out⟩
  | no => rw [q] at h2; exact h2.elim
theorem Oc.ok {A : Type} {r : R A} {a : A} {s : Sto} (h : Oc r (fun d s' => d = a ∧ s' = s) fun _ _ _ => False) : r = .ok a s := by
  have h := h.out
  cases r with
  | ok d s' => obtain ⟨rfl, rfl⟩ := h; rfl
  | ex => exact h.elim
  | no => exact h.elim
theorem Oc.ex {A : Type} {r : R A} {c : Nat} {xs : List D} {s : Sto} (h : Oc r (fun _ _ => False) fun k ys s' => k = c ∧ ys = xs ∧ s' = s) : r = .ex c xs s := by
  have h := h.out
  cases r with
  | ok d s' => exact h.elim
  | ex k ys s' => obtain ⟨rfl, rfl, rfl⟩ := h; rfl
  | no => exact h.elim
end Bd
namespace Bd
open PySem L2
def b23 : List ST := [(.ret (.and (.isi (.var 0) (.bt .int)) (.and (.not (.isi (.var 0) (.bt .bool))) (.cmp2 .LtE .LtE (.var 1) (.var 0) (.var 2)))))]
def f23 : FD := ⟨3, 3, b23⟩
def b24 : List ST := [(.ife (.or (.not (.isi (.var 0) (.bt .tuple))) (.cmp .NotEq (.bi .len [(.var 0)]) (.cst (.int (2))))) [(.ret (.cst (.str "run")))] []), (.ife (.not (.call 23 [(.idx (.var 0) (.cst (.int (0)))), (.cst (.int (0))), (.bin .Sub (.cst (.int (4))) (.cst (.int (1))))])) [(.ret (.cst (.str "kind")))] []), (.ret (.ife (.call 23 [(.idx (.var 0) (.cst (.int (1)))), (.cst (.int (1))), (.cst (.int (1000000000000000000000000000000)))]) (.cst .non) (.cst (.str "length"))))]
def f24 : FD := ⟨1, 1, b24⟩
def b25 : List ST := [(.ife (.or (.not (.isi (.var 0) (.bt .tuple))) (.not (.cmp2 .LtE .LtE (.cst (.int (1))) (.bi .len [(.var 0)]) (.cst (.int (6)))))) [(.rse 21 [(.cst .non), (.cst (.str "runs"))])] []), (.forr (.tp [(.nm 1), (.nm 2)]) (.enum (.var 0)) [(.asg (.nm 3) (.call 24 [(.var 2)])), (.ife (.and (.cmp .Is (.var 3) (.cst .non)) (.and (.cmp .Gt (.var 1) (.cst (.int (0)))) (.cmp .Eq (.idx (.idx (.var 0) (.bin .Sub (.var 1) (.cst (.int (1))))) (.cst (.int (0)))) (.idx (.var 2) (.cst (.int (0))))))) [(.asg (.nm 3) (.cst (.str "same")))] []), (.ife (.cmp .IsNot (.var 3) (.cst .non)) [(.rse 21 [(.var 1), (.var 3)])] [])])]
def f25 : FD := ⟨1, 4, b25⟩
def b26 : List ST := [(.ex (.call 25 [(.var 1)])), (.setf (.var 0) 22 (.var 1)), (.own 2 (.lst [(.cst (.int (0)))])), (.forr (.tp [(.nm 3), (.nm 4)]) (.var 1) [(.app 2 (.bin .Add (.idx (.brw 2) (.neg (.cst (.int (1))))) (.var 4)))]), (.setf (.var 0) 23 (.bi .tuple [(.brw 2)])), (.setf (.var 0) 24 (.meth 29 (.var 0) [(.idx (.brw 2) (.neg (.cst (.int (1)))))]))]
def f26 : FD := ⟨2, 5, b26⟩
def b27 : List ST := [(.ret (.att 22 (.var 0)))]
def f27 : FD := ⟨1, 1, b27⟩
def b28 : List ST := [(.ret (.idx (.att 23 (.var 0)) (.neg (.cst (.int (1))))))]
def f28 : FD := ⟨1, 1, b28⟩
def b31 : List ST := [(.own 2 (.bin .Mult (.lst [(.cst (.int (0)))]) (.cst (.int (4))))), (.forr (.tp [(.nm 3), (.nm 4)]) (.enum (.att 22 (.var 0))) [(.augi 2 (.idx (.var 4) (.cst (.int (0)))) (.bi .max [(.cst (.int (0))), (.bi .min [(.idx (.var 4) (.cst (.int (1)))), (.bin .Sub (.var 1) (.idx (.att 23 (.var 0)) (.var 3)))])]))]), (.ret (.bi .tuple [(.brw 2)]))]
def f31 : FD := ⟨2, 5, b31⟩
def b36 : List ST := [(.ife (.not (.call 23 [(.var 1), (.cst (.int (0))), (.bin .Sub (.bi .len [(.att 22 (.var 0))]) (.cst (.int (1))))])) [(.rse 22 [(.var 1)])] [])]
def f36 : FD := ⟨2, 2, b36⟩
def b39 : List ST := [(.ex (.meth 30 (.var 0) [(.var 1)])), (.ret (.idx (.att 22 (.var 0)) (.var 1)))]
def f39 : FD := ⟨2, 2, b39⟩
def b40 : List ST := [(.ex (.brw 0))]
def f40 : FD := ⟨1, 1, b40⟩
def b41 : List ST := [(.ret (.bi .len [(.att 22 (.var 0))]))]
def f41 : FD := ⟨1, 1, b41⟩
def b42 : List ST := [(.ret (.and (.isi (.var 1) (.own 23)) (.cmp .Eq (.att 22 (.var 0)) (.att 22 (.var 1)))))]
def f42 : FD := ⟨2, 2, b42⟩
def b43 : List ST := [(.ret (.not (.cmp .Eq (.var 0) (.var 1))))]
def f43 : FD := ⟨2, 2, b43⟩
def b44 : List ST := [(.ret (.fst [(.fmt (.bi .len [(.att 22 (.var 0))])), (.cst (.str " runs, ")), (.fmt (.att 26 (.var 0))), (.cst (.str " beads"))]))]
def f44 : FD := ⟨1, 1, b44⟩
def b307 : List ST := [(.ret (.bm .join (.cst (.str " ")) [(.lc (.fst [(.fmt (.var 2)), (.fmt (.idx (.cst (.str "abcd")) (.var 1)))]) (.tp [(.nm 1), (.nm 2)]) (.att 25 (.var 0)) none)]))]
def f307 : FD := ⟨1, 3, b307⟩
def b308 : List ST := [(.ret (.lc (.var 1) (.nm 1) (.bm .split (.var 0) [(.cst (.str " "))]) (some (.cmp .NotEq (.var 1) (.cst (.str ""))))))]
def f308 : FD := ⟨1, 2, b308⟩
def b309 : List ST := [(.ife (.or (.not (.cmp2 .LtE .LtE (.cst (.int (1))) (.bi .len [(.var 0)]) (.var 1))) (.cmp .NotEq (.lc (.var 2) (.nm 2) (.var 0) (some (.cmp .NotIn (.var 2) (.cst (.str "0123456789"))))) (.lst []))) [(.ret (.cst .non))] []), (.ret (.ife (.and (.cmp .Eq (.idx (.var 0) (.cst (.int (0)))) (.cst (.str "0"))) (.cmp .Gt (.bi .len [(.var 0)]) (.cst (.int (1))))) (.cst .non) (.bi .int [(.var 0)])))]
def f309 : FD := ⟨2, 3, b309⟩
def b310 : List ST := [(.asg (.nm 1) (.call 309 [(.slc (.var 0) none (some (.neg (.cst (.int (1)))))), (.cst (.int (31)))])), (.ife (.or (.cmp .Is (.var 1) (.cst .non)) (.or (.not (.cmp2 .LtE .LtE (.cst (.int (1))) (.var 1) (.cst (.int (1000000000000000000000000000000))))) (.cmp .NotIn (.idx (.var 0) (.neg (.cst (.int (1))))) (.cst (.str "abcd"))))) [(.ret (.cst .non))] []), (.ret (.tup [(.bm .index (.cst (.str "abcd")) [(.idx (.var 0) (.neg (.cst (.int (1)))))]), (.var 1)]))]
def f310 : FD := ⟨1, 2, b310⟩
def b323 : List ST := [(.ife (.not (.isi (.var 0) (.bt .str))) [(.rse 38 [(.cst .non)])] [])]
def f323 : FD := ⟨1, 1, b323⟩
def b324 : List ST := [(.ex (.call 323 [(.var 0)])), (.par [(1, false), (2, true)] [(.call 308 [(.var 0)]), (.lst [])]), (.forr (.tp [(.nm 3), (.nm 4)]) (.enum (.var 1)) [(.asg (.nm 5) (.call 310 [(.var 4)])), (.ife (.or (.cmp .Is (.var 5) (.cst .non)) (.cmp .Eq (.var 3) (.cst (.int (6))))) [(.rse 38 [(.var 3)])] []), (.app 2 (.var 5))]), (.ife (.cmpb .Eq (.brw 2) (.lst [])) [(.rse 38 [(.cst (.int (0)))])] []), (.ret (.mk 23 [(.bi .tuple [(.brw 2)])]))]
def f324 : FD := ⟨1, 6, b324⟩
def b253 : List ST := [(.par [(2, false), (3, false)] [(.cst (.int (0))), (.bin .Add (.cst (.int (2932))) (.bin .Mult (.cst (.int (41))) (.bi .len [(.var 0)])))]), (.forr (.nm 1) (.slc (.var 0) none (some (.cst (.int (63))))) [(.ife (.cmp .GtE (.var 1) (.bin .Pow (.cst (.int (10))) (.cst (.int (18))))) [(.asg (.nm 2) (.bin .Sub (.bin .Add (.bin .Mult (.var 2) (.cst (.int (59)))) (.var 1)) (.bin .Pow (.cst (.int (10))) (.cst (.int (18))))))] [(.asg (.nm 3) (.bin .Add (.bin .Add (.bin .Mult (.var 3) (.cst (.int (2862933555777941757)))) (.bin .Mult (.cst (.int (2))) (.bi .abs [(.var 1)]))) (.bi .int [(.cmp .Lt (.var 1) (.cst (.int (0))))]))), (.asg (.nm 3) (.bin .Mod (.bi .int [(.var 3)]) (.cst (.int (2305843009213693951)))))])]), (.ret (.lsn [(.var 2), (.var 3), (.cst (.int (0)))]))]
def f253 : FD := ⟨1, 4, b253⟩
def b254 : List ST := [(.ife (.cmp .Gt (.idx (.var 0) (.cst (.int (0)))) (.cst (.int (0)))) [(.asg (.nm 3) (.bin .Mod (.bi .int [(.idx (.var 0) (.cst (.int (0))))]) (.var 1))), (.sets (.var 0) (.cst (.int (0))) (.bin .FloorDiv (.idx (.var 0) (.cst (.int (0)))) (.var 1))), (.ret (.var 3))] []), (.sets (.var 0) (.cst (.int (2))) (.bin .Add (.idx (.var 0) (.cst (.int (2)))) (.cst (.int (1))))), (.asg (.nm 2) (.bin .Add (.bin .Mult (.idx (.var 0) (.cst (.int (1)))) (.cst (.int (2862933555777941757)))) (.bin .Mult (.cst (.int (3037000493))) (.idx (.var 0) (.cst (.int (2))))))), (.sets (.var 0) (.cst (.int (1))) (.bin .Mod (.bi .int [(.var 2)]) (.cst (.int (2305843009213693951))))), (.ret (.bin .Mod (.bin .FloorDiv (.bin .Mod (.bi .int [(.bin .Mult (.idx (.var 0) (.cst (.int (1)))) (.idx (.var 0) (.cst (.int (1)))))]) (.cst (.int (2305843009213693921)))) (.cst (.int (4096)))) (.var 1)))]
def f254 : FD := ⟨2, 4, b254⟩
def b161 : List ST := [(.ret (.idx (.var 1) (.call 254 [(.var 0), (.bi .len [(.var 1)])])))]
def f161 : FD := ⟨2, 2, b161⟩
def b192 : List ST := [(.asg (.nm 2) (.bin .Add (.bin .Mult (.call 254 [(.var 0), (.bin .Pow (.cst (.int (10))) (.cst (.int (18))))]) (.bin .Pow (.cst (.int (10))) (.cst (.int (18))))) (.call 254 [(.var 0), (.bin .Pow (.cst (.int (10))) (.cst (.int (18))))]))), (.ret (.bin .Mod (.bi .int [(.var 2)]) (.var 1)))]
def f192 : FD := ⟨2, 3, b192⟩
def b50 : List ST := [(.own 3 (.lst [])), (.forr (.nm 4) (.rng1 (.bin .Add (.cst (.int (1))) (.call 254 [(.var 0), (.var 1)]))) [(.asg (.nm 5) (.call 254 [(.var 0), (.cst (.int (4)))])), (.ife (.and (.cmpb .NotEq (.brw 3) (.lst [])) (.cmp .Eq (.idx (.idx (.brw 3) (.neg (.cst (.int (1))))) (.cst (.int (0)))) (.var 5))) [(.asg (.nm 5) (.bin .Mod (.bi .int [(.bin .Add (.var 5) (.cst (.int (1))))]) (.cst (.int (4)))))] []), (.app 3 (.tup [(.var 5), (.bin .Add (.cst (.int (1))) (.call 254 [(.var 0), (.var 2)]))]))]), (.ret (.bi .tuple [(.brw 3)]))]
def f50 : FD := ⟨3, 6, b50⟩
def b179 : List ST := [(.own 2 (.lst [])), (.forr (.tp [(.nm 3), (.nm 4)]) (.call 50 [(.var 0), (.var 1), (.cst (.int (9)))]) [(.asg (.nm 5) (.call 254 [(.var 0), (.cst (.int (4)))])), (.ife (.cmp .Eq (.var 5) (.cst (.int (0)))) [(.asg (.nm 4) (.bin .Sub (.bin .Pow (.cst (.int (10))) (.cst (.int (30)))) (.bin .Mult (.cst (.int (2))) (.call 254 [(.var 0), (.bin .Pow (.cst (.int (10))) (.cst (.int (6))))]))))] [(.ife (.cmp .Eq (.var 5) (.cst (.int (1)))) [(.asg (.nm 4) (.bin .Add (.cst (.int (1))) (.call 192 [(.var 0), (.call 161 [(.var 0), (.lst [(.bin .Pow (.cst (.int (10))) (.cst (.int (2)))), (.bin .Pow (.cst (.int (10))) (.cst (.int (6)))), (.bin .Pow (.cst (.int (10))) (.cst (.int (12)))), (.bin .Pow (.cst (.int (10))) (.cst (.int (20)))), (.bin .Pow (.cst (.int (10))) (.cst (.int (29))))])])])))] [])]), (.app 2 (.tup [(.var 3), (.var 4)]))]), (.ret (.bi .tuple [(.brw 2)]))]
def f179 : FD := ⟨2, 6, b179⟩
def b55 : List ST := [(.asg (.nm 1) (.lst [(.cst .non), (.cst (.bl true)), (.cst (.bl false)), (.cst (.int (0))), (.cst (.int (1))), (.neg (.cst (.int (1)))), (.cst (.int (7))), (.bin .Pow (.cst (.int (10))) (.cst (.int (31)))), (.cst (.str "")), (.cst (.str "0")), (.cst (.str "2a")), (.tup []), (.lst []), (.tup [(.cst (.int (0)))]), (.tup [(.cst (.int (1))), (.cst (.int (2)))]), (.lst [(.cst (.int (0)))]), (.tup [(.cst (.int (0))), (.cst (.bl true))]), (.dsp [] [])])), (.ret (.call 161 [(.var 0), (.bin .Add (.var 1) (.lst [(.tup [(.cst .non)]), (.tup [(.cst (.str "a")), (.cst (.int (1)))]), (.tup [(.tup [(.cst (.int (0))), (.cst (.int (1)))])]), (.tup [(.cst (.int (0))), (.cst (.int (0)))]), (.lst [(.tup [(.cst (.int (0))), (.cst (.int (1)))])]), (.dsp [(.inr "0")] [(.cst (.int (1)))]), (.tup [(.cst (.int (4))), (.cst (.int (1)))]), (.tup [(.cst (.int (2))), (.cst (.int (3))), (.cst (.int (1)))]), (.tup [(.cst (.int (3)))])]))]))]
def f55 : FD := ⟨1, 2, b55⟩
def b54 : List ST := [(.ret (.and (.isi (.var 0) (.bt .int)) (.and (.not (.isi (.var 0) (.bt .bool))) (.cmp2 .LtE .LtE (.var 1) (.var 0) (.var 2)))))]
def f54 : FD := ⟨3, 3, b54⟩
def b294 : List ST := [(.ife (.or (.not (.isi (.var 0) (.bt .tuple))) (.not (.cmp2 .LtE .LtE (.cst (.int (1))) (.bi .len [(.var 0)]) (.cst (.int (6)))))) [(.ret (.tup [(.cst .non), (.cst (.str "runs"))]))] []), (.forr (.tp [(.nm 1), (.nm 2)]) (.enum (.var 0)) [(.ife (.or (.not (.isi (.var 2) (.bt .tuple))) (.cmp .NotEq (.bi .len [(.var 2)]) (.cst (.int (2))))) [(.ret (.tup [(.var 1), (.cst (.str "run"))]))] []), (.ife (.not (.call 54 [(.idx (.var 2) (.cst (.int (0)))), (.cst (.int (0))), (.cst (.int (3)))])) [(.ret (.tup [(.var 1), (.cst (.str "kind"))]))] []), (.ife (.not (.call 54 [(.idx (.var 2) (.cst (.int (1)))), (.cst (.int (1))), (.bin .Pow (.cst (.int (10))) (.cst (.int (30))))])) [(.ret (.tup [(.var 1), (.cst (.str "length"))]))] []), (.ife (.and (.cmp .Gt (.var 1) (.cst (.int (0)))) (.cmp .Eq (.idx (.var 2) (.cst (.int (0)))) (.idx (.idx (.var 0) (.bin .Sub (.var 1) (.cst (.int (1))))) (.cst (.int (0)))))) [(.ret (.tup [(.var 1), (.cst (.str "same"))]))] [])]), (.ret (.cst .non))]
def f294 : FD := ⟨1, 3, b294⟩
def b325 : List ST := [(.ret (.bm .join (.cst (.str " ")) [(.lc (.bin .Add (.bi .str [(.var 2)]) (.idx (.cst (.str "abcd")) (.var 1))) (.tp [(.nm 1), (.nm 2)]) (.var 0) none)]))]
def f325 : FD := ⟨1, 3, b325⟩
def b326 : List ST := [(.ret (.lc (.var 1) (.nm 1) (.bm .split (.var 0) [(.cst (.str " "))]) (some (.cmp .NotEq (.var 1) (.cst (.str ""))))))]
def f326 : FD := ⟨1, 2, b326⟩
def b60 : List ST := [(.asg (.nm 1) (.slc (.var 0) none (some (.neg (.cst (.int (1))))))), (.ife (.or (.not (.cmp2 .LtE .LtE (.cst (.int (1))) (.bi .len [(.var 1)]) (.cst (.int (31))))) (.or (.cmp .NotEq (.lc (.var 2) (.nm 2) (.var 1) (some (.cmp .NotIn (.var 2) (.cst (.str "0123456789"))))) (.lst [])) (.cmp .Eq (.idx (.var 1) (.cst (.int (0)))) (.cst (.str "0"))))) [(.ret (.cst .non))] []), (.ife (.or (.cmp .NotIn (.idx (.var 0) (.neg (.cst (.int (1))))) (.cst (.str "abcd"))) (.cmp .Gt (.bi .int [(.var 1)]) (.bin .Pow (.cst (.int (10))) (.cst (.int (30)))))) [(.ret (.cst .non))] []), (.ret (.tup [(.bm .index (.cst (.str "abcd")) [(.idx (.var 0) (.neg (.cst (.int (1)))))]), (.bi .int [(.var 1)])]))]
def f60 : FD := ⟨1, 3, b60⟩
def b327 : List ST := [(.asg (.nm 2) (.bm .join (.call 161 [(.var 0), (.lst [(.cst (.str " ")), (.cst (.str " ")), (.cst (.str "  ")), (.cst (.str "   "))])]) [(.var 1)])), (.ret (.bin .Add (.bin .Add (.call 161 [(.var 0), (.lst [(.cst (.str "")), (.cst (.str "")), (.cst (.str " ")), (.cst (.str "  "))])]) (.var 2)) (.call 161 [(.var 0), (.lst [(.cst (.str "")), (.cst (.str "")), (.cst (.str " "))])])))]
def f327 : FD := ⟨2, 3, b327⟩
def b328 : List ST := [(.par [(3, false), (4, false), (5, false)] [(.call 254 [(.var 0), (.cst (.int (6)))]), (.call 254 [(.var 0), (.bin .Add (.bi .len [(.var 1)]) (.cst (.int (1))))]), (.call 161 [(.var 0), (.var 2)])]), (.ife (.cmp .Lt (.var 3) (.cst (.int (2)))) [(.ret (.bin .Add (.bin .Add (.slc (.var 1) none (some (.var 4))) (.lst [(.var 5)])) (.slc (.var 1) (some (.bin .Add (.var 4) (.var 3))) none)))] []), (.ife (.cmp .Eq (.var 3) (.cst (.int (2)))) [(.ret (.bin .Add (.slc (.var 1) none (some (.var 4))) (.slc (.var 1) (some (.bin .Add (.var 4) (.cst (.int (1))))) none)))] []), (.ret (.ife (.cmp .Eq (.var 3) (.cst (.int (3)))) (.bin .Add (.bin .Add (.slc (.var 1) none (some (.var 4))) (.slc (.var 1) (some (.var 4)) (some (.bin .Add (.var 4) (.cst (.int (1))))))) (.slc (.var 1) (some (.var 4)) none)) (.var 1)))]
def f328 : FD := ⟨3, 6, b328⟩
def b58 : List ST := [(.ife (.not (.isi (.var 0) (.bt .str))) [(.ret (.lst [(.cst (.str "BadText")), (.cst .non)]))] []), (.asg (.nm 1) (.call 326 [(.var 0)])), (.forr (.tp [(.nm 4), (.nm 5)]) (.enum (.var 1)) [(.ife (.or (.cmp .Eq (.var 4) (.cst (.int (6)))) (.cmp .Is (.call 60 [(.var 5)]) (.cst .non))) [(.ret (.lst [(.cst (.str "BadText")), (.var 4)]))] [])]), (.ife (.cmp .Eq (.var 1) (.lst [])) [(.ret (.lst [(.cst (.str "BadText")), (.cst (.int (0)))]))] []), (.asg (.nm 2) (.bi .tuple [(.lc (.call 60 [(.var 5)]) (.nm 5) (.var 1) none)])), (.asg (.nm 3) (.call 294 [(.var 2)])), (.ret (.ife (.cmp .Is (.var 3) (.cst .non)) (.var 2) (.lst [(.cst (.str "BadString")), (.idx (.var 3) (.cst (.int (0)))), (.idx (.var 3) (.cst (.int (1))))])))]
def f58 : FD := ⟨1, 6, b58⟩
def b64 : List ST := [(.tr [(.asg (.nm 2) (.call 324 [(.var 0)]))] [(.cls 20 (some 1) [(.ife (.isx (.var 1) 38) [(.ret (.lst [(.cst (.str "BadText")), (.atx 20 (.var 1))]))] []), (.ret (.ife (.isx (.var 1) 21) (.lst [(.cst (.str "BadString")), (.atx 20 (.var 1)), (.atx 21 (.var 1))]) (.lst [(.cst (.str "other"))])))])]), (.ret (.ife (.cmp .Eq (.var 2) (.mk 23 [(.att 25 (.var 2))])) (.att 25 (.var 2)) (.lst [(.cst (.str "unlike"))])))]
def f64 : FD := ⟨1, 3, b64⟩
def b59 : List ST := [(.asg (.nm 1) (.call 253 [(.var 0)])), (.asg (.nm 2) (.lst [(.cst (.str "1a")), (.cst (.str "2b")), (.cst (.str "0a")), (.cst (.str "01a")), (.cst (.str "a")), (.cst (.str "1")), (.cst (.str "1e")), (.cst (.str "1A")), (.cst (.str "-1a")), (.cst (.str "+1a")), (.cst (.str "1 a")), (.cst (.str "1a1")), (.cst (.str "1_0a")), (.cst (.str "aa")), (.cst (.str "to")), (.cst (.str "\n")), (.cst (.str "1a\n"))])), (.asg (.nm 2) (.bin .Add (.var 2) (.lst [(.bin .Add (.bin .Add (.cst (.str "1")) (.bin .Mult (.cst (.str "0")) (.cst (.int (30))))) (.cst (.str "a"))), (.bin .Add (.bin .Add (.cst (.str "1")) (.bin .Mult (.cst (.str "0")) (.cst (.int (29))))) (.cst (.str "1b"))), (.bin .Add (.bin .Mult (.cst (.str "1")) (.cst (.int (32)))) (.cst (.str "c"))), (.bin .Add (.bin .Mult (.cst (.str "9")) (.cst (.int (31)))) (.cst (.str "d"))), (.bin .Add (.bin .Mult (.cst (.str "9")) (.cst (.int (30)))) (.cst (.str "d"))), (.cst (.str "10"))]))), (.asg (.nm 2) (.bin .Add (.var 2) (.lst [(.cst (.str "3c")), (.cst (.str "4d"))]))), (.forr (.nm 3) (.rng1 (.cst (.int (8)))) [(.asg (.nm 4) (.call 179 [(.var 1), (.cst (.int (6)))])), (.asg (.nm 5) (.call 326 [(.call 325 [(.var 4)])])), (.ife (.cmp .NotEq (.bi .repr [(.call 307 [(.mk 23 [(.var 4)])])]) (.bi .repr [(.call 325 [(.var 4)])])) [(.ret (.cst (.bl false)))] []), (.forr (.nm 6) (.rng1 (.cst (.int (4)))) [(.asg (.nm 8) (.call 327 [(.var 1), (.call 328 [(.var 1), (.call 328 [(.var 1), (.var 5), (.var 2)]), (.var 2)])])), (.ife (.cmp .NotEq (.bi .repr [(.call 64 [(.var 8)])]) (.bi .repr [(.call 58 [(.var 8)])])) [(.ret (.cst (.bl false)))] [])]), (.forr (.nm 7) (.lst [(.call 55 [(.var 1)]), (.var 4), (.var 5), (.cst (.str "")), (.cst (.str "  ")), (.mk 23 [(.var 4)])]) [(.ife (.cmp .NotEq (.bi .repr [(.call 64 [(.var 7)])]) (.bi .repr [(.call 58 [(.var 7)])])) [(.ret (.cst (.bl false)))] [])])]), (.ret (.cst (.bl true)))]
def f59 : FD := ⟨1, 9, b59⟩
def c20 : CD := ⟨3, 0, [], [], [], [9001]⟩
def c21 : CD := ⟨2, 0, [], [], [20, 21], [20, 9001]⟩
def c38 : CD := ⟨2, 0, [], [], [20], [20, 9001]⟩
def c22 : CD := ⟨2, 0, [], [], [20], [9002]⟩
def c23 : CD := ⟨0, 26, [(25, 27), (26, 28), (27, 29), (28, 30)], [(29, 31), (44, 32), (35, 33), (34, 34), (37, 35), (30, 36), (39, 37), (38, 38), (5, 39), (3, 41), (1, 42), (2, 43), (4, 44)], [], []⟩
def tFn_0 : List (Nat × FD) := [(23, f23), (24, f24), (25, f25), (26, f26), (27, f27), (28, f28), (31, f31), (36, f36), (39, f39), (40, f40), (41, f41), (42, f42), (43, f43), (44, f44), (307, f307), (308, f308), (309, f309), (310, f310), (323, f323), (324, f324), (253, f253), (254, f254), (161, f161), (192, f192)]
def tFn_1 : List (Nat × FD) := [(50, f50), (179, f179), (55, f55), (54, f54), (294, f294), (325, f325), (326, f326), (60, f60), (327, f327), (328, f328), (58, f58), (64, f64), (59, f59)]
def tFn : List (Nat × FD) := tFn_0 ++ tFn_1
def T : Tb := ⟨tFn, [(20, c20), (21, c21), (38, c38), (22, c22), (23, c23)]⟩
@[simp] theorem exn_21 : excN T 21 2 = true := id rfl
@[simp] theorem fx_21_0 (x0 x1 : D) : fldX T 21 20 [x0, x1] = some x0 := id rfl
@[simp] theorem fx_21_1 (x0 x1 : D) : fldX T 21 21 [x0, x1] = some x1 := id rfl
@[simp] theorem ie_21_20 : isExc T 21 20 = some true := id rfl
@[simp] theorem ie_21_21 : isExc T 21 21 = some true := id rfl
@[simp] theorem ie_21_38 : isExc T 21 38 = some false := id rfl
@[simp] theorem ie_21_22 : isExc T 21 22 = some false := id rfl
@[simp] theorem ix_21_20 : isX T 21 20 = some true := id rfl
@[simp] theorem ix_21_21 : isX T 21 21 = some true := id rfl
@[simp] theorem ix_21_38 : isX T 21 38 = some false := id rfl
@[simp] theorem ix_21_22 : isX T 21 22 = some false := id rfl
@[simp] theorem ix_21_9001 : isX T 21 9001 = some true := id rfl
@[simp] theorem ix_21_9002 : isX T 21 9002 = some false := id rfl
@[simp] theorem exn_38 : excN T 38 1 = true := id rfl
@[simp] theorem fx_38_0 (x0 : D) : fldX T 38 20 [x0] = some x0 := id rfl
@[simp] theorem ie_38_20 : isExc T 38 20 = some true := id rfl
@[simp] theorem ie_38_21 : isExc T 38 21 = some false := id rfl
@[simp] theorem ie_38_38 : isExc T 38 38 = some true := id rfl
@[simp] theorem ie_38_22 : isExc T 38 22 = some false := id rfl
@[simp] theorem ix_38_20 : isX T 38 20 = some true := id rfl
@[simp] theorem ix_38_21 : isX T 38 21 = some false := id rfl
@[simp] theorem ix_38_38 : isX T 38 38 = some true := id rfl
@[simp] theorem ix_38_22 : isX T 38 22 = some false := id rfl
@[simp] theorem ix_38_9001 : isX T 38 9001 = some true := id rfl
@[simp] theorem ix_38_9002 : isX T 38 9002 = some false := id rfl
@[simp] theorem exn_22 : excN T 22 1 = true := id rfl
@[simp] theorem fx_22_0 (x0 : D) : fldX T 22 20 [x0] = some x0 := id rfl
@[simp] theorem ie_22_20 : isExc T 22 20 = some false := id rfl
@[simp] theorem ie_22_21 : isExc T 22 21 = some false := id rfl
@[simp] theorem ie_22_38 : isExc T 22 38 = some false := id rfl
@[simp] theorem ie_22_22 : isExc T 22 22 = some true := id rfl
@[simp] theorem ix_22_20 : isX T 22 20 = some false := id rfl
@[simp] theorem ix_22_21 : isX T 22 21 = some false := id rfl
@[simp] theorem ix_22_38 : isX T 22 38 = some false := id rfl
@[simp] theorem ix_22_22 : isX T 22 22 = some true := id rfl
@[simp] theorem ix_22_9001 : isX T 22 9001 = some false := id rfl
@[simp] theorem ix_22_9002 : isX T 22 9002 = some true := id rfl
end Bd
namespace Bd
open PySem PySem.Spec PyProof.Rows L2
abbrev R6 : PySem.W.OpenRow := PySem.W.OpenLaw.row PySem.Challenge.rw_beadshares_k35_texts_of_strings
def tops : List PySem.Stmt := R6.prog.main.body
def gFn_0 : List (Str × Nat) := [("_wall", 20), ("is_integer", 23), ("run_word", 24), ("check_runs", 25), ("string_text", 307), ("words_of", 308), ("number_in", 309), ("run_in", 310), ("check_text", 323), ("read_string", 324), ("_law_bag", 253), ("_law_draw", 254), ("_law_pick", 161), ("_law_far", 192), ("_law_runs", 50), ("_law_great", 179), ("_law_odd", 55), ("_law_is_whole", 54), ("_law_string_word", 294), ("_law_text", 325), ("_law_words", 326), ("_law_run_word", 60), ("_law_blanks", 327), ("_law_spoilt", 328)]
def gFn_1 : List (Str × Nat) := [("_law_due", 58), ("_law_told", 64), ("law", 59)]
def gFn : List (Str × Nat) := gFn_0 ++ gFn_1
def gNm_0 : List Str := ["", "__eq__", "__ne__", "__len__", "__str__", "__getitem__", "__setitem__", "__call__", "zz8", "zz9", "zz10", "zz11", "zz12", "zz13", "zz14", "zz15", "zz16", "zz17", "zz18", "zz19", "number", "word", "row", "starts"]
def gNm_1 : List Str := ["whole", "runs", "length", "totals", "kinds", "up_to", "check_number", "append", "pop", "value", "counts", "is_place", "count", "turned", "joined", "with_run", "many", "weights", "kind", "extend", "run_of", "parts", "bound", "split"]
def gNm_2 : List Str := ["can_be", "with_first", "index", "cuts", "choice", "beads", "wish", "ways", "made", "choices", "layout", "back", "twin", "now", "kept", "change", "version", "news", "go_to", "check_edit", "edited", "set_run", "string", "fewest"]
def gNm_3 : List Str := ["put_run", "drop_run", "turn", "undo", "join", "bench", "said", "tried", "answer_to", "done", "told", "history", "say"]
def gNm : List Str := gNm_0 ++ gNm_1 ++ gNm_2 ++ gNm_3
def G : Gn := { fn := gFn, cl := [("ShareError", 20), ("BadString", 21), ("BadText", 38), ("NoRun", 22), ("String", 23)], ct := [("MAX_KINDS", .int (4)), ("MAX_LENGTH", .int (1000000000000000000000000000000)), ("MAX_RUNS", .int (6)), ("DIGITS", .str "0123456789"), ("LETTERS", .str "abcd"), ("MOST_DIGITS", .int (31))], fre := ["len", "abs", "min", "max", "sum", "all", "any", "int", "str", "repr", "tuple", "list", "sorted", "isinstance", "range", "enumerate", "zip", "bool", "dict", "set", "super", "ValueError", "LookupError"], nm := gNm, exs := [20, 21, 38, 22] }
def e20 : FnE := ⟨20, .glo "_wall", "_wall", "_wall", C8.fnArgs (tops[0]!), C8.fnBody (tops[0]!), C8.fnScope (tops[0]!), ["k"], ["k"], []⟩
def e23 : FnE := ⟨23, .glo "is_integer", "is_integer", "is_integer", C8.fnArgs (tops[10]!), C8.fnBody (tops[10]!), C8.fnScope (tops[10]!), ["value", "low", "high"], ["value", "low", "high"], []⟩
def e24 : FnE := ⟨24, .glo "run_word", "run_word", "run_word", C8.fnArgs (tops[11]!), C8.fnBody (tops[11]!), C8.fnScope (tops[11]!), ["run"], ["run"], []⟩
def e25 : FnE := ⟨25, .glo "check_runs", "check_runs", "check_runs", C8.fnArgs (tops[12]!), C8.fnBody (tops[12]!), C8.fnScope (tops[12]!), ["runs", "number", "run", "word"], ["runs"], []⟩
def e26 : FnE := ⟨26, .mth "String" "__init__", "__init__", "String.__init__", C8.fnArgs ((C8.clsBody (tops[13]!))[0]!), C8.fnBody ((C8.clsBody (tops[13]!))[0]!), C8.fnScope ((C8.clsBody (tops[13]!))[0]!), ["self", "runs", "starts", "kind", "many"], ["self", "runs"], [2]⟩
def e27 : FnE := ⟨27, .prp "String" "runs", "runs", "String.runs", C8.fnArgs ((C8.clsBody (tops[13]!))[1]!), C8.fnBody ((C8.clsBody (tops[13]!))[1]!), C8.fnScope ((C8.clsBody (tops[13]!))[1]!), ["self"], ["self"], []⟩
def e28 : FnE := ⟨28, .prp "String" "length", "length", "String.length", C8.fnArgs ((C8.clsBody (tops[13]!))[2]!), C8.fnBody ((C8.clsBody (tops[13]!))[2]!), C8.fnScope ((C8.clsBody (tops[13]!))[2]!), ["self"], ["self"], []⟩
def e29 : FnE := ⟨29, .prp "String" "totals", "totals", "String.totals", C8.fnArgs ((C8.clsBody (tops[13]!))[3]!), C8.fnBody ((C8.clsBody (tops[13]!))[3]!), C8.fnScope ((C8.clsBody (tops[13]!))[3]!), ["self"], ["self"], []⟩
def e30 : FnE := ⟨30, .prp "String" "kinds", "kinds", "String.kinds", C8.fnArgs ((C8.clsBody (tops[13]!))[4]!), C8.fnBody ((C8.clsBody (tops[13]!))[4]!), C8.fnScope ((C8.clsBody (tops[13]!))[4]!), ["self"], ["self"], []⟩
def e31 : FnE := ⟨31, .mth "String" "up_to", "up_to", "String.up_to", C8.fnArgs ((C8.clsBody (tops[13]!))[5]!), C8.fnBody ((C8.clsBody (tops[13]!))[5]!), C8.fnScope ((C8.clsBody (tops[13]!))[5]!), ["self", "place", "found", "number", "run"], ["self", "place"], [2]⟩
def e32 : FnE := ⟨32, .mth "String" "run_of", "run_of", "String.run_of", C8.fnArgs ((C8.clsBody (tops[13]!))[6]!), C8.fnBody ((C8.clsBody (tops[13]!))[6]!), C8.fnScope ((C8.clsBody (tops[13]!))[6]!), ["self", "bead"], ["self", "bead"], []⟩
def e33 : FnE := ⟨33, .mth "String" "is_place", "is_place", "String.is_place", C8.fnArgs ((C8.clsBody (tops[13]!))[7]!), C8.fnBody ((C8.clsBody (tops[13]!))[7]!), C8.fnScope ((C8.clsBody (tops[13]!))[7]!), ["self", "value"], ["self", "value"], []⟩
def e34 : FnE := ⟨34, .mth "String" "counts", "counts", "String.counts", C8.fnArgs ((C8.clsBody (tops[13]!))[8]!), C8.fnBody ((C8.clsBody (tops[13]!))[8]!), C8.fnScope ((C8.clsBody (tops[13]!))[8]!), ["self", "first", "last"], ["self", "first", "last"], []⟩
def e35 : FnE := ⟨35, .mth "String" "turned", "turned", "String.turned", C8.fnArgs ((C8.clsBody (tops[13]!))[9]!), C8.fnBody ((C8.clsBody (tops[13]!))[9]!), C8.fnScope ((C8.clsBody (tops[13]!))[9]!), ["self"], ["self"], []⟩
def e36 : FnE := ⟨36, .mth "String" "check_number", "check_number", "String.check_number", C8.fnArgs ((C8.clsBody (tops[13]!))[10]!), C8.fnBody ((C8.clsBody (tops[13]!))[10]!), C8.fnScope ((C8.clsBody (tops[13]!))[10]!), ["self", "number"], ["self", "number"], []⟩
def e37 : FnE := ⟨37, .mth "String" "with_run", "with_run", "String.with_run", C8.fnArgs ((C8.clsBody (tops[13]!))[11]!), C8.fnBody ((C8.clsBody (tops[13]!))[11]!), C8.fnScope ((C8.clsBody (tops[13]!))[11]!), ["self", "number", "run"], ["self", "number", "run"], []⟩
def e38 : FnE := ⟨38, .mth "String" "joined", "joined", "String.joined", C8.fnArgs ((C8.clsBody (tops[13]!))[12]!), C8.fnBody ((C8.clsBody (tops[13]!))[12]!), C8.fnScope ((C8.clsBody (tops[13]!))[12]!), ["self", "other"], ["self", "other"], []⟩
def e39 : FnE := ⟨39, .mth "String" "__getitem__", "__getitem__", "String.__getitem__", C8.fnArgs ((C8.clsBody (tops[13]!))[13]!), C8.fnBody ((C8.clsBody (tops[13]!))[13]!), C8.fnScope ((C8.clsBody (tops[13]!))[13]!), ["self", "number"], ["self", "number"], []⟩
def e40 : FnE := ⟨40, .mth "String" "__iter__", "__iter__", "String.__iter__", C8.fnArgs ((C8.clsBody (tops[13]!))[14]!), C8.fnBody ((C8.clsBody (tops[13]!))[14]!), C8.fnScope ((C8.clsBody (tops[13]!))[14]!), ["self"], ["self"], []⟩
def e41 : FnE := ⟨41, .mth "String" "__len__", "__len__", "String.__len__", C8.fnArgs ((C8.clsBody (tops[13]!))[15]!), C8.fnBody ((C8.clsBody (tops[13]!))[15]!), C8.fnScope ((C8.clsBody (tops[13]!))[15]!), ["self"], ["self"], []⟩
def e42 : FnE := ⟨42, .mth "String" "__eq__", "__eq__", "String.__eq__", C8.fnArgs ((C8.clsBody (tops[13]!))[16]!), C8.fnBody ((C8.clsBody (tops[13]!))[16]!), C8.fnScope ((C8.clsBody (tops[13]!))[16]!), ["self", "other"], ["self", "other"], []⟩
def e43 : FnE := ⟨43, .mth "String" "__ne__", "__ne__", "String.__ne__", C8.fnArgs ((C8.clsBody (tops[13]!))[17]!), C8.fnBody ((C8.clsBody (tops[13]!))[17]!), C8.fnScope ((C8.clsBody (tops[13]!))[17]!), ["self", "other"], ["self", "other"], []⟩
def e44 : FnE := ⟨44, .mth "String" "__str__", "__str__", "String.__str__", C8.fnArgs ((C8.clsBody (tops[13]!))[18]!), C8.fnBody ((C8.clsBody (tops[13]!))[18]!), C8.fnScope ((C8.clsBody (tops[13]!))[18]!), ["self"], ["self"], []⟩
def e307 : FnE := ⟨307, .glo "string_text", "string_text", "string_text", C8.fnArgs (tops[18]!), C8.fnBody (tops[18]!), C8.fnScope (tops[18]!), ["string", "kind", "many"], ["string"], []⟩
def e308 : FnE := ⟨308, .glo "words_of", "words_of", "words_of", C8.fnArgs (tops[19]!), C8.fnBody (tops[19]!), C8.fnScope (tops[19]!), ["text", "word"], ["text"], []⟩
def e309 : FnE := ⟨309, .glo "number_in", "number_in", "number_in", C8.fnArgs (tops[20]!), C8.fnBody (tops[20]!), C8.fnScope (tops[20]!), ["word", "most", "sign"], ["word", "most"], []⟩
def e310 : FnE := ⟨310, .glo "run_in", "run_in", "run_in", C8.fnArgs (tops[21]!), C8.fnBody (tops[21]!), C8.fnScope (tops[21]!), ["word", "number"], ["word"], []⟩
def e323 : FnE := ⟨323, .glo "check_text", "check_text", "check_text", C8.fnArgs (tops[22]!), C8.fnBody (tops[22]!), C8.fnScope (tops[22]!), ["value"], ["value"], []⟩
def e324 : FnE := ⟨324, .glo "read_string", "read_string", "read_string", C8.fnArgs (tops[23]!), C8.fnBody (tops[23]!), C8.fnScope (tops[23]!), ["value", "words", "runs", "number", "word", "run"], ["value"], [2]⟩
def e253 : FnE := ⟨253, .glo "_law_bag", "_law_bag", "_law_bag", C8.fnArgs (tops[25]!), C8.fnBody (tops[25]!), C8.fnScope (tops[25]!), ["_law_script", "_law_cell", "_law_great_here", "_law_small"], ["_law_script"], [9999]⟩
def e254 : FnE := ⟨254, .glo "_law_draw", "_law_draw", "_law_draw", C8.fnArgs (tops[26]!), C8.fnBody (tops[26]!), C8.fnScope (tops[26]!), ["_law_bag_here", "_law_many", "_law_mixed", "_law_digit"], ["_law_bag_here", "_law_many"], []⟩
def e161 : FnE := ⟨161, .glo "_law_pick", "_law_pick", "_law_pick", C8.fnArgs (tops[27]!), C8.fnBody (tops[27]!), C8.fnScope (tops[27]!), ["_law_bag_here", "_law_items"], ["_law_bag_here", "_law_items"], []⟩
def e192 : FnE := ⟨192, .glo "_law_far", "_law_far", "_law_far", C8.fnArgs (tops[28]!), C8.fnBody (tops[28]!), C8.fnScope (tops[28]!), ["_law_bag_here", "_law_many", "_law_found"], ["_law_bag_here", "_law_many"], []⟩
def e50 : FnE := ⟨50, .glo "_law_runs", "_law_runs", "_law_runs", C8.fnArgs (tops[29]!), C8.fnBody (tops[29]!), C8.fnScope (tops[29]!), ["_law_bag_here", "_law_most", "_law_long", "_law_found", "_law_k", "_law_kind"], ["_law_bag_here", "_law_most", "_law_long"], [3]⟩
def e179 : FnE := ⟨179, .glo "_law_great", "_law_great", "_law_great", C8.fnArgs (tops[30]!), C8.fnBody (tops[30]!), C8.fnScope (tops[30]!), ["_law_bag_here", "_law_most", "_law_found", "_law_kind", "_law_length", "_law_way"], ["_law_bag_here", "_law_most"], [2]⟩
def e55 : FnE := ⟨55, .glo "_law_odd", "_law_odd", "_law_odd", C8.fnArgs (tops[31]!), C8.fnBody (tops[31]!), C8.fnScope (tops[31]!), ["_law_bag_here", "_law_some"], ["_law_bag_here"], []⟩
def e54 : FnE := ⟨54, .glo "_law_is_whole", "_law_is_whole", "_law_is_whole", C8.fnArgs (tops[32]!), C8.fnBody (tops[32]!), C8.fnScope (tops[32]!), ["_law_value", "_law_least", "_law_most"], ["_law_value", "_law_least", "_law_most"], []⟩
def e294 : FnE := ⟨294, .glo "_law_string_word", "_law_string_word", "_law_string_word", C8.fnArgs (tops[33]!), C8.fnBody (tops[33]!), C8.fnScope (tops[33]!), ["_law_runs_here", "_law_k", "_law_run"], ["_law_runs_here"], []⟩
def e325 : FnE := ⟨325, .glo "_law_text", "_law_text", "_law_text", C8.fnArgs (tops[34]!), C8.fnBody (tops[34]!), C8.fnScope (tops[34]!), ["_law_runs_here", "_law_kind", "_law_length"], ["_law_runs_here"], []⟩
def e326 : FnE := ⟨326, .glo "_law_words", "_law_words", "_law_words", C8.fnArgs (tops[35]!), C8.fnBody (tops[35]!), C8.fnScope (tops[35]!), ["_law_line", "_law_word"], ["_law_line"], []⟩
def e60 : FnE := ⟨60, .glo "_law_run_word", "_law_run_word", "_law_run_word", C8.fnArgs (tops[36]!), C8.fnBody (tops[36]!), C8.fnScope (tops[36]!), ["_law_word", "_law_digits", "_law_sign"], ["_law_word"], []⟩
def e327 : FnE := ⟨327, .glo "_law_blanks", "_law_blanks", "_law_blanks", C8.fnArgs (tops[37]!), C8.fnBody (tops[37]!), C8.fnScope (tops[37]!), ["_law_bag_here", "_law_words_here", "_law_line"], ["_law_bag_here", "_law_words_here"], []⟩
def e328 : FnE := ⟨328, .glo "_law_spoilt", "_law_spoilt", "_law_spoilt", C8.fnArgs (tops[38]!), C8.fnBody (tops[38]!), C8.fnScope (tops[38]!), ["_law_bag_here", "_law_words_here", "_law_odd_here", "_law_way", "_law_at", "_law_piece"], ["_law_bag_here", "_law_words_here", "_law_odd_here"], []⟩
def e58 : FnE := ⟨58, .glo "_law_due", "_law_due", "_law_due", C8.fnArgs (tops[39]!), C8.fnBody (tops[39]!), C8.fnScope (tops[39]!), ["_law_value", "_law_words_here", "_law_runs_here", "_law_wrong", "_law_k", "_law_word"], ["_law_value"], []⟩
def e64 : FnE := ⟨64, .glo "_law_told", "_law_told", "_law_told", C8.fnArgs (tops[40]!), C8.fnBody (tops[40]!), C8.fnScope (tops[40]!), ["_law_value", "error", "_law_found"], ["_law_value"], []⟩
def e59 : FnE := ⟨59, .glo "law", "law", "law", C8.fnArgs (tops[41]!), C8.fnBody (tops[41]!), C8.fnScope (tops[41]!), ["_law_script", "_law_bag_here", "_law_odd_here", "_law_turn", "_law_runs_here", "_law_words_here", "_law_again", "_law_value", "_law_text_here"], ["_law_script"], []⟩
def hFn_0 : List FnE := [e20, e23, e24, e25, e26, e27, e28, e29, e30, e31, e32, e33, e34, e35, e36, e37, e38, e39, e40, e41, e42, e43, e44, e307]
def hFn_1 : List FnE := [e308, e309, e310, e323, e324, e253, e254, e161, e192, e50, e179, e55, e54, e294, e325, e326, e60, e327, e328, e58, e64, e59]
def hFn : List FnE := hFn_0 ++ hFn_1
def y21 : XE := ⟨21, 0, C8.fnArgs ((C8.clsBody (tops[6]!))[0]!), ["self", "number", "word"]⟩
theorem p21 : plainX y21.params y21.ps := fun _ _ _ _ _ _ _ _ _ _ _ _ _ us hl => match us, hl with | [_, _, _], _ => by kernel_rfl
def y38 : XE := ⟨38, 0, C8.fnArgs ((C8.clsBody (tops[7]!))[0]!), ["self", "number"]⟩
theorem p38 : plainX y38.params y38.ps := fun _ _ _ _ _ _ _ _ _ _ _ _ _ us hl => match us, hl with | [_, _], _ => by kernel_rfl
def y22 : XE := ⟨22, 1, C8.fnArgs ((C8.clsBody (tops[8]!))[0]!), ["self", "number"]⟩
theorem p22 : plainX y22.params y22.ps := fun _ _ _ _ _ _ _ _ _ _ _ _ _ us hl => match us, hl with | [_, _], _ => by kernel_rfl
def hXs : List XE := [y21, y38, y22]
theorem px : PxAll hXs := ⟨p21, p38, p22, trivial⟩
def hd : HdT := ⟨G, hFn, [(20, "ShareError", c20), (21, "BadString", c21), (38, "BadText", c38), (22, "NoRun", c22), (23, "String", c23)], hXs, R6.prog.main.file⟩
theorem x23 : FnX G e23 f23 := ⟨⟨by kernel_rfl, by kernel_rfl, by kernel_rfl, by decide +kernel, by kernel_rfl, by decide +kernel, by decide +kernel⟩, by kernel_rfl, by kernel_rfl, fun _ _ _ _ _ _ _ _ _ _ us hl => match us, hl with | [_, _, _], _ => by kernel_rfl, by kernel_rfl⟩
theorem x24 : FnX G e24 f24 := ⟨⟨by kernel_rfl, by kernel_rfl, by kernel_rfl, by decide +kernel, by kernel_rfl, by decide +kernel, by decide +kernel⟩, by kernel_rfl, by kernel_rfl, fun _ _ _ _ _ _ _ _ _ _ us hl => match us, hl with | [_], _ => by kernel_rfl, by kernel_rfl⟩
theorem x25 : FnX G e25 f25 := ⟨⟨by kernel_rfl, by kernel_rfl, by kernel_rfl, by decide +kernel, by kernel_rfl, by decide +kernel, by decide +kernel⟩, by kernel_rfl, by kernel_rfl, fun _ _ _ _ _ _ _ _ _ _ us hl => match us, hl with | [_], _ => by kernel_rfl, by kernel_rfl⟩
theorem x26 : FnX G e26 f26 := ⟨⟨by kernel_rfl, by kernel_rfl, by kernel_rfl, by decide +kernel, by kernel_rfl, by decide +kernel, by decide +kernel⟩, by kernel_rfl, by kernel_rfl, fun _ _ _ _ _ _ _ _ _ _ us hl => match us, hl with | [_, _], _ => by kernel_rfl, by kernel_rfl⟩
theorem x27 : FnX G e27 f27 := ⟨⟨by kernel_rfl, by kernel_rfl, by kernel_rfl, by decide +kernel, by kernel_rfl, by decide +kernel, by decide +kernel⟩, by kernel_rfl, by kernel_rfl, fun _ _ _ _ _ _ _ _ _ _ us hl => match us, hl with | [_], _ => by kernel_rfl, by kernel_rfl⟩
theorem x28 : FnX G e28 f28 := ⟨⟨by kernel_rfl, by kernel_rfl, by kernel_rfl, by decide +kernel, by kernel_rfl, by decide +kernel, by decide +kernel⟩, by kernel_rfl, by kernel_rfl, fun _ _ _ _ _ _ _ _ _ _ us hl => match us, hl with | [_], _ => by kernel_rfl, by kernel_rfl⟩
theorem x31 : FnX G e31 f31 := ⟨⟨by kernel_rfl, by kernel_rfl, by kernel_rfl, by decide +kernel, by kernel_rfl, by decide +kernel, by decide +kernel⟩, by kernel_rfl, by kernel_rfl, fun _ _ _ _ _ _ _ _ _ _ us hl => match us, hl with | [_, _], _ => by kernel_rfl, by kernel_rfl⟩
theorem x36 : FnX G e36 f36 := ⟨⟨by kernel_rfl, by kernel_rfl, by kernel_rfl, by decide +kernel, by kernel_rfl, by decide +kernel, by decide +kernel⟩, by kernel_rfl, by kernel_rfl, fun _ _ _ _ _ _ _ _ _ _ us hl => match us, hl with | [_, _], _ => by kernel_rfl, by kernel_rfl⟩
theorem x39 : FnX G e39 f39 := ⟨⟨by kernel_rfl, by kernel_rfl, by kernel_rfl, by decide +kernel, by kernel_rfl, by decide +kernel, by decide +kernel⟩, by kernel_rfl, by kernel_rfl, fun _ _ _ _ _ _ _ _ _ _ us hl => match us, hl with | [_, _], _ => by kernel_rfl, by kernel_rfl⟩
theorem x40 : FnX G e40 f40 := ⟨⟨by kernel_rfl, by kernel_rfl, by kernel_rfl, by decide +kernel, by kernel_rfl, by decide +kernel, by decide +kernel⟩, by kernel_rfl, by kernel_rfl, fun _ _ _ _ _ _ _ _ _ _ us hl => match us, hl with | [_], _ => by kernel_rfl, by kernel_rfl⟩
theorem x41 : FnX G e41 f41 := ⟨⟨by kernel_rfl, by kernel_rfl, by kernel_rfl, by decide +kernel, by kernel_rfl, by decide +kernel, by decide +kernel⟩, by kernel_rfl, by kernel_rfl, fun _ _ _ _ _ _ _ _ _ _ us hl => match us, hl with | [_], _ => by kernel_rfl, by kernel_rfl⟩
theorem x42 : FnX G e42 f42 := ⟨⟨by kernel_rfl, by kernel_rfl, by kernel_rfl, by decide +kernel, by kernel_rfl, by decide +kernel, by decide +kernel⟩, by kernel_rfl, by kernel_rfl, fun _ _ _ _ _ _ _ _ _ _ us hl => match us, hl with | [_, _], _ => by kernel_rfl, by kernel_rfl⟩
theorem x43 : FnX G e43 f43 := ⟨⟨by kernel_rfl, by kernel_rfl, by kernel_rfl, by decide +kernel, by kernel_rfl, by decide +kernel, by decide +kernel⟩, by kernel_rfl, by kernel_rfl, fun _ _ _ _ _ _ _ _ _ _ us hl => match us, hl with | [_, _], _ => by kernel_rfl, by kernel_rfl⟩
theorem x44 : FnX G e44 f44 := ⟨⟨by kernel_rfl, by kernel_rfl, by kernel_rfl, by decide +kernel, by kernel_rfl, by decide +kernel, by decide +kernel⟩, by kernel_rfl, by kernel_rfl, fun _ _ _ _ _ _ _ _ _ _ us hl => match us, hl with | [_], _ => by kernel_rfl, by kernel_rfl⟩
theorem x307 : FnX G e307 f307 := ⟨⟨by kernel_rfl, by kernel_rfl, by kernel_rfl, by decide +kernel, by kernel_rfl, by decide +kernel, by decide +kernel⟩, by kernel_rfl, by kernel_rfl, fun _ _ _ _ _ _ _ _ _ _ us hl => match us, hl with | [_], _ => by kernel_rfl, by kernel_rfl⟩
theorem x308 : FnX G e308 f308 := ⟨⟨by kernel_rfl, by kernel_rfl, by kernel_rfl, by decide +kernel, by kernel_rfl, by decide +kernel, by decide +kernel⟩, by kernel_rfl, by kernel_rfl, fun _ _ _ _ _ _ _ _ _ _ us hl => match us, hl with | [_], _ => by kernel_rfl, by kernel_rfl⟩
theorem x309 : FnX G e309 f309 := ⟨⟨by kernel_rfl, by kernel_rfl, by kernel_rfl, by decide +kernel, by kernel_rfl, by decide +kernel, by decide +kernel⟩, by kernel_rfl, by kernel_rfl, fun _ _ _ _ _ _ _ _ _ _ us hl => match us, hl with | [_, _], _ => by kernel_rfl, by kernel_rfl⟩
theorem x310 : FnX G e310 f310 := ⟨⟨by kernel_rfl, by kernel_rfl, by kernel_rfl, by decide +kernel, by kernel_rfl, by decide +kernel, by decide +kernel⟩, by kernel_rfl, by kernel_rfl, fun _ _ _ _ _ _ _ _ _ _ us hl => match us, hl with | [_], _ => by kernel_rfl, by kernel_rfl⟩
theorem x323 : FnX G e323 f323 := ⟨⟨by kernel_rfl, by kernel_rfl, by kernel_rfl, by decide +kernel, by kernel_rfl, by decide +kernel, by decide +kernel⟩, by kernel_rfl, by kernel_rfl, fun _ _ _ _ _ _ _ _ _ _ us hl => match us, hl with | [_], _ => by kernel_rfl, by kernel_rfl⟩
theorem x324 : FnX G e324 f324 := ⟨⟨by kernel_rfl, by kernel_rfl, by kernel_rfl, by decide +kernel, by kernel_rfl, by decide +kernel, by decide +kernel⟩, by kernel_rfl, by kernel_rfl, fun _ _ _ _ _ _ _ _ _ _ us hl => match us, hl with | [_], _ => by kernel_rfl, by kernel_rfl⟩
theorem x253 : FnX G e253 f253 := ⟨⟨by kernel_rfl, by kernel_rfl, by kernel_rfl, by decide +kernel, by kernel_rfl, by decide +kernel, by decide +kernel⟩, by kernel_rfl, by kernel_rfl, fun _ _ _ _ _ _ _ _ _ _ us hl => match us, hl with | [_], _ => by kernel_rfl, by kernel_rfl⟩
theorem x254 : FnX G e254 f254 := ⟨⟨by kernel_rfl, by kernel_rfl, by kernel_rfl, by decide +kernel, by kernel_rfl, by decide +kernel, by decide +kernel⟩, by kernel_rfl, by kernel_rfl, fun _ _ _ _ _ _ _ _ _ _ us hl => match us, hl with | [_, _], _ => by kernel_rfl, by kernel_rfl⟩
theorem x161 : FnX G e161 f161 := ⟨⟨by kernel_rfl, by kernel_rfl, by kernel_rfl, by decide +kernel, by kernel_rfl, by decide +kernel, by decide +kernel⟩, by kernel_rfl, by kernel_rfl, fun _ _ _ _ _ _ _ _ _ _ us hl => match us, hl with | [_, _], _ => by kernel_rfl, by kernel_rfl⟩
theorem x192 : FnX G e192 f192 := ⟨⟨by kernel_rfl, by kernel_rfl, by kernel_rfl, by decide +kernel, by kernel_rfl, by decide +kernel, by decide +kernel⟩, by kernel_rfl, by kernel_rfl, fun _ _ _ _ _ _ _ _ _ _ us hl => match us, hl with | [_, _], _ => by kernel_rfl, by kernel_rfl⟩
theorem x50 : FnX G e50 f50 := ⟨⟨by kernel_rfl, by kernel_rfl, by kernel_rfl, by decide +kernel, by kernel_rfl, by decide +kernel, by decide +kernel⟩, by kernel_rfl, by kernel_rfl, fun _ _ _ _ _ _ _ _ _ _ us hl => match us, hl with | [_, _, _], _ => by kernel_rfl, by kernel_rfl⟩
theorem x179 : FnX G e179 f179 := ⟨⟨by kernel_rfl, by kernel_rfl, by kernel_rfl, by decide +kernel, by kernel_rfl, by decide +kernel, by decide +kernel⟩, by kernel_rfl, by kernel_rfl, fun _ _ _ _ _ _ _ _ _ _ us hl => match us, hl with | [_, _], _ => by kernel_rfl, by kernel_rfl⟩
theorem x55 : FnX G e55 f55 := ⟨⟨by kernel_rfl, by kernel_rfl, by kernel_rfl, by decide +kernel, by kernel_rfl, by decide +kernel, by decide +kernel⟩, by kernel_rfl, by kernel_rfl, fun _ _ _ _ _ _ _ _ _ _ us hl => match us, hl with | [_], _ => by kernel_rfl, by kernel_rfl⟩
theorem x54 : FnX G e54 f54 := ⟨⟨by kernel_rfl, by kernel_rfl, by kernel_rfl, by decide +kernel, by kernel_rfl, by decide +kernel, by decide +kernel⟩, by kernel_rfl, by kernel_rfl, fun _ _ _ _ _ _ _ _ _ _ us hl => match us, hl with | [_, _, _], _ => by kernel_rfl, by kernel_rfl⟩
theorem x294 : FnX G e294 f294 := ⟨⟨by kernel_rfl, by kernel_rfl, by kernel_rfl, by decide +kernel, by kernel_rfl, by decide +kernel, by decide +kernel⟩, by kernel_rfl, by kernel_rfl, fun _ _ _ _ _ _ _ _ _ _ us hl => match us, hl with | [_], _ => by kernel_rfl, by kernel_rfl⟩
theorem x325 : FnX G e325 f325 := ⟨⟨by kernel_rfl, by kernel_rfl, by kernel_rfl, by decide +kernel, by kernel_rfl, by decide +kernel, by decide +kernel⟩, by kernel_rfl, by kernel_rfl, fun _ _ _ _ _ _ _ _ _ _ us hl => match us, hl with | [_], _ => by kernel_rfl, by kernel_rfl⟩
theorem x326 : FnX G e326 f326 := ⟨⟨by kernel_rfl, by kernel_rfl, by kernel_rfl, by decide +kernel, by kernel_rfl, by decide +kernel, by decide +kernel⟩, by kernel_rfl, by kernel_rfl, fun _ _ _ _ _ _ _ _ _ _ us hl => match us, hl with | [_], _ => by kernel_rfl, by kernel_rfl⟩
theorem x60 : FnX G e60 f60 := ⟨⟨by kernel_rfl, by kernel_rfl, by kernel_rfl, by decide +kernel, by kernel_rfl, by decide +kernel, by decide +kernel⟩, by kernel_rfl, by kernel_rfl, fun _ _ _ _ _ _ _ _ _ _ us hl => match us, hl with | [_], _ => by kernel_rfl, by kernel_rfl⟩
theorem x327 : FnX G e327 f327 := ⟨⟨by kernel_rfl, by kernel_rfl, by kernel_rfl, by decide +kernel, by kernel_rfl, by decide +kernel, by decide +kernel⟩, by kernel_rfl, by kernel_rfl, fun _ _ _ _ _ _ _ _ _ _ us hl => match us, hl with | [_, _], _ => by kernel_rfl, by kernel_rfl⟩
theorem x328 : FnX G e328 f328 := ⟨⟨by kernel_rfl, by kernel_rfl, by kernel_rfl, by decide +kernel, by kernel_rfl, by decide +kernel, by decide +kernel⟩, by kernel_rfl, by kernel_rfl, fun _ _ _ _ _ _ _ _ _ _ us hl => match us, hl with | [_, _, _], _ => by kernel_rfl, by kernel_rfl⟩
theorem x58 : FnX G e58 f58 := ⟨⟨by kernel_rfl, by kernel_rfl, by kernel_rfl, by decide +kernel, by kernel_rfl, by decide +kernel, by decide +kernel⟩, by kernel_rfl, by kernel_rfl, fun _ _ _ _ _ _ _ _ _ _ us hl => match us, hl with | [_], _ => by kernel_rfl, by kernel_rfl⟩
theorem x64 : FnX G e64 f64 := ⟨⟨by kernel_rfl, by kernel_rfl, by kernel_rfl, by decide +kernel, by kernel_rfl, by decide +kernel, by decide +kernel⟩, by kernel_rfl, by kernel_rfl, fun _ _ _ _ _ _ _ _ _ _ us hl => match us, hl with | [_], _ => by kernel_rfl, by kernel_rfl⟩
theorem x59 : FnX G e59 f59 := ⟨⟨by kernel_rfl, by kernel_rfl, by kernel_rfl, by decide +kernel, by kernel_rfl, by decide +kernel, by decide +kernel⟩, by kernel_rfl, by kernel_rfl, fun _ _ _ _ _ _ _ _ _ _ us hl => match us, hl with | [_], _ => by kernel_rfl, by kernel_rfl⟩
theorem fx0 : FxAll hd tFn_0 :=
  .cons 1 e23 (by kernel_rfl) x23 (by kernel_rfl) <| .cons 2 e24 (by kernel_rfl) x24 (by kernel_rfl) <| .cons 3 e25 (by kernel_rfl) x25 (by kernel_rfl) <| .cons 4 e26 (by kernel_rfl) x26 (by kernel_rfl) <| .cons 5 e27 (by kernel_rfl) x27 (by kernel_rfl) <| .cons 6 e28 (by kernel_rfl) x28 (by kernel_rfl) <| .cons 9 e31 (by kernel_rfl) x31 (by kernel_rfl) <| .cons 14 e36 (by kernel_rfl) x36 (by kernel_rfl) <| .cons 17 e39 (by kernel_rfl) x39 (by kernel_rfl) <| .cons 18 e40 (by kernel_rfl) x40 (by kernel_rfl) <| .cons 19 e41 (by kernel_rfl) x41 (by kernel_rfl) <| .cons 20 e42 (by kernel_rfl) x42 (by kernel_rfl) <| .cons 21 e43 (by kernel_rfl) x43 (by kernel_rfl) <| .cons 22 e44 (by kernel_rfl) x44 (by kernel_rfl) <| .cons 23 e307 (by kernel_rfl) x307 (by kernel_rfl) <| .cons 24 e308 (by kernel_rfl) x308 (by kernel_rfl) <| .cons 25 e309 (by kernel_rfl) x309 (by kernel_rfl) <| .cons 26 e310 (by kernel_rfl) x310 (by kernel_rfl) <| .cons 27 e323 (by kernel_rfl) x323 (by kernel_rfl) <| .cons 28 e324 (by kernel_rfl) x324 (by kernel_rfl) <| .cons 29 e253 (by kernel_rfl) x253 (by kernel_rfl) <| .cons 30 e254 (by kernel_rfl) x254 (by kernel_rfl) <| .cons 31 e161 (by kernel_rfl) x161 (by kernel_rfl) <| .cons 32 e192 (by kernel_rfl) x192 (by kernel_rfl) <| .nil
theorem fx1 : FxAll hd tFn_1 :=
  .cons 33 e50 (by kernel_rfl) x50 (by kernel_rfl) <| .cons 34 e179 (by kernel_rfl) x179 (by kernel_rfl) <| .cons 35 e55 (by kernel_rfl) x55 (by kernel_rfl) <| .cons 36 e54 (by kernel_rfl) x54 (by kernel_rfl) <| .cons 37 e294 (by kernel_rfl) x294 (by kernel_rfl) <| .cons 38 e325 (by kernel_rfl) x325 (by kernel_rfl) <| .cons 39 e326 (by kernel_rfl) x326 (by kernel_rfl) <| .cons 40 e60 (by kernel_rfl) x60 (by kernel_rfl) <| .cons 41 e327 (by kernel_rfl) x327 (by kernel_rfl) <| .cons 42 e328 (by kernel_rfl) x328 (by kernel_rfl) <| .cons 43 e58 (by kernel_rfl) x58 (by kernel_rfl) <| .cons 44 e64 (by kernel_rfl) x64 (by kernel_rfl) <| .cons 45 e59 (by kernel_rfl) x59 (by kernel_rfl) <| .nil
theorem fx : FxAll hd T.fn := (FxAll.append fx0 fx1)
def adr_0 : List PySem.Addr := [1, 2, 3, 6, 4, 21, 31, 53, 74, 95, 105, 112, 119, 266, 275, 280, 285, 292, 299, 306, 313, 320, 327, 334, 341, 348, 355, 362, 369, 374, 379, 384, 391, 398, 403, 410, 417, 0, 20, 30]
def adr_1 : List PySem.Addr := [52, 73, 94, 104, 111, 118, 265, 274, 279, 284, 291, 298, 305, 312, 319, 326, 333, 340, 347, 354, 361, 368, 373, 378, 383, 390, 397, 402, 409, 416, 15, 16, 17, 18, 19, 29, 32, 50, 51, 71]
def adr_2 : List PySem.Addr := [72, 92, 93, 96, 99, 100, 101, 102, 103, 106, 107, 108, 109, 110, 113, 114, 115, 116, 117, 133, 141, 149, 157, 165, 172, 179, 186, 193, 200, 207, 214, 221, 228, 235, 242, 249, 256, 263, 264, 267]
def adr_3 : List PySem.Addr := [268, 271, 272, 273, 276, 277, 278, 281, 282, 283, 286, 287, 288, 289, 290, 293, 294, 295, 296, 297, 300, 301, 302, 303, 304, 307, 308, 309, 310, 311, 314, 315, 316, 317, 318, 321, 322, 323, 324, 325]
def adr_4 : List PySem.Addr := [328, 329, 330, 331, 332, 335, 336, 337, 338, 339, 342, 343, 344, 345, 346, 349, 350, 351, 352, 353, 356, 357, 358, 359, 360, 363, 364, 365, 366, 367, 370, 371, 372, 375, 376, 377, 380, 381, 382, 385]
def adr_5 : List PySem.Addr := [386, 387, 388, 389, 392, 393, 394, 395, 396, 399, 400, 401, 404, 405, 406, 407, 408, 411, 412, 413, 414, 415, 49, 38, 70, 59, 91, 80, 132, 140, 148, 156, 164, 171, 178, 185, 192, 199, 206, 213]
def adr_6 : List PySem.Addr := [220, 227, 234, 241, 248, 255, 262, 44, 45, 46, 47, 48, 65, 66, 67, 68, 69, 86, 87, 88, 89, 90, 127, 128, 129, 130, 131, 139, 147, 155, 163, 166, 167, 168, 169, 170, 173, 174, 175, 176]
def adr_7 : List PySem.Addr := [177, 180, 181, 182, 183, 184, 187, 188, 189, 190, 191, 194, 195, 196, 197, 198, 201, 202, 203, 204, 205, 208, 209, 210, 211, 212, 215, 216, 217, 218, 219, 222, 223, 224, 225, 226, 229, 230, 231, 232]
def adr_8 : List PySem.Addr := [233, 236, 237, 238, 239, 240, 243, 244, 245, 246, 247, 250, 251, 252, 253, 254, 257, 258, 259, 260, 261, 134, 135, 136, 137, 138, 142, 143, 144, 145, 146, 150, 151, 152, 153, 154, 158, 159, 160, 161]
def adr_9 : List PySem.Addr := [162]
def adr : List PySem.Addr := adr_0 ++ adr_1 ++ adr_2 ++ adr_3 ++ adr_4 ++ adr_5 ++ adr_6 ++ adr_7 ++ adr_8 ++ adr_9
abbrev hk : PySem.W.Hook := hookB adr hd T
def ob (s : PySem.W.SharedT) : AlB := obsBG adr hd T (HandSHeadRun.getT s)
theorem ob_eq (s : PySem.W.SharedT) : ob s = hk.obs s.abs := obsBG_eq (HandSHeadRun.getT_eq s)
def names_0 : List PySem.Str := ["_wall", "MAX_KINDS", "MAX_LENGTH", "MAX_RUNS", "ShareError", "BadString", "BadText", "NoRun", "is_integer", "run_word", "check_runs", "String", "DIGITS", "LETTERS", "MOST_DIGITS", "string_text", "words_of", "number_in", "run_in", "check_text", "read_string", "_law_bag", "_law_draw", "_law_pick", "_law_far", "_law_runs", "_law_great", "_law_odd", "_law_is_whole", "_law_string_word"]
def names_1 : List PySem.Str := ["_law_text", "_law_words", "_law_run_word", "_law_blanks", "_law_spoilt", "_law_due", "_law_told"]
def names : List PySem.Str := names_0 ++ names_1
theorem run (w : World) : HandSHeadRun.RunEq R6 (PySem.W.view R6.prog [41]) hk ob 12000 names w := by
  intro os
  kernel_rfl
end Bd
namespace Bd
open PySem L2
def isI (lo hi : Int) : D → Bool
  | .int i => decide (lo ≤ i) && decide (i ≤ hi)
  | _ => false
theorem c_isint (n : Nat) (v : D) (lo hi : Int) (s : Sto) (h : pl v = true) : (callsAt T (n+1)).call 23 [v, .int lo, .int hi] s = .ok (.bl (isI lo hi v)) s := by
  rw [at_succ, call_eq (d := f23) rfl rfl]
  simp only [f23, b23, startG]
  cases v <;> simp [isI, subBt, pl] at h ⊢
@[simp] theorem isI_int (lo hi i : Int) : isI lo hi (.int i) = (decide (lo ≤ i) && decide (i ≤ hi)) := rfl
@[simp] theorem isI_non (lo hi : Int) : isI lo hi .non = false := id rfl
@[simp] theorem isI_bl (lo hi : Int) (b : Bool) : isI lo hi (.bl b) = false := id rfl
@[simp] theorem isI_str (lo hi : Int) (b : Str) : isI lo hi (.str b) = false := id rfl
@[simp] theorem isI_tup (lo hi : Int) (b : List D) : isI lo hi (.tup b) = false := id rfl
@[simp] theorem isI_lst (lo hi : Int) (b : List D) : isI lo hi (.lst b) = false := id rfl
@[simp] theorem isI_dct (lo hi : Int) (k : List Key) (b : List D) : isI lo hi (.dct k b) = false := id rfl
@[simp] theorem isI_scr (lo hi : Int) (b : List Int) : isI lo hi (.scr b) = false := id rfl
@[simp] theorem isI_obj (lo hi : Int) (c : Nat) (k : List Nat) (b : List D) : isI lo hi (.obj c k b) = false := id rfl
@[simp] theorem isI_exn (lo hi : Int) (c : Nat) (b : List D) : isI lo hi (.exn c b) = false := id rfl
@[simp] theorem isI_loc (lo hi : Int) (c : Nat) : isI lo hi (.loc c) = false := id rfl
theorem isI_iff {lo hi : Int} {v : D} : isI lo hi v = true ↔ ∃ i, v = .int i ∧ lo ≤ i ∧ i ≤ hi := by
  cases v <;> simp [isI]
def runD (p : Int × Int) : D := .tup [.int p.1, .int p.2]
def runsD (rs : List (Int × Int)) : D := .tup (rs.map runD)
structure RunOk (p : Int × Int) : Prop where
  k0 : 0 ≤ p.1
  k3 : p.1 ≤ 3
  l1 : 1 ≤ p.2
  lm : p.2 ≤ 1000000000000000000000000000000
/-- unlike kinds side by side -/
def Unl : List (Int × Int) → Prop
  | a :: b :: r => a.1 ≠ b.1 ∧ Unl (b :: r)
  | _ => True
structure RunsOk (rs : List (Int × Int)) : Prop where
  ne : 1 ≤ rs.length
  le : rs.length ≤ 6
  all : ∀ p ∈ rs, RunOk p
  unl : ∀ i, ∀ p q, rs[i]? = some p → rs[i+1]? = some q → p.1 ≠ q.1
theorem c_run_word (n : Nat) (p : Int × Int) (s : Sto) (h : RunOk p) : (callsAt T (n+2)).call 24 [runD p] s = .ok .non s := by
  obtain ⟨h0, h1, h2, h3⟩ := h
  rw [at_succ, call_eq (d := f24) rfl rfl]
  simp only [f24, b24, startG, runD]
  simp [subBt, c_isint, *]
  trace_state
theorem c_check_runs (n : Nat) (rs : List (Int × Int)) (s : Sto) (h : RunsOk rs) : (callsAt T (n+3)).call 25 [runsD rs] s = .ok .non s := by
  have h1 : (1 : Int) ≤ rs.length := by have := h.ne; omega
  have h2 : (rs.length : Int) ≤ 6 := by have := h.le; omega
  apply Ok.eq
  rw [at_succ]
  refine Ok.call (d := f25) rfl rfl ?_
  simp only [f25, b25, startG, runsD]
  simp [subBt, h1, h2, forF, seqOf]
  refine Hf.seq (Hf.forI (fun i g s' => s' = s ∧ ∃ a b c, g = [.sh (.tup (rs.map runD)), a, b, c]) ⟨rfl, _, _, _, rfl⟩ ?_ ?_)
  · rintro i ⟨x, k⟩ g s' hx ⟨rfl, a, b, c, rfl⟩
    simp [List.getElem?_zipIdx] at hx
    obtain ⟨k, m, hp, rfl, rfl⟩ := hx
    have hr := h.all _ (List.mem_of_getElem? hp)
    simp [c_run_word, hr]
    cases i with
    | zero => simp
    | succ i =>
      have hlt : i < rs.length := by
        have := (List.getElem?_eq_some_iff.mp hp).1
        omega
      have hu : rs[i].1 ≠ k := h.unl i rs[i] (k, m) (List.getElem?_eq_getElem hlt) hp
      simp [ixN_at, hlt, runD, hu]
  · rintro g s' ⟨rfl, a, b, c, rfl⟩
    simp
def sumTo (rs : List (Int × Int)) : Nat → Int
  | 0 => 0
  | i + 1 => sumTo rs i + (match rs[i]? with | some p => p.2 | none => 0)
def cntTo (rs : List (Int × Int)) (pl kd : Int) : Nat → Int
  | 0 => 0
  | i + 1 => cntTo rs pl kd i + (match rs[i]? with | some p => if p.1 = kd then max 0 (min p.2 (pl - sumTo rs i)) else 0 | none => 0)
def startsD (rs : List (Int × Int)) : D := .tup ((List.range (rs.length + 1)).map fun i => .int (sumTo rs i))
def upL (rs : List (Int × Int)) (pl : Int) (i : Nat) : List D := [.int (cntTo rs pl 0 i), .int (cntTo rs pl 1 i), .int (cntTo rs pl 2 i), .int (cntTo rs pl 3 i)]
def upD (rs : List (Int × Int)) (pl : Int) : D := .tup (upL rs pl rs.length)
def beads (rs : List (Int × Int)) : Int := sumTo rs rs.length
def strD (rs : List (Int × Int)) : D := .obj 23 [22, 23, 24] [runsD rs, startsD rs, upD rs (beads rs)]
theorem mmx (a b : Int) : (if 0 < (if b < a then b else a) then (if b < a then b else a) else 0) = max 0 (min a b) := by omega
theorem c_up_to (n : Nat) (rs : List (Int × Int)) (o : D) (pl : Int) (s : Sto) (h : RunsOk rs) (ha : ∀ C, attD T C 22 o s = .ok (runsD rs) s) (hb : ∀ C, attD T C 23 o s = .ok (startsD rs) s) : (callsAt T (n+1)).call 31 [o, .int pl] s = .ok (upD rs pl) s := by
  apply Ok.eq
  rw [at_succ]
  refine Ok.call (d := f31) rfl rfl ?_
  simp only [f31, b31, startG]
  simp [mul_lst, ha, runsD, forF]
  refine Hf.seq (Hf.forI (fun i g s' => s' = s ∧ ∃ a b, g = [.sh o, .sh (.int pl), .ow (.lst (upL rs pl i)), a, b]) ⟨rfl, _, _, rfl⟩ ?_ ?_)
  · rintro i ⟨x, k⟩ g s' hx ⟨rfl, a, b, rfl⟩
    simp [List.getElem?_zipIdx] at hx
    obtain ⟨k, m, hp, rfl, rfl⟩ := hx
    have hr := h.all _ (List.mem_of_getElem? hp)
    obtain ⟨h0, h1, h2, h3⟩ := hr
    have hlt : i < rs.length := (List.getElem?_eq_some_iff.mp hp).1
    simp at h0 h1 h2 h3
    have hq : cntTo rs pl 0 (i+1) = cntTo rs pl 0 i + (if k = 0 then max 0 (min m (pl - sumTo rs i)) else 0) := by simp [cntTo, hp]
    have hq1 : cntTo rs pl 1 (i+1) = cntTo rs pl 1 i + (if k = 1 then max 0 (min m (pl - sumTo rs i)) else 0) := by simp [cntTo, hp]
    have hq2 : cntTo rs pl 2 (i+1) = cntTo rs pl 2 i + (if k = 2 then max 0 (min m (pl - sumTo rs i)) else 0) := by simp [cntTo, hp]
    have hq3 : cntTo rs pl 3 (i+1) = cntTo rs pl 3 i + (if k = 3 then max 0 (min m (pl - sumTo rs i)) else 0) := by simp [cntTo, hp]
    have hi : i < rs.length + 1 := by omega
    obtain rfl | rfl | rfl | rfl : k = 0 ∨ k = 1 ∨ k = 2 ∨ k = 3 := by omega
    all_goals simp [runD, upL, hb, startsD, ixN_at, hi, hq, hq1, hq2, hq3, mmx]
  · rintro g s' ⟨rfl, a, b, rfl⟩
    simp [upD]
theorem frzR_ok {s : Sto} {c : Nat} {ks : List Nat} {xs : List D} (h : locsLt s.length xs = true) : frzR s (.ok .non (s ++ [.ins c ks xs])) = .ok (.obj c ks xs) s := by
  unfold frzR insAt
  simp [h]
theorem locsLt_iff (n : Nat) : ∀ xs : List D, locsLt n xs = true ↔ ∀ x ∈ xs, locLt n x = true
  | [] => by simp [locsLt]
  | x :: xs => by simp [locsLt, locsLt_iff n xs]
@[simp] theorem locLt_int (n : Nat) (i : Int) : locLt n (.int i) = true := by simp [locLt]
theorem locLt_runs (n : Nat) (rs : List (Int × Int)) : locLt n (runsD rs) = true := by
  simp only [runsD, locLt, locsLt_iff]
  intro x hx
  obtain ⟨p, _, rfl⟩ := List.mem_map.mp hx
  simp [runD, locLt, locsLt]
theorem locLt_starts (n : Nat) (rs : List (Int × Int)) : locLt n (startsD rs) = true := by
  simp only [startsD, locLt, locsLt_iff]
  intro x hx
  obtain ⟨i, _, rfl⟩ := List.mem_map.mp hx
  simp
theorem locLt_up (n : Nat) (rs : List (Int × Int)) (pl : Int) : locLt n (upD rs pl) = true := by
  simp [upD, upL, locLt, locsLt]
theorem c_make (n : Nat) (rs : List (Int × Int)) (s : Sto) (h : RunsOk rs) : (callsAt T (n+5)).make 23 [runsD rs] s = .ok (strD rs) s := by
  show mkF T (callsAt T (n+4)) 23 [runsD rs] s = _
  unfold mkF
  rw [show T.cl.lookup 23 = some c23 from rfl]
  simp only
  rw [show T.fn.lookup c23.init = some f26 from rfl, if_pos (show c23.kind = 0 from rfl)]
  simp only
  have e : callF T (callsAt T (n+4)) c23.init [.loc s.length, runsD rs] (s ++ [.ins 23 [] []]) = .ok .non (s ++ [.ins 23 [22, 23, 24] [runsD rs, startsD rs, upD rs (beads rs)]]) := by
    apply Ok.eq
    refine Ok.call (d := f26) rfl rfl ?_
    simp only [f26, b26, startG]
    simp [c_check_runs, h, setfF, show fldOk T 23 22 = true from rfl, putK]
    refine Hf.seq ?_
    simp only [forF, runsD, seqOf_tup, optF_some, frzI_eq, forG_map]
    refine Hf.forI (fun i g s' => s' = s ++ [.ins 23 [22] [runsD rs]] ∧ ∃ a b, g = [.sh (.loc s.length), .sh (runsD rs), .ow (.lst ((List.range (i + 1)).map fun j => .int (sumTo rs j))), a, b]) ⟨rfl, _, _, rfl⟩ ?_ ?_
    · rintro i ⟨k, m⟩ g s' hp ⟨rfl, a, b, rfl⟩
      have hlt : i < rs.length := (List.getElem?_eq_some_iff.mp hp).1
      have hq : sumTo rs (i + 1) = sumTo rs i + m := by simp [sumTo, hp]
      have hs : small (i + 1 + 1) = true := smallLe (by have := h.le; omega)
      simp [runD, hs, List.range_succ (n := i + 1), hq]
    · rintro g s' ⟨rfl, a, b, rfl⟩
      have e2 : (D.tup (List.map (fun j => D.int (sumTo rs j)) (List.range (rs.length + 1)))) = startsD rs := rfl
      have hm : methF T 29 (.loc s.length) (s ++ [.ins 23 [22, 23] [runsD rs, startsD rs]]) = some 31 := by
        simp [methF, clsOf, fldsOf, lookK, show T.meth 23 29 = some 31 from rfl, show isCl T 23 = true from rfl]
      have hu := c_up_to (n+3) rs (.loc s.length) (sumTo rs rs.length) (s ++ [.ins 23 [22, 23] [runsD rs, startsD rs]]) h (fun C => by simp [attD, attO, show T.prop 23 22 = none from rfl, show fldOk T 23 22 = true from rfl, lookK]) (fun C => by simp [attD, attO, show T.prop 23 23 = none from rfl, show fldOk T 23 23 = true from rfl, lookK])
      simp [setfF, show fldOk T 23 23 = true from rfl, show fldOk T 23 24 = true from rfl, putK, e2, hm, hu]
      simp [runsD, beads]
  rw [e, frzR_ok]
  · rfl
  · simp [locsLt, locLt_runs, locLt_starts, locLt_up]
def runW : D → D
  | .tup [a, b] => if isI 0 3 a then (if isI 1 1000000000000000000000000000000 b then .non else .str "length") else .str "kind"
  | _ => .str "run"
theorem c_run_word' (n : Nat) (v : D) (s : Sto) (h : dp v = true) : (callsAt T (n+2)).call 24 [v] s = .ok (runW v) s := by
  rw [at_succ, call_eq (d := f24) rfl rfl]
  simp only [f24, b24, startG]
  cases v
  case tup xs =>
    match xs, h with
    | [], h => simp [subBt, runW]
    | [_], h => simp [subBt, runW]
    | _ :: _ :: _ :: r, h =>
      simp [subBt, runW]
      intro h
      omega
    | [a, b], h =>
      have ha := dp_pl (dq_tup h a (by simp))
      have hb := dp_pl (dq_tup h b (by simp))
      simp [subBt, runW, c_isint, ha, hb]
      cases isI 0 3 a <;> cases isI 1 1000000000000000000000000000000 b <;> simp
  all_goals simp [subBt, runW]
  all_goals simp [dp, toPz] at h
def knd : D → Int
  | .tup (.int k :: _) => k
  | _ => 0
theorem runW_non {v : D} (h : isNon (runW v) = true) : ∃ p, v = runD p ∧ RunOk p := by
  cases v
  case tup xs =>
    match xs, h with
    | [], h => simp [runW] at h
    | [_], h => simp [runW] at h
    | _ :: _ :: _ :: r, h => simp [runW] at h
    | [a, b], h =>
      simp only [runW] at h
      by_cases h1 : isI 0 3 a = true
      · by_cases h2 : isI 1 1000000000000000000000000000000 b = true
        · obtain ⟨i, rfl, i1, i2⟩ := isI_iff.mp h1
          obtain ⟨j, rfl, j1, j2⟩ := isI_iff.mp h2
          exact ⟨(i, j), rfl, i1, i2, j1, j2⟩
        · simp [h1, h2] at h
      · simp [h1] at h
  all_goals simp [runW] at h
theorem runW_str (v : D) : runW v = .non ∨ ∃ x, runW v = .str x ∧ (x = "run" ∨ x = "kind" ∨ x = "length") := by
  cases v
  case tup xs =>
    match xs with
    | [] => exact .inr ⟨_, rfl, .inl rfl⟩
    | [_] => exact .inr ⟨_, rfl, .inl rfl⟩
    | _ :: _ :: _ :: r => exact .inr ⟨_, rfl, .inl rfl⟩
    | [a, b] =>
      simp only [runW]
      split
      · split
        · exact .inl rfl
        · exact .inr ⟨_, rfl, .inr (.inr rfl)⟩
      · exact .inr ⟨_, rfl, .inr (.inl rfl)⟩
  all_goals exact .inr ⟨_, rfl, .inl rfl⟩
/-- what is wrong with item i -/
def badAt (xs : List D) (i : Nat) : D := match xs[i]? with
  | some v => if isNon (runW v) then (if 0 < i ∧ (xs[i - 1]?).map knd = some (knd v) then .str "same" else .non) else runW v
  | none => .non
def rErr : D → Option (D × D)
  | .tup xs => if 1 ≤ xs.length ∧ xs.length ≤ 6 then ((List.range xs.length).find? fun i => !isNon (badAt xs i)).map fun i => (.int (i : Nat), badAt xs i) else some (.non, .str "runs")
  | _ => some (.non, .str "runs")
theorem find_at {n i : Nat} {p : Nat → Bool} (hi : i < n) (hp : p i = true) (hj : ∀ j, j < i → p j = false) : (List.range n).find? p = some i := by
  rw [List.find?_range_eq_some]
  exact ⟨hp, List.mem_range.mpr hi, fun j hj' => by simp [hj j hj']⟩
theorem find_no {n : Nat} {p : Nat → Bool} (hj : ∀ j, j < n → p j = false) : (List.range n).find? p = none := by
  rw [List.find?_eq_none]
  intro x hx
  simp [hj x (List.mem_range.mp hx)]
theorem knd_runD (p : Int × Int) : knd (runD p) = p.1 := rfl
/-- before i all is well -/
def wellTo (xs : List D) (i : Nat) : Prop := ∀ j, j < i → isNon (badAt xs j) = true
theorem wellTo.run {xs : List D} {i j : Nat} (h : wellTo xs i) (hj : j < i) (hx : j < xs.length) : ∃ p, xs[j]? = some (runD p) ∧ RunOk p := by
  have z := h j hj
  unfold badAt at z
  rw [List.getElem?_eq_getElem hx] at z
  simp only at z
  by_cases h1 : isNon (runW xs[j]) = true
  · obtain ⟨p, e, hp⟩ := runW_non h1
    exact ⟨p, by rw [List.getElem?_eq_getElem hx, e], hp⟩
  · rw [if_neg h1] at z
    exact absurd z h1
theorem badAt_of {xs : List D} {i : Nat} {v : D} (h : xs[i]? = some v) : badAt xs i = if isNon (runW v) then (if 0 < i ∧ (xs[i - 1]?).map knd = some (knd v) then .str "same" else .non) else runW v := by
  unfold badAt
  rw [h]
theorem Po.Le.mk' {P P' : Po} (h : Po.Le P P') : Po.Le P P' := h
def ckR (s : Sto) : Option (D × D) → R D
  | none => .ok .non s
  | some (a, b) => .ex 21 [a, b] s
theorem ckR_ex {s : Sto} {r : R D} {a b : D} (h : Oc r (fun _ _ => False) fun k ys s' => k = 21 ∧ ys = [a, b] ∧ s' = s) : r = ckR s (some (a, b)) := h.ex
theorem c_check (n : Nat) (v : D) (s : Sto) (h : dp v = true) : (callsAt T (n+3)).call 25 [v] s = ckR s (rErr v) := by
  rw [at_succ]
  cases v
  case tup xs =>
    by_cases hl : 1 ≤ xs.length ∧ xs.length ≤ 6
    · have h1 : (1 : Int) ≤ xs.length := by omega
      have h2 : (xs.length : Int) ≤ 6 := by omega
      have key : Oc (callF T (callsAt T (n+2)) 25 [.tup xs] s) (fun d s' => d = .non ∧ s' = s ∧ wellTo xs xs.length) fun k ys s' => k = 21 ∧ s' = s ∧ ∃ i, i < xs.length ∧ wellTo xs i ∧ isNon (badAt xs i) = false ∧ ys = [.int (i : Nat), badAt xs i] := by
        refine Oc.callL (d := f25) rfl rfl fun P0 q0 => ?_
        simp only [f25, b25, startG]
        simp [subBt, h1, h2, forF, seqOf]
        refine Hf.seqL fun P1 q1 => Hf.forK (fun i g s' => s' = s ∧ wellTo xs i ∧ ∃ a b c, g = [.sh (.tup xs), a, b, c]) ⟨rfl, fun j hj => by omega, _, _, _, rfl⟩ ?_ ?_
        · rintro i ⟨x, k⟩ g s' P2 hx hi ⟨rfl, hw, a, b, c, rfl⟩ q2
          simp [List.getElem?_zipIdx] at hx
          obtain ⟨v, hx, rfl, rfl⟩ := hx
          have hlt : i < xs.length := (List.getElem?_eq_some_iff.mp hx).1
          have hdp : dp v = true := dq_tup h v (List.mem_of_getElem? hx)
          have hb := badAt_of hx
          simp [c_run_word', hdp]
          by_cases hn : isNon (runW v) = true
          · obtain ⟨p, rfl, hp⟩ := runW_non hn
            rw [if_pos hn] at hb
            have e0 : runW (runD p) = .non := by
              rcases runW_str (runD p) with e | ⟨x, e, _⟩
              · exact e
              · rw [e] at hn; cases hn
            have step : isNon (badAt xs i) = true → wellTo xs (i + 1) := fun z j hj => by
              rcases Nat.lt_or_eq_of_le (Nat.le_of_lt_succ hj) with hj | rfl
              · exact hw j hj
              · exact z
            simp [e0]
            by_cases hi0 : 0 < i
            · have hlt' : i - 1 < xs.length := by omega
              obtain ⟨q, hq, hqo⟩ := hw.run (j := i - 1) (by omega) hlt'
              have ei : (i : Int) - 1 = ((i - 1 : Nat) : Int) := by omega
              rw [hq] at hb
              have hq' : xs[i - 1] = runD q := by
                rw [List.getElem?_eq_getElem hlt'] at hq
                exact Option.some.inj hq
              simp [hi0, ei, ixN_at, hlt', hq', runD]
              by_cases hk : q.1 = p.1
              · have hb' : badAt xs i = .str "same" := by
                  rw [hb]
                  simp [hi0, knd_runD, hk]
                simp [hk]
                exact q2.ex _ _ _ _ (q1.ex _ _ _ _ (q0.ex _ _ _ _ ⟨rfl, rfl, i, hlt, hw, by rw [hb']; rfl, by rw [hb']⟩))
              · have hb' : badAt xs i = .non := by
                  rw [hb]
                  simp [knd_runD, hk]
                simp [hk]
                exact q2.nx _ _ ⟨rfl, step (by rw [hb']; rfl), _, _, _, rfl⟩
            · have hb' : badAt xs i = .non := by
                rw [hb]
                simp [hi0]
              simp [hi0]
              exact q2.nx _ _ ⟨rfl, step (by rw [hb']; rfl), _, _, _, rfl⟩
          · rw [if_neg hn] at hb
            simp [hn]
            exact q2.ex _ _ _ _ (q1.ex _ _ _ _ (q0.ex _ _ _ _ ⟨rfl, rfl, i, hlt, hw, by rw [hb]; simpa using hn, by rw [hb]⟩))
        · rintro g s' ⟨rfl, hw, a, b, c, rfl⟩
          refine q1.nx _ _ ?_
          simp
          exact q0.nx _ _ ⟨rfl, rfl, by simpa using hw⟩
      have key := key.out
      have er : rErr (.tup xs) = ((List.range xs.length).find? fun i => !isNon (badAt xs i)).map fun i => (.int (i : Nat), badAt xs i) := if_pos hl
      rw [er]
      cases hr : callF T (callsAt T (n+2)) 25 [.tup xs] s with
      | ok d s' =>
        rw [hr] at key
        obtain ⟨rfl, rfl, hw⟩ := key
        rw [find_no fun j hj => by simp [hw j hj]]
        rfl
      | ex c ys s' =>
        rw [hr] at key
        obtain ⟨rfl, rfl, i, hi, hw, hb, rfl⟩ := key
        rw [find_at hi (by simp [hb]) fun j hj => by simp [hw j hj]]
        rfl
      | no => rw [hr] at key; exact key.elim
    · have er : rErr (.tup xs) = some (.non, .str "runs") := if_neg hl
      rw [er]
      refine ckR_ex (Oc.callL (d := f25) rfl rfl fun P0 q0 => ?_)
      simp only [f25, b25, startG]
      simp [subBt]
      by_cases h1 : (1 : Int) ≤ xs.length
      · have h2 : ¬ (xs.length : Int) ≤ 6 := by omega
        simp [h1, h2]
        exact q0.ex _ _ _ _ ⟨rfl, rfl, rfl⟩
      · simp [h1]
        exact q0.ex _ _ _ _ ⟨rfl, rfl, rfl⟩
  all_goals
    first
    | (simp [dp, toPz] at h; done)
    | (refine ckR_ex (Oc.callL (d := f25) rfl rfl fun P0 q0 => ?_)
       simp only [f25, b25, startG]
       simp [subBt]
       exact q0.ex _ _ _ _ ⟨rfl, rfl, rfl⟩)
theorem badAt_kind (xs : List D) (i : Nat) : badAt xs i = .non ∨ ∃ x, badAt xs i = .str x ∧ (x = "run" ∨ x = "kind" ∨ x = "length" ∨ x = "same") := by
  unfold badAt
  split
  · split
    · split
      · exact .inr ⟨_, rfl, .inr (.inr (.inr rfl))⟩
      · exact .inl rfl
    · rename_i v _ _
      rcases runW_str v with e | ⟨x, e, h⟩
      · exact .inl e
      · exact .inr ⟨x, e, by rcases h with h | h | h <;> simp [h]⟩
  · exact .inl rfl
theorem rErr_some {v : D} {a b : D} (h : rErr v = some (a, b)) : (a = .non ∧ b = .str "runs") ∨ ∃ i : Nat, i < 6 ∧ a = .int i ∧ ∃ x, b = .str x ∧ (x = "run" ∨ x = "kind" ∨ x = "length" ∨ x = "same") := by
  unfold rErr at h
  split at h
  · rename_i xs
    split at h
    · rename_i hl
      obtain ⟨i, h1, h2⟩ := Option.map_eq_some_iff.mp h
      have hp := List.find?_some h1
      have hm := List.mem_range.mp (List.mem_of_find?_eq_some h1)
      simp only [Prod.mk.injEq] at h2
      obtain ⟨rfl, rfl⟩ := h2
      rcases badAt_kind xs i with e | ⟨x, e, hx⟩
      · simp [e] at hp
      · exact .inr ⟨i, by omega, rfl, x, e, hx⟩
    · cases h
      exact .inl ⟨rfl, rfl⟩
  · cases h
    exact .inl ⟨rfl, rfl⟩
theorem rErr_none {v : D} (h : rErr v = none) : ∃ rs, v = runsD rs ∧ RunsOk rs := by
  unfold rErr at h
  split at h
  · rename_i xs
    split at h
    · rename_i hl
      rw [Option.map_eq_none_iff, List.find?_eq_none] at h
      have hw : wellTo xs xs.length := fun j hj => by
        have := h j (List.mem_range.mpr hj)
        simpa using this
      have ex : ∀ ys : List D, (∀ y ∈ ys, ∃ p, y = runD p ∧ RunOk p) → ∃ rs : List (Int × Int), ys = rs.map runD ∧ ∀ p ∈ rs, RunOk p := by
        intro ys
        induction ys with
        | nil => intro _; exact ⟨[], rfl, by simp⟩
        | cons y ys ih =>
          intro hy
          obtain ⟨p, rfl, hp⟩ := hy y List.mem_cons_self
          obtain ⟨rs, rfl, hrs⟩ := ih fun z hz => hy z (List.mem_cons_of_mem _ hz)
          exact ⟨p :: rs, rfl, by
            intro q hq
            rcases List.mem_cons.mp hq with rfl | hq
            · exact hp
            · exact hrs q hq⟩
      obtain ⟨rs, rfl, hrs⟩ := ex xs fun y hy => by
        obtain ⟨j, hj, e⟩ := List.mem_iff_getElem.mp hy
        obtain ⟨p, hp, hpo⟩ := hw.run hj hj
        rw [List.getElem?_eq_getElem hj] at hp
        exact ⟨p, by rw [← e]; exact Option.some.inj hp, hpo⟩
      simp only [List.length_map] at hl hw
      refine ⟨rs, rfl, hl.1, hl.2, hrs, fun i p q hp hq z => ?_⟩
      have hi : i + 1 < rs.length := (List.getElem?_eq_some_iff.mp hq).1
      have z1 := hw (i + 1) hi
      have e1 : (rs.map runD)[i + 1]? = some (runD q) := by simp [hq]
      have e2 : (rs.map runD)[i]? = some (runD p) := by simp [hp]
      rw [badAt_of e1] at z1
      split at z1
      · rw [if_pos] at z1
        · cases z1
        · simp [e2, knd_runD, z]
      · rename_i hn
        exact hn z1
    · cases h
  · cases h
theorem make_bad (n : Nat) (v a b : D) (s : Sto) (h : dp v = true) (he : rErr v = some (a, b)) : (callsAt T (n+5)).make 23 [v] s = .ex 21 [a, b] s := by
  show mkF T (callsAt T (n+4)) 23 [v] s = _
  unfold mkF
  rw [show T.cl.lookup 23 = some c23 from rfl]
  simp only
  rw [show T.fn.lookup c23.init = some f26 from rfl, if_pos (show c23.kind = 0 from rfl)]
  simp only
  have e : callF T (callsAt T (n+4)) c23.init [.loc s.length, v] (s ++ [.ins 23 [] []]) = .ex 21 [a, b] (s ++ [.ins 23 [] []]) := by
    rw [show c23.init = 26 from rfl, call_eq (d := f26) rfl rfl]
    simp only [f26, b26, startG]
    simp [c_check, h, he, ckR]
  rw [e, frzR_ex]
  rcases rErr_some he with ⟨rfl, rfl⟩ | ⟨i, _, rfl, x, rfl, _⟩
  · simp [locsLt, locLt]
  · simp [locsLt, locLt]
theorem rErr_runs {rs : List (Int × Int)} (h : RunsOk rs) : rErr (runsD rs) = none := by
  cases e : rErr (runsD rs) with
  | none => rfl
  | some p =>
    exfalso
    obtain ⟨a, b⟩ := p
    have hdp : dp (runsD rs) = true := by
      have : ∀ xs : List (Int × Int), ∃ ps, toPzs (xs.map runD) = some ps := by
        intro xs
        induction xs with
        | nil => exact ⟨_, by simp [toPzs]; rfl⟩
        | cons x xs ih =>
          obtain ⟨ps, hps⟩ := ih
          exact ⟨_, by simp [toPzs, runD, toPz, hps]; rfl⟩
      obtain ⟨ps, hps⟩ := this rs
      simp [dp, runsD, toPz, hps]
    have z := c_check 0 (runsD rs) [] hdp
    rw [c_check_runs 0 rs [] h, e] at z
    cases z
theorem c_whole (n : Nat) (v : D) (lo hi : Int) (s : Sto) (h : pl v = true) : (callsAt T (n+1)).call 54 [v, .int lo, .int hi] s = .ok (.bl (isI lo hi v)) s := by
  rw [at_succ, call_eq (d := f54) rfl rfl]
  simp only [f54, b54, startG]
  cases v <;> simp [isI, subBt, pl] at h ⊢
theorem lc_whole (n : Nat) (lo hi : Int) (xs : List D) (s : Sto) (h : ∀ x ∈ xs, pl x = true) (hl : xs.length ≤ 16777216) : lcR (fun a s => ((callsAt T (n+1)).call 54 [a, .int lo, .int hi] s).bind fun d s => .ok (some d) s) (.tup xs) s = .ok (.lst (xs.map fun v => .bl (isI lo hi v))) s := by
  rw [lcR_tup hl, lcG_pure (fun v => .bl (isI lo hi v)) fun a m => ?_]
  · rfl
  · rw [c_whole _ _ _ _ _ (h a m)]
    rfl
def pyR (p : Int × Int) : PyData := .tuple [.int p.1, .int p.2]
theorem toPys_runs : ∀ rs : List (Int × Int), toPys (rs.map runD) = some (rs.map pyR)
  | [] => rfl
  | p :: rs => by simp [toPys, toPys_runs rs, runD, toPy, pyR]
theorem lay_runs : ∀ rs : List (Int × Int), PyData.canLayAll0 (rs.map pyR) = true ∧ PyData.depthAll (rs.map pyR) ≤ 1
  | [] => by simp [PyData.canLayAll0, PyData.depthAll]
  | p :: rs => by
    have := lay_runs rs
    simp [PyData.canLayAll0, PyData.depthAll, PyData.depth, PyData.canLay0, this.1, pyR]
    have h2 := this.2
    omega
theorem eqv_runs : ∀ rs ss : List (Int × Int), PyData.eqvAll (rs.map pyR) (ss.map pyR) = decide (rs = ss)
  | [], [] => by simp [PyData.eqvAll]
  | [], _ :: _ => by simp [PyData.eqvAll]
  | _ :: _, [] => by simp [PyData.eqvAll]
  | (a, b) :: rs, (c, d) :: ss => by
    have := eqv_runs rs ss
    simp only [List.map_cons, PyData.eqvAll, this, pyR, PyData.eqv]
    by_cases h1 : a = c <;> by_cases h2 : b = d <;> by_cases h3 : rs = ss <;> simp [h1, h2, h3]
theorem eqD_rr (rs ss : List (Int × Int)) : eqD (runsD rs) (runsD ss) = some (decide (rs = ss)) := by
  have h1 := lay_runs rs
  have h2 := lay_runs ss
  rw [eqD_of (k := 2) (p := .tuple (rs.map pyR)) (q := .tuple (ss.map pyR)) (by decide) (by simp [runsD, toPy, toPys_runs]) (by simpa [PyData.canLay0] using h1.1) (by simp only [PyData.depth]; omega) (by simp [runsD, toPy, toPys_runs]) (by simpa [PyData.canLay0] using h2.1) (by simp only [PyData.depth]; omega)]
  simp only [PyData.eqv, eqv_runs]
theorem s_eq (n : Nat) (rs ss : List (Int × Int)) (s : Sto) : cmpD T (callsAt T (n+1)) .Eq (strD rs) (strD ss) s = .ok (.bl (decide (rs = ss))) s := by
  have h1 : ∀ n rs s, attD T (callsAt T n) 22 (strD rs) s = .ok (runsD rs) s := fun _ _ _ => rfl
  have e : (callsAt T (n+1)).call 42 [strD rs, strD ss] s = .ok (.bl (decide (rs = ss))) s := by
    rw [at_succ, call_eq (d := f42) rfl rfl]
    have e2 : ∀ C, cmpD T C .Eq (runsD rs) (runsD ss) s = .ok (.bl (decide (rs = ss))) s := fun C => by
      show blR (eqD (runsD rs) (runsD ss)) s = _
      rw [eqD_rr]
      rfl
    have e3 : ∀ s, isT T (.own 23) (strD ss) s = some true := fun s => rfl
    simp only [f42, b42, startG]
    simp [h1, e2, e3]
  show (if isCl T 23 && (T.fn.lookup 42).isSome && tgOkO T (tagD (strD ss) s) then ((callsAt T (n+1)).call 42 [strD rs, strD ss] s).calm else .no) = _
  rw [e]
  rfl
theorem s_ne (n : Nat) (rs ss : List (Int × Int)) (s : Sto) : cmpD T (callsAt T (n+2)) .NotEq (strD rs) (strD ss) s = .ok (.bl (decide (rs ≠ ss))) s := by
  have e : (callsAt T (n+2)).call 43 [strD rs, strD ss] s = .ok (.bl (decide (rs ≠ ss))) s := by
    rw [at_succ, call_eq (d := f43) rfl rfl]
    simp only [f43, b43, startG]
    by_cases h : rs = ss <;> simp [s_eq, h]
  show (if isCl T 23 && (T.fn.lookup 43).isSome && tgOkO T (tagD (strD ss) s) then ((callsAt T (n+2)).call 43 [strD rs, strD ss] s).calm else .no) = _
  rw [e]
  rfl
theorem s_eqp (n : Nat) (rs : List (Int × Int)) (v : D) (s : Sto) (hv : pl v = true) : cmpD T (callsAt T (n+1)) .Eq (strD rs) v s = .ok (.bl false) s := by
  have e : (callsAt T (n+1)).call 42 [strD rs, v] s = .ok (.bl false) s := by
    rw [at_succ, call_eq (d := f42) rfl rfl]
    have e3 : ∀ s, isT T (.own 23) v s = some false := fun s => by cases v <;> first | rfl | simp [pl] at hv
    simp only [f42, b42, startG]
    simp [e3]
  have et : tgOkO T (tagD v s) = true := by cases v <;> first | rfl | simp [pl] at hv
  show (if isCl T 23 && (T.fn.lookup 42).isSome && tgOkO T (tagD v s) then ((callsAt T (n+1)).call 42 [strD rs, v] s).calm else .no) = _
  rw [e, et]
  rfl
theorem s_nep (n : Nat) (rs : List (Int × Int)) (v : D) (s : Sto) (hv : pl v = true) : cmpD T (callsAt T (n+2)) .NotEq (strD rs) v s = .ok (.bl true) s := by
  have e : (callsAt T (n+2)).call 43 [strD rs, v] s = .ok (.bl true) s := by
    rw [at_succ, call_eq (d := f43) rfl rfl]
    simp only [f43, b43, startG]
    simp [s_eqp, hv]
  have et : tgOkO T (tagD v s) = true := by cases v <;> first | rfl | simp [pl] at hv
  show (if isCl T 23 && (T.fn.lookup 43).isSome && tgOkO T (tagD v s) then ((callsAt T (n+2)).call 43 [strD rs, v] s).calm else .no) = _
  rw [e, et]
  rfl
/-! ### texts: words, numbers in words -/
theorem bm_split (a b : Str) (hb : (b.length == 0) = false) (h : a.length + 2 ≤ 16777216) : bmD .split (.str a) [.str b] = some (.lst ((PySem.Txt.split a b).map .str)) := by
  show (if (!(b.length == 0) && Nat.ble (a.length + 2) 16777216) = true then some (D.lst ((PySem.Txt.split a b).map .str)) else none) = _
  rw [if_pos]
  rw [hb, Nat.ble_eq_true_of_le h]
  rfl
theorem strsOf_map (ys : List Str) : strsOf (ys.map .str) = some ys := by
  induction ys with
  | nil => rfl
  | cons y ys ih => simp [strsOf, ih]
theorem bm_join (a : Str) (ys : List Str) (h : (ys.map (·.length)).sum + ys.length * a.length ≤ 16777216) : bmD .join (.str a) [.lst (ys.map .str)] = some (.str (PySem.Txt.join a ys)) := by
  show ((strsOf (ys.map .str)).bind fun ys => if Nat.ble ((ys.map (·.length)).sum + ys.length * a.length) 16777216 then some (D.str (PySem.Txt.join a ys)) else none) = _
  rw [strsOf_map]
  simp only [Option.bind_some]
  rw [if_pos (Nat.ble_eq_true_of_le h)]
def blank1 : Str := " "
/-- the words of a text -/
def wordsF (a : Str) : List Str := (PySem.Txt.split a " ").filter fun w => decide (w ≠ "")
def isDg (c : Nat) : Bool := decide (c ∈ ("0123456789" : Str).cps.toList)
theorem isDg_iff (c : Nat) : isDg c = true ↔ 48 ≤ c ∧ c ≤ 57 := by
  have e : ("0123456789" : Str).cps.toList = [48, 49, 50, 51, 52, 53, 54, 55, 56, 57] := by decide +kernel
  unfold isDg
  rw [e]
  simp
  omega
/-- what number_in tells of a word of at most 31 signs -/
def numD (w : Str) : D := if 1 ≤ w.cps.size ∧ w.cps.size ≤ 31 ∧ (w.cps.toList.all isDg) = true then (if w.cps.toList[0]? = some 48 ∧ 1 < w.cps.size then .non else .int (PySem.NumText.digitsVal w.cps.toList : Nat)) else .non
theorem int_text (w : Str) (h1 : 1 ≤ w.cps.size) (h2 : w.cps.size ≤ 31) (h3 : (w.cps.toList.all isDg) = true) : PySem.intText? w = some ((PySem.NumText.digitsVal w.cps.toList : Nat) : Int) := by
  refine PySem.intText_digits (fun c hc => (isDg_iff c).mp (List.all_eq_true.mp h3 c hc)) (fun e => ?_) (by show w.cps.size ≤ 4300; omega)
  have : w.cps.toList.length = 0 := by rw [e]; rfl
  rw [Array.length_toList] at this
  omega
theorem len_s (C : Calls) (w : Str) (s : Sto) (h : w.cps.size ≤ 1000000) : biD T C .len [.str w] s = .ok (.int (w.cps.size : Nat)) s := by
  have hs : small w.length = true := smallLe (by show w.cps.size ≤ 16777216; omega)
  have e : biD T C .len [.str w] s = (if small w.length = true then .ok (.int (w.length : Nat)) s else .no) := rfl
  rw [e, if_pos hs]
  rfl
theorem ix_s (C : Calls) (w : Str) (k : Int) (j : Nat) (c : Nat) (s : Sto) (h : w.cps.size ≤ 1000000) (hj : ixN w.cps.toList.length k = some j) (hc : w.cps.toList[j]? = some c) : idxD T C (.str w) (.int k) s = .ok (.str ⟨#[c]⟩) s := by
  have hs : small w.length = true := smallLe (by show w.cps.size ≤ 16777216; omega)
  show optR (if small w.length then ((ixN w.cps.toList.length k).bind fun j => w.cps.toList[j]?).map fun c => D.str ⟨#[c]⟩ else none) s = _
  rw [if_pos hs, hj]
  simp only [Option.bind_some, hc, Option.map_some]
  rfl
theorem bad_signs (w : Str) (s : Sto) (h : w.cps.size ≤ 1000000) : lcR (fun y s => (blR (cmpB .NotIn y (.str "0123456789")) s).bind fun b s => tstR b (R.ok (some y) s) (R.ok none s)) (.str w) s = .ok (.lst ((w.cps.toList.filter fun c => !isDg c).map fun c => D.str ⟨#[c]⟩)) s := by
  have key : ∀ c : Nat, cmpB .NotIn (.str ⟨#[c]⟩) (.str "0123456789") = some (!isDg c) := fun c => rfl
  rw [lcR_str (by omega)]
  unfold chsD
  have h1 : ∀ c ∈ w.cps.toList, ((blR (cmpB .NotIn (.str ⟨#[c]⟩) (.str "0123456789")) s).bind fun b s => tstR b (R.ok (some (D.str ⟨#[c]⟩)) s) (R.ok none s)) = R.ok (if !isDg c then some (D.str ⟨#[c]⟩) else none) s := fun c _ => by
    rw [key]
    cases isDg c <;> rfl
  rw [lcsG_map, lcsG_eq fun c m => ⟨_, h1 c m⟩, lcG_filt (fun c => !isDg c) (fun c => D.str ⟨#[c]⟩) h1]
  rfl
def Asc (w : Str) : Prop := ∀ c ∈ w.cps.toList, c < 128
theorem sign_ok {c : Nat} (h : c < 128) : PyData.strOk ⟨#[c]⟩ = true := by
  have key : ∀ k : Nat, k < 128 → PyData.strOk ⟨#[k]⟩ = true := by decide +kernel
  exact key c h
theorem eq_strs (l : List Nat) (h : ∀ c ∈ l, c < 128) : eqD (.lst (l.map fun c => D.str ⟨#[c]⟩)) (.lst []) = some l.isEmpty := by
  rw [eqD_lnil (k := 1) (fun x hx => ?_) (by omega), List.isEmpty_map]
  obtain ⟨c, hc, rfl⟩ := List.mem_map.mp hx
  exact (Sp.str (sign_ok (h c hc))).mono (by omega)
theorem c_number (n : Nat) (w : Str) (s : Sto) (hl : w.cps.size ≤ 1000000) (ha : Asc w) : (callsAt T (n+1)).call 309 [.str w, .int 31] s = .ok (numD w) s := by
  have hln := fun C s => len_s C w s hl
  have hbad := fun s => bad_signs w s hl
  have hq := eq_strs (w.cps.toList.filter fun c => !isDg c) fun c hc => ha c (List.mem_filter.mp hc).1
  have hne : ∀ C s, cmpD T C .NotEq (.lst ((w.cps.toList.filter fun c => !isDg c).map fun c => D.str ⟨#[c]⟩)) (.lst []) s = .ok (.bl (!(w.cps.toList.filter fun c => !isDg c).isEmpty)) s := fun C s => by
    rw [cmpD_ne rfl, hq]
    rfl
  have hall : (w.cps.toList.filter fun c => !isDg c).isEmpty = w.cps.toList.all isDg := by
    rw [Bool.eq_iff_iff, List.isEmpty_iff, List.filter_eq_nil_iff, List.all_eq_true]
    simp
  rw [hall] at hne
  rw [at_succ, call_eq (d := f309) rfl rfl]
  simp only [f309, b309, startG]
  unfold numD
  by_cases h1 : 1 ≤ w.cps.size ∧ w.cps.size ≤ 31
  · by_cases h3 : (w.cps.toList.all isDg) = true
    · rw [if_pos ⟨h1.1, h1.2, h3⟩]
      rw [h3] at hne
      obtain ⟨c, hc⟩ : ∃ c, w.cps.toList[0]? = some c := ⟨_, List.getElem?_eq_getElem (show 0 < w.cps.toList.length by rw [Array.length_toList]; omega)⟩
      have hi0 := fun C s => ix_s C w 0 0 c s hl (by rw [Array.length_toList, ixN_int (by omega) (by omega)]; rfl) hc
      have hit := int_text w h1.1 h1.2 h3
      have hint : ∀ C s, biD T C .int [.str w] s = .ok (.int (PySem.NumText.digitsVal w.cps.toList : Nat)) s := fun C s => by
        show (optR (if Nat.ble w.length 640 = true then PySem.intText? w else none) s).bind (fun i s => R.ok (D.int i) s) = _
        rw [if_pos (show Nat.ble w.length 640 = true from Nat.ble_eq_true_of_le (show w.cps.size ≤ 640 by omega)), hit]
        rfl
      have b1 : (1 : Int) ≤ (w.cps.size : Nat) ∧ ((w.cps.size : Nat) : Int) ≤ 31 := by omega
      have b2 : ((1 : Int) < (w.cps.size : Nat)) = (1 < w.cps.size) := by
        rw [eq_iff_iff]
        omega
      simp [hln, hbad, hne, hi0, hint, b1, b2, -Array.length_toList]
      have hc' : w.cps[0]? = some c := by rw [← Array.getElem?_toList]; exact hc
      have hz' : (({ cps := #[c] } : Str) = Str.ofString "0") ↔ c = 48 := by
        rw [show Str.ofString "0" = ⟨#[48]⟩ by decide +kernel]
        simp
      rw [hc']
      by_cases e : c = 48
      · by_cases e2 : 1 < w.cps.size
        · rw [if_pos ⟨hz'.mpr e, e2⟩, if_pos ⟨by rw [e], e2⟩]
        · rw [if_neg fun q => e2 q.2, if_neg fun q => e2 q.2]
      · rw [if_neg fun q => e (hz'.mp q.1), if_neg fun q => e (Option.some.inj q.1)]
    · have h3' := Bool.eq_false_iff.mpr h3
      rw [if_neg (fun q => h3 q.2.2)]
      rw [h3'] at hne
      simp [hln, hbad, hne, h1]
  · rw [if_neg (fun q => h1 ⟨q.1, q.2.1⟩)]
    have b1 : ¬ ((1 : Int) ≤ (w.cps.size : Nat) ∧ ((w.cps.size : Nat) : Int) ≤ 31) := by omega
    by_cases b2 : (1 : Int) ≤ (w.cps.size : Nat)
    · have b3 : ¬ ((w.cps.size : Nat) : Int) ≤ 31 := fun q => b1 ⟨b2, q⟩
      simp [hln, b2, b3]
    · simp [hln, b2]
/-! ### runs in words -/
def iniS (w : Str) : Str := ⟨w.cps.toList.dropLast.toArray⟩
theorem cut_init (xs : List Nat) : cutL xs none (some (-1)) = xs.dropLast := by
  have e1 : HT.sIx xs.length 0 none = 0 := rfl
  have e2 : HT.sIx xs.length xs.length (some (-1)) = xs.length - 1 := by
    show (if (-1 : Int) < 0 then ((-1 : Int) + (xs.length : Int)).toNat else min (-1 : Int).toNat xs.length) = _
    rw [if_pos (by omega)]
    omega
  unfold cutL
  rw [e1, e2, List.dropLast_eq_take]
  simp
theorem slc_init (w : Str) (h : w.cps.size ≤ 1000000) : slcD (.str w) none (some (-1)) = some (.str (iniS w)) := by
  have hs : small w.length = true := smallLe (by show w.cps.size ≤ 16777216; omega)
  show (if small w.length = true then some (D.str ⟨(cutL w.cps.toList none (some (-1))).toArray⟩) else none) = _
  rw [if_pos hs, cut_init]
  rfl
theorem ini_size (w : Str) : (iniS w).cps.size = w.cps.size - 1 := by simp [iniS]
theorem ini_asc {w : Str} (h : Asc w) : Asc (iniS w) := fun c hc => h c (List.dropLast_subset _ (by simpa [iniS] using hc))
def isLt (c : Nat) : Bool := decide (c ∈ ("abcd" : Str).cps.toList)
theorem isLt_iff (c : Nat) : isLt c = true ↔ 97 ≤ c ∧ c ≤ 100 := by
  have e : ("abcd" : Str).cps.toList = [97, 98, 99, 100] := by decide +kernel
  unfold isLt
  rw [e]
  simp
  omega
theorem ix_abcd {c : Nat} (h : isLt c = true) : bmD .index (.str "abcd") [.str ⟨#[c]⟩] = some (.int ((c - 97 : Nat) : Int)) := by
  have h2 := (isLt_iff c).mp h
  have e : ∀ k : Nat, 97 ≤ k → k ≤ 100 → PySem.Txt.index0 "abcd" ⟨#[k]⟩ = some (k - 97) := fun k k0 k1 => by
    obtain rfl | rfl | rfl | rfl : k = 97 ∨ k = 98 ∨ k = 99 ∨ k = 100 := by omega
    all_goals decide +kernel
  show (PySem.Txt.index0 "abcd" ⟨#[c]⟩).map (fun i => D.int (i : Nat)) = _
  rw [e c h2.1 h2.2]
  rfl
/-- the run that a word tells -/
def wordR (w : Str) (c : Nat) : D := match numD (iniS w) with
  | .int k => if (1 ≤ k ∧ k ≤ 1000000000000000000000000000000) ∧ isLt c = true then .tup [.int ((c - 97 : Nat) : Int), .int k] else .non
  | _ => .non
theorem c_run_in (n : Nat) (w : Str) (c : Nat) (s : Sto) (hl : w.cps.size ≤ 1000000) (ha : Asc w) (h1 : 1 ≤ w.cps.size) (hc : w.cps.toList[w.cps.size - 1]? = some c) : (callsAt T (n+2)).call 310 [.str w] s = .ok (wordR w c) s := by
  have hnum := c_number n (iniS w) s (by rw [ini_size]; omega) (ini_asc ha)
  have hix := fun C s => ix_s C w (-1) (w.cps.size - 1) c s hl (by rw [Array.length_toList]; exact ixN_neg1 (by omega)) hc
  have hin : cmpB .NotIn (.str ⟨#[c]⟩) (.str "abcd") = some (!isLt c) := rfl
  have hbm : bmOk .index (.str "abcd") = true := rfl
  rw [at_succ, call_eq (d := f310) rfl rfl]
  simp only [f310, b310, startG]
  unfold wordR
  have hcase : (∃ k, numD (iniS w) = .int k) ∨ numD (iniS w) = .non := by
    unfold numD
    split
    · split
      · exact Or.inr rfl
      · exact Or.inl ⟨_, rfl⟩
    · exact Or.inr rfl
  rcases hcase with ⟨k, e⟩ | e
  · rw [e] at hnum ⊢
    simp [slc_init w hl, hnum, hix, hin, hbm]
    by_cases hk : 1 ≤ k ∧ k ≤ 1000000000000000000000000000000
    · by_cases hlt : isLt c = true
      · rw [if_pos hk, if_neg (by rw [hlt]; decide), if_pos ⟨hk, hlt⟩]
        simp [ix_abcd hlt]
      · rw [if_pos hk, if_pos (Bool.eq_false_iff.mpr hlt), if_neg fun q => hlt q.2]
    · rw [if_neg hk, if_neg fun q => hk q.1]
  · rw [e] at hnum ⊢
    simp [slc_init w hl, hnum]
theorem dig_foldl (cs : List Nat) : ∀ a : Nat, 1 ≤ a → 1 ≤ cs.foldl (fun acc c => acc * 10 + (c - 48)) a := by
  induction cs with
  | nil => intro a h; exact h
  | cons c cs ih =>
    intro a h
    rw [List.foldl_cons]
    exact ih _ (by omega)
theorem dig_pos {cs : List Nat} {c : Nat} (h0 : cs[0]? = some c) (h : 49 ≤ c) : 1 ≤ PySem.NumText.digitsVal cs := by
  cases cs with
  | nil => simp at h0
  | cons d cs =>
    simp at h0
    subst h0
    unfold PySem.NumText.digitsVal
    rw [List.foldl_cons]
    exact dig_foldl cs _ (by omega)
theorem c_run_word_l (n : Nat) (w : Str) (c : Nat) (s : Sto) (hl : w.cps.size ≤ 1000000) (ha : Asc w) (h1 : 1 ≤ w.cps.size) (hc : w.cps.toList[w.cps.size - 1]? = some c) : (callsAt T (n+1)).call 60 [.str w] s = .ok (wordR w c) s := by
  have hl2 : (iniS w).cps.size ≤ 1000000 := by rw [ini_size]; omega
  have hix := fun C s => ix_s C w (-1) (w.cps.size - 1) c s hl (by rw [Array.length_toList]; exact ixN_neg1 (by omega)) hc
  have hin : cmpB .NotIn (.str ⟨#[c]⟩) (.str "abcd") = some (!isLt c) := rfl
  have hbm : bmOk .index (.str "abcd") = true := rfl
  have hln := fun C s => len_s C (iniS w) s hl2
  have hbad := fun s => bad_signs (iniS w) s hl2
  have hq := eq_strs ((iniS w).cps.toList.filter fun c => !isDg c) fun c hc => ini_asc ha c (List.mem_filter.mp hc).1
  have hne : ∀ C s, cmpD T C .NotEq (.lst (((iniS w).cps.toList.filter fun c => !isDg c).map fun c => D.str ⟨#[c]⟩)) (.lst []) s = .ok (.bl (!((iniS w).cps.toList.filter fun c => !isDg c).isEmpty)) s := fun C s => by
    rw [cmpD_ne rfl, hq]
    rfl
  have hall : ((iniS w).cps.toList.filter fun c => !isDg c).isEmpty = (iniS w).cps.toList.all isDg := by
    rw [Bool.eq_iff_iff, List.isEmpty_iff, List.filter_eq_nil_iff, List.all_eq_true]
    simp
  rw [hall] at hne
  have hp30 : binD .Pow (.int 10) (.int 30) = some (.int 1000000000000000000000000000000) := pow_10_30
  rw [at_succ, call_eq (d := f60) rfl rfl]
  simp only [f60, b60, startG]
  unfold wordR numD
  have hslc := slc_init w hl
  generalize iniS w = v at *
  by_cases h2 : 1 ≤ v.cps.size ∧ v.cps.size ≤ 31
  · have b1 : (1 : Int) ≤ (v.cps.size : Nat) ∧ ((v.cps.size : Nat) : Int) ≤ 31 := by omega
    by_cases h3 : (v.cps.toList.all isDg) = true
    · rw [if_pos ⟨h2.1, h2.2, h3⟩]
      rw [h3] at hne
      obtain ⟨d, hd⟩ : ∃ d, v.cps.toList[0]? = some d := ⟨_, List.getElem?_eq_getElem (show 0 < v.cps.toList.length by rw [Array.length_toList]; omega)⟩
      have hi0 := fun C s => ix_s C v 0 0 d s hl2 (by rw [Array.length_toList, ixN_int (by omega) (by omega)]; rfl) hd
      have hit := int_text v h2.1 h2.2 h3
      have hint : ∀ C s, biD T C .int [.str v] s = .ok (.int (PySem.NumText.digitsVal v.cps.toList : Nat)) s := fun C s => by
        show (optR (if Nat.ble v.length 640 = true then PySem.intText? v else none) s).bind (fun i s => R.ok (D.int i) s) = _
        rw [if_pos (show Nat.ble v.length 640 = true from Nat.ble_eq_true_of_le (show v.cps.size ≤ 640 by omega)), hit]
        rfl
      have hz' : (({ cps := #[d] } : Str) = Str.ofString "0") ↔ d = 48 := by
        rw [show Str.ofString "0" = ⟨#[48]⟩ by decide +kernel]
        simp
      simp [hslc, hln, hbad, hne, hi0, hint, b1, hix, hin, hbm, -Array.length_toList]
      have hd' : v.cps[0]? = some d := by rw [← Array.getElem?_toList]; exact hd
      have hdg := (isDg_iff d).mp (List.all_eq_true.mp h3 d (List.mem_of_getElem? hd))
      rw [hd']
      by_cases e : d = 48
      · rw [if_pos (hz'.mpr e)]
        by_cases e2 : 1 < v.cps.size
        · rw [if_pos ⟨by rw [e], e2⟩]
        · rw [if_neg fun q => e2 q.2]
          have hv : v.cps.toList = [48] := by
            have hlen : v.cps.toList.length = 1 := by rw [Array.length_toList]; omega
            obtain ⟨z, hz⟩ := List.length_eq_one_iff.mp hlen
            rw [hz] at hd
            simp at hd
            rw [hz, hd, e]
          rw [hv]
          rfl
      · rw [if_neg (fun q : ({ cps := #[d] } : Str) = Str.ofString "0" => e (hz'.mp q)), if_neg (fun q : some d = some 48 ∧ 1 < v.cps.size => e (Option.some.inj q.1))]
        have hp := dig_pos hd (by omega)
        show _ = R.ok (if (1 ≤ ((PySem.NumText.digitsVal v.cps.toList : Nat) : Int) ∧ ((PySem.NumText.digitsVal v.cps.toList : Nat) : Int) ≤ 1000000000000000000000000000000) ∧ isLt c = true then D.tup [.int ((c - 97 : Nat) : Int), .int (PySem.NumText.digitsVal v.cps.toList : Nat)] else .non) s
        by_cases hlt : isLt c = true
        · by_cases hk : 1000000000000000000000000000000 < ((PySem.NumText.digitsVal v.cps.toList : Nat) : Int)
          · rw [if_pos (Or.inr hk), if_neg fun q => by have := q.1.2; omega]
          · have hor : ¬ (isLt c = false ∨ 1000000000000000000000000000000 < ((PySem.NumText.digitsVal v.cps.toList : Nat) : Int)) := by
              rintro (q | q)
              · rw [hlt] at q
                cases q
              · exact hk q
            rw [if_neg hor, if_pos ⟨⟨by omega, by omega⟩, hlt⟩]
            simp [ix_abcd hlt]
        · rw [if_pos (Or.inl (Bool.eq_false_iff.mpr hlt)), if_neg fun q => hlt q.2]
    · have h3' := Bool.eq_false_iff.mpr h3
      rw [if_neg (fun q => h3 q.2.2)]
      rw [h3'] at hne
      simp [hslc, hln, hbad, hne, b1]
  · rw [if_neg (fun q => h2 ⟨q.1, q.2.1⟩)]
    have b1 : ¬ ((1 : Int) ≤ (v.cps.size : Nat) ∧ ((v.cps.size : Nat) : Int) ≤ 31) := by omega
    by_cases b2 : (1 : Int) ≤ (v.cps.size : Nat)
    · have b3 : ¬ ((v.cps.size : Nat) : Int) ≤ 31 := fun q => b1 ⟨b2, q⟩
      simp [hslc, hln, b2, b3]
    · simp [hslc, hln, b2]
/-! ### texts: what split gives -/
theorem mem_strSub {x : Str} {i j c : Nat} (h : c ∈ (PySem.Builtin.Str.strSub x i j).cps.toList) : c ∈ x.cps.toList := by
  unfold PySem.Builtin.Str.strSub at h
  have h' : c ∈ x.cps.extract i j := by
    first
    | exact Array.mem_toList_iff.mp h
    | simpa using h
  have := Array.mem_extract_iff_getElem.mp h'
  obtain ⟨k, hk, e⟩ := this
  rw [← e]
  exact Array.mem_toList_iff.mpr (Array.getElem_mem _)
theorem split_in {a b w : Str} (h : w ∈ PySem.Txt.split a b) : (∀ c ∈ w.cps.toList, c ∈ a.cps.toList) ∧ w.cps.size ≤ a.cps.size := by
  unfold PySem.Txt.split at h
  split at h
  · rw [List.mem_singleton.mp h]
    exact ⟨fun c hc => hc, Nat.le_refl _⟩
  · split at h
    · rw [List.mem_singleton.mp h]
      exact ⟨fun c hc => hc, Nat.le_refl _⟩
    · unfold PySem.Builtin.Str.partsBetween at h
      obtain ⟨p, _, rfl⟩ := List.mem_map.mp h
      exact ⟨fun c hc => mem_strSub hc, strSub_length_le ..⟩
structure WordOk (m : Nat) (w : Str) : Prop where
  ne : 1 ≤ w.cps.size
  le : w.cps.size ≤ m
  asc : Asc w
theorem size_ne {w : Str} (h : w ≠ "") : 1 ≤ w.cps.size := by
  refine Nat.pos_of_ne_zero fun e => h ?_
  have : w.cps = #[] := Array.eq_empty_of_size_eq_zero e
  cases w
  simp only at this
  subst this
  rfl
theorem words_ok {m : Nat} {a : Str} (ha : Asc a) (h : a.cps.size ≤ m) : (∀ w ∈ wordsF a, WordOk m w) ∧ (wordsF a).length ≤ m + 2 := by
  unfold wordsF
  refine ⟨fun w hw => ?_, ?_⟩
  · obtain ⟨h1, h2⟩ := List.mem_filter.mp hw
    have := split_in h1
    exact ⟨size_ne (by simpa using h2), Nat.le_trans this.2 h, fun c hc => ha c (this.1 c hc)⟩
  · refine Nat.le_trans (List.length_filter_le _ _) (Nat.le_trans (PyProof.Rows.split_le a _) ?_)
    show a.cps.size + 2 ≤ _
    omega
/-! ### what the words of a text tell -/
def lastC (w : Str) : Nat := (w.cps.toList[w.cps.size - 1]?).getD 0
def wR (w : Str) : D := wordR w (lastC w)
theorem WordOk.last {m : Nat} {w : Str} (h : WordOk m w) : w.cps.toList[w.cps.size - 1]? = some (lastC w) := by
  have hl : w.cps.size - 1 < w.cps.toList.length := by
    rw [Array.length_toList]
    have := h.ne
    omega
  unfold lastC
  rw [List.getElem?_eq_getElem hl]
  rfl
theorem wR_run (w : Str) : wR w = .non ∨ ∃ p, wR w = runD p ∧ RunOk p := by
  unfold wR wordR
  split
  · rename_i k _
    split
    · rename_i h
      have := (isLt_iff _).mp h.2
      exact .inr ⟨(((lastC w - 97 : Nat) : Int), k), rfl, by omega, by simp only; omega, h.1.1, h.1.2⟩
    · exact .inl rfl
  · exact .inl rfl
def badW (ws : List Str) (i : Nat) : Bool := decide (i = 6) || (match ws[i]? with | some w => isNon (wR w) | none => false)
def fineTo (ws : List Str) (i : Nat) : Prop := ∀ j, j < i → badW ws j = false
theorem fineTo.step {ws : List Str} {i : Nat} (h : fineTo ws i) (hi : badW ws i = false) : fineTo ws (i + 1) := fun j hj => by
  rcases Nat.lt_or_eq_of_le (Nat.le_of_lt_succ hj) with hj | rfl
  · exact h j hj
  · exact hi
theorem fineTo.le {ws : List Str} (h : fineTo ws ws.length) : ws.length ≤ 6 := Nat.le_of_not_lt fun z => by
  have := h 6 z
  simp [badW] at this
theorem fineTo.runs {ws : List Str} {i : Nat} (h : fineTo ws i) (hi : i ≤ ws.length) : ∃ rs : List (Int × Int), (ws.take i).map wR = rs.map runD ∧ ∀ p ∈ rs, RunOk p := by
  induction i with
  | zero => exact ⟨[], rfl, by simp⟩
  | succ i ih =>
    obtain ⟨rs, e, hr⟩ := ih (fun j hj => h j (by omega)) (by omega)
    have hb := h i (by omega)
    unfold badW at hb
    rw [List.getElem?_eq_getElem (show i < ws.length by omega)] at hb
    simp only [Bool.or_eq_false_iff] at hb
    rcases wR_run ws[i] with z | ⟨p, z, hp⟩
    · rw [z] at hb
      exact absurd hb.2 (by decide)
    · refine ⟨rs ++ [p], ?_, ?_⟩
      · rw [List.take_succ_eq_append_getElem (show i < ws.length by omega), List.map_append, e, List.map_append]
        simp [z]
      · intro q hq
        rcases List.mem_append.mp hq with hq | hq
        · exact hr q hq
        · rw [List.mem_singleton.mp hq]
          exact hp
/-- what is due: the runs, or the error in a list -/
def dueW (ws : List Str) : D := match (List.range ws.length).find? (badW ws) with
  | some i => .lst [.str "BadText", .int (i : Nat)]
  | none => if ws.length = 0 then .lst [.str "BadText", .int 0] else (match rErr (.tup (ws.map wR)) with
    | none => .tup (ws.map wR)
    | some (a, b) => .lst [.str "BadString", a, b])
theorem dueW_bad {ws : List Str} {i : Nat} (hi : i < ws.length) (h : badW ws i = true) (hf : fineTo ws i) : dueW ws = .lst [.str "BadText", .int (i : Nat)] := by
  unfold dueW
  rw [find_at hi h hf]
theorem dueW_none {ws : List Str} (hl : ws.length = 0) : dueW ws = .lst [.str "BadText", .int 0] := by
  unfold dueW
  rw [find_no fun j hj => by omega]
  simp only
  rw [if_pos hl]
theorem dueW_fine {ws : List Str} (hl : ws.length ≠ 0) (hf : fineTo ws ws.length) : dueW ws = (match rErr (.tup (ws.map wR)) with
    | none => .tup (ws.map wR)
    | some (a, b) => .lst [.str "BadString", a, b]) := by
  unfold dueW
  rw [find_no hf]
  simp only
  rw [if_neg hl]
theorem fineTo.row {ws : List Str} (h : fineTo ws ws.length) (h0 : ws.length ≠ 0) : ∃ rs : List (Int × Int), ws.map wR = rs.map runD ∧ (∀ p ∈ rs, RunOk p) ∧ 1 ≤ rs.length ∧ rs.length ≤ 6 := by
  obtain ⟨rs, e, hr⟩ := h.runs (Nat.le_refl _)
  rw [List.take_length] at e
  have hl : ws.length = rs.length := by
    have := congrArg List.length e
    simpa using this
  have := h.le
  exact ⟨rs, e, hr, by omega, by omega⟩
theorem dp_runs (rs : List (Int × Int)) : dp (.tup (rs.map runD)) = true := by
  have : ∀ xs : List (Int × Int), ∃ ps, toPzs (xs.map runD) = some ps := by
    intro xs
    induction xs with
    | nil => exact ⟨_, by simp [toPzs]; rfl⟩
    | cons x xs ih =>
      obtain ⟨ps, hps⟩ := ih
      exact ⟨_, by simp [toPzs, runD, toPz, hps]; rfl⟩
  obtain ⟨ps, hps⟩ := this rs
  simp [dp, toPz, hps]
theorem rErr_row {rs : List (Int × Int)} (h1 : 1 ≤ rs.length) (h2 : rs.length ≤ 6) : rErr (.tup (rs.map runD)) = ((List.range rs.length).find? fun i => !isNon (badAt (rs.map runD) i)).map fun i => (.int (i : Nat), badAt (rs.map runD) i) := by
  have hl : 1 ≤ (rs.map runD).length ∧ (rs.map runD).length ≤ 6 := by
    rw [List.length_map]
    exact ⟨h1, h2⟩
  have er : rErr (.tup (rs.map runD)) = ((List.range (rs.map runD).length).find? fun i => !isNon (badAt (rs.map runD) i)).map fun i => (.int (i : Nat), badAt (rs.map runD) i) := if_pos hl
  rw [List.length_map] at er
  exact er
theorem runW_ok {p : Int × Int} (h : RunOk p) : runW (runD p) = .non := by
  obtain ⟨h1, h2, h3, h4⟩ := h
  simp [runW, runD, h1, h2, h3, h4]
/-! ### words of texts, texts of runs -/
theorem c_words (n : Nat) (a : Str) (s : Sto) (h : a.cps.size ≤ 1000000) : (callsAt T (n+1)).call 308 [.str a] s = .ok (.lst ((wordsF a).map .str)) s := by
  have hb := bm_split a " " rfl (by show a.cps.size + 2 ≤ _; omega)
  have hl : ((PySem.Txt.split a " ").map D.str).length ≤ 16777216 := by
    rw [List.length_map]
    exact Nat.le_trans (PyProof.Rows.split_le a _) (by show a.cps.size + 2 ≤ _; omega)
  have ho : bmOk .split (.str a) = true := rfl
  rw [at_succ, call_eq (d := f308) rfl rfl]
  simp only [f308, b308, startG]
  simp [hb, ho, lcR_lst hl, wordsF]
theorem c_words_l (n : Nat) (a : Str) (s : Sto) (h : a.cps.size ≤ 1000000) : (callsAt T (n+1)).call 326 [.str a] s = .ok (.lst ((wordsF a).map .str)) s := by
  have hb := bm_split a " " rfl (by show a.cps.size + 2 ≤ _; omega)
  have hl : ((PySem.Txt.split a " ").map D.str).length ≤ 16777216 := by
    rw [List.length_map]
    exact Nat.le_trans (PyProof.Rows.split_le a _) (by show a.cps.size + 2 ≤ _; omega)
  have ho : bmOk .split (.str a) = true := rfl
  rw [at_succ, call_eq (d := f326) rfl rfl]
  simp only [f326, b326, startG]
  simp [hb, ho, lcR_lst hl, wordsF]
theorem asc_append {x y : Str} (hx : Asc x) (hy : Asc y) : Asc (x ++ y) := by
  intro c hc
  have e : (x ++ y).cps.toList = x.cps.toList ++ y.cps.toList := by
    show (x.cps ++ y.cps).toList = _
    simp
  rw [e] at hc
  rcases List.mem_append.mp hc with h | h
  · exact hx c h
  · exact hy c h
theorem asc_by {x : Str} (h : x.cps.toList.all (fun c => decide (c < 128)) = true) : Asc x := fun c hc => of_decide_eq_true (List.all_eq_true.mp h c hc)
theorem asc_whole (i : Int) : Asc (Str.ofString (toString i)) := by
  intro c hc
  have e : (Str.ofString (toString i)).cps.toList = (toString i).toList.map Char.toNat := by
    rw [Str.ofString_eq_toList]
  rw [e] at hc
  obtain ⟨z, hz, rfl⟩ := List.mem_map.mp hc
  rcases PyProof.Rows.int_sign i z hz with q | q
  · unfold Char.isDigit at q
    simp only [Bool.and_eq_true, decide_eq_true_eq] at q
    have q3 : z.toNat ≤ 57 := UInt32.le_iff_toNat_le.mp q.2
    omega
  · subst q
    decide
theorem len_app (x y : Str) : (x ++ y).cps.size = x.cps.size + y.cps.size := by
  show (x.cps ++ y.cps).size = _
  simp
theorem len_whole {i : Int} (h : i.natAbs < 10 ^ 90) : (Str.ofString (toString i)).cps.size ≤ 91 := by
  have := PySem.int_text_length_le10 (a := i) (k := 90) (by decide) h
  rw [show (Str.ofString (toString i)).cps.size = (toString i).length by rw [Str.ofString_eq_toList]; simp; rfl]
  exact this
/-! ### read_string -/
theorem wR_call (n : Nat) {m : Nat} {w : Str} (h : WordOk m w) (hm : m ≤ 1000000) (s : Sto) : (callsAt T (n+2)).call 310 [.str w] s = .ok (wR w) s :=
  c_run_in n w (lastC w) s (Nat.le_trans h.le hm) h.asc h.ne h.last
theorem wR_call_l (n : Nat) {m : Nat} {w : Str} (h : WordOk m w) (hm : m ≤ 1000000) (s : Sto) : (callsAt T (n+1)).call 60 [.str w] s = .ok (wR w) s :=
  c_run_word_l n w (lastC w) s (Nat.le_trans h.le hm) h.asc h.ne h.last
theorem c_check_text (n : Nat) (a : Str) (s : Sto) : (callsAt T (n+1)).call 323 [.str a] s = .ok .non s := by
  rw [at_succ, call_eq (d := f323) rfl rfl]
  simp only [f323, b323, startG]
  simp [subBt]
theorem badW_at {ws : List Str} {i : Nat} {w : Str} (h : ws[i]? = some w) : badW ws i = (decide (i = 6) || isNon (wR w)) := by
  unfold badW
  rw [h]
theorem rErr_out {rs : List (Int × Int)} (h : rErr (.tup (rs.map runD)) = none) : RunsOk rs := by
  obtain ⟨qs, e, hq⟩ := rErr_none h
  have e2 : rs.map runD = qs.map runD := by
    have : D.tup (rs.map runD) = D.tup (qs.map runD) := e
    exact D.tup.inj this
  have inj : ∀ p q : Int × Int, runD p = runD q → p = q := fun p q z => by
    simp [runD] at z
    exact Prod.ext z.1 z.2
  have e3 : rs = qs := by
    have h1 : ∀ (l m : List (Int × Int)), l.map runD = m.map runD → l = m := by
      intro l
      induction l with
      | nil =>
        intro m z
        cases m with
        | nil => rfl
        | cons q m => cases z
      | cons p l ih =>
        intro m z
        cases m with
        | nil => cases z
        | cons q m =>
          simp only [List.map_cons, List.cons.injEq] at z
          rw [inj p q z.1, ih m z.2]
    exact h1 _ _ e2
  rw [e3]
  exact hq
theorem c_read (n : Nat) (a : Str) (s : Sto) (h : a.cps.size ≤ 1000000) (ha : Asc a) : Oc ((callsAt T (n+7)).call 324 [.str a] s) (fun d s' => s' = s ∧ ∃ rs, RunsOk rs ∧ d = strD rs ∧ dueW (wordsF a) = runsD rs)
    (fun k ys s' => s' = s ∧ ((k = 38 ∧ ∃ x, ys = [x] ∧ dueW (wordsF a) = .lst [.str "BadText", x]) ∨ (k = 21 ∧ ∃ x y, ys = [x, y] ∧ dueW (wordsF a) = .lst [.str "BadString", x, y]))) := by
  have hw := words_ok ha h
  have hcw := fun s => c_words (n + 5) a s h
  have hct := fun s => c_check_text (n + 5) a s
  rw [at_succ]
  refine Oc.callL (d := f324) rfl rfl fun P0 q0 => ?_
  simp only [f324, b324, startG]
  generalize wordsF a = ws at *
  simp [hct, hcw, forF, seqOf]
  refine Hf.seqL fun P1 q1 => Hf.forK (fun i g s' => s' = s ∧ fineTo ws i ∧ ∃ b c d, g = [.sh (.str a), .sh (.lst (ws.map .str)), .ow (.lst ((ws.map wR).take i)), b, c, d]) ⟨rfl, fun j hj => by omega, _, _, _, rfl⟩ ?_ ?_
  · rintro i ⟨x, k⟩ g s' P2 hx hi ⟨rfl, hf, b, c, d, rfl⟩ q2
    simp [List.getElem?_zipIdx] at hx
    obtain ⟨w, hx, rfl, rfl⟩ := hx
    have hlt : i < ws.length := (List.getElem?_eq_some_iff.mp hx).1
    have hwo := hw.1 w (List.mem_of_getElem? hx)
    have hb := badW_at hx
    simp [wR_call (n + 4) hwo (by omega)]
    rcases wR_run w with e | ⟨p, e, hp⟩
    · rw [e] at hb ⊢
      simp
      refine q2.ex _ _ _ _ (q1.ex _ _ _ _ (q0.ex _ _ _ _ ⟨rfl, .inl ⟨rfl, _, rfl, ?_⟩⟩))
      exact dueW_bad hlt (by rw [hb]; simp) hf
    · rw [e] at hb ⊢
      by_cases h6 : i = 6
      · subst h6
        simp [runD]
        refine q2.ex _ _ _ _ (q1.ex _ _ _ _ (q0.ex _ _ _ _ ⟨rfl, .inl ⟨rfl, _, rfl, ?_⟩⟩))
        exact dueW_bad hlt (by rw [hb]; rfl) hf
      · have h6' : ¬ (i : Int) = 6 := by omega
        have hl6 : small (min i ws.length + 1) = true := smallLe (by
          have := hw.2
          omega)
        simp [runD, h6', hl6]
        have e3 : ws[i] = w := by
          rw [List.getElem?_eq_getElem hlt] at hx
          exact Option.some.inj hx
        have e4 : (ws.map wR).take (i + 1) = (ws.map wR).take i ++ [.tup [.int p.1, .int p.2]] := by
          rw [List.take_succ_eq_append_getElem (by rw [List.length_map]; exact hlt)]
          simp [e3, e, runD]
        rw [← e4]
        exact q2.nx _ _ ⟨rfl, hf.step (by rw [hb]; simp [h6, runD]), _, _, _, rfl⟩
  · rintro g s' ⟨rfl, hf, b, c, d, rfl⟩
    refine q1.nx _ _ ?_
    simp at hf
    by_cases h0 : ws.length = 0
    · have hnil : ws = [] := List.eq_nil_of_length_eq_zero h0
      subst hnil
      simp
      exact q0.ex _ _ _ _ ⟨rfl, .inl ⟨rfl, _, rfl, dueW_none rfl⟩⟩
    · obtain ⟨rs, e, hr, l1, l2⟩ := hf.row h0
      have hd := dueW_fine h0 hf
      have hne : eqD (.lst (rs.map runD)) (.lst []) = some false := by
        rw [eqD_lnil (k := 1) (fun x hx => ?_) (by omega)]
        · cases rs with
          | nil => simp at l1
          | cons p rs => rfl
        · obtain ⟨p, _, rfl⟩ := List.mem_map.mp hx
          exact Sp.tup (Sp.ints [p.1, p.2])
      rw [e] at hd
      have e2 : (rs.map runD).take ws.length = rs.map runD := by
        rw [← e]
        exact List.take_of_length_le (by rw [List.length_map]; exact Nat.le_refl _)
      simp [e, e2, hne]
      cases er : rErr (.tup (rs.map runD)) with
      | none =>
        rw [er] at hd
        have hro := rErr_out er
        have := c_make (n + 1) rs s' hro
        simp [runsD] at this
        simp [this]
        exact q0.rt _ _ ⟨rfl, rs, hro, rfl, hd⟩
      | some p =>
        obtain ⟨x, y⟩ := p
        rw [er] at hd
        simp [make_bad (n + 1) _ _ _ _ (dp_runs rs) er]
        exact q0.ex _ _ _ _ ⟨rfl, .inr ⟨rfl, x, y, rfl, hd⟩⟩
/-! ### what is due, what is told -/
theorem asc_ok {w : Str} (h : Asc w) : PyData.strOk w = true := by
  show w.cps.all (fun c => decide (c < 0x110000)) = true
  rw [Array.all_eq_true]
  intro i hi
  have := h w.cps[i] (Array.mem_toList_iff.mpr (Array.getElem_mem hi))
  simp
  omega
def errW (rs : List (Int × Int)) : D := match rErr (.tup (rs.map runD)) with
  | none => .non
  | some (a, b) => .tup [a, b]
theorem c_sword (n : Nat) (rs : List (Int × Int)) (s : Sto) (hr : ∀ p ∈ rs, RunOk p) (h1 : 1 ≤ rs.length) (h2 : rs.length ≤ 6) : (callsAt T (n+2)).call 294 [.tup (rs.map runD)] s = .ok (errW rs) s := by
  apply Ok.eq
  rw [at_succ]
  have er := rErr_row h1 h2
  have i1 : (1 : Int) ≤ rs.length := by omega
  have i2 : (rs.length : Int) ≤ 6 := by omega
  refine Ok.callL (d := f294) rfl rfl fun P0 q0 => ?_
  simp only [f294, b294, startG]
  simp [subBt, i1, i2, forF, seqOf]
  refine Hf.seqL fun P1 q1 => Hf.forK (fun i g s' => s' = s ∧ wellTo (rs.map runD) i ∧ ∃ a b, g = [.sh (.tup (rs.map runD)), a, b]) ⟨rfl, fun j hj => by omega, _, _, rfl⟩ ?_ ?_
  · rintro i ⟨x, k⟩ g s' P2 hx hi ⟨rfl, hw, a, b, rfl⟩ q2
    simp [List.getElem?_zipIdx] at hx
    obtain ⟨u, w, hp, rfl, rfl⟩ := hx
    generalize hup : (u, w) = p at hp
    have eu : u = p.1 := by rw [← hup]
    have ew : w = p.2 := by rw [← hup]
    subst eu ew
    have hlt : i < rs.length := (List.getElem?_eq_some_iff.mp hp).1
    have hro := hr p (List.mem_of_getElem? hp)
    have hx' : (rs.map runD)[i]? = some (runD p) := by simp [hp]
    have hb := badAt_of hx'
    rw [runW_ok hro] at hb
    obtain ⟨o1, o2, o3, o4⟩ := hro
    simp [runD, subBt, c_whole, o1, o2, o3, o4]
    by_cases hi0 : 0 < i
    · have hlt' : i - 1 < rs.length := by omega
      have ei : (i : Int) - 1 = ((i - 1 : Nat) : Int) := by omega
      obtain ⟨q, hq⟩ : ∃ q, rs[i - 1]? = some q := ⟨_, List.getElem?_eq_getElem hlt'⟩
      have hq' : rs[i - 1] = q := by
        rw [List.getElem?_eq_getElem hlt'] at hq
        exact Option.some.inj hq
      have hq2 : ((rs.map runD)[i - 1]?).map knd = some q.1 := by simp [hq, knd_runD]
      rw [hq2] at hb
      simp [hi0, ei, ixN_at, hlt', hq', runD]
      by_cases hk : p.1 = q.1
      · have hb' : badAt (rs.map runD) i = .str "same" := by
          rw [hb]
          simp [hi0, knd_runD, hk]
        simp [hk]
        refine q2.rt _ _ (q1.rt _ _ (q0.rt _ _ ⟨?_, rfl⟩))
        unfold errW
        rw [er, find_at hlt (by rw [hb']; rfl) fun j hj => by simp [hw j hj]]
        simp [hb']
      · have hb' : badAt (rs.map runD) i = .non := by
          rw [hb]
          have : ¬ q.1 = p.1 := fun z => hk z.symm
          simp [knd_runD, this]
        simp [hk]
        refine q2.nx _ _ ⟨rfl, fun j hj => ?_, _, _, rfl⟩
        rcases Nat.lt_or_eq_of_le (Nat.le_of_lt_succ hj) with hj | rfl
        · exact hw j hj
        · rw [hb']; rfl
    · have hb' : badAt (rs.map runD) i = .non := by
        rw [hb]
        simp [hi0]
      simp [hi0]
      refine q2.nx _ _ ⟨rfl, fun j hj => ?_, _, _, rfl⟩
      rcases Nat.lt_or_eq_of_le (Nat.le_of_lt_succ hj) with hj | rfl
      · exact hw j hj
      · rw [hb']; rfl
  · rintro g s' ⟨rfl, hw, a, b, rfl⟩
    refine q1.nx _ _ ?_
    simp at hw ⊢
    refine q0.rt _ _ ⟨?_, rfl⟩
    unfold errW
    rw [er, find_no fun j hj => by simp [hw j hj]]
    rfl
theorem c_due (n : Nat) (a : Str) (s : Sto) (h : a.cps.size ≤ 1000000) (ha : Asc a) : (callsAt T (n+4)).call 58 [.str a] s = .ok (dueW (wordsF a)) s := by
  have hw := words_ok ha h
  have hcw := fun s => c_words_l (n + 2) a s h
  apply Ok.eq
  rw [at_succ]
  refine Ok.callL (d := f58) rfl rfl fun P0 q0 => ?_
  simp only [f58, b58, startG]
  generalize wordsF a = ws at *
  simp [hcw, subBt, forF, seqOf]
  refine Hf.seqL fun P1 q1 => Hf.forK (fun i g s' => s' = s ∧ fineTo ws i ∧ ∃ b c, g = [.sh (.str a), .sh (.lst (ws.map .str)), .un, .un, b, c]) ⟨rfl, fun j hj => by omega, _, _, rfl⟩ ?_ ?_
  · rintro i ⟨x, k⟩ g s' P2 hx hi ⟨rfl, hf, b, c, rfl⟩ q2
    simp [List.getElem?_zipIdx] at hx
    obtain ⟨w, hx, rfl, rfl⟩ := hx
    have hlt : i < ws.length := (List.getElem?_eq_some_iff.mp hx).1
    have hwo := hw.1 w (List.mem_of_getElem? hx)
    have hb := badW_at hx
    by_cases h6 : i = 6
    · subst h6
      simp
      exact q2.rt _ _ (q1.rt _ _ (q0.rt _ _ ⟨(dueW_bad hlt (by rw [hb]; rfl) hf).symm, rfl⟩))
    · have h6' : ¬ (i : Int) = 6 := by omega
      simp [h6', wR_call_l (n + 2) hwo (by omega)]
      rcases wR_run w with e | ⟨p, e, hp⟩
      · rw [e] at hb ⊢
        simp
        exact q2.rt _ _ (q1.rt _ _ (q0.rt _ _ ⟨(dueW_bad hlt (by rw [hb]; simp) hf).symm, rfl⟩))
      · rw [e] at hb ⊢
        simp [runD]
        exact q2.nx _ _ ⟨rfl, hf.step (by rw [hb]; simp [h6, runD]), _, _, rfl⟩
  · rintro g s' ⟨rfl, hf, b, c, rfl⟩
    refine q1.nx _ _ ?_
    simp at hf
    have hq : eqD (.lst (ws.map .str)) (.lst []) = some ws.isEmpty := by
      rw [eqD_lnil (k := 1) (fun x hx => ?_) (by omega), List.isEmpty_map]
      obtain ⟨w, hm, rfl⟩ := List.mem_map.mp hx
      exact (Sp.str (asc_ok (hw.1 w hm).asc)).mono (by omega)
    by_cases h0 : ws.length = 0
    · have hnil : ws = [] := List.eq_nil_of_length_eq_zero h0
      subst hnil
      simp [hq]
      exact q0.rt _ _ ⟨(dueW_none rfl).symm, rfl⟩
    · obtain ⟨rs, e, hr, l1, l2⟩ := hf.row h0
      have hd := dueW_fine h0 hf
      have hne : ws.isEmpty = false := by
        cases ws with
        | nil => simp at h0
        | cons => rfl
      rw [hne] at hq
      have hlc : ∀ s, lcR (fun y s => ((callsAt T (n+3)).call 60 [y] s).bind fun d s => .ok (some d) s) (.lst (ws.map .str)) s = .ok (.lst (rs.map runD)) s := fun s => by
        have hl : (ws.map D.str).length ≤ 16777216 := by
          rw [List.length_map]
          have := hw.2
          omega
        rw [lcR_lst hl, lcG_map, lcG_pure wR fun w hm => ?_]
        · rw [e]
          rfl
        · rw [wR_call_l (n + 2) (hw.1 w hm) (by omega)]
          rfl
      have hsw := fun s => c_sword (n + 1) rs s hr l1 l2
      rw [e] at hd
      simp [hq, hlc, hsw]
      unfold errW
      cases er : rErr (.tup (rs.map runD)) with
      | none =>
        rw [er] at hd
        simp
        exact q0.rt _ _ ⟨hd.symm, rfl⟩
      | some p =>
        obtain ⟨x, y⟩ := p
        rw [er] at hd
        simp
        exact q0.rt _ _ ⟨hd.symm, rfl⟩
/-! ### what reading tells -/
theorem att_r (n : Nat) (rs : List (Int × Int)) (s : Sto) : attD T (callsAt T (n+1)) 25 (strD rs) s = .ok (runsD rs) s := by
  have e : (callsAt T (n+1)).call 27 [strD rs] s = .ok (runsD rs) s := by
    rw [at_succ, call_eq (d := f27) rfl rfl]
    have h1 : attD T (callsAt T n) 22 (strD rs) s = .ok (runsD rs) s := rfl
    simp [f27, b27, startG, h1]
  show (if isCl T 23 then ((callsAt T (n+1)).call 27 [strD rs] s).calm else .no) = _
  rw [e]
  rfl
theorem s_eq35 (n : Nat) (rs : List (Int × Int)) (s : Sto) : cmpD T (callsAt T (n+1)) .Eq (strD rs) (strD rs) s = .ok (.bl true) s := by
  have h1 : ∀ n rs s, attD T (callsAt T n) 22 (strD rs) s = .ok (runsD rs) s := fun _ _ _ => rfl
  have e : (callsAt T (n+1)).call 42 [strD rs, strD rs] s = .ok (.bl true) s := by
    rw [at_succ, call_eq (d := f42) rfl rfl]
    have e2 : ∀ C, cmpD T C .Eq (runsD rs) (runsD rs) s = .ok (.bl true) s := fun C => by
      show blR (eqD (runsD rs) (runsD rs)) s = _
      rw [eqD_rr]
      simp
    have e3 : ∀ s, isT T (.own 23) (strD rs) s = some true := fun s => rfl
    simp only [f42, b42, startG]
    simp [h1, e2, e3]
  show (if isCl T 23 && (T.fn.lookup 42).isSome && tgOkO T (tagD (strD rs) s) then ((callsAt T (n+1)).call 42 [strD rs, strD rs] s).calm else .no) = _
  rw [e]
  rfl
theorem c_told_s (n : Nat) (a : Str) (s : Sto) (h : a.cps.size ≤ 1000000) (ha : Asc a) : (callsAt T (n+8)).call 64 [.str a] s = .ok (dueW (wordsF a)) s := by
  have key := (c_read n a s h ha).out
  rw [at_succ, call_eq (d := f64) rfl rfl]
  simp only [f64, b64, startG]
  cases hr : (callsAt T (n+7)).call 324 [.str a] s with
  | ok d s' =>
    rw [hr] at key
    obtain ⟨rfl, rs, hro, rfl, hd⟩ := key
    have hm := c_make (n + 2) rs s' hro
    simp [hr, att_r, hm, s_eq35, hd]
  | ex c ys s' =>
    rw [hr] at key
    obtain ⟨rfl, ⟨rfl, x, rfl, hd⟩ | ⟨rfl, x, y, rfl, hd⟩⟩ := key
    · simp [hr, hd]
    · simp [hr, hd]
  | no => rw [hr] at key; exact key.elim
/-- of other values -/
def notS : D → Bool
  | .str _ => false
  | .exn _ _ => false
  | .loc _ => false
  | .scr _ => false
  | .obj c _ _ => decide (c = 23)
  | _ => true
theorem isS_not {v : D} (h : notS v = true) (s : Sto) : isT T (.bt .str) v s = some false := by
  cases v <;> first | rfl | (simp [notS] at h; done) | skip
  rename_i c ks xs
  simp [notS] at h
  subst h
  rfl
theorem c_due_n (n : Nat) (v : D) (s : Sto) (h : notS v = true) : (callsAt T (n+1)).call 58 [v] s = .ok (.lst [.str "BadText", .non]) s := by
  rw [at_succ, call_eq (d := f58) rfl rfl]
  simp only [f58, b58, startG]
  simp [isS_not h]
theorem c_told_n (n : Nat) (v : D) (s : Sto) (h : notS v = true) : (callsAt T (n+3)).call 64 [v] s = .ok (.lst [.str "BadText", .non]) s := by
  have e1 : ∀ s, (callsAt T (n+1)).call 323 [v] s = .ex 38 [.non] s := fun s => by
    rw [at_succ, call_eq (d := f323) rfl rfl]
    simp only [f323, b323, startG]
    simp [isS_not h]
  have e2 : ∀ s, (callsAt T (n+2)).call 324 [v] s = .ex 38 [.non] s := fun s => by
    rw [at_succ, call_eq (d := f324) rfl rfl]
    simp only [f324, b324, startG]
    simp [e1]
  rw [at_succ, call_eq (d := f64) rfl rfl]
  simp only [f64, b64, startG]
  simp [e2]
def deckL (g m c : Int) : MO := .lst [.int g, .int m, .int c]
theorem lx_0 (C : Calls) (g m c : Int) (r : Sto) : idxD T C (.loc 0) (.int 0) (deckL g m c :: r) = .ok (.int g) (deckL g m c :: r) := by
  simp [idxD, clsOf, deckL, idxB]
theorem lx_1 (C : Calls) (g m c : Int) (r : Sto) : idxD T C (.loc 0) (.int 1) (deckL g m c :: r) = .ok (.int m) (deckL g m c :: r) := by
  simp [idxD, clsOf, deckL, idxB]
theorem lx_2 (C : Calls) (g m c : Int) (r : Sto) : idxD T C (.loc 0) (.int 2) (deckL g m c :: r) = .ok (.int c) (deckL g m c :: r) := by
  simp [idxD, clsOf, deckL, idxB]
theorem ls_0 (g m c u : Int) (r : Sto) : setsD (.loc 0) (.int 0) (.int u) (deckL g m c :: r) = some (deckL u m c :: r) := by
  simp [setsD, deckL]
theorem ls_1 (g m c u : Int) (r : Sto) : setsD (.loc 0) (.int 1) (.int u) (deckL g m c :: r) = some (deckL g u c :: r) := by
  simp [setsD, deckL]
theorem ls_2 (g m c u : Int) (r : Sto) : setsD (.loc 0) (.int 2) (.int u) (deckL g m c :: r) = some (deckL g m u :: r) := by
  simp [setsD, deckL]
/-- a bag with N draws left, ahead of the rest of the store -/
def Bg (N : Nat) (r s : Sto) : Prop := ∃ g m c, s = deckL g m c :: r ∧ 0 ≤ g ∧ 0 ≤ m ∧ m < 2305843009213693951 ∧ 0 ≤ c ∧ c + N ≤ 1000000000
theorem Bg.mono {N M : Nat} {r s : Sto} (h : Bg N r s) (hm : M ≤ N) : Bg M r s := by
  obtain ⟨g, m, c, h1, h2, h3, h4, h5, h6⟩ := h
  exact ⟨g, m, c, h1, h2, h3, h4, h5, by omega⟩
theorem bag_ok (n : Nat) (ns : List Int) (h : ns.length ≤ 63) : Ok ((callsAt T (n+1)).call 253 [.scr ns] []) fun d s' => d = .loc 0 ∧ Bg 1000000000 [] s' := by
  rw [at_succ]
  refine Ok.callL (d := f253) rfl rfl fun P0 q0 => ?_
  simp only [f253, b253, startG]
  simp (disch := first | (simp [mulOk]; done) | (simp; done) | omega) [mul_int, forF, cutL_to]
  refine Hf.seqL fun P1 q1 => Hf.forK (fun i g s' => s' = [] ∧ ∃ a gr m, g = [.sh (.scr ns), a, .sh (.int gr), .sh (.int m)] ∧ 0 ≤ gr ∧ 0 ≤ m ∧ m < 2305843009213693951) ⟨rfl, _, _, _, rfl, by omega, by omega, by omega⟩ ?_ ?_
  · rintro i x g s1 P2 hx hi ⟨rfl, a, gr, m, rfl, hg, hm, hm2⟩ q2
    obtain ⟨v, _, rfl⟩ : ∃ v, v ∈ ns.take 63 ∧ D.int v = x := by
      have := List.mem_of_getElem? hx
      rw [← List.map_take] at this
      exact List.mem_map.mp this
    simp (disch := first | (simp [mulOk]; done) | (simp; done) | omega) [mul_int, mod_int]
    split
    · rename_i hv
      simp
      exact q2.nx _ _ ⟨rfl, _, _, _, rfl, by omega, hm, hm2⟩
    · simp (disch := first | (simp [mulOk]; done) | (simp; done) | omega) [mul_int, mod_int]
      exact q2.nx _ _ ⟨rfl, _, _, _, rfl, hg, Int.emod_nonneg _ (by omega), Int.emod_lt_of_pos _ (by omega)⟩
  · rintro g s1 ⟨rfl, a, gr, m, rfl, hg, hm, hm2⟩
    refine q1.nx _ _ ?_
    simp
    exact q0.rt _ _ ⟨rfl, gr, m, 0, rfl, hg, hm, hm2, by omega, by omega⟩
theorem draw_ok (n N : Nat) (r s : Sto) (k : Int) (h : Bg (N + 1) r s) (h1 : 0 < k) (h2 : k ≤ 10 ^ 40) : Ok ((callsAt T (n+1)).call 254 [.loc 0, .int k] s) fun d s' => (∃ j, d = .int j ∧ 0 ≤ j ∧ j < k) ∧ Bg N r s' := by
  obtain ⟨g, m, c, rfl, hg, hm, hm2, hc, hN⟩ := h
  have h9 : k < 2 ^ 9000 := Int.lt_of_le_of_lt h2 (by decide +kernel)
  rw [at_succ]
  refine Ok.callL (d := f254) rfl rfl fun P0 q0 => ?_
  simp only [f254, b254, startG]
  simp [lx_0, lx_1, lx_2, ls_0, ls_2]
  rw [Hf_ite]
  constructor
  · intro hg0
    simp [mod_int h1, div_int h1 h9, ls_0, lx_0]
    exact q0.rt _ _ ⟨⟨_, rfl, Int.emod_nonneg _ (by omega), Int.emod_lt_of_pos _ h1⟩, g / k, m, c, rfl, Int.ediv_nonneg hg (by omega), hm, hm2, hc, by omega⟩
  · intro hg0
    rw [mul_int (i := m) (j := 2862933555777941757) (by simp [mulOk])]
    simp only [optR_some, fl_ok, lx_2]
    rw [mul_int (i := 3037000493) (j := c + 1) (by simp [mulOk])]
    simp only [optR_some, fl_ok, add_int, seqF_nx]
    generalize m * 2862933555777941757 + 3037000493 * (c + 1) = y
    have y0 : 0 ≤ y % 2305843009213693951 := Int.emod_nonneg _ (by omega)
    have y1 : y % 2305843009213693951 < 2305843009213693951 := Int.emod_lt_of_pos _ (by omega)
    simp [mod_int, ls_1, lx_1]
    generalize y % 2305843009213693951 = z at y0 y1
    rw [mul_int (i := z) (j := z) (by simp [mulOk]; omega)]
    simp [mod_int, h1]
    rw [div_int (j := 4096) (by omega) (by decide +kernel)]
    simp [mod_int, h1]
    exact q0.rt _ _ ⟨⟨_, rfl, Int.emod_nonneg _ (by omega), Int.emod_lt_of_pos _ h1⟩, g, z, c + 1, rfl, hg, y0, y1, by omega, by omega⟩
theorem bpick_ok (n N : Nat) (r s : Sto) (xs : List D) (h : Bg (N + 1) r s) (h1 : xs ≠ []) (h2 : xs.length ≤ 100000) : Ok ((callsAt T (n+2)).call 161 [.loc 0, .lst xs] s) fun d s' => d ∈ xs ∧ Bg N r s' := by
  rw [at_succ]
  refine Ok.callL (d := f161) rfl rfl fun P0 q0 => ?_
  simp only [f161, b161, startG]
  simp
  have hl : 0 < xs.length := List.length_pos_iff.mpr h1
  refine Hf.seqL fun P1 q1 => Hf.fl (draw_ok n N r s _ h (by omega) (by omega)) ?_
  rintro _ s' ⟨⟨k, rfl, k0, k1⟩, hd⟩
  have e3 : k.toNat < xs.length := by omega
  simp [ixN_int k0 k1, e3]
  exact q1.rt _ _ (q0.rt _ _ ⟨List.getElem_mem _, hd⟩)
structure Rn (rs : List (Int × Int)) : Prop where
  all : ∀ p ∈ rs, RunOk p
  unl : ∀ i, ∀ p q, rs[i]? = some p → rs[i+1]? = some q → p.1 ≠ q.1
theorem Rn.snoc {rs : List (Int × Int)} {p : Int × Int} (h : Rn rs) (hp : RunOk p) (hu : ∀ q, rs[rs.length - 1]? = some q → q.1 ≠ p.1) : Rn (rs ++ [p]) where
  all := by
    intro q m
    rcases List.mem_append.mp m with m | m
    · exact h.all q m
    · simp at m
      subst m
      exact hp
  unl := by
    intro i a b ha hb
    have hi : i + 1 < (rs ++ [p]).length := (List.getElem?_eq_some_iff.mp hb).1
    simp at hi
    rw [List.getElem?_append_left (by omega)] at ha
    by_cases h1 : i + 1 < rs.length
    · rw [List.getElem?_append_left h1] at hb
      exact h.unl i a b ha hb
    · have e : i + 1 = rs.length := by omega
      rw [e] at hb
      simp at hb
      subst hb
      exact hu a (by rw [← ha]; congr 1; omega)
theorem sp_runs (rs : List (Int × Int)) : ∀ x ∈ rs.map runD, Sp 1 x := by
  intro x m
  obtain ⟨p, _, rfl⟩ := List.mem_map.mp m
  exact Sp.tup (by simp [Sp.int])
@[simp] theorem eqD_runs (rs : List (Int × Int)) : eqD (.tup (rs.map runD)) (.tup []) = some rs.isEmpty := by
  rw [eqD_tnil (sp_runs rs) (by decide), List.isEmpty_map]
@[simp] theorem eqD_lruns (rs : List (Int × Int)) : eqD (.lst (rs.map runD)) (.lst []) = some rs.isEmpty := by
  rw [eqD_lnil (sp_runs rs) (by decide), List.isEmpty_map]
theorem erase_perm {A : Type} : ∀ (m : List A) (i : Nat) (h : i < m.length), (m[i] :: m.eraseIdx i).Perm m
  | x :: xs, 0, h => by simp
  | x :: xs, i + 1, h => by
    simp only [List.getElem_cons_succ, List.eraseIdx_cons_succ]
    refine (List.Perm.swap _ _ _).trans ?_
    exact (erase_perm xs i (by simpa using h)).cons _
theorem map_erase {A B : Type} (f : A → B) : ∀ (m : List A) (i : Nat), (m.map f).eraseIdx i = (m.eraseIdx i).map f
  | [], i => by simp
  | x :: xs, 0 => by simp
  | x :: xs, i + 1 => by simp [map_erase f xs i]
/-! ### runs drawn from a bag -/
theorem bruns_ok (n N : Nat) (r s : Sto) (m : Nat) (l : Int) (h : Bg (N + 40) r s) (h0 : 1 ≤ m) (h6 : m ≤ 6) (l1 : 1 ≤ l) (l2 : l ≤ 1000000000000000000000000000000) :
    Ok ((callsAt T (n+2)).call 50 [.loc 0, .int m, .int l] s) fun d s' => (∃ rs, d = runsD rs ∧ RunsOk rs ∧ rs.length ≤ m ∧ ∀ p ∈ rs, p.2 ≤ l) ∧ Bg N r s' := by
  rw [at_succ]
  refine Ok.callL (d := f50) rfl rfl fun P0 q0 => ?_
  simp only [f50, b50, startG]
  simp
  refine Hf.seqL fun P1 q1 => Hf.fl (draw_ok n (N + 39) r s m h (by omega) (by omega)) ?_
  rintro _ s4 ⟨⟨c, rfl, c0, c1⟩, hd4⟩
  obtain ⟨c, rfl⟩ := Int.eq_ofNat_of_zero_le c0
  simp only [add_int, optR_some, fl_ok]
  rw [show (1 + (c : Int)) = ((c + 1 : Nat) : Int) by omega, rngR_nat (by omega)]
  simp only [fl_ok, forF, seqOf_lst, optF_some, frzI_eq]
  refine Hf.forK (fun i g s' => Bg (N + 5 * (c + 1 - i)) r s' ∧ ∃ a b rs, g = [.sh (.loc 0), .sh (.int m), .sh (.int l), .ow (.lst (rs.map runD)), a, b] ∧ Rn rs ∧ rs.length = i ∧ ∀ p ∈ rs, p.2 ≤ l) ⟨hd4.mono (by omega), _, _, [], rfl, ⟨by simp, by simp⟩, rfl, by simp⟩ ?_ ?_
  · rintro i x g s5 P2 hx hic ⟨hd5, a, b, rs, rfl, hr, hi, hml⟩ q2
    simp at hic
    simp
    refine Hf.seqL fun P3 q3 => Hf.fl (draw_ok n (N + 5 * (c - i) + 4) r s5 4 (hd5.mono (by omega)) (by omega) (by omega)) ?_
    rintro _ s6 ⟨⟨t, rfl, t0, t1⟩, hd6⟩
    simp
    refine q3.nx _ _ ?_
    have fin : ∀ (k : Int) (u : Int) (hu : 0 ≤ u) (hu3 : u ≤ 3) (hun : ∀ q, rs[rs.length - 1]? = some q → q.1 ≠ u) (hk0 : 0 ≤ k) (hk1 : k < l), Rn (rs ++ [(u, 1 + k)]) ∧ (rs ++ [(u, 1 + k)]).length = i + 1 ∧ ∀ p ∈ rs ++ [(u, 1 + k)], p.2 ≤ l := fun k u hu hu3 hun hk0 hk1 => by
      refine ⟨hr.snoc ⟨hu, hu3, by simp only; omega, by simp only; omega⟩ hun, by simp; omega, fun p hm => ?_⟩
      rcases List.mem_append.mp hm with hm | hm
      · exact hml _ hm
      · simp at hm
        subst hm
        simp only
        omega
    have hsm : small (rs.length + 1) = true := smallLe (by omega)
    by_cases hrs : rs = []
    · subst hrs
      simp
      refine Hf.seqL fun P3 q3 => Hf.fl (draw_ok n (N + 5 * (c - i)) r s6 l (hd6.mono (by omega)) (by omega) (by omega)) ?_
      rintro _ s7 ⟨⟨k, rfl, k0, k1⟩, hd7⟩
      simp [show small 1 = true from rfl]
      refine q3.nx _ _ ?_
      obtain ⟨f1, f2, f3⟩ := fin k t t0 (by omega) (fun q hq => by simp at hq) k0 k1
      simp
      exact q2.nx _ _ ⟨hd7.mono (by omega), _, _, [(t, 1 + k)], rfl, f1, f2, f3⟩
    · have hl : 0 < rs.length := List.length_pos_iff.mpr hrs
      have hl2 : rs.length - 1 < rs.length := by omega
      have hne : rs.isEmpty = false := by simpa using hrs
      simp [hne, ixN_neg1 hl, hl2, runD]
      by_cases he : rs[rs.length - 1].1 = t
      · simp [he]
        have u0 : 0 ≤ (t + 1) % 4 := Int.emod_nonneg _ (by omega)
        have u1 : (t + 1) % 4 < 4 := Int.emod_lt_of_pos _ (by omega)
        rw [mod_int (by omega)]
        simp
        refine Hf.seqL fun P3 q3 => Hf.fl (draw_ok n (N + 5 * (c - i)) r s6 l (hd6.mono (by omega)) (by omega) (by omega)) ?_
        rintro _ s7 ⟨⟨k, rfl, k0, k1⟩, hd7⟩
        simp [hsm]
        refine q3.nx _ _ ?_
        simp
        obtain ⟨f1, f2, f3⟩ := fin k ((t + 1) % 4) u0 (by omega) (fun q hq => by
          rw [List.getElem?_eq_getElem hl2] at hq
          cases hq
          rw [he]
          omega) k0 k1
        exact q2.nx _ _ ⟨hd7.mono (by omega), _, _, rs ++ [((t + 1) % 4, 1 + k)], by rw [List.map_append]; try rfl, f1, f2, f3⟩
      · simp [he]
        refine Hf.seqL fun P3 q3 => Hf.fl (draw_ok n (N + 5 * (c - i)) r s6 l (hd6.mono (by omega)) (by omega) (by omega)) ?_
        rintro _ s7 ⟨⟨k, rfl, k0, k1⟩, hd7⟩
        simp [hsm]
        refine q3.nx _ _ ?_
        simp
        obtain ⟨f1, f2, f3⟩ := fin k t t0 (by omega) (fun q hq => by
          rw [List.getElem?_eq_getElem hl2] at hq
          cases hq
          exact he) k0 k1
        exact q2.nx _ _ ⟨hd7.mono (by omega), _, _, rs ++ [(t, 1 + k)], by rw [List.map_append]; try rfl, f1, f2, f3⟩
  · rintro g s' ⟨hd, a, b, rs, rfl, hr, hi, hml⟩
    simp at hi hd
    refine q1.nx _ _ ?_
    simp
    exact q0.rt _ _ ⟨⟨rs, rfl, ⟨by omega, by omega, hr.all, hr.unl⟩, by omega, hml⟩, hd⟩
theorem far_ok (n N : Nat) (r s : Sto) (k : Int) (h : Bg (N + 2) r s) (h1 : 0 < k) : Ok ((callsAt T (n+2)).call 192 [.loc 0, .int k] s) fun d s' => (∃ j, d = .int j ∧ 0 ≤ j ∧ j < k) ∧ Bg N r s' := by
  have hp : binD .Pow (.int 10) (.int 18) = some (.int 1000000000000000000) := by rfl
  rw [at_succ]
  refine Ok.callL (d := f192) rfl rfl fun P0 q0 => ?_
  simp only [f192, b192, startG]
  simp [hp]
  refine Hf.seqL fun P1 q1 => Hf.fl (draw_ok n (N + 1) r s _ h (by omega) (by omega)) ?_
  rintro _ s2 ⟨⟨a, rfl, a0, a1⟩, hd2⟩
  rw [mul_int (by simp [mulOk])]
  simp [hp]
  refine Hf.fl (draw_ok n N r s2 _ hd2 (by omega) (by omega)) ?_
  rintro _ s3 ⟨⟨b, rfl, b0, b1⟩, hd3⟩
  simp
  refine q1.nx _ _ ?_
  simp [mod_int h1]
  exact q0.rt _ _ ⟨⟨_, rfl, Int.emod_nonneg _ (by omega), Int.emod_lt_of_pos _ h1⟩, hd3⟩
theorem bgreat_ok (n N : Nat) (r s : Sto) (m : Nat) (h : Bg (N + 80) r s) (h0 : 1 ≤ m) (h6 : m ≤ 6) :
    Ok ((callsAt T (n+3)).call 179 [.loc 0, .int m] s) fun d s' => (∃ rs, d = runsD rs ∧ RunsOk rs ∧ rs.length ≤ m) ∧ Bg N r s' := by
  have p30 : binD .Pow (.int 10) (.int 30) = some (.int 1000000000000000000000000000000) := pow_10_30
  have p6 : binD .Pow (.int 10) (.int 6) = some (.int 1000000) := by rfl
  have p2 : binD .Pow (.int 10) (.int 2) = some (.int 100) := by rfl
  have p12 : binD .Pow (.int 10) (.int 12) = some (.int 1000000000000) := by rfl
  have p20 : binD .Pow (.int 10) (.int 20) = some (.int 100000000000000000000) := by rfl
  have p29 : binD .Pow (.int 10) (.int 29) = some (.int 100000000000000000000000000000) := by rfl
  rw [at_succ]
  refine Ok.callL (d := f179) rfl rfl fun P0 q0 => ?_
  simp only [f179, b179, startG]
  simp
  refine Hf.seqL fun P1 q1 => Hf.fl (bruns_ok n (N + 40) r s m 9 h h0 h6 (by omega) (by omega)) ?_
  rintro _ s4 ⟨⟨rs, rfl, hro, hlen, hml⟩, hd4⟩
  simp [runsD, forF, seqOf]
  have hle := hro.le
  refine Hf.forK (fun i g s' => Bg (N + 6 * (rs.length - i)) r s' ∧ ∃ a b c ss, g = [.sh (.loc 0), .sh (.int m), .ow (.lst (ss.map runD)), a, b, c] ∧ ss.length = i ∧ (∀ p ∈ ss, RunOk p) ∧ ss.map (·.1) = (rs.take i).map (·.1)) ⟨hd4.mono (by omega), _, _, _, [], rfl, rfl, by simp, by simp⟩ ?_ ?_
  · rintro i p g s5 P2 hp hic ⟨hd5, a, b, c, ss, rfl, hi, hss, hk⟩ q2
    have hlt : i < rs.length := (List.getElem?_eq_some_iff.mp hp).1
    have hro1 := hro.all p (List.mem_of_getElem? hp)
    obtain ⟨o1, o2, o3, o4⟩ := hro1
    have hsm : small (ss.length + 1) = true := smallLe (by omega)
    have fin : ∀ (k : Int), 1 ≤ k → k ≤ 1000000000000000000000000000000 → (ss ++ [(p.1, k)]).length = i + 1 ∧ (∀ q ∈ ss ++ [(p.1, k)], RunOk q) ∧ (ss ++ [(p.1, k)]).map (·.1) = (rs.take (i + 1)).map (·.1) := fun k k0 k1 => by
      refine ⟨by simp; omega, fun q hq => ?_, ?_⟩
      · rcases List.mem_append.mp hq with hq | hq
        · exact hss q hq
        · simp at hq
          subst hq
          exact ⟨o1, o2, k0, k1⟩
      · rw [List.take_succ_eq_append_getElem hlt, List.map_append, List.map_append, hk]
        rw [List.getElem?_eq_getElem hlt] at hp
        have := Option.some.inj hp
        simp [this]
    simp [runD]
    refine Hf.seqL fun P3 q3 => Hf.fl (draw_ok (n+1) (N + 6 * (rs.length - (i + 1)) + 5) r s5 4 (hd5.mono (by omega)) (by omega) (by omega)) ?_
    rintro _ s6 ⟨⟨t, rfl, t0, t1⟩, hd6⟩
    simp
    refine q3.nx _ _ ?_
    simp
    by_cases ht0 : t = 0
    · subst ht0
      simp [p30, p6]
      refine Hf.seqL fun P3 q3 => Hf.seqL fun P4 q4 => ?_
      refine Hf.fl (draw_ok (n+1) (N + 6 * (rs.length - (i + 1))) r s6 1000000 (hd6.mono (by omega)) (by omega) (by omega)) ?_
      rintro _ s7 ⟨⟨k, rfl, k0, k1⟩, hd7⟩
      rw [mul_int (by simp [mulOk])]
      simp
      refine q4.nx _ _ ?_
      simp
      refine q3.nx _ _ ?_
      simp [hsm]
      obtain ⟨f1, f2, f3⟩ := fin (1000000000000000000000000000000 - 2 * k) (by omega) (by omega)
      exact q2.nx _ _ ⟨hd7, _, _, _, ss ++ [(p.1, 1000000000000000000000000000000 - 2 * k)], by rw [List.map_append]; try rfl, f1, f2, f3⟩
    · by_cases ht1 : t = 1
      · subst ht1
        simp [p2, p6, p12, p20, p29]
        refine Hf.seqL fun P3 q3 => Hf.seqL fun P4 q4 => Hf.seqL fun P5 q5 => ?_
        refine Hf.fl (bpick_ok n (N + 6 * (rs.length - (i + 1)) + 2) r s6 [.int 100, .int 1000000, .int 1000000000000, .int 100000000000000000000, .int 100000000000000000000000000000] (hd6.mono (by omega)) (by simp) (by simp)) ?_
        rintro v s7 ⟨hv, hd7⟩
        obtain ⟨k, rfl, k0, k1⟩ : ∃ k, v = .int k ∧ 0 < k ∧ k ≤ 100000000000000000000000000000 := by
          simp at hv
          rcases hv with rfl | rfl | rfl | rfl | rfl <;> exact ⟨_, rfl, by omega, by omega⟩
        refine Hf.fl (far_ok n (N + 6 * (rs.length - (i + 1))) r s7 k hd7 k0) ?_
        rintro _ s8 ⟨⟨j, rfl, j0, j1⟩, hd8⟩
        simp
        refine q5.nx _ _ ?_
        simp
        refine q4.nx _ _ ?_
        simp
        refine q3.nx _ _ ?_
        simp [hsm]
        obtain ⟨f1, f2, f3⟩ := fin (1 + j) (by omega) (by omega)
        exact q2.nx _ _ ⟨hd8, _, _, _, ss ++ [(p.1, 1 + j)], by rw [List.map_append]; try rfl, f1, f2, f3⟩
      · simp [ht0, ht1, hsm]
        obtain ⟨f1, f2, f3⟩ := fin p.2 o3 o4
        exact q2.nx _ _ ⟨hd6.mono (by omega), _, _, _, ss ++ [(p.1, p.2)], by rw [List.map_append]; try rfl, f1, f2, f3⟩
  · rintro g s' ⟨hd, a, b, c, ss, rfl, hi, hss, hk⟩
    simp at hi hd hk
    refine q1.nx _ _ ?_
    simp
    have hun : ∀ i p q, ss[i]? = some p → ss[i+1]? = some q → p.1 ≠ q.1 := fun i p q hp hq => by
      have e1 : (ss.map (·.1))[i]? = some p.1 := by simp [hp]
      have e2 : (ss.map (·.1))[i+1]? = some q.1 := by simp [hq]
      have e3 : (ss.map (·.1)) = rs.map (·.1) := by rw [hk]
      rw [e3, List.getElem?_map] at e1 e2
      obtain ⟨p', h1, h2⟩ := Option.map_eq_some_iff.mp e1
      obtain ⟨q', h3, h4⟩ := Option.map_eq_some_iff.mp e2
      rw [← h2, ← h4]
      exact hro.unl i p' q' h1 h3
    have h1 := hro.ne
    exact q0.rt _ _ ⟨⟨ss, rfl, ⟨by omega, by omega, hss, hun⟩, by omega⟩, hd⟩
/-! ### texts of runs -/
theorem join_asc {z : Str} (hz : Asc z) : ∀ {ys : List Str}, (∀ y ∈ ys, Asc y) → Asc (PySem.Str.join z ys)
  | [], _ => fun c hc => by cases hc
  | [y], h => h y (by simp)
  | y :: y2 :: r, h => asc_append (asc_append (h y (by simp)) hz) (join_asc hz fun w hw => h w (List.mem_cons_of_mem _ hw))
theorem tjoin_asc {z : Str} (hz : Asc z) {ys : List Str} (h : ∀ y ∈ ys, Asc y) : Asc (PySem.Txt.join z ys) := by
  show Asc (PySem.Builtin.Str.glued z ys)
  rw [StrLaws.glued_eq_join]
  exact join_asc hz h
theorem tjoin_len (z : Str) (ys : List Str) : (PySem.Txt.join z ys).cps.size ≤ (ys.map fun y => y.cps.size).sum + ys.length * z.cps.size := by
  show (PySem.Builtin.Str.glued z ys).length ≤ _
  rw [StrLaws.glued_eq_join]
  exact StrLaws.join_length_le z ys
theorem sum_le {m : Nat} : ∀ {ys : List Str}, (∀ y ∈ ys, y.cps.size ≤ m) → (ys.map fun y => y.cps.size).sum ≤ ys.length * m
  | [], _ => by simp
  | y :: ys, h => by
    have h1 := h y (by simp)
    have h2 := sum_le (ys := ys) fun w hw => h w (List.mem_cons_of_mem _ hw)
    simp only [List.map_cons, List.sum_cons, List.length_cons, Nat.succ_mul]
    omega
/-- the sign of a kind -/
def signF (k : Int) : Str := ⟨#[97 + k.toNat]⟩
def pieceF (p : Int × Int) : Str := Str.ofString (toString p.2) ++ signF p.1
def textF (rs : List (Int × Int)) : Str := PySem.Txt.join " " (rs.map pieceF)
theorem sign_at (C : Calls) (k : Int) (s : Sto) (h0 : 0 ≤ k) (h3 : k ≤ 3) : idxD T C (.str "abcd") (.int k) s = .ok (.str (signF k)) s := by
  refine ix_s C "abcd" k k.toNat (97 + k.toNat) s (by decide) ?_ ?_
  · rw [ixN_int h0 (by show k < 4; omega)]
  · obtain ⟨j, rfl⟩ := Int.eq_ofNat_of_zero_le h0
    have : ∀ i : Nat, i < 4 → ("abcd" : Str).cps.toList[i]? = some (97 + i) := by decide +kernel
    exact this j (by omega)
theorem whole_small {i : Int} (h0 : 1 ≤ i) (h1 : i ≤ 1000000000000000000000000000000) : smallI i = true := by
  unfold smallI
  rw [decide_eq_true_eq]
  have : i.natAbs ≤ 1000000000000000000000000000000 := by omega
  exact Nat.lt_of_le_of_lt this (by decide +kernel)
theorem piece_ok {p : Int × Int} (h : RunOk p) : Asc (pieceF p) ∧ (pieceF p).cps.size ≤ 100 := by
  obtain ⟨h0, h1, h2, h3⟩ := h
  refine ⟨asc_append (asc_whole _) fun c hc => ?_, ?_⟩
  · have : c = 97 + p.1.toNat := by simpa [signF] using hc
    omega
  · unfold pieceF
    rw [len_app]
    have := len_whole (i := p.2) (Nat.lt_of_le_of_lt (show p.2.natAbs ≤ 1000000000000000000000000000000 by omega) (by decide +kernel))
    have e : (signF p.1).cps.size = 1 := rfl
    omega
theorem text_ok {rs : List (Int × Int)} (h : RunsOk rs) : Asc (textF rs) ∧ (textF rs).cps.size ≤ 700 := by
  refine ⟨tjoin_asc (asc_by (by decide +kernel)) fun y hy => ?_, ?_⟩
  · obtain ⟨p, hp, rfl⟩ := List.mem_map.mp hy
    exact (piece_ok (h.all p hp)).1
  · have h1 := tjoin_len " " (rs.map pieceF)
    have h2 := sum_le (m := 100) (ys := rs.map pieceF) fun y hy => by
      obtain ⟨p, hp, rfl⟩ := List.mem_map.mp hy
      exact (piece_ok (h.all p hp)).2
    rw [List.length_map] at h1 h2
    have h3 := h.le
    have e : (" " : Str).cps.size = 1 := rfl
    rw [e] at h1
    unfold textF
    omega
theorem join_runs {rs : List (Int × Int)} (h : RunsOk rs) : bmD .join (.str " ") [.lst ((rs.map pieceF).map .str)] = some (.str (textF rs)) := by
  refine bm_join " " _ ?_
  have h2 := sum_le (m := 100) (ys := rs.map pieceF) fun y hy => by
    obtain ⟨p, hp, rfl⟩ := List.mem_map.mp hy
    exact (piece_ok (h.all p hp)).2
  have e : (" " : Str).length = 1 := rfl
  rw [e]
  rw [List.length_map] at h2 ⊢
  have h3 := h.le
  have h4 : ((rs.map pieceF).map (·.length)).sum ≤ rs.length * 100 := h2
  omega
theorem emp_app (x : Str) : (⟨#[]⟩ : Str) ++ x = x := by
  show (⟨#[] ++ x.cps⟩ : Str) = x
  simp
theorem row_pieces {f : D → Sto → R (Option D)} {rs : List (Int × Int)} {s : Sto} (h : RunsOk rs) (hf : ∀ p, RunOk p → f (runD p) s = .ok (some (.str (pieceF p))) s) : lcR f (runsD rs) s = .ok (.lst ((rs.map pieceF).map .str)) s := by
  unfold runsD
  rw [lcR_tup (by have := h.le; simp; omega), lcG_map, lcG_pure (fun p => .str (pieceF p)) fun p hp => hf p (h.all p hp)]
  simp
theorem c_text (n : Nat) (rs : List (Int × Int)) (s : Sto) (h : RunsOk rs) : (callsAt T (n+2)).call 307 [strD rs] s = .ok (.str (textF rs)) s := by
  have hb := join_runs h
  rw [at_succ, call_eq (d := f307) rfl rfl]
  simp only [f307, b307, startG]
  simp [att_r]
  rw [if_pos (show bmOk .join (.str " ") = true from rfl), row_pieces h fun p hp => ?_]
  · simp only [fl_ok, hb, optR_some]
    rfl
  · obtain ⟨o0, o1, o2, o3⟩ := hp
    have e1 := len_whole (i := p.2) (Nat.lt_of_le_of_lt (show p.2.natAbs ≤ 1000000000000000000000000000000 by omega) (by decide +kernel))
    have e2 := fun C s => sign_at C p.1 s o0 o1
    have e3 := whole_small o2 o3
    have e4 : fstD (.int p.2) = some (Str.ofString (toString p.2)) := by
      show (if smallI p.2 = true then some (Str.ofString (toString p.2)) else none) = _
      rw [if_pos e3]
    have e5 : fstD (.str (signF p.1)) = some (signF p.1) := rfl
    have e6 : small (Str.ofString (toString p.2)).length = true := smallLe (by show (Str.ofString (toString p.2)).cps.size ≤ _; omega)
    have e7 : small (Str.ofString (toString p.2) ++ signF p.1).length = true := smallLe (by
      show (Str.ofString (toString p.2) ++ signF p.1).cps.size ≤ _
      rw [len_app]
      have e : (signF p.1).cps.size = 1 := rfl
      omega)
    have ep : pieceF p = Str.ofString (toString p.2) ++ signF p.1 := rfl
    rw [ep]
    generalize Str.ofString (toString p.2) = z at *
    simp only [runD]
    simp [e2, e4, e5, e6, e7, emp_app]
theorem c_text_l (n : Nat) (rs : List (Int × Int)) (s : Sto) (h : RunsOk rs) : (callsAt T (n+1)).call 325 [runsD rs] s = .ok (.str (textF rs)) s := by
  have hb := join_runs h
  rw [at_succ, call_eq (d := f325) rfl rfl]
  simp only [f325, b325, startG]
  simp
  rw [if_pos (show bmOk .join (.str " ") = true from rfl), row_pieces h fun p hp => ?_]
  · simp only [fl_ok, hb, optR_some]
    rfl
  · obtain ⟨o0, o1, o2, o3⟩ := hp
    have e1 := len_whole (i := p.2) (Nat.lt_of_le_of_lt (show p.2.natAbs ≤ 1000000000000000000000000000000 by omega) (by decide +kernel))
    have e2 := fun C s => sign_at C p.1 s o0 o1
    have e3 := whole_small o2 o3
    have e4 : ∀ C s, biD T C Bi.str [.int p.2] s = .ok (.str (Str.ofString (toString p.2))) s := fun C s => by
      show (if smallI p.2 = true then R.ok (D.str (Str.ofString (toString p.2))) s else .no) = _
      rw [if_pos e3]
    have e7 : small ((Str.ofString (toString p.2)).length + (signF p.1).length) = true := smallLe (by
      show (Str.ofString (toString p.2)).cps.size + (signF p.1).cps.size ≤ _
      have e : (signF p.1).cps.size = 1 := rfl
      omega)
    have e5 : binD .Add (.str (Str.ofString (toString p.2))) (.str (signF p.1)) = some (.str (pieceF p)) := by
      show (if small ((Str.ofString (toString p.2)).length + (signF p.1).length) = true then some (D.str (Str.ofString (toString p.2) ++ signF p.1)) else none) = _
      rw [if_pos e7]
      rfl
    generalize Str.ofString (toString p.2) = z at *
    simp only [runD]
    simp [e2, e4, e5]
/-! ### words with one put in or left out, blanks -/
def WL (m : Nat) (xs : List D) : Prop := xs.length ≤ m ∧ ∀ x ∈ xs, ∃ w, x = .str w ∧ Asc w ∧ w.cps.size ≤ 700
theorem WL.strs {m : Nat} {xs : List D} (h : WL m xs) : ∃ ws : List Str, xs = ws.map .str ∧ ws.length ≤ m ∧ ∀ w ∈ ws, Asc w ∧ w.cps.size ≤ 700 := by
  obtain ⟨h1, h2⟩ := h
  have key : ∀ xs : List D, (∀ x ∈ xs, ∃ w, x = .str w ∧ Asc w ∧ w.cps.size ≤ 700) → ∃ ws : List Str, xs = ws.map .str ∧ ∀ w ∈ ws, Asc w ∧ w.cps.size ≤ 700 := by
    intro xs
    induction xs with
    | nil => exact fun _ => ⟨[], rfl, by simp⟩
    | cons x xs ih =>
      intro h
      obtain ⟨w, rfl, hw⟩ := h x (by simp)
      obtain ⟨ws, rfl, hws⟩ := ih fun y hy => h y (List.mem_cons_of_mem _ hy)
      refine ⟨w :: ws, rfl, fun y hy => ?_⟩
      rcases List.mem_cons.mp hy with rfl | hy
      · exact hw
      · exact hws y hy
  obtain ⟨ws, rfl, hws⟩ := key xs h2
  exact ⟨ws, rfl, by simpa using h1, hws⟩
theorem bdraw3 {P : Prop} (h : P) : P := h
theorem spoilt_ok (n N : Nat) (r s : Sto) (xs os : List D) (m : Nat) (h : Bg (N + 3) r s) (hx : WL m xs) (hm : m ≤ 1000) (ho : WL 100 os) (hne : os ≠ []) :
    Ok ((callsAt T (n+3)).call 328 [.loc 0, .lst xs, .lst os] s) fun d s' => (∃ ys, d = .lst ys ∧ WL (m + 1) ys) ∧ Bg N r s' := by
  rw [at_succ]
  refine Ok.callL (d := f328) rfl rfl fun P0 q0 => ?_
  simp only [f328, b328, startG]
  simp
  refine Hf.seqL fun P1 q1 => Hf.fl (draw_ok (n+1) (N + 2) r s 6 h (by omega) (by omega)) ?_
  rintro _ s2 ⟨⟨a, rfl, a0, a1⟩, hd2⟩
  try simp
  have hxl := hx.1
  refine Hf.fl (draw_ok (n+1) (N + 1) r s2 _ hd2 (by omega) (by omega)) ?_
  rintro _ s3 ⟨⟨b, rfl, b0, b1⟩, hd3⟩
  try simp
  refine Hf.fl (bpick_ok n N r s3 os hd3 hne (by have := ho.1; omega)) ?_
  rintro w s4 ⟨hw, hd4⟩
  try simp
  refine q1.nx _ _ ?_
  have hwo := ho.2 w hw
  have mem : ∀ {ys : List D}, (∀ y ∈ ys, y ∈ xs ∨ y = w) → ys.length ≤ m + 1 → WL (m + 1) ys := fun {ys} h1 h2 => ⟨h2, fun y hy => by
    rcases h1 y hy with h | rfl
    · exact hx.2 y h
    · exact hwo⟩
  have ht : ∀ {y : D} {k : Nat}, y ∈ xs.take k → y ∈ xs := fun hy => List.mem_of_mem_take hy
  have hdr : ∀ {y : D} {k : Nat}, y ∈ xs.drop k → y ∈ xs := fun hy => List.mem_of_mem_drop hy
  have hs1 : small xs.length = true := smallLe (by omega)
  by_cases h2 : a < 2
  · simp [h2, cutL_to _ b0, cutL_from _ (show 0 ≤ b + a by omega)]
    rw [add_lst (by simp; omega)]
    simp
    rw [add_lst (by simp; omega)]
    simp
    exact q0.rt _ _ ⟨⟨_, rfl, mem (fun y hy => by
      simp only [List.mem_append, List.mem_cons, List.not_mem_nil, or_false] at hy
      rcases hy with hy | rfl | hy
      · exact .inl (ht hy)
      · exact .inr rfl
      · exact .inl (hdr hy)) (by simp; omega)⟩, hd4⟩
  · by_cases h3 : a = 2
    · subst h3
      simp [cutL_to _ b0, cutL_from _ (show 0 ≤ b + 1 by omega)]
      rw [add_lst (by simp; omega)]
      simp
      exact q0.rt _ _ ⟨⟨_, rfl, mem (fun y hy => by
        rcases List.mem_append.mp hy with hy | hy
        · exact .inl (ht hy)
        · exact .inl (hdr hy)) (by simp; omega)⟩, hd4⟩
    · by_cases h4 : a = 3
      · subst h4
        simp [cutL_to _ b0, cutL_from _ b0, cutL_both _ b0 (show 0 ≤ b + 1 by omega)]
        rw [add_lst (by simp; omega)]
        simp
        rw [add_lst (by simp; omega)]
        simp
        exact q0.rt _ _ ⟨⟨_, rfl, mem (fun y hy => by
          simp only [List.mem_append] at hy
          rcases hy with hy | hy | hy
          · exact .inl (ht hy)
          · exact .inl (hdr (List.mem_of_mem_take hy))
          · exact .inl (hdr hy)) (by simp; omega)⟩, hd4⟩
      · simp [h2, h3, h4]
        exact q0.rt _ _ ⟨⟨_, rfl, mem (fun y hy => .inl hy) (by omega)⟩, hd4⟩
theorem blanks_ok (n N : Nat) (r s : Sto) (xs : List D) (m : Nat) (h : Bg (N + 3) r s) (hx : WL m xs) (hm : m ≤ 1000) :
    Ok ((callsAt T (n+3)).call 327 [.loc 0, .lst xs] s) fun d s' => (∃ a, d = .str a ∧ Asc a ∧ a.cps.size ≤ 1000000) ∧ Bg N r s' := by
  obtain ⟨ws, rfl, hl, hws⟩ := hx.strs
  have blk : ∀ (b : Str), b ∈ ([" ", "  ", "   ", ""] : List Str) → Asc b ∧ b.cps.size ≤ 3 := fun b hb => by
    have : ∀ b ∈ ([" ", "  ", "   ", ""] : List Str), (b.cps.toList.all fun c => decide (c < 128)) = true ∧ b.cps.size ≤ 3 := by decide +kernel
    exact ⟨asc_by (this b hb).1, (this b hb).2⟩
  rw [at_succ]
  refine Ok.callL (d := f327) rfl rfl fun P0 q0 => ?_
  simp only [f327, b327, startG]
  simp
  refine Hf.seqL fun P1 q1 => Hf.fl (bpick_ok n (N + 2) r s _ h (by simp) (by simp)) ?_
  rintro d s2 ⟨hd, hd2⟩
  obtain ⟨b, rfl, hb⟩ : ∃ b, d = .str b ∧ b ∈ ([" ", "  ", "   ", ""] : List Str) := by
    simp at hd
    rcases hd with rfl | rfl | rfl <;> exact ⟨_, rfl, by simp⟩
  obtain ⟨ba, bl⟩ := blk b hb
  have hsum := sum_le (m := 700) (ys := ws) fun y hy => (hws y hy).2
  have hmul : ws.length * b.cps.size ≤ ws.length * 3 := Nat.mul_le_mul_left _ bl
  have hj := bm_join b ws (by
    have e1 : (ws.map (·.length)).sum ≤ ws.length * 700 := hsum
    have e2 : ws.length * b.length ≤ ws.length * 3 := hmul
    omega)
  have hja := tjoin_asc ba (ys := ws) fun y hy => (hws y hy).1
  have hjl := tjoin_len b ws
  generalize PySem.Txt.join b ws = z at *
  rw [show bmOk .join (.str b) = true from rfl]
  simp [hj]
  refine q1.nx _ _ ?_
  simp
  refine Hf.seqL fun P2 q2 => Hf.fl (bpick_ok n (N + 1) r s2 [.str "", .str "", .str " ", .str "  "] hd2 (by simp) (by simp)) ?_
  rintro d s3 ⟨hd, hd3⟩
  obtain ⟨c, rfl, hc⟩ : ∃ b, d = .str b ∧ b ∈ ([" ", "  ", "   ", ""] : List Str) := by
    simp at hd
    rcases hd with rfl | rfl | rfl <;> exact ⟨_, rfl, by simp⟩
  obtain ⟨ca, cl⟩ := blk c hc
  have a1 : binD .Add (.str c) (.str z) = some (.str (c ++ z)) := by
    show (if small (c.length + z.length) = true then some (D.str (c ++ z)) else none) = _
    rw [if_pos (smallLe (by show c.cps.size + z.cps.size ≤ _; omega))]
  simp [a1]
  refine Hf.fl (bpick_ok n N r s3 [.str "", .str "", .str " "] hd3 (by simp) (by simp)) ?_
  rintro d s4 ⟨hd, hd4⟩
  obtain ⟨e, rfl, he⟩ : ∃ b, d = .str b ∧ b ∈ ([" ", "  ", "   ", ""] : List Str) := by
    simp at hd
    rcases hd with rfl | rfl <;> exact ⟨_, rfl, by simp⟩
  obtain ⟨ea, el⟩ := blk e he
  have l1 := len_app c z
  have l2 := len_app (c ++ z) e
  have a2 : binD .Add (.str (c ++ z)) (.str e) = some (.str (c ++ z ++ e)) := by
    show (if small ((c ++ z).length + e.length) = true then some (D.str (c ++ z ++ e)) else none) = _
    rw [if_pos (smallLe (by show (c ++ z).cps.size + e.cps.size ≤ _; omega))]
  simp [a2]
  exact q2.rt _ _ <| q0.rt _ _ ⟨⟨_, rfl, asc_append (asc_append ca hja) ea, by omega⟩, hd4⟩
/-! ### the law -/
def boddL : List D := [.non, .bl true, .bl false, .int 0, .int 1, .int (-1), .int 7, .int 10000000000000000000000000000000, .str "", .str "0", .str "2a", .tup [], .lst [], .tup [.int 0], .tup [.int 1, .int 2], .lst [.int 0], .tup [.int 0, .bl true], .dct [] [],
  .tup [.non], .tup [.str "a", .int 1], .tup [.tup [.int 0, .int 1]], .tup [.int 0, .int 0], .lst [.tup [.int 0, .int 1]], .dct [.inr "0"] [.int 1], .tup [.int 4, .int 1], .tup [.int 2, .int 3, .int 1], .tup [.int 3]]
theorem bodd_ok (n N : Nat) (r s : Sto) (h : Bg (N + 1) r s) : Ok ((callsAt T (n+3)).call 55 [.loc 0] s) fun d s' => d ∈ boddL ∧ Bg N r s' := by
  have p31 : binD .Pow (.int 10) (.int 31) = some (.int 10000000000000000000000000000000) := by rfl
  rw [at_succ]
  refine Ok.callL (d := f55) rfl rfl fun P0 q0 => ?_
  simp only [f55, b55, startG]
  simp [add_lst, p31]
  refine Hf.seqL fun P1 q1 => Hf.fl (bpick_ok n N r s boddL h (by simp [boddL]) (by simp [boddL])) ?_
  rintro d s2 ⟨hm, hd⟩
  simp
  exact q1.rt _ _ (q0.rt _ _ ⟨hm, hd⟩)
/-- values that reading is asked of -/
def Tst (v : D) : Prop := (∃ a, v = .str a ∧ Asc a ∧ a.cps.size ≤ 1000000) ∨ notS v = true
theorem bodd_tst : ∀ v ∈ boddL, Tst v := by
  have key : ∀ v ∈ boddL, (match v with
    | .str a => (a.cps.toList.all fun c => decide (c < 128)) && Nat.ble a.cps.size 1000
    | v => notS v) = true := by decide +kernel
  intro v hv
  have := key v hv
  cases v with
  | str a =>
    simp only [Bool.and_eq_true] at this
    exact .inl ⟨a, rfl, asc_by this.1, Nat.le_trans (Nat.le_of_ble_eq_true this.2) (by omega)⟩
  | _ => exact .inr this
theorem runs_vw35 {rs : List (Int × Int)} (h1 : rs.length ≤ 6) (h : ∀ p ∈ rs, RunOk p) : Vw 2 3000 (.tup (rs.map runD)) := by
  refine Vw.tup (k := 1) (n := 400) (l := 6) (by simp; omega) (fun x hx => ?_) (by omega)
  obtain ⟨p, hp, rfl⟩ := List.mem_map.mp hx
  obtain ⟨o0, o1, o2, o3⟩ := h p hp
  refine Vw.tup (k := 0) (n := 100) (l := 2) (by simp) (fun x hx => ?_) (by omega)
  simp only [List.mem_cons, List.not_mem_nil, or_false] at hx
  rcases hx with rfl | rfl
  · exact Vw.int (Nat.lt_of_le_of_lt (show p.1.natAbs ≤ 3 by omega) (by decide +kernel))
  · exact Vw.int (Nat.lt_of_le_of_lt (show p.2.natAbs ≤ 1000000000000000000000000000000 by omega) (by decide +kernel))
theorem dueW_vw (ws : List Str) (hl : ws.length ≤ 2000000) : Vw 3 10000 (dueW ws) := by
  unfold dueW
  cases e : (List.range ws.length).find? (badW ws) with
  | some i =>
    have hi := List.mem_range.mp (List.mem_of_find?_eq_some e)
    refine Vw.lst (k := 2) (n := 200) (l := 2) (by simp) (fun x hx => ?_) (by omega)
    simp only [List.mem_cons, List.not_mem_nil, or_false] at hx
    rcases hx with rfl | rfl
    · exact vwC_ok (by decide +kernel)
    · exact (Vw.int (Nat.lt_of_le_of_lt (show ((i : Nat) : Int).natAbs ≤ 2000000 by omega) (by decide +kernel))).mono (by omega) (by omega)
  | none =>
    simp only
    split
    · exact vwC_ok (by decide +kernel)
    · rename_i h0
      have hf : fineTo ws ws.length := fun j hj => by
        have := List.find?_eq_none.mp e j (List.mem_range.mpr hj)
        simpa using this
      obtain ⟨rs, er, hr, l1, l2⟩ := hf.row h0
      rw [er]
      cases e2 : rErr (.tup (rs.map runD)) with
      | none => exact (runs_vw35 l2 hr).mono (by omega) (by omega)
      | some p =>
        obtain ⟨a, b⟩ := p
        simp only
        rcases rErr_some e2 with ⟨rfl, rfl⟩ | ⟨i, hi, rfl, x, rfl, hx⟩
        · exact vwC_ok (by decide +kernel)
        · have hw : Vw 2 150 (.str x) := by rcases hx with rfl | rfl | rfl | rfl <;> exact vwC_ok (by decide +kernel)
          exact Vw.lst (k := 2) (n := 150) (l := 3) (by simp) (by simp; exact ⟨vwC_ok (by decide +kernel), (Vw.int (by omega)).mono (by omega) (by omega), hw⟩) (by omega)
/-- law and program tell the same -/
theorem both35 (n : Nat) (v : D) (h : Tst v) : ∃ d t, (∀ s, (callsAt T (n+8)).call 64 [v] s = .ok d s) ∧ (∀ s, (callsAt T (n+8)).call 58 [v] s = .ok d s) ∧ reprD d = some t := by
  rcases h with ⟨a, rfl, ha, hl⟩ | h
  · obtain ⟨t, ht⟩ := (dueW_vw (wordsF a) (by have := (words_ok ha hl).2; omega)).repr (by omega) (by omega)
    exact ⟨_, t, fun s => c_told_s n a s hl ha, fun s => c_due (n + 4) a s hl ha, ht⟩
  · obtain ⟨t, ht⟩ := (vwC_ok (k := 1) (n := 100) (d := .lst [.str "BadText", .non]) (by decide +kernel)).repr (by omega) (by omega)
    exact ⟨_, t, fun s => c_told_n (n + 5) v s h, fun s => c_due_n (n + 7) v s h, ht⟩
def oddW : List D := [.str "1a", .str "2b", .str "0a", .str "01a", .str "a", .str "1", .str "1e", .str "1A", .str "-1a", .str "+1a", .str "1 a", .str "1a1", .str "1_0a", .str "aa", .str "to", .str "\n", .str "1a\n",
  .str "1000000000000000000000000000000a", .str "1000000000000000000000000000001b", .str "11111111111111111111111111111111c", .str "9999999999999999999999999999999d", .str "999999999999999999999999999999d", .str "10", .str "3c", .str "4d"]
theorem oddW_ok : WL 100 oddW := by
  refine ⟨by decide, ?_⟩
  have key : ∀ v ∈ oddW, (match v with
    | .str a => (a.cps.toList.all fun c => decide (c < 128)) && Nat.ble a.cps.size 700
    | _ => false) = true := by decide +kernel
  intro v hv
  have := key v hv
  cases v with
  | str a =>
    simp only [Bool.and_eq_true] at this
    exact ⟨a, rfl, asc_by this.1, Nat.le_of_ble_eq_true this.2⟩
  | _ => cases this
theorem words_wl {rs : List (Int × Int)} (h : RunsOk rs) : WL 702 ((wordsF (textF rs)).map .str) := by
  obtain ⟨ha, hl⟩ := text_ok h
  obtain ⟨h1, h2⟩ := words_ok ha hl
  refine ⟨by simpa using h2, fun x hx => ?_⟩
  obtain ⟨w, hw, rfl⟩ := List.mem_map.mp hx
  exact ⟨w, rfl, (h1 w hw).asc, (h1 w hw).le⟩
theorem add_strs {x y z : Str} (h : x.length + y.length ≤ 16777216) (e : x ++ y = z) : binD .Add (.str x) (.str y) = some (.str z) := by
  show (if small (x.length + y.length) = true then some (D.str (x ++ y)) else none) = _
  rw [if_pos (smallLe h), e]
theorem mul_strs {x z : Str} {k : Int} (h1 : 2 ≤ k) (h2 : k ≤ 1000) (h3 : 1 ≤ x.length) (h4 : x.length ≤ 1000) (e : repS x k.toNat = z) : binD .Mult (.str x) (.int k) = some (.str z) := by
  show (if (decide (2 ≤ k) && decide (k ≤ 1000) && decide (1 ≤ x.length) && decide (x.length ≤ 1000)) = true then some (D.str (repS x k.toNat)) else none) = _
  rw [if_pos (by simp [h1, h2, h3, h4]), e]
theorem law_ok (n : Nat) (ns : List Int) (h : ns.length ≤ 63) : Ok ((callsAt T (n+12)).call 59 [.scr ns] []) fun d _ => d = .bl true := by
  have m1 : binD .Mult (.str "0") (.int 30) = some (.str "000000000000000000000000000000") := mul_strs (by omega) (by omega) (by decide) (by decide) (by decide +kernel)
  have m2 : binD .Mult (.str "0") (.int 29) = some (.str "00000000000000000000000000000") := mul_strs (by omega) (by omega) (by decide) (by decide) (by decide +kernel)
  have m3 : binD .Mult (.str "1") (.int 32) = some (.str "11111111111111111111111111111111") := mul_strs (by omega) (by omega) (by decide) (by decide) (by decide +kernel)
  have m4 : binD .Mult (.str "9") (.int 31) = some (.str "9999999999999999999999999999999") := mul_strs (by omega) (by omega) (by decide) (by decide) (by decide +kernel)
  have m5 : binD .Mult (.str "9") (.int 30) = some (.str "999999999999999999999999999999") := mul_strs (by omega) (by omega) (by decide) (by decide) (by decide +kernel)
  have a1 : binD .Add (.str "1") (.str "000000000000000000000000000000") = some (.str "1000000000000000000000000000000") := add_strs (by decide +kernel) (by decide +kernel)
  have a2 : binD .Add (.str "1000000000000000000000000000000") (.str "a") = some (.str "1000000000000000000000000000000a") := add_strs (by decide +kernel) (by decide +kernel)
  have a3 : binD .Add (.str "1") (.str "00000000000000000000000000000") = some (.str "100000000000000000000000000000") := add_strs (by decide +kernel) (by decide +kernel)
  have a4 : binD .Add (.str "100000000000000000000000000000") (.str "1b") = some (.str "1000000000000000000000000000001b") := add_strs (by decide +kernel) (by decide +kernel)
  have a5 : binD .Add (.str "11111111111111111111111111111111") (.str "c") = some (.str "11111111111111111111111111111111c") := add_strs (by decide +kernel) (by decide +kernel)
  have a6 : binD .Add (.str "9999999999999999999999999999999") (.str "d") = some (.str "9999999999999999999999999999999d") := add_strs (by decide +kernel) (by decide +kernel)
  have a7 : binD .Add (.str "999999999999999999999999999999") (.str "d") = some (.str "999999999999999999999999999999d") := add_strs (by decide +kernel) (by decide +kernel)
  rw [at_succ]
  refine Ok.callL (d := f59) rfl rfl fun P0 q0 => ?_
  simp only [f59, b59, startG]
  simp
  refine Hf.seqL fun P1 q1 => Hf.fl (bag_ok (n + 10) ns h) ?_
  rintro _ s ⟨rfl, hd⟩
  simp
  refine q1.nx _ _ ?_
  simp [m1, m2, m3, m4, m5, a1, a2, a3, a4, a5, a6, a7, add_lst]
  refine Hf.seqL fun P1 q1 => ?_
  rw [show (8 : Int) = ((8 : Nat) : Int) from rfl, rngR_nat (by decide)]
  simp only [fl_ok, forF, seqOf_lst, optF_some, frzI_eq]
  refine Hf.forK (fun i g s' => Bg (1000 * (8 - i)) [] s' ∧ ∃ x3 x4 x5 x6 x7 x8, g = [.sh (.scr ns), .sh (.loc 0), .sh (.lst oddW), x3, x4, x5, x6, x7, x8]) ⟨hd.mono (by omega), _, _, _, _, _, _, rfl⟩ ?_ ?_
  · rintro i x g s1 P2 hx hi ⟨hd1, x3, x4, x5, x6, x7, x8, rfl⟩ q2
    simp at hi
    simp
    refine Hf.seqL fun P3 q3 => Hf.fl (bgreat_ok (n+8) (1000 * (8 - (i + 1)) + 900) [] s1 6 (hd1.mono (by omega)) (by omega) (by omega)) ?_
    rintro _ s2 ⟨⟨rs, rfl, hr, hrl⟩, hd2⟩
    simp
    refine q3.nx _ _ ?_
    obtain ⟨ta, tl⟩ := text_ok hr
    have ht1 := fun s => c_text_l (n + 10) rs s hr
    have ht2 := fun s => c_text (n + 9) rs s hr
    have ht3 := fun s => c_words_l (n + 10) (textF rs) s (by omega)
    have ht4 := fun s => c_make (n + 6) rs s hr
    have hwl := words_wl hr
    obtain ⟨tx, htx⟩ := (Vw.str (x := textF rs) (m := 700) (List.all_eq_true.mpr fun c hc => by have := ta c hc; simp; omega) tl).repr (by omega) (by omega)
    simp [ht1, ht2, ht3, ht4, htx]
    generalize (wordsF (textF rs)).map D.str = W at *
    refine Hf.seqL fun P3 q3 => ?_
    rw [show (4 : Int) = ((4 : Nat) : Int) from rfl, rngR_nat (by decide)]
    simp only [fl_ok, forF, seqOf_lst, optF_some, frzI_eq]
    refine Hf.forK (fun j g s' => Bg (1000 * (8 - (i + 1)) + 100 + 20 * (4 - j)) [] s' ∧ ∃ x6 x7 x8, g = [.sh (.scr ns), .sh (.loc 0), .sh (.lst oddW), .sh x, .sh (runsD rs), .sh (.lst W), x6, x7, x8]) ⟨hd2.mono (by omega), _, _, _, rfl⟩ ?_ ?_
    · rintro j y g s3 P4 hy hj ⟨hd3, x6, x7, x8, rfl⟩ q4
      simp at hj
      simp
      refine Hf.seqL fun P5 q5 => Hf.fl (spoilt_ok (n+8) (1000 * (8 - (i + 1)) + 100 + 20 * (4 - (j + 1)) + 6) [] s3 W oddW 702 (hd3.mono (by omega)) hwl (by omega) oddW_ok (by simp [oddW])) ?_
      rintro _ s4 ⟨⟨W1, rfl, hw1⟩, hd4⟩
      refine Hf.fl (spoilt_ok (n+8) (1000 * (8 - (i + 1)) + 100 + 20 * (4 - (j + 1)) + 3) [] s4 W1 oddW 703 (hd4.mono (by omega)) hw1 (by omega) oddW_ok (by simp [oddW])) ?_
      rintro _ s5 ⟨⟨W2, rfl, hw2⟩, hd5⟩
      refine Hf.fl (blanks_ok (n+8) (1000 * (8 - (i + 1)) + 100 + 20 * (4 - (j + 1))) [] s5 W2 704 hd5 hw2 (by omega)) ?_
      rintro _ s6 ⟨⟨a, rfl, ha, hal⟩, hd6⟩
      simp
      refine q5.nx _ _ ?_
      obtain ⟨d, t, h64, h58, hrp⟩ := both35 (n + 3) (.str a) (.inl ⟨a, rfl, ha, hal⟩)
      simp [h64, h58, hrp]
      exact q4.nx _ _ ⟨hd6, _, _, _, rfl⟩
    · rintro g s3 ⟨hd3, x6, x7, x8, rfl⟩
      simp at hd3
      refine q3.nx _ _ ?_
      simp
      refine Hf.seqL fun P3 q3 => Hf.fl (bodd_ok (n+8) (1000 * (8 - (i + 1))) [] s3 (hd3.mono (by omega))) ?_
      rintro o s4 ⟨ho, hd4⟩
      simp [ht4]
      have hall : ∀ v ∈ [o, runsD rs, D.lst W, .str "", .str "  ", strD rs], Tst v := fun v hv => by
        simp only [List.mem_cons, List.not_mem_nil, or_false] at hv
        rcases hv with rfl | rfl | rfl | rfl | rfl | rfl
        · exact bodd_tst _ ho
        · exact .inr rfl
        · exact .inr rfl
        · exact .inl ⟨_, rfl, asc_by (by decide +kernel), by decide⟩
        · exact .inl ⟨_, rfl, asc_by (by decide +kernel), by decide⟩
        · exact .inr rfl
      simp only [forF, seqOf_lst, optF_some, frzI_eq]
      refine Hf.forK (fun _ g s' => s' = s4 ∧ ∃ x6 x7 x8, g = [.sh (.scr ns), .sh (.loc 0), .sh (.lst oddW), .sh x, .sh (runsD rs), .sh (.lst W), x6, x7, x8]) ⟨rfl, _, _, _, rfl⟩ ?_ ?_
      · rintro j v g s5 P4 hv hj ⟨rfl, x6, x7, x8, rfl⟩ q4
        obtain ⟨d, t, h64, h58, hrp⟩ := both35 (n + 3) v (hall v (List.mem_of_getElem? hv))
        simp [h64, h58, hrp]
        exact q4.nx _ _ ⟨rfl, _, _, _, rfl⟩
      · rintro g s5 ⟨rfl, x6, x7, x8, rfl⟩
        refine q3.nx _ _ ?_
        simp
        exact q2.nx _ _ ⟨hd4, _, _, _, _, _, _, rfl⟩
  · rintro g s' ⟨hd, x3, x4, x5, x6, x7, x8, rfl⟩
    refine q1.nx _ _ ?_
    simp
    exact q0.rt _ _ rfl
theorem word (ns : List Int) (h : ns.length ≤ 63) : ∃ s', (callsAt T 20).call 59 [.scr ns] [] = .ok (.bl true) s' := by
  obtain ⟨d, s', e, rfl⟩ := (law_ok 8 ns h).get
  exact ⟨s', e⟩
end Bd
open PySem PySem.W PySem.Calls PyProof.Rows
theorem PySem.Challenge.cw_beadshares_k35_texts_of_strings_holds : PySem.Challenge.rw_beadshares_k35_texts_of_strings.Holds := by
  w_on; o_law
  refine HandSHeadRun.head_any (r := Bd.R6) (q := view Bd.R6.prog [41]) (H := Bd.hk) (ob := Bd.ob) (M := 12000) (loose := Bd.names) (d := HandSHeadRun.topDef Bd.R6.prog 41) (kwd := []) Bd.ob_eq
    (by kernel_rfl) (fun s => by kernel_rfl) Bd.run (by kernel_rfl) (by kernel_rfl) (by kernel_rfl) (by rfl) (by first | assumption | decide +kernel) (by decide +kernel) ⟨rfl, rfl, rfl, rfl, rfl, by decide +kernel⟩ ?hw ?hc
  case hw => w_witness2
  case hc =>
    refine Bd.law_end (l := PySem.Challenge.rw_beadshares_k35_texts_of_strings) (n := 63) (m := 20) rfl (by decide) (by kernel_rfl) ⟨rfl, by decide, by decide⟩ ?F
    intro w mg fa h Y G hmg0
    obtain ⟨K, KX, c⟩ := Y
    have hmg : mg ("law" : PySem.Str) = some (.ref fa) := by
      have e : (HandSHeadRun.topDef Bd.R6.prog 41).name = ("law" : PySem.Str) := by kernel_rfl
      rw [← e]
      exact hmg0
    have c1 := congrArg (fun z : Bd.AlB => z.1) c
    have c2 := (Bool.and_eq_true_iff.mp c1).1
    have c3 := congrArg (fun z : Bd.AlB => z.2.2) c
    have B := Bd.bsB_ok KX G (by decide +kernel) (by decide +kernel) (P := PySem.Challenge.rw_beadshares_k35_texts_of_strings.prog) rfl (by decide +kernel) Bd.px.mem c3 c2
    have e1 := (B.fns "law" 59 (by kernel_rfl)).1
    refine ⟨Bd.G, Bd.T, Bd.hd.lay K, 59, Bd.f59, KX, ?_, by kernel_rfl, B, Bd.all_defs c Bd.fx, Bd.word⟩
    have e2 := e1.symm.trans hmg
    cases e2
    rfl
