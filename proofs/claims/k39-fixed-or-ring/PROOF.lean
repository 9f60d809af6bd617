import PyProof.Rows.All
import Wide.All
import OpenK.AllK
import Wide.FinOn
import HandS.List
import HandS.ForMost
import HandS.Flow
import HandS.Exc
import HandS.ExcOwn
import HandS.ExcField
import HandS.ExcInit
import HandS.TryMany
import HandS.IsInst
import HandS.TupLe
import HandS.TupAny
import HandS.Wide
import HandS.Style
import HandS.Deep
import HandS.Defaults
import HandS.MakeKw
import HandS.Codes
import KE.DataMinMax
import KE.KTupSum
import HandS.SortInts
import HandS.HeadWalk
import HandS.OwnEq
import HandS.More
import HandS.WideBits
import HandS.SetFor
import HandS.Strs
import HandS.Zip
import HandS.TryOnly
import HandS.Conv
import HandS.Star
import KE.GoesMore
import PyProof.EnumMake
import HandS.WideMore
import HandS.Small
import HandS.ExcIs
import HandS.ExcSuper
import KE.KExcIs
import HandS.EndBits
import HandS.HeadHook1
import HandS.HeadHook2
import HandS.HeadEnd
import HandS.Words
import HandS.Head0
import HandS.Head1
import HandS.Head2
import KE.KStateDown
import PySem.Challenge.RW_clockshifts_k39_whole_fixed_numbers_or_a
set_option Elab.async false
set_option linter.all false
set_option maxRecDepth 100000
set_option maxHeartbeats 0
/-! ItA: a small language, its values, its runs. -/
namespace Itp
open PySem (Str PyData)

/-- values: tuples and lists that never change stand in the value; other objects are known by their number -/
inductive IV where
  | non | bl (b : Bool) | int (i : Int) | str (x : Str) | tup (xs : List IV) | frz (xs : List IV) | ref (n : Nat)
  deriving Inhabited
inductive IO where
  | lst (xs : List IV) | dic (kvs : List (IV × IV)) | ins (c : Nat) (fs : List (Nat × IV))
  deriving Inhabited
abbrev IH := List IO
/-- a slot of a def: empty, a value, the exception that is handled (its class, its field) -/
inductive Sl where
  | no | v (x : IV) | x (c : Nat) (y : IV)
abbrev En := List Sl
inductive R (α : Type) where
  | ok (a : α) (h : IH) | ex (c : Nat) (v : IV) (h : IH) | no
def R.bind {α β : Type} (r : R α) (f : α → IH → R β) : R β := match r with
  | .ok a h => f a h
  | .ex c v h => .ex c v h
  | .no => .no
theorem R.bind_ok {α β : Type} (a : α) (h : IH) (f : α → IH → R β) : (R.ok a h).bind f = f a h := rfl
theorem R.bind_ex {α β : Type} (c : Nat) (v : IV) (h : IH) (f : α → IH → R β) : (R.ex c v h : R α).bind f = .ex c v h := rfl
theorem R.bind_no {α β : Type} (f : α → IH → R β) : (R.no : R α).bind f = .no := rfl
/-- behind a statement -/
inductive RS where
  | nx (s : En) (h : IH) | rt (v : IV) (h : IH) | bk (s : En) (h : IH) | ct (s : En) (h : IH) | ex (c : Nat) (v : IV) (s : En) (h : IH) | no

inductive O2 where
  | add | sub | mul | fdiv | mod | pow | band | bor | bxor | shl | shr
inductive C2 where
  | eq | ne | lt | le | gt | ge | is_ | isn | in_ | nin
inductive IC where
  | int | bool | str | list | tuple | dict | own (c : Nat)
inductive Bi where
  | len | abs | int | bool | str | list | tuple | sum | max | min | any | all | sorted | repr
inductive Bm where
  | append | pop | extend | reverse | clear | insert | index | count
/-- how a parameter is bound: the i-th of the values that were reckoned, or a default -/
inductive Bd where
  | arg (i : Nat) | dfl (v : IV)
mutual
inductive Tg where
  | nm (i : Nat) | tp (is : List Nat) | ns (ts : Tgs)
inductive Tgs where
  | nil | cons (t : Tg) (ts : Tgs)
end

mutual
inductive IE where
  | var (i : Nat) | lit (v : IV) | glo (i : Nat)
  | bin (o : O2) (a b : IE) | neg (a : IE) | inv (a : IE)
  | cmp (o : C2) (a b : IE) | chn (o p : C2) (a b c : IE)
  | and (es : IA) | or (es : IA) | not (a : IE) | ife (t : IQ) (a b : IE)
  | tup (es : IA) | lst (es : IA) | dic (ks vs : IA)
  | idx (a b : IE) | sl (a : IE) (lo hi : IOp)
  | fld (a : IE) (f : Nat)
  | call (f : Nat) (es ks : IA) (bs : List Bd)
  | meth (m : Nat) (o : IE) (es ks : IA) (bs : List Bd)
  | new (c : Nat) (es ks : IA) (bs : List Bd)
  | bi (b : Bi) (es : IA)
  | bm (m : Bm) (o : IE) (es : IA)
  | isi (a : IE) (cs : List IC)
  | lc (tg : Tg) (it : IT) (ifs : IQs) (elt : IE)
  | exf (i : Nat) (f : Nat)
  | exi (i : Nat) (c : Nat)
  | gix (i : Nat) (e : IE)
  | ocm (ne : Bool) (n : Nat) (a b : IE)
  | rev (a : IE) | bits (a : IE)
  | lrg (tup : Bool) (es : IA)
  | lc2 (tg : Tg) (it : IT) (ifs : IQs) (tg1 : Tg) (it1 : IT) (ifs1 : IQs) (elt : IE)
  | dsp (tup : Bool) (es : ID)
inductive ID where
  | nil | cons (e : IE) (es : ID) | star (e : IE) (es : ID)
inductive IOp where
  | no | so (e : IE)
inductive IA where
  | nil | cons (e : IE) (es : IA)
inductive IT where
  | val (e : IE) | rng (es : IA) | enm (e : IE) | zip (a b : IE)
/-- a test -/
inductive IQ where
  | val (e : IE) | cmp (o : C2) (a b : IE) | chn (o p : C2) (a b c : IE) | ch3 (o p q : C2) (a b c d : IE) | ocm (ne : Bool) (n : Nat) (a b : IE) | and (qs : IQs) | or (qs : IQs) | not (q : IQ)
inductive IQs where
  | nil | cons (q : IQ) (qs : IQs)
end
mutual
inductive IS where
  | expr (e : IE) | set (tg : Tg) (e : IE) | sets (is : List Nat) (e : IE) | par (is : List Nat) (es : IA)
  | fset (o : IE) (f : Nat) (e : IE) | iset (a i : IE) (e : IE) | iset2 (a i b j e : IE)
  | augi (a i : IE) (o : O2) (e : IE)
  | aug (i : Nat) (o : O2) (e : IE) | augf (a : IE) (f : Nat) (o : O2) (e : IE)
  | ret (e : IE) | retn | if_ (t : IQ) (a b : IB) | whl (t : IQ) (b : IB) | for_ (tg : Tg) (it : IT) (b : IB)
  | brk | cnt | pas | rse (c : Nat) (es : IA) | try_ (b : IB) (hs : IHs)
inductive IB where
  | nil | cons (s : IS) (b : IB)
inductive IHs where
  | nil | cons (c : Nat) (i : Option Nat) (b : IB) (r : IHs)
end

/-! ### what stands around: classes, constants -/
structure ClI where
  /-- itself and its heirs' line: all classes that it is one of -/
  par : List Nat
  ini : Option Nat
  mts : List (Nat × Nat)
  flds : List Nat
  eqm : Option Nat
  /-- an exception's class: its field -/
  exf : Option Nat
structure Sg where
  cls : List ClI
  glo : List IV
abbrev CF := Nat → List IV → IH → R IV
def Sg.sub (G : Sg) (c d : Nat) : Bool := match G.cls[c]? with
  | some k => k.par.contains d
  | none => false
def Sg.mt (G : Sg) (c m : Nat) : Option Nat := match G.cls[c]? with
  | some k => k.mts.lookup m
  | none => none

def Sg.fd (G : Sg) (c f : Nat) : Bool := match G.cls[c]? with
  | some k => k.flds.contains f
  | none => false
/-! ### values read as data -/
def datL (f : IV → Option PyData) : List IV → Option (List PyData)
  | [] => some []
  | x :: xs => match f x with
    | some d => (datL f xs).map (d :: ·)
    | none => none
def datK (f : IV → Option PyData) : List (IV × IV) → Option (List (PyData × PyData))
  | [] => some []
  | (x, y) :: r => match f x, f y with
    | some d, some e => (datK f r).map ((d, e) :: ·)
    | _, _ => none
def dat (h : IH) : Nat → IV → Option PyData
  | 0, _ => none
  | n + 1, v => match v with
    | .non => some .none
    | .bl b => some (.bool b)
    | .int i => some (.int i)
    | .str x => some (.str x)
    | .tup xs => (datL (dat h n) xs).map .tuple
    | .frz xs => (datL (dat h n) xs).map .list
    | .ref r => match h[r]? with
      | some (.lst xs) => (datL (dat h n) xs).map .list
      | some (.dic kvs) => (datK (dat h n) kvs).map .dict
      | _ => none
/-- as deep as data may be -/
def DP : Nat := 30

/-! ### operators -/
def LN : Nat := 16777216
def B64 : Int := 18446744073709551616
def isZ : IV → Option Int
  | .int i => some i
  | _ => none
def bin (o : O2) (x y : IV) (h : IH) : R IV := match o, x, y with
  | .add, .int i, .int j => .ok (.int (i + j)) h
  | .sub, .int i, .int j => .ok (.int (i - j)) h
  | .mul, .int i, .int j => if (-B64 < i ∧ i < B64) ∨ (-B64 < j ∧ j < B64) then .ok (.int (i * j)) h else .no
  | .fdiv, .int i, .int j => if 0 < j ∧ j < B64 then .ok (.int (i / j)) h else .no
  | .mod, .int i, .int j => if 0 < j then .ok (.int (i % j)) h else .no
  | .pow, .int i, .int j => if 0 ≤ j ∧ j ≤ 1000000 ∧ -B64 < i ∧ i < B64 then .ok (.int (i ^ j.toNat)) h else .no
  | .band, .int i, .int j => .ok (.int (PySem.Builtin.bitAnd i j)) h
  | .bor, .int i, .int j => .ok (.int (PySem.Builtin.bitOr i j)) h
  | .bxor, .int i, .int j => .ok (.int (PySem.Builtin.bitXor i j)) h
  | .shl, .int i, .int j => if 0 ≤ j ∧ j ≤ 1000000 ∧ -B64 < i ∧ i < B64 then .ok (.int (i * 2 ^ j.toNat)) h else .no
  | .shr, .int i, .int j => if 0 ≤ j then .ok (.int (i / 2 ^ j.toNat)) h else .no
  | .mul, .str i, .int k => if 0 ≤ k ∧ k ≤ 1000000 ∧ i.length * k.toNat ≤ LN then .ok (.str (PySem.Txt.mul i k)) h else .no
  | .add, .str i, .str j => if i.length + j.length ≤ LN then .ok (.str (i ++ j)) h else .no
  | .add, .tup xs, .tup ys => if xs.length + ys.length ≤ LN then .ok (.tup (xs ++ ys)) h else .no
  | .add, .ref a, .ref b => match h[a]?, h[b]? with
    | some (.lst xs), some (.lst ys) => if xs.length + ys.length ≤ LN then .ok (.ref h.length) (h ++ [.lst (xs ++ ys)]) else .no
    | _, _ => .no
  | .mul, .ref a, .int k => match h[a]? with
    | some (.lst xs) => if -4611686018427387904 ≤ k ∧ k < 4611686018427387904 ∧ xs.length * k.toNat ≤ LN then .ok (.ref h.length) (h ++ [.lst (List.replicate k.toNat xs).flatten]) else .no
    | _ => .no
  | _, _, _ => .no
/-- x op= y -/
def ipo (o : O2) (x y : IV) (h : IH) : R IV := match o, x, y with
  | .add, .int i, .int j => .ok (.int (i + j)) h
  | .sub, .int i, .int j => .ok (.int (i - j)) h
  | .mul, .int i, .int j => if (-B64 < i ∧ i < B64) ∨ (-B64 < j ∧ j < B64) then .ok (.int (i * j)) h else .no
  | .fdiv, .int i, .int j => if 0 < j ∧ j < B64 then .ok (.int (i / j)) h else .no
  | .mod, .int i, .int j => if 0 < j then .ok (.int (i % j)) h else .no
  | .band, .int i, .int j => .ok (.int (PySem.Builtin.bitAnd i j)) h
  | .bor, .int i, .int j => .ok (.int (PySem.Builtin.bitOr i j)) h
  | .bxor, .int i, .int j => .ok (.int (PySem.Builtin.bitXor i j)) h
  | .shl, .int i, .int j => if 0 ≤ j ∧ j ≤ 1000000 ∧ -B64 < i ∧ i < B64 then .ok (.int (i * 2 ^ j.toNat)) h else .no
  | .shr, .int i, .int j => if 0 ≤ j then .ok (.int (i / 2 ^ j.toNat)) h else .no
  | .add, .str i, .str j => if i.length + j.length ≤ LN then .ok (.str (i ++ j)) h else .no
  | .add, .ref a, .ref b => match h[a]?, h[b]? with
    | some (.lst xs), some (.lst ys) => if xs.length + ys.length ≤ LN then .ok (.ref a) (h.set a (.lst (xs ++ ys))) else .no
    | _, _ => .no
  | _, _, _ => .no
def same (x y : IV) : Option Bool := match x, y with
  | .non, .non => some true
  | .bl a, .bl b => some (decide (a = b))
  | _, .non => some false
  | _, .bl _ => some false
  | _, _ => none
def eqI (x y : IV) (h : IH) : Option Bool := match dat h DP x, dat h DP y with
  | some d, some e => if PySem.SeqAt.shaped d = true ∧ PySem.SeqAt.shaped e = true then some (PyData.eqv d e) else none
  | _, _ => none
def intsOf : List IV → Option (List Int)
  | [] => some []
  | .int i :: r => (intsOf r).map (i :: ·)
  | _ => none
def strsOf : List IV → Option (List Str)
  | [] => some []
  | .str i :: r => (strsOf r).map (i :: ·)
  | _ => none
def tixF (o : Option IV) (y : IV) (h : IH) : R IV := match o, y with
  | some (.tup xs), .str z => match strsOf xs with
    | some zs => if zs.idxOf z < zs.length then .ok (.int (zs.idxOf z)) h else .no
    | none => .no
  | _, _ => .no
def ltI (x y : IV) : Option Bool := match x, y with
  | .int i, .int j => some (decide (i < j))
  | .str i, .str j => some (decide (i.cps.toList < j.cps.toList))
  | .tup xs, .tup ys => match intsOf xs, intsOf ys with
    | some ns, some ms => some (HT.lexLt ns ms)
    | _, _ => none
  | _, _ => none
def gtI (x y : IV) : Option Bool := match x, y with
  | .int i, .int j => some (decide (j < i))
  | .str i, .str j => some (decide (j.cps.toList < i.cps.toList))
  | _, _ => none
def leI (x y : IV) : Option Bool := match x, y with
  | .int i, .int j => some (decide (i ≤ j))
  | .str i, .str j => some (!decide (j.cps.toList < i.cps.toList))
  | _, _ => none
def items (y : IV) (h : IH) : Option (List IV) := match y with
  | .tup xs => some xs
  | .frz xs => some xs
  | .ref r => match h[r]? with
    | some (.lst xs) => some xs
    | _ => none
  | _ => none
def keyB : IV → Bool
  | .int _ => true
  | .str _ => true
  | _ => false
def keyEq : IV → IV → Bool
  | .int i, .int j => decide (i = j)
  | .str x, .str y => decide (x = y)
  | _, _ => false
def getK (k : IV) : List (IV × IV) → Option IV
  | [] => none
  | (x, v) :: r => if keyEq x k = true then some v else getK k r
def flatD : PyData → Bool
  | .none => true
  | .bool _ => true
  | .int _ => true
  | .str _ => true
  | _ => false
def inD (x y : IV) (h : IH) : Option Bool := match dat h DP x, dat h DP y with
  | some d, some (.list ds) => if PySem.SeqAt.shaped d = true ∧ PySem.SeqAt.shaped (.list ds) = true then some (ds.any fun z => PyData.eqv z d) else none
  | some d, some (.tuple ds) => if flatD d = true ∧ ds.all flatD = true then some (ds.any fun z => PyData.eqv z d) else none
  | _, _ => none
def inI (x y : IV) (h : IH) : Option Bool := match y with
  | .str z => match x with
    | .str w => some (!(PySem.Builtin.Str.occurrences z w 0 z.length 1).isEmpty)
    | _ => none
  | .ref r => match h[r]? with
    | some (.dic kvs) => if keyB x = true then some (getK x kvs).isSome else none
    | _ => inD x y h
  | _ => inD x y h
def boo (o : Option Bool) (h : IH) : R IV := match o with
  | some b => .ok (.bl b) h
  | none => .no
def cEq (x y : IV) (h : IH) : R IV := boo (eqI x y h) h
def cNe (x y : IV) (h : IH) : R IV := boo ((eqI x y h).map (!·)) h
def cLt (x y : IV) (h : IH) : R IV := boo (ltI x y) h
def cLe (x y : IV) (h : IH) : R IV := boo (leI x y) h
def cGt (x y : IV) (h : IH) : R IV := boo (gtI x y) h
def cGe (x y : IV) (h : IH) : R IV := boo (leI y x) h
def cIs (x y : IV) (h : IH) : R IV := boo (same x y) h
def cIsn (x y : IV) (h : IH) : R IV := boo ((same x y).map (!·)) h
def cIn (x y : IV) (h : IH) : R IV := boo (inI x y h) h
def cNin (x y : IV) (h : IH) : R IV := boo ((inI x y h).map (!·)) h
def cmp (o : C2) : IV → IV → IH → R IV := match o with
  | .eq => cEq
  | .ne => cNe
  | .lt => cLt
  | .gt => cGt
  | .le => cLe
  | .ge => cGe
  | .is_ => cIs
  | .isn => cIsn
  | .in_ => cIn
  | .nin => cNin
def tru (x : IV) (h : IH) : Option Bool := match x with
  | .non => some false
  | .bl b => some b
  | .int i => some (i != 0)
  | .str y => if y.length ≤ LN then some ((y.length : Int) != 0) else none
  | .tup xs => some (!xs.isEmpty)
  | .frz xs => some (!xs.isEmpty)
  | .ref r => match h[r]? with
    | some (.lst xs) => some (!xs.isEmpty)
    | some (.dic kvs) => some (!kvs.isEmpty)
    | _ => none
def nIx (n : Nat) (i : Int) : Option Nat := if 0 ≤ i then (if i < n then some i.toNat else none) else if -(n : Int) ≤ i then some (i + n).toNat else none
def atIx {α : Type} (xs : List α) (i : Int) : Option α := (nIx xs.length i).bind fun j => xs[j]?
def opt {α : Type} (o : Option α) (h : IH) : R α := match o with
  | some a => .ok a h
  | none => .no
def index (x y : IV) (h : IH) : R IV := match x with
  | .str z => match y with
    | .int i => if z.length ≤ LN then opt ((atIx z.cps.toList i).map fun c => .str ⟨#[c]⟩) h else .no
    | _ => .no
  | .tup xs => match y with
    | .int i => opt (atIx xs i) h
    | _ => .no
  | .frz xs => match y with
    | .int i => opt (atIx xs i) h
    | _ => .no
  | .ref r => match h[r]? with
    | some (.lst xs) => (match y with
      | .int i => opt (atIx xs i) h
      | _ => .no)
    | some (.dic kvs) => if keyB y = true then opt (getK y kvs) h else .no
    | _ => .no
  | _ => .no
/-- a[i] of a thing that may be stored in -/
def getIt (x y : IV) (h : IH) : R IV := match x with
  | .ref _ => index x y h
  | _ => .no
def sIx (n d : Nat) : Option Int → Nat
  | none => d
  | some v => if v < 0 then (v + (n : Int)).toNat else min v.toNat n
def cut {α : Type} (xs : List α) (lo hi : Option Int) : List α := (xs.drop (sIx xs.length 0 lo)).take (sIx xs.length xs.length hi - sIx xs.length 0 lo)
def slice (x : IV) (lo hi : Option Int) (h : IH) : R IV := match x with
  | .str z => if z.length ≤ LN then .ok (.str (PySem.Txt.slice z lo hi)) h else .no
  | .tup xs => .ok (.tup (cut xs lo hi)) h
  | .frz xs => .ok (.ref h.length) (h ++ [.lst (cut xs lo hi)])
  | .ref r => match h[r]? with
    | some (.lst xs) => .ok (.ref h.length) (h ++ [.lst (cut xs lo hi)])
    | _ => .no
  | _ => .no
/-! ### built-in functions -/
def isC (G : Sg) (x : IV) (h : IH) (c : IC) : Option Bool := match x with
  | .non => some false
  | .bl _ => some (match c with | .int => true | .bool => true | _ => false)
  | .int _ => some (match c with | .int => true | _ => false)
  | .str _ => some (match c with | .str => true | _ => false)
  | .tup _ => some (match c with | .tuple => true | _ => false)
  | .frz _ => some (match c with | .list => true | _ => false)
  | .ref r => match h[r]? with
    | some (.lst _) => some (match c with | .list => true | _ => false)
    | some (.dic _) => some (match c with | .dict => true | _ => false)
    | some (.ins k _) => match G.cls[k]? with
      | some ki => if ki.exf.isNone = true then some (match c with | .own d => ki.par.contains d | _ => false) else none
      | none => none
    | none => none
def isAny (G : Sg) (x : IV) (h : IH) : List IC → Option Bool
  | [] => some false
  | c :: r => match isC G x h c with
    | some true => some true
    | some false => isAny G x h r
    | none => none
/-- no dict in it, or the empty one itself -/
def noD (d : PyData) : Bool := match d with
  | .dict [] => true
  | d => !d.hasDict
def bools : List IV → Option (List Bool)
  | [] => some []
  | .bl b :: r => (bools r).map (b :: ·)
  | _ => none
def Bi.hot : Bi → Bool
  | .sum => false
  | .max => false
  | .min => false
  | .any => false
  | .all => false
  | .sorted => false
  | _ => true
def sortI (ns : List Int) : List Int := ns.mergeSort fun a b => decide (a ≤ b)
/-- x[::-1], a list -/
def revF (x : IV) (h : IH) : R IV := match x with
  | .frz xs => .ok (.ref h.length) (h ++ [.lst xs.reverse])
  | .ref r => match h[r]? with
    | some (.lst xs) => .ok (.ref h.length) (h ++ [.lst xs.reverse])
    | _ => .no
  | _ => .no
def biF (b : Bi) (vs : List IV) (h : IH) : R IV := match b, vs with
  | .len, [.str z] => if z.length ≤ LN then .ok (.int z.length) h else .no
  | .len, [x] => match items x h with
    | some xs => .ok (.int xs.length) h
    | none => match x with
      | .ref r => match h[r]? with
        | some (.dic kvs) => .ok (.int kvs.length) h
        | _ => .no
      | _ => .no
  | .abs, [.int i] => .ok (.int (if i < 0 then -i else i)) h
  | .int, [.int i] => .ok (.int i) h
  | .int, [.bl k] => .ok (.int (if k then 1 else 0)) h
  | .bool, [.int i] => .ok (.bl (i != 0)) h
  | .bool, [.bl k] => .ok (.bl k) h
  | .str, [.int i] => if i.natAbs.log2 < 1920 then .ok (.str (toString i)) h else .no
  | .list, [x] => match items x h with
    | some xs => .ok (.ref h.length) (h ++ [.lst xs])
    | none => .no
  | .tuple, [x] => match items x h with
    | some xs => .ok (.tup xs) h
    | none => .no
  | .sum, [x] => match (items x h).bind intsOf with
    | some ns => .ok (.int ns.sum) h
    | none => .no
  | .sorted, [x] => match x with
    | .tup _ => .no
    | _ => match (items x h).bind intsOf with
      | some ns => .ok (.ref h.length) (h ++ [.lst ((sortI ns).map IV.int)])
      | none => .no
  | .max, [.int i, .int j] => .ok (.int (if j > i then j else i)) h
  | .min, [.int i, .int j] => .ok (.int (if j < i then j else i)) h
  | .max, [x] => match (items x h).bind intsOf with
    | some (n :: ns) => .ok (.int (ns.foldl max n)) h
    | _ => .no
  | .min, [x] => match (items x h).bind intsOf with
    | some (n :: ns) => .ok (.int (ns.foldl min n)) h
    | _ => .no
  | .any, [x] => match x with
    | .tup _ => .no
    | _ => match (items x h).bind bools with
      | some bs => .ok (.bl (bs.any id)) h
      | none => .no
  | .all, [x] => match x with
    | .tup _ => .no
    | _ => match (items x h).bind bools with
      | some bs => .ok (.bl (bs.all id)) h
      | none => .no
  | .repr, [x] => match dat h DP x with
    | some d => if d.showable = true ∧ d.shown.length ≤ LN ∧ d.depth ≤ 64 ∧ noD d = true then .ok (.str d.shown) h else .no
    | none => .no
  | _, _ => .no
def isL (x : IV) (h : IH) : Bool := match x with
  | .ref r => match h[r]? with
    | some (.lst _) => true
    | _ => false
  | _ => false
def bmL (m : Bm) (r : Nat) (xs : List IV) (vs : List IV) (h : IH) : R IV := match m with
  | .append => match vs with
    | [y] => if xs.length < LN then .ok .non (h.set r (.lst (xs ++ [y]))) else .no
    | _ => .no
  | .pop => match vs with
    | [] => match xs.getLast? with
      | some y => .ok y (h.set r (.lst xs.dropLast))
      | none => .no
    | [.int i] => match nIx xs.length i with
      | some k => match xs[k]? with
        | some y => if xs.length ≤ LN then .ok y (h.set r (.lst (xs.eraseIdx k))) else .no
        | none => .no
      | none => .no
    | _ => .no
  | .reverse => match vs with
    | [] => .ok .non (h.set r (.lst xs.reverse))
    | _ => .no
  | .clear => match vs with
    | [] => .ok .non (h.set r (.lst []))
    | _ => .no
  | .extend => match vs with
    | [.ref b] => match h[b]? with
      | some (.lst ys) => if xs.length + ys.length ≤ LN then .ok .non (h.set r (.lst (xs ++ ys))) else .no
      | _ => .no
    | _ => .no
  | .insert => match vs with
    | [.int i, y] => if xs.length < LN ∧ 0 ≤ i ∧ i < 9223372036854775808 then .ok .non (h.set r (.lst (xs.take i.toNat ++ [y] ++ xs.drop i.toNat))) else .no
    | _ => .no
  | .index => match vs with
    | [.int k] => match intsOf xs with
      | some ns => if ns.idxOf k < ns.length then .ok (.int (ns.idxOf k)) h else .no
      | none => .no
    | _ => .no
  | .count => match vs with
    | [.int k] => match intsOf xs with
      | some ns => .ok (.int (ns.count k)) h
      | none => .no
    | _ => .no
def bmF (m : Bm) (o : IV) (vs : List IV) (h : IH) : R IV := match o with
  | .ref r => match h[r]? with
    | some (.lst xs) => bmL m r xs vs h
    | _ => .no
  | _ => .no
/-! ### slots, arguments -/
def getV (s : En) (i : Nat) : Option IV := match s[i]? with
  | some (.v x) => some x
  | _ => none
def setAll : List Nat → List IV → En → Option En
  | [], [], s => some s
  | i :: is, x :: xs, s => setAll is xs (s.set i (.v x))
  | _, _, _ => none
mutual
def asg : Tg → IV → En → IH → Option En
  | .nm i, x, s, _ => some (s.set i (.v x))
  | .tp is, x, s, h => match items x h with
    | some xs => setAll is xs s
    | none => none
  | .ns ts, x, s, h => match items x h with
    | some xs => asgs ts xs s h
    | none => none
def asgs : Tgs → List IV → En → IH → Option En
  | .nil, xs, s, _ => match xs with
    | [] => some s
    | _ => none
  | .cons t ts, xs, s, h => match xs with
    | x :: xs => match asg t x s h with
      | some s1 => asgs ts xs s1 h
      | none => none
    | [] => none
end
def bnd (vs : List IV) : List Bd → Option (List IV)
  | [] => some []
  | .arg i :: r => match vs[i]? with
    | some v => (bnd vs r).map (v :: ·)
    | none => none
  | .dfl v :: r => (bnd vs r).map (v :: ·)
def args (vs : List IV) (bs : List Bd) : Option (List IV) := match bs with
  | [] => some vs
  | _ => bnd vs bs
def putI (f : Nat) (v : IV) : List (Nat × IV) → List (Nat × IV)
  | [] => [(f, v)]
  | (g, w) :: r => if g = f then (g, v) :: r else (g, w) :: putI f v r
def putD (k v : IV) (kvs : List (IV × IV)) : List (IV × IV) :=
  if (kvs.any fun p => keyEq p.1 k) = true then kvs.map fun p => if keyEq p.1 k = true then (p.1, v) else p else kvs ++ [(k, v)]
/-- keys and values in turn -/
def prs : List IV → Option (List (IV × IV))
  | [] => some []
  | x :: y :: r => (prs r).map ((x, y) :: ·)
  | _ => none
def mrg (ps : List (IV × IV)) : List (IV × IV) := ps.foldl (fun acc p => putD p.1 p.2 acc) []
def setIt (x y v : IV) (h : IH) : R Unit := match x with
  | .ref r => match h[r]? with
    | some (.lst xs) => (match y with
      | .int i => match nIx xs.length i with
        | some k => .ok () (h.set r (.lst (xs.set k v)))
        | none => .no
      | _ => .no)
    | some (.dic kvs) => if keyB y = true ∧ kvs.length < LN then .ok () (h.set r (.dic (putD y v kvs))) else .no
    | _ => .no
  | _ => .no
/-! ### walks -/
/-- what is walked: a list that may change, or things that don't -/
inductive Wk where
  | lst (r : Nat) | fix (xs : List IV) | enm (a : IV) | zip (a b : IV)
/-- a list's items -/
def lstI (x : IV) (h : IH) : Option (List IV) := match x with
  | .frz xs => some xs
  | .ref r => match h[r]? with
    | some (.lst xs) => some xs
    | _ => none
  | _ => none
def enmT : Nat → List IV → List IV
  | _, [] => []
  | k, x :: xs => .tup [.int ((k : Nat) : Int), x] :: enmT (k + 1) xs
def zipT : List IV → List IV → List IV
  | x :: xs, y :: ys => .tup [x, y] :: zipT xs ys
  | _, _ => []
/-- the i-th turn: none: it can't be said; some none: the end -/
def Wk.nxt (w : Wk) (i : Nat) (h : IH) : Option (Option IV) := match w with
  | .fix xs => some xs[i]?
  | .lst r => match h[r]? with
    | some (.lst xs) => some xs[i]?
    | _ => none
  | .enm a => (lstI a h).map fun xs => (xs[i]?).map fun x => .tup [.int i, x]
  | .zip a b => match lstI a h, lstI b h with
    | some xs, some ys => some (match xs[i]?, ys[i]? with
      | some x, some y => some (.tup [x, y])
      | _, _ => none)
    | _, _ => none
def FU : Nat := 17000000
def walk (w : Wk) (tg : Tg) (body : En → IH → RS) : Nat → Nat → En → IH → RS
  | 0, _, _, _ => .no
  | k + 1, i, s, h => match w.nxt i h with
    | none => .no
    | some none => .nx s h
    | some (some x) => match asg tg x s h with
      | none => .no
      | some s1 => match body s1 h with
        | .nx s2 h2 => walk w tg body k (i + 1) s2 h2
        | .ct s2 h2 => walk w tg body k (i + 1) s2 h2
        | .bk s2 h2 => .nx s2 h2
        | .rt v h2 => .rt v h2
        | .ex c v s2 h2 => .ex c v s2 h2
        | .no => .no
/-- a comprehension into the list r -/
def colle (w : Wk) (tg : Tg) (s : En) (test : En → IH → R Bool) (elt : En → IH → R IV) (r : Nat) : Nat → Nat → IH → R Unit
  | 0, _, _ => .no
  | k + 1, i, h => match w.nxt i h with
    | none => .no
    | some none => .ok () h
    | some (some x) => match asg tg x s h with
      | none => .no
      | some s1 => match test s1 h with
        | .ok true h1 => (match elt s1 h1 with
          | .ok y h2 => match h2[r]? with
            | some (.lst acc) => if acc.length < LN then colle w tg s test elt r k (i + 1) (h2.set r (.lst (acc ++ [y]))) else .no
            | _ => .no
          | _ => .no)
        | .ok false h1 => colle w tg s test elt r k (i + 1) h1
        | _ => .no
/-- an expression's end in a statement -/
def RS.of {α : Type} (s : En) (r : R α) (f : α → IH → RS) : RS := match r with
  | .ok a h => f a h
  | .ex c v h => .ex c v s h
  | .no => .no
def loopW (test : En → IH → R Bool) (body : En → IH → RS) : Nat → En → IH → RS
  | 0, _, _ => .no
  | k + 1, s, h => RS.of s (test s h) fun b h1 => match b with
    | true => (match body s h1 with
      | .nx s2 h2 => loopW test body k s2 h2
      | .ct s2 h2 => loopW test body k s2 h2
      | .bk s2 h2 => .nx s2 h2
      | .rt v h2 => .rt v h2
      | .ex c v s2 h2 => .ex c v s2 h2
      | .no => .no)
    | false => .nx s h1
def rng (vs : List IV) : Option (List IV) := match vs with
  | [.int i, .int j, .int c] => if c ≠ 0 ∧ c.natAbs < 1073741824 ∧ PySem.Builtin.Range.small i j c = true then some ((List.range (PySem.Builtin.Range.rangeSize i j c).toNat).map fun k : Nat => .int (i + (k : Int) * c)) else none
  | [.int j] => if -4611686018427387904 ≤ j ∧ j < 4611686018427387904 then some ((List.range j.toNat).map fun k : Nat => .int (0 + (k : Int))) else none
  | [.int i, .int j] => if -4611686018427387904 ≤ i ∧ i < 4611686018427387904 ∧ -4611686018427387904 ≤ j ∧ j < 4611686018427387904 then some ((List.range (j - i).toNat).map fun k : Nat => .int (i + (k : Int))) else none
  | _ => none
/-- list(range(..)) -/
def lrgV (vs : List IV) : Option (List IV) := match vs with
  | [.int j] => if 0 ≤ j ∧ j ≤ 16777216 then some ((List.range j.toNat).map fun k : Nat => .int (0 + (k : Int))) else none
  | [.int i, .int j] => if 0 ≤ i ∧ i ≤ 16777216 ∧ 0 ≤ j ∧ j ≤ 16777216 then some ((List.range (j - i).toNat).map fun k : Nat => .int (i + (k : Int))) else none
  | _ => none
/-- xs as a new list, or as a tuple -/
def newL (tup : Bool) (xs : List IV) (h : IH) : R IV := if xs.length ≤ LN then (if tup = true then .ok (.tup xs) h else .ok (.ref h.length) (h ++ [.lst xs])) else .no
def Tg.isT : Tg → Bool
  | .nm _ => false
  | _ => true
mutual
def Tg.slots : Tg → List Nat
  | .nm i => [i]
  | .tp is => is
  | .ns ts => ts.slots
def Tgs.slots : Tgs → List Nat
  | .nil => []
  | .cons t ts => t.slots ++ ts.slots
end
def wipe (s : En) : List Nat → En
  | [] => s
  | v :: vs => (wipe s vs).set v .no

/-- one in another one -/
def colle2 (w : Wk) (tg : Tg) (s : En) (test : En → IH → R Bool) (iter : En → IH → R Wk) (tg1 : Tg) (test1 : En → IH → R Bool) (elt : En → IH → R IV) (r : Nat) : Nat → Nat → IH → R Unit
  | 0, _, _ => .no
  | k + 1, i, h => match w.nxt i h with
    | none => .no
    | some none => .ok () h
    | some (some x) => match asg tg x s h with
      | none => .no
      | some s1 => match test s1 h with
        | .ok true h1 => (match iter s1 h1 with
          | .ok w1 h2 => (colle w1 tg1 (wipe s1 tg1.slots) test1 elt r FU 0 h2).bind fun _ h3 => colle2 w tg s test iter tg1 test1 elt r k (i + 1) h3
          | _ => .no)
        | .ok false h1 => colle2 w tg s test iter tg1 test1 elt r k (i + 1) h1
        | _ => .no
/-- may this stand right of an own == -/
def ocmY (c : Nat) (y : IV) (h : IH) : Bool := match y with
  | .non => true
  | .bl _ => true
  | .int _ => true
  | .str _ => true
  | .tup _ => true
  | .frz _ => true
  | .ref q => match h[q]? with
    | some (.lst _) => true
    | some (.dic _) => true
    | some (.ins d _) => decide (d = c)
    | none => false
def ocmR (ne : Bool) (r : R IV) : R IV := match r with
  | .ok v h => match v with
    | .bl k => .ok (.bl (k != ne)) h
    | _ => .no
  | _ => .no
/-- an own == (or its !=) -/
def ocmF (G : Sg) (cs : CF) (ne : Bool) (n : Nat) (x y : IV) (h : IH) : R IV := match x with
  | .ref r => match h[r]? with
    | some (.ins c _) => match G.mt c n with
      | some f => if ocmY c y h = true then ocmR ne (cs f [.ref r, y] h) else .no
      | none => .no
    | _ => .no
  | _ => .no
/-! ### the runs -/
section
variable (G : Sg) (m : Bool) (cs : CF)
mutual
def evE : IE → En → IH → R IV
  | .var i, s, h => opt (getV s i) h
  | .lit v, _, h => .ok v h
  | .glo i, _, h => opt G.glo[i]? h
  | .bin o a b, s, h => (evE a s h).bind fun x h => (evE b s h).bind fun y h => bin o x y h
  | .neg a, s, h => (evE a s h).bind fun x h => match x with
    | .int i => .ok (.int (-i)) h
    | _ => .no
  | .inv a, s, h => (evE a s h).bind fun x h => match x with
    | .int i => .ok (.int (PySem.Builtin.bitNot i)) h
    | _ => .no
  | .cmp o a b, s, h => (evE a s h).bind fun x h => (evE b s h).bind fun y h => cmp o x y h
  | .chn o p a b c, s, h => (evE a s h).bind fun x h => (evE b s h).bind fun y h => (cmp o x y h).bind fun k h => match k with
    | .bl true => (evE c s h).bind fun z h => cmp p y z h
    | .bl false => .ok (.bl false) h
    | _ => .no
  | .and es, s, h => evAnd es s h
  | .or es, s, h => evOr es s h
  | .not a, s, h => (evE a s h).bind fun x h => (opt (tru x h) h).bind fun k h => .ok (.bl (!k)) h
  | .ife t a b, s, h => (evT t s h).bind fun k h => if k = true then evE a s h else evE b s h
  | .tup es, s, h => (evA es s h).bind fun vs h => if vs.length ≤ LN then .ok (.tup vs) h else .no
  | .lst es, s, h => (evA es s h).bind fun vs h => if vs.length ≤ LN then .ok (.ref h.length) (h ++ [.lst vs]) else .no
  | .dic ks vs, s, h => match ks, vs with
    | .nil, .nil => .ok (.ref h.length) (h ++ [.dic []])
    | .cons _ _, .nil => (evA ks s (h ++ [.dic []])).bind fun xs h' => match h'[h.length]?, prs xs with
      | some (.dic []), some ps => if ps.length ≤ 15 ∧ (ps.all fun p => keyB p.1) = true then .ok (.ref h.length) (h'.set h.length (.dic (mrg ps))) else .no
      | _, _ => .no
    | _, _ => .no
  | .idx a b, s, h => (evE a s h).bind fun x h => (evE b s h).bind fun y h => index x y h
  | .sl a lo hi, s, h => (evE a s h).bind fun x h => (evO lo s h).bind fun l h => (evO hi s h).bind fun u h => slice x l u h
  | .fld a f, s, h => (evE a s h).bind fun x h => match x with
    | .ref r => match h[r]? with
      | some (.ins c fs) => if G.fd c f = true then opt (fs.lookup f) h else .no
      | _ => .no
    | _ => .no
  | .call f es ks bs, s, h => if m = true then .no else (evA es s h).bind fun vs h => (evA ks s h).bind fun zs h => match args (vs ++ zs) bs with
    | some ws => cs f ws h
    | none => .no
  | .meth n o es ks bs, s, h => if m = true then .no else (evE o s h).bind fun x h => match x with
    | .ref r => match h[r]? with
      | some (.ins c fs) => match G.mt c n, fs.lookup n with
        | some f, none => (evA es s h).bind fun vs h => (evA ks s h).bind fun zs h => match args (.ref r :: (vs ++ zs)) bs with
          | some ws => cs f ws h
          | none => .no
        | _, _ => .no
      | _ => .no
    | _ => .no
  | .new c es ks bs, s, h => if m = true then .no else (evA es s h).bind fun vs h => (evA ks s h).bind fun zs h => match (G.cls[c]?).bind (·.ini), args (.ref h.length :: (vs ++ zs)) bs with
    | some f, some ws => (cs f ws (h ++ [.ins c []])).bind fun v h' => match v with
      | .non => .ok (.ref h.length) h'
      | _ => .no
    | _, _ => .no
  | .bi b es, s, h => if m = true ∧ b.hot = false then .no else (evA es s h).bind fun vs h => biF b vs h
  | .bm k o es, s, h => (evE o s h).bind fun x h => if isL x h = true then (evA es s h).bind fun vs h => bmF k x vs h else .no
  | .isi a ks, s, h => (evE a s h).bind fun x h => boo (isAny G x h ks) h
  | .lc tg it ifs elt, s, h => if m = true then .no else (evI it s h).bind fun w h =>
      (colle w tg (wipe s tg.slots) (evAll ifs) (evE elt) h.length FU 0 (h ++ [.lst []])).bind fun _ h' => .ok (.ref h.length) h'
  | .lrg tup es, s, h => if m = true then .no else (evA es s h).bind fun vs h => (opt (lrgV vs) h).bind fun xs h => newL tup xs h
  | .lc2 tg it ifs tg1 it1 ifs1 elt, s, h => if m = true then .no else (evI it s h).bind fun w h =>
      (colle2 w tg (wipe s (tg.slots ++ tg1.slots)) (evAll ifs) (evI it1) tg1 (evAll ifs1) (evE elt) h.length FU 0 (h ++ [.lst []])).bind fun _ h' => .ok (.ref h.length) h'
  | .dsp tup es, s, h => (evD es s h).bind fun xs h => newL tup xs h
  | .exf i f, s, h => match s[i]? with
    | some (.x c y) => if (G.cls[c]?).bind (·.exf) = some f then .ok y h else .no
    | _ => .no
  | .exi i d, s, h => match s[i]? with
    | some (.x c _) => .ok (.bl (G.sub c d)) h
    | _ => .no
  | .gix i e, s, h => (evE e s h).bind fun y h => tixF G.glo[i]? y h
  | .rev a, s, h => (evE a s h).bind fun x h => revF x h
  | .bits a, s, h => (evE a s h).bind fun x h => match x with
    | .int i => .ok (.int (PySem.Builtin.Int.intBits i : Nat)) h
    | _ => .no
  | .ocm ne n a b, s, h => if m = true then .no else (evE a s h).bind fun x h => (evE b s h).bind fun y h => ocmF G cs ne n x y h
def evAnd : IA → En → IH → R IV
  | .nil, _, _ => .no
  | .cons e es, s, h => match es with
    | .nil => evE e s h
    | .cons _ _ => (evE e s h).bind fun x h => (opt (tru x h) h).bind fun k h => if k = true then evAnd es s h else .ok x h
def evOr : IA → En → IH → R IV
  | .nil, _, _ => .no
  | .cons e es, s, h => match es with
    | .nil => evE e s h
    | .cons _ _ => (evE e s h).bind fun x h => (opt (tru x h) h).bind fun k h => if k = true then .ok x h else evOr es s h
/-- a test -/
def evT : IQ → En → IH → R Bool
  | .and es, s, h => evAll es s h
  | .or es, s, h => evAny es s h
  | .not a, s, h => (evT a s h).bind fun k h => .ok (!k) h
  | .val e, s, h => (evE e s h).bind fun x h => opt (tru x h) h
  | .cmp o a b, s, h => (evE a s h).bind fun x h => (evE b s h).bind fun y h => (cmp o x y h).bind fun z h => opt (tru z h) h
  | .chn o p a b c, s, h => (evE a s h).bind fun x h => (evE b s h).bind fun y h => (cmp o x y h).bind fun k h => match k with
    | .bl true => (evE c s h).bind fun z h => (cmp p y z h).bind fun z h => opt (tru z h) h
    | .bl false => .ok false h
    | _ => .no
  | .ocm ne n a b, s, h => if m = true then .no else (evE a s h).bind fun x h => (evE b s h).bind fun y h => (ocmF G cs ne n x y h).bind fun z h => opt (tru z h) h
  | .ch3 o p q a b c d, s, h => (evE a s h).bind fun x h => (evE b s h).bind fun y h => (cmp o x y h).bind fun k h => match k with
    | .bl true => (evE c s h).bind fun z h => (cmp p y z h).bind fun k h => match k with
      | .bl true => (evE d s h).bind fun w h => (cmp q z w h).bind fun z h => opt (tru z h) h
      | .bl false => .ok false h
      | _ => .no
    | .bl false => .ok false h
    | _ => .no
def evAll : IQs → En → IH → R Bool
  | .nil, _, h => .ok true h
  | .cons e es, s, h => (evT e s h).bind fun k h => if k = true then evAll es s h else .ok false h
def evAny : IQs → En → IH → R Bool
  | .nil, _, h => .ok false h
  | .cons e es, s, h => (evT e s h).bind fun k h => if k = true then .ok true h else evAny es s h
def evO : IOp → En → IH → R (Option Int)
  | .no, _, h => .ok none h
  | .so e, s, h => (evE e s h).bind fun x h => match x with
    | .int i => .ok (some i) h
    | _ => .no
def evA : IA → En → IH → R (List IV)
  | .nil, _, h => .ok [] h
  | .cons e es, s, h => (evE e s h).bind fun x h => (evA es s h).bind fun xs h => .ok (x :: xs) h
def evD : ID → En → IH → R (List IV)
  | .nil, _, h => .ok [] h
  | .cons e es, s, h => (evE e s h).bind fun x h => (evD es s h).bind fun xs h => .ok (x :: xs) h
  | .star e es, s, h => (evE e s h).bind fun x h => (opt (items x h) h).bind fun xs h => (evD es s h).bind fun ys h => .ok (xs ++ ys) h
def evI : IT → En → IH → R Wk
  | .val e, s, h => (evE e s h).bind fun x h => match x with
    | .tup xs => .ok (.fix xs) h
    | .frz xs => .ok (.fix xs) h
    | .ref r => match h[r]? with
      | some (.lst _) => .ok (.lst r) h
      | _ => .no
    | .str z => .ok (.fix (z.cps.toList.map fun c => .str ⟨#[c]⟩)) h
    | _ => .no
  | .rng es, s, h => (evA es s h).bind fun vs h => (opt (rng vs) h).bind fun xs h => .ok (.fix xs) h
  | .enm e, s, h => (evE e s h).bind fun x h => match lstI x h with
    | some _ => .ok (.enm x) h
    | none => match x with
      | .tup xs => .ok (.fix (enmT 0 xs)) h
      | _ => .no
  | .zip a b, s, h => (evE a s h).bind fun x h => (evE b s h).bind fun y h => match lstI x h, lstI y h with
    | some _, some _ => .ok (.zip x y) h
    | _, _ => match x, y with
      | .tup xs, .tup ys => .ok (.fix (zipT xs ys)) h
      | _, _ => .no
end
def setsF : List Nat → IV → En → En
  | [], _, s => s
  | i :: is, x, s => setsF is x (s.set i (.v x))
def RS.seq (r : RS) (f : En → IH → RS) : RS := match r with
  | .nx s h => f s h
  | r => r
/-- no exception is held -/
def noX (s : En) : Bool := s.all fun x => match x with
  | .x _ _ => false
  | _ => true
def goneS (i : Option Nat) (s : En) : En := match i with
  | none => s
  | some i => s.set i .no
/-- behind an except suite: its name goes -/
def RS.gone (i : Option Nat) (r : RS) : RS := match r with
  | .nx s h => if noX (goneS i s) = true then .nx (goneS i s) h else .no
  | .bk s h => if noX (goneS i s) = true then .bk (goneS i s) h else .no
  | .ct s h => if noX (goneS i s) = true then .ct (goneS i s) h else .no
  | .rt v h => .rt v h
  | .ex _ _ _ _ => .no
  | .no => .no
def setX (i : Option Nat) (c : Nat) (v : IV) (s : En) : En := match i with
  | none => s
  | some i => s.set i (.x c v)
end
section
variable (G : Sg) (cs : CF)
mutual
def evS : Bool → IS → En → IH → RS
  | m, .expr e, s, h => RS.of s (evE G m cs e s h) fun _ h => .nx s h
  | m, .set tg e, s, h => if tg.isT = true ∧ m = true then .no else RS.of s (evE G m cs e s h) fun x h => match asg tg x s h with
    | some s1 => .nx s1 h
    | none => .no
  | m, .sets is e, s, h => RS.of s (evE G m cs e s h) fun x h => .nx (setsF is x s) h
  | m, .par is es, s, h => if m = true then .no else RS.of s (evA G m cs es s h) fun vs h => match setAll is vs s with
    | some s1 => .nx s1 h
    | none => .no
  | m, .fset o f e, s, h => RS.of s (evE G m cs e s h) fun x h => RS.of s (evE G m cs o s h) fun y h => match y with
    | .ref r => match h[r]? with
      | some (.ins c fs) => if G.fd c f = true ∧ fs.length < 900 then .nx s (h.set r (.ins c (putI f x fs))) else .no
      | _ => .no
    | _ => .no
  | m, .iset a i e, s, h => RS.of s (evE G m cs e s h) fun x h => RS.of s (evE G m cs a s h) fun y h => RS.of s (evE G m cs i s h) fun z h =>
      RS.of s (setIt y z x h) fun _ h => .nx s h
  | m, .iset2 a i b j e, s, h => if m = true then .no else RS.of s (evE G m cs e s h) fun x h => match x with
    | .tup [u, v] => RS.of s (evE G m cs a s h) fun y h => RS.of s (evE G m cs i s h) fun z h => RS.of s (setIt y z u h) fun _ h =>
      RS.of s (evE G m cs b s h) fun y h => RS.of s (evE G m cs j s h) fun z h => RS.of s (setIt y z v h) fun _ h => .nx s h
    | _ => .no
  | m, .augi a i o e, s, h => RS.of s (evE G m cs a s h) fun x h => RS.of s (evE G m cs i s h) fun y h => RS.of s (getIt x y h) fun z h => RS.of s (evE G m cs e s h) fun w h => RS.of s (ipo o z w h) fun v h => RS.of s (setIt x y v h) fun _ h => .nx s h
  | m, .aug i o e, s, h => RS.of s (opt (getV s i) h) fun x h => RS.of s (evE G m cs e s h) fun y h => RS.of s (ipo o x y h) fun z h => .nx (s.set i (.v z)) h
  | m, .augf a f o e, s, h => RS.of s (evE G m cs a s h) fun y h => match y with
    | .ref r => match h[r]? with
      | some (.ins c fs) => if G.fd c f = false then .no else RS.of s (opt (fs.lookup f) h) fun x h => RS.of s (evE G m cs e s h) fun z h => RS.of s (ipo o x z h) fun w h => match h[r]? with
        | some (.ins d fs) => if d = c ∧ fs.length < 900 then .nx s (h.set r (.ins d (putI f w fs))) else .no
        | _ => .no
      | _ => .no
    | _ => .no
  | m, .ret e, s, h => RS.of s (evE G m cs e s h) fun x h => .rt x h
  | _, .retn, _, h => .rt .non h
  | m, .if_ t a b, s, h => RS.of s (evT G m cs t s h) fun k h => if k = true then evB m a s h else evB m b s h
  | m, .whl t b, s, h => loopW (evT G m cs t) (evB m b) FU s h
  | m, .for_ tg it b, s, h => if m = true then .no else RS.of s (evI G m cs it s h) fun w h => walk w tg (evB m b) FU 0 s h
  | _, .brk, s, h => .bk s h
  | _, .cnt, s, h => .ct s h
  | _, .pas, s, h => .nx s h
  | m, .rse c es, s, h => if m = true then .no else RS.of s (evA G m cs es s h) fun vs h => match vs with
    | [v] => .ex c v s h
    | [] => .ex c .non s h
    | _ => .no
  | m, .try_ b hs, s, h => if m = true then .no else match evB m b s h with
    | .ex c v s1 h1 => evH c v hs s1 h1
    | r => r
def evB : Bool → IB → En → IH → RS
  | _, .nil, s, h => .nx s h
  | m, .cons st b, s, h => RS.seq (evS m st s h) fun s h => evB m b s h
def evH (c : Nat) (v : IV) : IHs → En → IH → RS
  | .nil, s, h => .ex c v s h
  | .cons d i b r, s, h => if G.sub c d = true then RS.gone i (evB true b (setX i c v s) h) else evH c v r s h
end
end
/-! ### a program -/
structure DefI where
  np : Nat
  nl : Nat
  body : IB
def start (n : Nat) (vs : List IV) : En := vs.map Sl.v ++ List.replicate (n - vs.length) Sl.no
def fin (r : RS) : R IV := match r with
  | .nx _ h => .ok .non h
  | .rt v h => .ok v h
  | .ex c v _ h => .ex c v h
  | _ => .no
structure Pr where
  sg : Sg
  defs : List DefI
def callI (P : Pr) (m : Bool) : Nat → CF
  | 0 => fun _ _ _ => .no
  | n + 1 => fun f vs h => match P.defs[f]? with
    | some d => if vs.length = d.np then fin (evB P.sg (callI P m n) m d.body (start d.nl vs) h) else .no
    | none => .no
end Itp

/-! ItB: how the small language's states stand in the layer's. -/
namespace Itp
open PySem PySem.Spec PyProof.Rows L2

/-- where the names and classes stand -/
structure Dn where
  K : PySem.W.Frag
  nm : Nat → Str
  cA : Nat → Addr
  sg : Sg
/-- a list that stays -/
def SqF (K : PySem.W.Frag) (H : Hp) (a : Addr) (us : List V) : Prop :=
  (∃ o, H a = some (.frz o (.lst us))) ∨ ∃ (o : Obj) (its : Array Value) (n : Nat), K.lookup a = some o ∧ o.cls = .type "list" ∧ o.dict = none ∧ o.data = .seq its n ∧ its.size ≤ sizeLine ∧ Vals us its.toList
theorem SqF.sq {K : PySem.W.Frag} {H : Hp} {a : Addr} {us : List V} (h : SqF K H a us) : SqL K H a us := by
  rcases h with ⟨o, h⟩ | h
  · exact .inl (.inr ⟨o, h⟩)
  · exact .inr h
mutual
/-- a value, as it stands in the heap -/
inductive VR (D : Dn) (ρ : List Addr) (H : Hp) : IV → V → Prop
  | non : VR D ρ H .non .non
  | bl (b : Bool) : VR D ρ H (.bl b) (.bl b)
  | int (i : Int) : VR D ρ H (.int i) (.int i)
  | str (x : Str) : VR D ρ H (.str x) (.str x)
  | tup {xs : List IV} {us : List V} {a : Addr} : SqT D.K H a us → VRs D ρ H xs us → VR D ρ H (.tup xs) (.ref a)
  | frz {xs : List IV} {us : List V} {a : Addr} : SqF D.K H a us → VRs D ρ H xs us → VR D ρ H (.frz xs) (.ref a)
  | ref {n : Nat} {a : Addr} : ρ[n]? = some a → VR D ρ H (.ref n) (.ref a)
inductive VRs (D : Dn) (ρ : List Addr) (H : Hp) : List IV → List V → Prop
  | nil : VRs D ρ H [] []
  | cons {x : IV} {u : V} {xs : List IV} {us : List V} : VR D ρ H x u → VRs D ρ H xs us → VRs D ρ H (x :: xs) (u :: us)
end
inductive FRs (D : Dn) (ρ : List Addr) (H : Hp) : List (Nat × IV) → List (Str × V) → Prop
  | nil : FRs D ρ H [] []
  | cons {f : Nat} {x : IV} {u : V} {xs : List (Nat × IV)} {us : List (Str × V)} : VR D ρ H x u → FRs D ρ H xs us → FRs D ρ H ((f, x) :: xs) ((D.nm f, u) :: us)
inductive KRs (D : Dn) (ρ : List Addr) (H : Hp) : List (IV × IV) → List (Key × V) → Prop
  | nil : KRs D ρ H [] []
  | int {i : Int} {x : IV} {u : V} {xs : List (IV × IV)} {us : List (Key × V)} : VR D ρ H x u → KRs D ρ H xs us → KRs D ρ H ((.int i, x) :: xs) ((Sum.inl i, u) :: us)
  | str {z : Str} {x : IV} {u : V} {xs : List (IV × IV)} {us : List (Key × V)} : VR D ρ H x u → KRs D ρ H xs us → KRs D ρ H ((.str z, x) :: xs) ((Sum.inr z, u) :: us)
def OR (D : Dn) (ρ : List Addr) (H : Hp) : IO → Addr → Prop
  | .lst xs, a => ∃ us, H a = some (.lst us) ∧ VRs D ρ H xs us
  | .dic kvs, a => ∃ ls, H a = some (.dK ls) ∧ KRs D ρ H kvs ls
  | .ins c fs, a => ∃ dx gs, H a = some (.ins (D.cA c) dx gs) ∧ FRs D ρ H fs gs
structure HR (D : Dn) (ρ : List Addr) (ih : IH) (H : Hp) : Prop where
  len : ρ.length = ih.length
  nd : ρ.Nodup
  ob : ∀ (n : Nat) (o : IO) (a : Addr), ih[n]? = some o → ρ[n]? = some a → OR D ρ H o a
/-- what becomes of the heap: new things are new, nothing else than what is numbered changes -/
def Ev (ρ : List Addr) (H : Hp) (ρ' : List Addr) (H' : Hp) : Prop :=
  ∃ t, ρ' = ρ ++ t ∧ (∀ a ∈ t, H a = none) ∧ ∀ a o, H a = some o → a ∉ ρ → H' a = some o
def mutH : HO → Bool
  | .lst _ => true
  | .dK _ => true
  | .ins _ _ _ => true
  | _ => false
theorem nd_inj {α : Type} : ∀ {l : List α} {i j : Nat} {a : α}, l.Nodup → l[i]? = some a → l[j]? = some a → i = j
  | [], _, _, _, _, h, _ => by simp at h
  | x :: l, 0, 0, _, _, _, _ => rfl
  | x :: l, 0, j + 1, a, nd, h1, h2 => by
    simp at h1 h2
    subst h1
    exact absurd (List.mem_of_getElem? h2) (List.nodup_cons.mp nd).1
  | x :: l, i + 1, 0, a, nd, h1, h2 => by
    simp at h1 h2
    subst h2
    exact absurd (List.mem_of_getElem? h1) (List.nodup_cons.mp nd).1
  | x :: l, i + 1, j + 1, a, nd, h1, h2 => by
    have e : i = j := nd_inj (List.nodup_cons.mp nd).2 (show l[i]? = some a by simpa using h1) (show l[j]? = some a by simpa using h2)
    rw [e]
section
variable {D : Dn} {ρ ρ' ρ2 : List Addr} {ih ih' ih2 : IH} {H H' H2 : Hp} {a p : Addr} {n : Nat}
theorem HR.mu (h : HR D ρ ih H) (ha : a ∈ ρ) : ∃ u, H a = some u ∧ mutH u = true := by
  obtain ⟨n, hn, e⟩ := List.mem_iff_getElem.mp ha
  have hi : n < ih.length := by rw [← h.len]; exact hn
  have q := h.ob n ih[n] a (List.getElem?_eq_getElem hi) (by rw [List.getElem?_eq_getElem hn, e])
  cases ho : ih[n] with
  | lst xs => rw [ho] at q; obtain ⟨us, e, _⟩ := q; exact ⟨_, e, rfl⟩
  | dic xs => rw [ho] at q; obtain ⟨us, e, _⟩ := q; exact ⟨_, e, rfl⟩
  | ins c xs => rw [ho] at q; obtain ⟨dx, us, e, _⟩ := q; exact ⟨_, e, rfl⟩
theorem HR.out (h : HR D ρ ih H) {u : HO} (e : H a = some u) (m : mutH u = false) : a ∉ ρ := fun ha => by
  obtain ⟨v, e2, m2⟩ := h.mu ha
  rw [e] at e2
  cases e2
  rw [m] at m2
  cases m2
theorem Ev.refl : Ev ρ H ρ H := ⟨[], by simp, fun _ z => by simp at z, fun _ _ e _ => e⟩
theorem Ev.at_ (e : Ev ρ H ρ' H') (h : ρ[n]? = some a) : ρ'[n]? = some a := by
  obtain ⟨t, rfl, _⟩ := e
  rw [List.getElem?_append_left (List.getElem?_eq_some_iff.mp h).1]
  exact h
theorem Ev.trans (e : Ev ρ H ρ' H') (hr : HR D ρ' ih' H') (e2 : Ev ρ' H' ρ2 H2) : Ev ρ H ρ2 H2 := by
  obtain ⟨t, rfl, f, k⟩ := e
  obtain ⟨t2, rfl, f2, k2⟩ := e2
  have key : ∀ a o, H a = some o → a ∉ ρ → a ∉ ρ ++ t := fun a o e hn hm => by
    rcases List.mem_append.mp hm with q | q
    · exact hn q
    · rw [f a q] at e; cases e
  refine ⟨t ++ t2, by rw [List.append_assoc], fun a ha => ?_, fun a o e hn => k2 a o (k a o e hn) (key a o e hn)⟩
  rcases List.mem_append.mp ha with q | q
  · exact f a q
  · cases e : H a with
    | none => rfl
    | some o =>
      by_cases hm : a ∈ ρ
      · obtain ⟨u, z, _⟩ := hr.mu (List.mem_append_left t hm)
        rw [f2 a q] at z
        cases z
      · have z := k a o e hm
        rw [f2 a q] at z
        cases z
theorem sqT_evo {us : List V} (q : SqT D.K H a us) (hr : HR D ρ ih H) (e : Ev ρ H ρ' H') : SqT D.K H' a us := by
  obtain ⟨t, rfl, f, k⟩ := e
  rcases q with (q | ⟨o, q⟩) | q
  · exact .inl (.inl (k _ _ q (hr.out q rfl)))
  · exact .inl (.inr ⟨o, k _ _ q (hr.out q rfl)⟩)
  · exact .inr q
theorem sqF_evo {us : List V} (q : SqF D.K H a us) (hr : HR D ρ ih H) (e : Ev ρ H ρ' H') : SqF D.K H' a us := by
  obtain ⟨t, rfl, f, k⟩ := e
  rcases q with ⟨o, q⟩ | q
  · exact .inl ⟨o, k _ _ q (hr.out q rfl)⟩
  · exact .inr q
mutual
theorem VR.evo (hr : HR D ρ ih H) (e : Ev ρ H ρ' H') : ∀ {x : IV} {u : V}, VR D ρ H x u → VR D ρ' H' x u
  | _, _, .non => .non
  | _, _, .bl b => .bl b
  | _, _, .int i => .int i
  | _, _, .str x => .str x
  | _, _, .tup q r => .tup (sqT_evo q hr e) (VRs.evo hr e r)
  | _, _, .frz q r => .frz (sqF_evo q hr e) (VRs.evo hr e r)
  | _, _, .ref q => .ref (e.at_ q)
theorem VRs.evo (hr : HR D ρ ih H) (e : Ev ρ H ρ' H') : ∀ {x : List IV} {u : List V}, VRs D ρ H x u → VRs D ρ' H' x u
  | _, _, .nil => .nil
  | _, _, .cons q r => .cons (VR.evo hr e q) (VRs.evo hr e r)
end
theorem FRs.evo (hr : HR D ρ ih H) (e : Ev ρ H ρ' H') {x : List (Nat × IV)} {u : List (Str × V)} (r : FRs D ρ H x u) : FRs D ρ' H' x u := by
  induction r with
  | nil => exact .nil
  | cons q _ k => exact .cons (q.evo hr e) k
theorem KRs.evo (hr : HR D ρ ih H) (e : Ev ρ H ρ' H') {x : List (IV × IV)} {u : List (Key × V)} (r : KRs D ρ H x u) : KRs D ρ' H' x u := by
  induction r with
  | nil => exact .nil
  | int q _ k => exact .int (q.evo hr e) k
  | str q _ k => exact .str (q.evo hr e) k
theorem VRs.length : ∀ {xs : List IV} {us : List V}, VRs D ρ H xs us → xs.length = us.length
  | _, _, .nil => rfl
  | _, _, .cons _ r => by rw [List.length_cons, List.length_cons, r.length]
theorem VRs.get : ∀ {xs : List IV} {us : List V} {i : Nat} {x : IV}, VRs D ρ H xs us → xs[i]? = some x → ∃ u, us[i]? = some u ∧ VR D ρ H x u
  | _, _, _, _, .nil, e => by simp at e
  | _, _, 0, _, .cons q _, e => by
    simp at e
    subst e
    exact ⟨_, rfl, q⟩
  | _, _, i + 1, _, .cons _ r, e => by
    obtain ⟨u, h1, h2⟩ := VRs.get (i := i) r (by simpa using e)
    exact ⟨u, by simpa using h1, h2⟩
theorem VRs.append : ∀ {xs ys : List IV} {us ws : List V}, VRs D ρ H xs us → VRs D ρ H ys ws → VRs D ρ H (xs ++ ys) (us ++ ws)
  | _, _, _, _, .nil, s => s
  | _, _, _, _, .cons q r, s => .cons q (VRs.append r s)
theorem VRs.drop : ∀ {xs : List IV} {us : List V} (n : Nat), VRs D ρ H xs us → VRs D ρ H (xs.drop n) (us.drop n)
  | _, _, 0, r => r
  | _, _, _ + 1, .nil => .nil
  | _, _, n + 1, .cons _ r => VRs.drop n r
theorem VRs.take : ∀ {xs : List IV} {us : List V} (n : Nat), VRs D ρ H xs us → VRs D ρ H (xs.take n) (us.take n)
  | _, _, 0, _ => .nil
  | _, _, _ + 1, .nil => .nil
  | _, _, n + 1, .cons q r => .cons q (VRs.take n r)
theorem VRs.set {x : IV} {u : V} (q : VR D ρ H x u) : ∀ {xs : List IV} {us : List V} (n : Nat), VRs D ρ H xs us → VRs D ρ H (xs.set n x) (us.set n u)
  | _, _, _, .nil => .nil
  | _, _, 0, .cons _ r => .cons q r
  | _, _, n + 1, .cons p r => .cons p (VRs.set q n r)
theorem VRs.erase : ∀ {xs : List IV} {us : List V} (n : Nat), VRs D ρ H xs us → VRs D ρ H (xs.eraseIdx n) (us.eraseIdx n)
  | _, _, _, .nil => .nil
  | _, _, 0, .cons _ r => r
  | _, _, n + 1, .cons q r => .cons q (VRs.erase n r)
theorem VRs.reverse : ∀ {xs : List IV} {us : List V}, VRs D ρ H xs us → VRs D ρ H xs.reverse us.reverse
  | _, _, .nil => .nil
  | _, _, .cons q r => by
    rw [List.reverse_cons, List.reverse_cons]
    exact (VRs.reverse r).append (.cons q .nil)
theorem VRs.isEmpty {xs : List IV} {us : List V} (r : VRs D ρ H xs us) : us.isEmpty = xs.isEmpty := by
  cases r <;> rfl
theorem VRs.repl {xs : List IV} {us : List V} (r : VRs D ρ H xs us) (k : Nat) : VRs D ρ H (List.replicate k xs).flatten (List.replicate k us).flatten := by
  induction k with
  | zero => exact .nil
  | succ k ih => exact r.append ih
theorem VRs.dropLast {xs : List IV} {us : List V} (r : VRs D ρ H xs us) : VRs D ρ H xs.dropLast us.dropLast := by
  rw [List.dropLast_eq_take, List.dropLast_eq_take, r.length]
  exact r.take _
theorem OR.evo (hr : HR D ρ ih H) (e : Ev ρ H ρ' H') {o : IO} (k : H' a = H a) (q : OR D ρ H o a) : OR D ρ' H' o a := by
  cases o with
  | lst xs => obtain ⟨us, h, r⟩ := q; exact ⟨us, k.trans h, r.evo hr e⟩
  | dic xs => obtain ⟨us, h, r⟩ := q; exact ⟨us, k.trans h, r.evo hr e⟩
  | ins c xs => obtain ⟨dx, us, h, r⟩ := q; exact ⟨dx, us, k.trans h, r.evo hr e⟩
/-- a thing that is not numbered is laid -/
theorem Ev.lay (hp : H p = none) (u : HO) : Ev ρ H ρ (upd H p u) := ⟨[], by simp, fun _ z => by simp at z, fun a o e _ => by rw [upd_ne (ne_of_none e hp)]; exact e⟩
theorem HR.lay (hr : HR D ρ ih H) (hp : H p = none) (u : HO) : HR D ρ ih (upd H p u) := by
  refine ⟨hr.len, hr.nd, fun n o a h1 h2 => (hr.ob n o a h1 h2).evo hr (Ev.lay hp u) ?_⟩
  obtain ⟨v, e, _⟩ := hr.mu (List.mem_of_getElem? h2)
  rw [upd_ne (ne_of_none e hp)]
/-- a numbered thing is laid -/
theorem Ev.new (hp : H p = none) (u : HO) : Ev ρ H (ρ ++ [p]) (upd H p u) := ⟨[p], rfl, fun a z => by rw [List.mem_singleton.mp z]; exact hp, fun a o e _ => by rw [upd_ne (ne_of_none e hp)]; exact e⟩
theorem HR.new (hr : HR D ρ ih H) (hp : H p = none) (u : HO) {o : IO} (q : OR D (ρ ++ [p]) (upd H p u) o p) : HR D (ρ ++ [p]) (ih ++ [o]) (upd H p u) := by
  have hpn : p ∉ ρ := fun z => by
    obtain ⟨v, e, _⟩ := hr.mu z
    rw [hp] at e
    cases e
  refine ⟨by rw [List.length_append, List.length_append, hr.len]; rfl, List.nodup_append.mpr ⟨hr.nd, by simp, fun a ha b hb => ?_⟩, fun n o' a h1 h2 => ?_⟩
  · rw [List.mem_singleton.mp hb]
    exact fun z => hpn (z ▸ ha)
  · by_cases hn : n < ih.length
    · rw [List.getElem?_append_left hn] at h1
      rw [List.getElem?_append_left (by rw [hr.len]; exact hn)] at h2
      refine (hr.ob n o' a h1 h2).evo hr (Ev.new hp u) ?_
      have hm2 := List.mem_of_getElem? h2
      rw [upd_ne (fun z => hpn (by rw [← z]; exact hm2))]
    · have e : n = ih.length := by
        have := (List.getElem?_eq_some_iff.mp h1).1
        rw [List.length_append] at this
        simp at this
        omega
      subst e
      rw [List.getElem?_append_right (Nat.le_refl _), Nat.sub_self] at h1
      rw [← hr.len, List.getElem?_append_right (Nat.le_refl _), Nat.sub_self] at h2
      simp at h1 h2
      subst h1 h2
      exact q
theorem HR.last (hr : HR D ρ ih H) : (ρ ++ [p])[ih.length]? = some p := by
  rw [← hr.len, List.getElem?_append_right (Nat.le_refl _), Nat.sub_self]
  rfl
/-- a numbered thing is changed -/
theorem Ev.put (ha : a ∈ ρ) (u : HO) : Ev ρ H ρ (upd H a u) := ⟨[], by simp, fun _ z => by simp at z, fun b o e hb => by rw [upd_ne (fun z => hb (by rw [z]; exact ha))]; exact e⟩
theorem HR.put (hr : HR D ρ ih H) (hn : ρ[n]? = some a) (u : HO) {o : IO} (q : OR D ρ (upd H a u) o a) : HR D ρ (ih.set n o) (upd H a u) := by
  have hm := List.mem_of_getElem? hn
  refine ⟨by rw [List.length_set]; exact hr.len, hr.nd, fun k o' b h1 h2 => ?_⟩
  by_cases e : n = k
  · subst e
    have hl : n < ih.length := by rw [← hr.len]; exact (List.getElem?_eq_some_iff.mp hn).1
    rw [List.getElem?_set_self hl] at h1
    rw [hn] at h2
    cases h1
    cases h2
    exact q
  · rw [List.getElem?_set_ne e] at h1
    refine (hr.ob k o' b h1 h2).evo hr (Ev.put hm u) ?_
    rw [upd_ne]
    intro z
    subst z
    obtain ⟨x1, y1⟩ := List.getElem?_eq_some_iff.mp hn
    obtain ⟨x2, y2⟩ := List.getElem?_eq_some_iff.mp h2
    exact e (nd_inj hr.nd hn h2)
theorem HR.get (hr : HR D ρ ih H) {o : IO} (h : ih[n]? = some o) : ∃ a, ρ[n]? = some a ∧ OR D ρ H o a := by
  have hl : n < ρ.length := by rw [hr.len]; exact (List.getElem?_eq_some_iff.mp h).1
  exact ⟨ρ[n], List.getElem?_eq_getElem hl, hr.ob n o _ h (List.getElem?_eq_getElem hl)⟩
theorem HR.lst (hr : HR D ρ ih H) {xs : List IV} {u : V} (h : ih[n]? = some (.lst xs)) (r : VR D ρ H (.ref n) u) : ∃ a us, u = .ref a ∧ ρ[n]? = some a ∧ H a = some (.lst us) ∧ VRs D ρ H xs us := by
  cases r with
  | ref q =>
    obtain ⟨us, e, z⟩ := hr.ob n _ _ h q
    exact ⟨_, us, rfl, q, e, z⟩
theorem HR.dic (hr : HR D ρ ih H) {xs : List (IV × IV)} {u : V} (h : ih[n]? = some (.dic xs)) (r : VR D ρ H (.ref n) u) : ∃ a us, u = .ref a ∧ ρ[n]? = some a ∧ H a = some (.dK us) ∧ KRs D ρ H xs us := by
  cases r with
  | ref q =>
    obtain ⟨us, e, z⟩ := hr.ob n _ _ h q
    exact ⟨_, us, rfl, q, e, z⟩
theorem HR.ins (hr : HR D ρ ih H) {c : Nat} {xs : List (Nat × IV)} {u : V} (h : ih[n]? = some (.ins c xs)) (r : VR D ρ H (.ref n) u) : ∃ a dx us, u = .ref a ∧ ρ[n]? = some a ∧ H a = some (.ins (D.cA c) dx us) ∧ FRs D ρ H xs us := by
  cases r with
  | ref q =>
    obtain ⟨dx, us, e, z⟩ := hr.ob n _ _ h q
    exact ⟨_, dx, us, rfl, q, e, z⟩
end

/-! ### slots -/
/-- the exception that is handled: where it stands, its class, its dict -/
abbrev XA := Option (Addr × Addr × Addr)
/-- the dict of an exception of the class c with the field v -/
def XR (D : Dn) (ρ : List Addr) (H : Hp) (c : Nat) (v : IV) (d : Addr) : Prop := ∃ k f u, D.sg.cls[c]? = some k ∧ k.exf = some f ∧ H d = some (.xd [(D.nm f, u)]) ∧ VR D ρ H v u
def SR (D : Dn) (ρ : List Addr) (H : Hp) (xa : XA) : Sl → Option V → Prop
  | .no, _ => True
  | .v x, o => ∃ u, o = some u ∧ VR D ρ H x u
  | .x c y, o => ∃ a d, xa = some (a, D.cA c, d) ∧ o = some (.ref a) ∧ XR D ρ H c y d
structure LR (D : Dn) (ρ : List Addr) (H : Hp) (xa : XA) (s : En) (σ : L2.St) : Prop where
  len : s.length = σ.length
  at_ : ∀ (i : Nat) (x : Sl), s[i]? = some x → ∃ o, σ[i]? = some o ∧ SR D ρ H xa x o
section
variable {D : Dn} {ρ ρ' : List Addr} {ih : IH} {H H' : Hp} {xa : XA} {s : En} {σ : L2.St}
theorem XR.evo {c : Nat} {v : IV} {d : Addr} (hr : HR D ρ ih H) (e : Ev ρ H ρ' H') (q : XR D ρ H c v d) : XR D ρ' H' c v d := by
  obtain ⟨k, f, u, h1, h2, h3, r⟩ := q
  have z := e
  obtain ⟨t, rfl, _, g⟩ := z
  exact ⟨k, f, u, h1, h2, g _ _ h3 (hr.out h3 rfl), r.evo hr e⟩
theorem SR.evo (hr : HR D ρ ih H) (e : Ev ρ H ρ' H') {x : Sl} {o : Option V} (q : SR D ρ H xa x o) : SR D ρ' H' xa x o := by
  cases x with
  | no => trivial
  | v x => obtain ⟨u, h, r⟩ := q; exact ⟨u, h, r.evo hr e⟩
  | x c y => obtain ⟨a, d, h1, h2, r⟩ := q; exact ⟨a, d, h1, h2, r.evo hr e⟩
theorem LR.evo (l : LR D ρ H xa s σ) (hr : HR D ρ ih H) (e : Ev ρ H ρ' H') : LR D ρ' H' xa s σ :=
  ⟨l.len, fun i x h => by
    obtain ⟨o, h1, q⟩ := l.at_ i x h
    exact ⟨o, h1, q.evo hr e⟩⟩
theorem LR.val (l : LR D ρ H xa s σ) {i : Nat} {x : IV} (h : getV s i = some x) : ∃ u, σ[i]? = some (some u) ∧ VR D ρ H x u := by
  unfold getV at h
  cases e : s[i]? with
  | none => rw [e] at h; cases h
  | some z =>
    rw [e] at h
    cases z with
    | no => cases h
    | x c y => cases h
    | v y =>
      cases h
      obtain ⟨o, h1, u, rfl, r⟩ := l.at_ i _ e
      exact ⟨u, h1, r⟩
theorem LR.put (l : LR D ρ H xa s σ) (i : Nat) {x : Sl} {o : Option V} (q : SR D ρ H xa x o) : LR D ρ H xa (s.set i x) (σ.set i o) := by
  refine ⟨by rw [List.length_set, List.length_set]; exact l.len, fun j y h => ?_⟩
  by_cases e : i = j
  · subst e
    have hl : i < s.length := by
      have := (List.getElem?_eq_some_iff.mp h).1
      rwa [List.length_set] at this
    rw [List.getElem?_set_self hl] at h
    cases h
    exact ⟨o, List.getElem?_set_self (by rw [← l.len]; exact hl), q⟩
  · rw [List.getElem?_set_ne e] at h
    obtain ⟨o', h1, q'⟩ := l.at_ j y h
    exact ⟨o', by rw [List.getElem?_set_ne e]; exact h1, q'⟩
theorem LR.setV (l : LR D ρ H xa s σ) (i : Nat) {x : IV} {u : V} (r : VR D ρ H x u) : LR D ρ H xa (s.set i (.v x)) (σ.set i (some u)) := l.put i ⟨u, rfl, r⟩
theorem LR.setNo (l : LR D ρ H xa s σ) (i : Nat) (o : Option V) : LR D ρ H xa (s.set i .no) (σ.set i o) := l.put (x := .no) i (show SR D ρ H xa .no o from trivial)
theorem LR.wip (l : LR D ρ H xa s σ) : ∀ is : List Nat, LR D ρ H xa (wipe s is) (L2.wipe σ is)
  | [] => l
  | i :: is => (LR.wip l is).setNo i none
end

/-! ### readings from runs -/
section
variable (D : Dn)
/-- what is known behind a run -/
def Post {α β : Type} (ρ : List Addr) (H : Hp) (r : R α) (rel : List Addr → Hp → α → β → Prop) (Q : β → Hp → Prop) (W : Value → Option Addr → Hp → Prop) : Prop := match r with
  | .ok a ih => ∀ ρ' H' b, Ev ρ H ρ' H' → HR D ρ' ih H' → rel ρ' H' a b → Q b H'
  | .ex c v ih => ∀ ρ' H' d, Ev ρ H ρ' H' → HR D ρ' ih H' → XR D ρ' H' c v d → W (.ref (D.cA c)) (some d) H'
  | .no => False
def vr (ρ : List Addr) (H : Hp) (x : IV) (u : V) : Prop := VR D ρ H x u
def semR {α β : Type} (xa : XA) (rel : List Addr → Hp → α → β → Prop) (ev : En → IH → R α) (W : WX) : L2.St → Hp → (β → Hp → Prop) → Prop := fun σ H Q =>
  ∃ ρ ih s, HR D ρ ih H ∧ LR D ρ H xa s σ ∧ Post D ρ H (ev s ih) rel Q fun c d H' => W c d σ H'
abbrev semE (xa : XA) (ev : En → IH → R IV) (W : WX) : TE := semR D xa (VR D) ev W
abbrev semT (xa : XA) (ev : En → IH → R Bool) (W : WX) : TT := semR D xa (fun _ _ a b => a = b) ev W
abbrev semA (xa : XA) (ev : En → IH → R (List IV)) (W : WX) : TA := semR D xa (VRs D) ev W
abbrev semO (xa : XA) (ev : En → IH → R (Option Int)) (W : WX) : TO := semR D xa (fun _ _ a b => a = b) ev W
end
section
variable {D : Dn} {α β γ δ : Type} {ρ ρ' : List Addr} {ih : IH} {H H' : Hp} {xa : XA} {s : En} {σ : L2.St}
theorem Post.bind {r : R α} {f : α → IH → R γ} {rel : List Addr → Hp → α → β → Prop} {rel2 : List Addr → Hp → γ → δ → Prop} {Q : δ → Hp → Prop} {Q1 : β → Hp → Prop} {W : Value → Option Addr → Hp → Prop}
    (p : Post D ρ H (r.bind f) rel2 Q W) (k : ∀ a ih1 ρ1 H1 b, r = .ok a ih1 → Ev ρ H ρ1 H1 → HR D ρ1 ih1 H1 → rel ρ1 H1 a b → Post D ρ1 H1 (f a ih1) rel2 Q W → Q1 b H1) : Post D ρ H r rel Q1 W := by
  cases r with
  | ok a ih1 =>
    intro ρ1 H1 b e hr q
    refine k a ih1 ρ1 H1 b rfl e hr q ?_
    have p' : Post D ρ H (f a ih1) rel2 Q W := p
    cases hf : f a ih1 with
    | ok c ih2 =>
      rw [hf] at p'
      exact fun ρ2 H2 d e2 hr2 q2 => p' ρ2 H2 d (e.trans hr e2) hr2 q2
    | ex c v ih2 =>
      rw [hf] at p'
      exact fun ρ2 H2 d e2 hr2 q2 => p' ρ2 H2 d (e.trans hr e2) hr2 q2
    | no => rw [hf] at p'; exact p'
  | ex c v ih1 => exact p
  | no => exact p
theorem Post.imp {r : R α} {rel : List Addr → Hp → α → β → Prop} {rel2 : List Addr → Hp → α → γ → Prop} {Q : γ → Hp → Prop} {Q1 : β → Hp → Prop} {W : Value → Option Addr → Hp → Prop}
    (p : Post D ρ H r rel2 Q W) (k : ∀ a ih1 ρ1 H1 b, r = .ok a ih1 → Ev ρ H ρ1 H1 → HR D ρ1 ih1 H1 → rel ρ1 H1 a b → (∀ c, rel2 ρ1 H1 a c → Q c H1) → Q1 b H1) : Post D ρ H r rel Q1 W := by
  cases r with
  | ok a ih1 => exact fun ρ1 H1 b e hr q => k a ih1 ρ1 H1 b rfl e hr q fun c q2 => p ρ1 H1 c e hr q2
  | ex c v ih1 => exact p
  | no => exact p
/-- a reading of a first part, in a reading of the whole -/
theorem semR.bind {f : α → IH → R γ} {ev : En → IH → R α} {rel : List Addr → Hp → α → β → Prop} {rel2 : List Addr → Hp → γ → δ → Prop} {Q : δ → Hp → Prop} {Q1 : β → Hp → Prop} {W : WX}
    (hr : HR D ρ ih H) (l : LR D ρ H xa s σ) (p : Post D ρ H ((ev s ih).bind f) rel2 Q fun c d H' => W c d σ H')
    (k : ∀ a ih1 ρ1 H1 b, ev s ih = .ok a ih1 → HR D ρ1 ih1 H1 → LR D ρ1 H1 xa s σ → Ev ρ H ρ1 H1 → rel ρ1 H1 a b → (Post D ρ1 H1 (f a ih1) rel2 Q fun c d H' => W c d σ H') → Q1 b H1) : semR D xa rel ev W σ H Q1 :=
  ⟨ρ, ih, s, hr, l, p.bind fun a ih1 ρ1 H1 b e ev1 hr1 q p1 => k a ih1 ρ1 H1 b e hr1 (l.evo hr ev1) ev1 q p1⟩
end
section
variable {X : Cx} {e : Expr} {t t' : TE} {tt tt' : TT} {ta ta' : TA} {to to' : TO}
theorem PEi (h : PE X e t) (k : ∀ σ H Q, t' σ H Q → t σ H Q) : PE X e t' := ⟨fun pins s σ H Q I q => h.run pins s σ H Q I (k σ H Q q)⟩
theorem PTi (h : PT X e tt) (k : ∀ σ H Q, tt' σ H Q → tt σ H Q) : PT X e tt' := ⟨fun pins s σ H Q I q => h.run pins s σ H Q I (k σ H Q q)⟩
theorem PWi (h : PW X e tt) (k : ∀ σ H Q, tt' σ H Q → tt σ H Q) : PW X e tt' := ⟨fun wh pins s σ H Q I q => h.run wh pins s σ H Q I (k σ H Q q)⟩
theorem PAi {es : List Expr} (h : PA X es ta) (k : ∀ σ H Q, ta' σ H Q → ta σ H Q) : PA X es ta' := ⟨fun pos pins s σ H Q I q => h.run pos pins s σ H Q I (k σ H Q q)⟩
theorem POi {o : Option Expr} (h : PO X o to) (k : ∀ σ H Q, to' σ H Q → to σ H Q) : PO X o to' := ⟨fun pins s σ H Q I q => h.run pins s σ H Q I (k σ H Q q)⟩
theorem PSi {st : Stmt} {ts ts' : TS} (h : PS X st ts) (k : ∀ D σ H, ts' D σ H → ts D σ H) : PS X st ts' := ⟨fun pins s σ H D I q => h.run pins s σ H D I (k D σ H q)⟩
theorem PSsi {st : List Stmt} {ts ts' : TS} (h : PSs X st ts) (k : ∀ D σ H, ts' D σ H → ts D σ H) : PSs X st ts' := ⟨fun pins s σ H D I q => h.run pins s σ H D I (k D σ H q)⟩
theorem PEor (h : PE X e t) (h' : PE X e t') : PE X e (fun σ H Q => t σ H Q ∨ t' σ H Q) := ⟨fun pins s σ H Q I q => q.elim (h.run pins s σ H Q I) (h'.run pins s σ H Q I)⟩
end
end Itp

/-! ItC: operators by values. -/
namespace Itp
open PySem PySem.Spec PyProof.Rows L2
section
variable {D : Dn} {X : Cx}
/-- a two-place operation as it runs -/
def sem2 (D : Dn) (f : IV → IV → IH → R IV) : R2 := fun u w H Q => ∃ ρ ih x y W, HR D ρ ih H ∧ VR D ρ H x u ∧ VR D ρ H y w ∧ Post D ρ H (f x y ih) (VR D) Q W
theorem b64 : B64 = 2 ^ 64 := by decide
theorem ln_eq : LN = sizeLine := by decide
section
variable {ρ : List Addr} {ih : IH} {H : Hp} {Q : VK} {W : Value → Option Addr → Hp → Prop}
/-- behind a value that is made of nothing new -/
theorem Post.val {x : IV} {u : V} (hr : HR D ρ ih H) (r : VR D ρ H x u) (p : Post D ρ H (.ok x ih) (VR D) Q W) : Q u H := p ρ H u .refl hr r
/-- behind a new list -/
theorem Post.lst {xs : List IV} {us : List V} {q : Addr} (hr : HR D ρ ih H) (r : VRs D ρ H xs us) (p : Post D ρ H (.ok (.ref ih.length) (ih ++ [.lst xs])) (VR D) Q W) (hq : H q = none) : Q (.ref q) (upd H q (.lst us)) :=
  p (ρ ++ [q]) _ _ (Ev.new hq _) (hr.new hq _ ⟨us, upd_same, r.evo hr (Ev.new hq _)⟩) (.ref hr.last)
/-- behind a new tuple -/
theorem Post.tup {xs : List IV} {us : List V} {q : Addr} (hr : HR D ρ ih H) (r : VRs D ρ H xs us) (p : Post D ρ H (.ok (.tup xs) ih) (VR D) Q W) (hq : H q = none) : Q (.ref q) (upd H q (.tup us)) :=
  p ρ _ _ (Ev.lay hq _) (hr.lay hq _) (.tup (.inl (.inl upd_same)) (r.evo hr (Ev.lay hq _)))
end
theorem op_i {f : Value → Value → Sem Value} {C : Int → Int → Prop} {g : Int → Int → Int} {k : IV → IV → IH → R IV} (ho : OpR X f (rI C fun i j => .int (g i j)))
    (hk : ∀ {ρ : List Addr} {ih : IH} {H : Hp} {x y : IV} {u w : V} {Q : VK} {W : Value → Option Addr → Hp → Prop}, HR D ρ ih H → VR D ρ H x u → VR D ρ H y w → Post D ρ H (k x y ih) (VR D) Q W → ∃ i j, u = .int i ∧ w = .int j ∧ C i j ∧ Q (.int (g i j)) H) : OpR X f (sem2 D k) := by
  intro pins s σ H u w v v' Q I ru rw ⟨ρ, ih, x, y, W, hr, vx, vy, p⟩
  exact ho pins s σ H u w v v' Q I ru rw (hk hr vx vy p)
theorem ob_sub : OpR X (binaryOp .Sub) (sem2 D (bin .sub)) := by
  intro pins s σ H u w v v' Q I ru rw ⟨ρ, ih, x, y, W, hr, vx, vy, p⟩
  cases vx <;> cases vy <;> first | exact False.elim p | exact op_sub pins s σ H _ _ v v' Q I ru rw ⟨_, _, rfl, rfl, p.val hr (.int _)⟩
theorem ob_band : OpR X (binaryOp .BitAnd) (sem2 D (bin .band)) := by
  intro pins s σ H u w v v' Q I ru rw ⟨ρ, ih, x, y, W, hr, vx, vy, p⟩
  cases vx <;> cases vy <;> first | exact False.elim p | exact op_and pins s σ H _ _ v v' Q I ru rw ⟨_, _, rfl, rfl, p.val hr (.int _)⟩
theorem ob_bor : OpR X (binaryOp .BitOr) (sem2 D (bin .bor)) := by
  intro pins s σ H u w v v' Q I ru rw ⟨ρ, ih, x, y, W, hr, vx, vy, p⟩
  cases vx <;> cases vy <;> first | exact False.elim p | exact op_or pins s σ H _ _ v v' Q I ru rw ⟨_, _, rfl, rfl, p.val hr (.int _)⟩
theorem ob_bxor : OpR X (binaryOp .BitXor) (sem2 D (bin .bxor)) := by
  intro pins s σ H u w v v' Q I ru rw ⟨ρ, ih, x, y, W, hr, vx, vy, p⟩
  cases vx <;> cases vy <;> first | exact False.elim p | exact op_xor pins s σ H _ _ v v' Q I ru rw ⟨_, _, rfl, rfl, p.val hr (.int _)⟩
theorem ifp {c : Prop} [Decidable c] {α : Type} {a b : α} {F : α → Prop} (h : F (if c then a else b)) (nb : F b → False) : c ∧ F a := by
  by_cases hc : c
  · rw [if_pos hc] at h
    exact ⟨hc, h⟩
  · rw [if_neg hc] at h
    exact (nb h).elim
theorem ob_fdiv : OpR X (binaryOp .FloorDiv) (sem2 D (bin .fdiv)) := by
  intro pins s σ H u w v v' Q I ru rw ⟨ρ, ih, x, y, W, hr, vx, vy, p⟩
  cases vx <;> cases vy <;> first
    | exact False.elim p
    | (obtain ⟨c, p⟩ := ifp (F := fun r => Post D ρ H r (VR D) Q W) p fun z => z
       have h2 := b64 ▸ c.2
       exact op_fdivW pins s σ H _ _ v v' Q I ru rw ⟨_, _, rfl, rfl, wide_div (b := 64) c.1 (by omega) (by decide) (by decide), p.val hr (.int _)⟩)
theorem ob_mod : OpR X (binaryOp .Mod) (sem2 D (bin .mod)) := by
  intro pins s σ H u w v v' Q I ru rw ⟨ρ, ih, x, y, W, hr, vx, vy, p⟩
  cases vx <;> cases vy <;> first
    | exact False.elim p
    | (obtain ⟨c, p⟩ := ifp (F := fun r => Post D ρ H r (VR D) Q W) p fun z => z
       exact op_mod pins s σ H _ _ v v' Q I ru rw ⟨_, _, rfl, rfl, c, p.val hr (.int _)⟩)
theorem ob_pow : OpR X (binaryOp .Pow) (sem2 D (bin .pow)) := by
  intro pins s σ H u w v v' Q I ru rw ⟨ρ, ih, x, y, W, hr, vx, vy, p⟩
  cases vx <;> cases vy <;> first
    | exact False.elim p
    | (obtain ⟨⟨c1, c2, c3, c4⟩, p⟩ := ifp (F := fun r => Post D ρ H r (VR D) Q W) p fun z => z
       rw [b64] at c3 c4
       exact op_pow pins s σ H _ _ v v' Q I ru rw ⟨_, _, rfl, rfl, ⟨c1, c2, by omega⟩, p.val hr (.int _)⟩)
theorem ob_shl : OpR X (binaryOp .LShift) (sem2 D (bin .shl)) := by
  intro pins s σ H u w v v' Q I ru rw ⟨ρ, ih, x, y, W, hr, vx, vy, p⟩
  cases vx <;> cases vy <;> first
    | exact False.elim p
    | (obtain ⟨⟨c1, c2, c3, c4⟩, p⟩ := ifp (F := fun r => Post D ρ H r (VR D) Q W) p fun z => z
       rw [b64] at c3 c4
       exact op_shl pins s σ H _ _ v v' Q I ru rw ⟨_, _, rfl, rfl, ⟨c1, c2, by omega⟩, p.val hr (.int _)⟩)
theorem ob_shr : OpR X (binaryOp .RShift) (sem2 D (bin .shr)) := by
  intro pins s σ H u w v v' Q I ru rw ⟨ρ, ih, x, y, W, hr, vx, vy, p⟩
  cases vx <;> cases vy <;> first
    | exact False.elim p
    | (obtain ⟨c, p⟩ := ifp (F := fun r => Post D ρ H r (VR D) Q W) p fun z => z
       exact op_shr pins s σ H _ _ v v' Q I ru rw ⟨_, _, rfl, rfl, c, p.val hr (.int _)⟩)
theorem op_mul_str : OpR X (binaryOp .Mult) (fun x y H Q => ∃ i k, x = .str i ∧ y = .int k ∧ MulOk i k ∧ Q (.str (Txt.mul i k)) H) := by
  intro pins s σ H x y v u Q I rx ry h
  obtain ⟨i, j, rfl, rfl, hz, q⟩ := h
  obtain ⟨t, rfl⟩ := rx
  obtain ⟨t', rfl⟩ := ry
  exact SB.mul hz (fun t' tk => ⟨.str (Txt.mul i j), H, I.tok _, ⟨_, rfl⟩, q⟩)
theorem mulOk_of {i : Str} {k : Int} (c1 : 0 ≤ k) (c2 : k ≤ 1000000) (c3 : i.length * k.toNat ≤ LN) : MulOk i k := by
  refine ⟨?_, fun h1 h2 => ?_, fun _ _ => ?_⟩
  · rw [decide_eq_false (by omega), decide_eq_false (by omega)]; rfl
  · have h3 : (0 : Int) < k := by omega
    have h4 : (i.length : Int) * k ≤ 16777216 := by
      have : ((i.length * k.toNat : Nat) : Int) ≤ 16777216 := by
        have : i.length * k.toNat ≤ 16777216 := c3
        omega
      rw [Int.natCast_mul, Int.toNat_of_nonneg c1] at this
      exact this
    have h5 : (i.length : Int) ≤ i.length * k := by
      have := Int.mul_le_mul_of_nonneg_left (show (1 : Int) ≤ k by omega) (show (0 : Int) ≤ i.length by omega)
      omega
    have h6 : (9223372036854 : Int) ≤ (2 ^ 63 - 1) / k := Int.le_ediv_of_mul_le h3 (by omega)
    omega
  · have : i.length * k.toNat ≤ 16777216 := c3
    simp [PySem.Builtin.Str.tooLong, sizeLine]
    omega
theorem ob_mul : OpR X (binaryOp .Mult) (sem2 D (bin .mul)) := by
  intro pins s σ H u w v v' Q I ru rw ⟨ρ, ih, x, y, W, hr, vx, vy, p⟩
  cases vx with
  | int i =>
    cases vy <;> first
      | exact False.elim p
      | (obtain ⟨c, p⟩ := ifp (F := fun r => Post D ρ H r (VR D) Q W) p fun z => z
         rw [b64] at c
         exact op_mul pins s σ H _ _ v v' Q I ru rw ⟨_, _, rfl, rfl, c, p.val hr (.int _)⟩)
  | @ref n a q =>
    cases vy with
    | int k =>
      replace p : Post D ρ H (match ih[n]? with
        | some (.lst xs) => if -4611686018427387904 ≤ k ∧ k < 4611686018427387904 ∧ xs.length * k.toNat ≤ LN then .ok (.ref ih.length) (ih ++ [.lst (List.replicate k.toNat xs).flatten]) else .no
        | _ => .no) (VR D) Q W := p
      cases e : ih[n]? with
      | none => rw [e] at p; exact p.elim
      | some o =>
        rw [e] at p
        cases o with
        | lst xs =>
          obtain ⟨⟨c1, c2, c3⟩, p⟩ := ifp (F := fun r => Post D ρ H r (VR D) Q W) p fun z => z
          obtain ⟨us, h1, r⟩ := hr.ob _ _ _ e q
          exact op_rep pins s σ H _ _ v v' Q I ru rw ⟨a, k, us, rfl, rfl, h1, by omega, by omega, by rw [← r.length, ← ln_eq]; exact c3, fun q' hq => p.lst hr (r.repl _) hq⟩
        | dic _ => exact p.elim
        | ins _ _ => exact p.elim
    | _ => exact False.elim p
  | str i =>
    cases vy <;> first
      | exact False.elim p
      | (obtain ⟨⟨c1, c2, c3⟩, p⟩ := ifp (F := fun r => Post D ρ H r (VR D) Q W) p fun z => z
         exact op_mul_str pins s σ H _ _ v v' Q I ru rw ⟨_, _, rfl, rfl, mulOk_of c1 c2 c3, p.val hr (.str _)⟩)
  | _ => cases vy <;> exact False.elim p
theorem ob_add (hK : X.K = D.K) : OpR X (binaryOp .Add) (sem2 D (bin .add)) := by
  intro pins s σ H u w v v' Q I ru rw ⟨ρ, ih, x, y, W, hr, vx, vy, p⟩
  cases vx with
  | int i =>
    cases vy <;> first
      | exact False.elim p
      | exact op_add pins s σ H _ _ v v' Q I ru rw ⟨_, _, rfl, rfl, p.val hr (.int _)⟩
  | str i =>
    cases vy <;> first
      | exact False.elim p
      | (obtain ⟨c, p⟩ := ifp (F := fun r => Post D ρ H r (VR D) Q W) p fun z => z
         exact op_add_str pins s σ H _ _ v v' Q I ru rw ⟨_, _, rfl, rfl, by rw [← ln_eq]; exact c, p.val hr (.str _)⟩)
  | @ref n a q =>
    cases vy with
    | @ref k b q2 =>
      replace p : Post D ρ H (match ih[n]?, ih[k]? with
        | some (.lst xs), some (.lst ys) => if xs.length + ys.length ≤ LN then .ok (.ref ih.length) (ih ++ [.lst (xs ++ ys)]) else .no
        | _, _ => .no) (VR D) Q W := p
      cases e : ih[n]? with
      | none => rw [e] at p; exact p.elim
      | some o =>
        rw [e] at p
        cases o with
        | lst xs =>
          cases e2 : ih[k]? with
          | none => rw [e2] at p; exact p.elim
          | some o2 =>
            rw [e2] at p
            cases o2 with
            | lst ys =>
              obtain ⟨c, p⟩ := ifp (F := fun r => Post D ρ H r (VR D) Q W) p fun z => z
              obtain ⟨us, h1, r⟩ := hr.ob _ _ _ e q
              obtain ⟨ws, h2, r2⟩ := hr.ob _ _ _ e2 q2
              exact op_cat pins s σ H _ _ v v' Q I ru rw ⟨a, b, us, ws, rfl, rfl, h1, h2, by rw [← r.length, ← r2.length, ← ln_eq]; exact c, fun q' hq => p.lst hr (r.append r2) hq⟩
            | dic _ => exact p.elim
            | ins _ _ => exact p.elim
        | dic _ => exact p.elim
        | ins _ _ => exact p.elim
    | _ => exact False.elim p
  | @tup xs us a t r =>
    cases vy with
    | @tup ys ws b t2 r2 =>
      obtain ⟨c, p⟩ := ifp (F := fun r => Post D ρ H r (VR D) Q W) p fun z => z
      refine op_catA pins s σ H _ _ v v' Q I ru rw ⟨a, b, us, ws, rfl, rfl, by rw [hK]; exact t, by rw [hK]; exact t2, by rw [← r.length, ← r2.length, ← ln_eq]; exact c, fun e => ?_, fun e e2 => ?_, fun _ _ q hq => p.tup hr (r.append r2) hq⟩
      · subst e
        cases r
        exact p.val hr (.tup t2 r2)
      · subst e2
        cases r2
        rw [List.append_nil] at p
        exact p.val hr (.tup t r)
    | _ => exact False.elim p
  | _ => cases vy <;> exact False.elim p
end
/-! ### data -/
section
variable {D : Dn} {ρ : List Addr} {ih : IH} {H : Hp}
theorem datL_all {f : IV → Option PyData} : ∀ {xs : List IV} {ds : List PyData}, datL f xs = some ds → Paired (fun x d => f x = some d) xs ds
  | [], ds, h => by
    cases h
    exact .nil
  | x :: xs, ds, h => by
    unfold datL at h
    cases e : f x with
    | none => rw [e] at h; cases h
    | some d =>
      rw [e] at h
      obtain ⟨l, h1, h2⟩ := Option.map_eq_some_iff.mp h
      subst h2
      exact .cons e (datL_all h1)
theorem canAll {d : PyData} {ds : List PyData} (h : PyData.canLayAll0 (d :: ds) = true) : d.canLay0 = true ∧ PyData.canLayAll0 ds = true := by
  simpa [PyData.canLayAll0] using h
theorem dps_of {f : IV → Option PyData} (k : ∀ x d u, f x = some d → d.canLay0 = true → VR D ρ H x u → Dp D.K H u d) : ∀ {xs : List IV} {ds : List PyData} {us : List V}, Paired (fun x d => f x = some d) xs ds → PyData.canLayAll0 ds = true → VRs D ρ H xs us → DpAll D.K H us ds
  | _, _, _, .nil, _, r => by
    cases r
    exact .nil
  | _, _, _, .cons h t, c, r => by
    cases r with
    | cons r1 r2 =>
      obtain ⟨c1, c2⟩ := canAll c
      exact .cons (k _ _ _ h c1 r1) (dps_of k t c2 r2)
theorem dp_of (hr : HR D ρ ih H) : ∀ (n : Nat) (x : IV) (d : PyData) (u : V), dat ih n x = some d → d.canLay0 = true → VR D ρ H x u → Dp D.K H u d
  | 0, _, _, _, h, _, _ => by cases h
  | n + 1, x, d, u, h, c, r => by
    have L : ∀ {xs : List IV} {us : List V} {d : PyData}, (datL (dat ih n) xs).map PyData.list = some d → d.canLay0 = true → VRs D ρ H xs us → ∃ ds, d = .list ds ∧ DpAll D.K H us ds := fun h c r => by
      obtain ⟨l, h1, h2⟩ := Option.map_eq_some_iff.mp h
      subst h2
      exact ⟨l, rfl, dps_of (dp_of hr n) (datL_all h1) (by simpa [PyData.canLay0] using c) r⟩
    cases r with
    | non => cases h; exact .non
    | bl b => cases h; exact .bl b
    | int b => cases h; exact .int b
    | str b => cases h; exact .str b
    | tup q r =>
      obtain ⟨l, h1, h2⟩ := Option.map_eq_some_iff.mp h
      subst h2
      exact .tup q (dps_of (dp_of hr n) (datL_all h1) (by simpa [PyData.canLay0] using c) r)
    | frz q r =>
      obtain ⟨ds, rfl, t⟩ := L h c r
      exact .lst q.sq t
    | @ref k a q =>
      have h' : (match ih[k]? with
        | some (.lst xs) => (datL (dat ih n) xs).map .list
        | some (.dic kvs) => (datK (dat ih n) kvs).map .dict
        | _ => none) = some d := h
      cases e : ih[k]? with
      | none => rw [e] at h'; cases h'
      | some o =>
        rw [e] at h'
        cases o with
        | ins _ _ => cases h'
        | dic kvs =>
          obtain ⟨l, h1, h2⟩ := Option.map_eq_some_iff.mp h'
          subst h2
          simp [PyData.canLay0] at c
        | lst xs =>
          obtain ⟨us, h1, r⟩ := hr.ob _ _ _ e q
          obtain ⟨ds, rfl, t⟩ := L h' c r
          exact .lst (.inl (.inl h1)) t
theorem dp_sh (hr : HR D ρ ih H) {x : IV} {d : PyData} {u : V} (h : dat ih DP x = some d) (c : SeqAt.shaped d = true) (r : VR D ρ H x u) : Dp D.K H u d := dp_of hr DP x d u h (SeqAt.canLay_of_shaped c) r
end
section
variable {D : Dn} {X : Cx}
section
variable {ρ : List Addr} {ih : IH} {H : Hp} {Q : VK} {W : Value → Option Addr → Hp → Prop}
theorem Post.boo {o : Option Bool} (hr : HR D ρ ih H) (p : Post D ρ H (boo o ih) (VR D) Q W) : ∃ b, o = some b ∧ Q (.bl b) H := by
  cases o with
  | none => exact p.elim
  | some b => exact ⟨b, rfl, p.val hr (.bl b)⟩
theorem Post.opt {o : Option IV} (p : Post D ρ H (opt o ih) (VR D) Q W) : ∃ x, o = some x ∧ Post D ρ H (.ok x ih) (VR D) Q W := by
  cases o with
  | none => exact p.elim
  | some b => exact ⟨b, rfl, p⟩
end
theorem eqI_dat {x y : IV} {ih : IH} {b : Bool} (h : eqI x y ih = some b) : ∃ d e, dat ih DP x = some d ∧ dat ih DP y = some e ∧ SeqAt.shaped d = true ∧ SeqAt.shaped e = true ∧ b = PyData.eqv d e := by
  unfold eqI at h
  cases e1 : dat ih DP x with
  | none => rw [e1] at h; cases h
  | some d =>
    cases e2 : dat ih DP y with
    | none => rw [e1, e2] at h; cases h
    | some e =>
      rw [e1, e2] at h
      by_cases c : SeqAt.shaped d = true ∧ SeqAt.shaped e = true
      · have h' : (if SeqAt.shaped d = true ∧ SeqAt.shaped e = true then some (PyData.eqv d e) else none) = some b := h
        rw [if_pos c] at h'
        exact ⟨d, e, rfl, rfl, c.1, c.2, (Option.some.inj h').symm⟩
      · have h' : (if SeqAt.shaped d = true ∧ SeqAt.shaped e = true then some (PyData.eqv d e) else none) = some b := h
        rw [if_neg c] at h'
        cases h'
theorem oc_eq (hK : X.K = D.K) (hu : X.A.units + 80 < cLine) : OpR X (compareOp .Eq) (sem2 D cEq) := by
  intro pins s σ H u w v v' Q I ru rw ⟨ρ, ih, x, y, W, hr, vx, vy, p⟩
  obtain ⟨b, e, q⟩ := Post.boo hr p
  obtain ⟨d, d', h1, h2, h3, h4, rfl⟩ := eqI_dat e
  exact op_eqD (by omega) pins s σ H u w v v' Q I ru rw ⟨d, d', by rw [hK]; exact dp_sh hr h1 h3 vx, by rw [hK]; exact dp_sh hr h2 h4 vy, h3, h4, q⟩
theorem oc_ne (hK : X.K = D.K) (hu : X.A.units + 80 < cLine) : OpR X (compareOp .NotEq) (sem2 D cNe) := by
  intro pins s σ H u w v v' Q I ru rw ⟨ρ, ih, x, y, W, hr, vx, vy, p⟩
  obtain ⟨b, e, q⟩ := Post.boo hr p
  obtain ⟨b', e', e2⟩ := Option.map_eq_some_iff.mp e
  subst e2
  obtain ⟨d, d', h1, h2, h3, h4, rfl⟩ := eqI_dat e'
  exact op_neD (by omega) pins s σ H u w v v' Q I ru rw ⟨d, d', by rw [hK]; exact dp_sh hr h1 h3 vx, by rw [hK]; exact dp_sh hr h2 h4 vy, h3, h4, q⟩
theorem ints_vr {ρ : List Addr} {H : Hp} : ∀ {xs : List IV} {ns : List Int} {us : List V}, intsOf xs = some ns → VRs D ρ H xs us → us = ns.map V.int
  | [], ns, us, h, r => by
    cases h
    cases r
    rfl
  | x :: xs, ns, us, h, r => by
    cases r with
    | cons r1 r2 =>
      cases r1 <;> first
        | (obtain ⟨l, h1, h2⟩ := Option.map_eq_some_iff.mp h
           subst h2
           rw [ints_vr h1 r2]
           rfl)
        | cases h
theorem oc_lt (hK : X.K = D.K) (hu : X.A.units + 80 < cLine) : OpR X (compareOp .Lt) (sem2 D cLt) := by
  intro pins s σ H u w v v' Q I ru rw ⟨ρ, ih, x, y, W, hr, vx, vy, p⟩
  obtain ⟨b, e, q⟩ := Post.boo hr p
  cases vx with
  | int i =>
    cases vy with
    | int j => cases e; exact op_lt pins s σ H _ _ v v' Q I ru rw ⟨_, _, rfl, rfl, q⟩
    | _ => cases e
  | str i =>
    cases vy with
    | str j => cases e; exact op_lt_str pins s σ H _ _ v v' Q I ru rw ⟨_, _, rfl, rfl, q⟩
    | _ => cases e
  | @tup xs us a t r =>
    cases vy with
    | @tup ys ws b t2 r2 =>
      replace e : (match intsOf xs, intsOf ys with
        | some ns, some ms => some (HT.lexLt ns ms)
        | _, _ => none) = some _ := e
      cases e1 : intsOf xs with
      | none => rw [e1] at e; cases e
      | some ns =>
        cases e2 : intsOf ys with
        | none => rw [e1, e2] at e; cases e
        | some ms =>
          rw [e1, e2] at e
          cases e
          have h1 := ints_vr e1 r
          have h2 := ints_vr e2 r2
          subst h1 h2
          exact op_ltT (by omega) pins s σ H _ _ v v' Q I ru rw ⟨a, b, ns, ms, rfl, rfl, by rw [hK]; exact t, by rw [hK]; exact t2, q⟩
    | _ => cases e
  | _ => cases vy <;> cases e
theorem oc_gt : OpR X (compareOp .Gt) (sem2 D cGt) := by
  intro pins s σ H u w v v' Q I ru rw ⟨ρ, ih, x, y, W, hr, vx, vy, p⟩
  obtain ⟨b, e, q⟩ := Post.boo hr p
  cases vx with
  | int i =>
    cases vy with
    | int j => cases e; exact op_gt pins s σ H _ _ v v' Q I ru rw ⟨_, _, rfl, rfl, q⟩
    | _ => cases e
  | str i =>
    cases vy with
    | str j => cases e; exact op_gt_str pins s σ H _ _ v v' Q I ru rw ⟨_, _, rfl, rfl, q⟩
    | _ => cases e
  | _ => cases vy <;> cases e
theorem oc_le : OpR X (compareOp .LtE) (sem2 D cLe) := by
  intro pins s σ H u w v v' Q I ru rw ⟨ρ, ih, x, y, W, hr, vx, vy, p⟩
  obtain ⟨b, e, q⟩ := Post.boo hr p
  cases vx with
  | int i =>
    cases vy with
    | int j => cases e; exact op_le pins s σ H _ _ v v' Q I ru rw ⟨_, _, rfl, rfl, q⟩
    | _ => cases e
  | str i =>
    cases vy with
    | str j => cases e; exact op_le_str pins s σ H _ _ v v' Q I ru rw ⟨_, _, rfl, rfl, q⟩
    | _ => cases e
  | _ => cases vy <;> cases e
theorem oc_ge : OpR X (compareOp .GtE) (sem2 D cGe) := by
  intro pins s σ H u w v v' Q I ru rw ⟨ρ, ih, x, y, W, hr, vx, vy, p⟩
  obtain ⟨b, e, q⟩ := Post.boo hr p
  cases vx with
  | int i =>
    cases vy with
    | int j => cases e; exact op_ge pins s σ H _ _ v v' Q I ru rw ⟨_, _, rfl, rfl, q⟩
    | _ => cases e
  | str i =>
    cases vy with
    | str j => cases e; exact op_ge_str pins s σ H _ _ v v' Q I ru rw ⟨_, _, rfl, rfl, q⟩
    | _ => cases e
  | _ => cases vy <;> cases e
/-- x is None | True | False -/
theorem is_const {x y : IV} {u w : V} {v v' : Value} {b : Bool} {ρ : List Addr} {H : Hp} (h : same x y = some b) (vx : VR D ρ H x u) (vy : VR D ρ H y w) (ru : RelV u v) (rw : RelV w v') : plainIs v v' = true ∧ (v == v') = b := by
  cases vy with
  | non =>
    cases (show v' = Value.none from rw)
    cases vx <;> cases h <;> first
      | (cases ru; exact ⟨rfl, rfl⟩)
      | (obtain ⟨t, rfl⟩ := ru; exact ⟨rfl, rfl⟩)
  | bl c =>
    cases (show v' = Value.bool c from rw)
    cases vx <;> first
      | (cases h; cases ru; exact ⟨rfl, rfl⟩)
      | (cases h; obtain ⟨t, rfl⟩ := ru; exact ⟨rfl, rfl⟩)
      | (cases h
         cases ru
         refine ⟨rfl, ?_⟩
         rename_i b1
         cases b1 <;> cases c <;> rfl)
  | _ => cases vx <;> cases h
theorem oc_is : OpR X (compareOp .Is) (sem2 D cIs) := by
  intro pins s σ H u w v v' Q I ru rw ⟨ρ, ih, x, y, W, hr, vx, vy, p⟩
  obtain ⟨b, e, q⟩ := Post.boo hr p
  obtain ⟨h1, h2⟩ := is_const e vx vy ru rw
  exact wpAny_is_plain h1 (by rw [h2]; exact ⟨.bl b, H, I, rfl, q⟩)
theorem oc_isn : OpR X (compareOp .IsNot) (sem2 D cIsn) := by
  intro pins s σ H u w v v' Q I ru rw ⟨ρ, ih, x, y, W, hr, vx, vy, p⟩
  obtain ⟨b, e, q⟩ := Post.boo hr p
  obtain ⟨b', e', e2⟩ := Option.map_eq_some_iff.mp e
  subst e2
  obtain ⟨h1, h2⟩ := is_const e' vx vy ru rw
  exact wpAny_isNot_plain h1 (by rw [h2]; exact ⟨.bl _, H, I, rfl, q⟩)
end
end Itp

/-! ItD: in, truth, places, parts, built-in functions by values. -/
namespace Itp
open PySem PySem.Spec PyProof.Rows L2
section
variable {D : Dn} {X : Cx}
/-! ### keys -/
def kI : Key → IV
  | .inl i => .int i
  | .inr x => .str x
theorem key_of {ρ : List Addr} {H : Hp} {y : IV} {w : V} (h : keyB y = true) (r : VR D ρ H y w) : ∃ k, y = kI k ∧ w = kV k := by
  cases r <;> first
    | (exact ⟨.inl _, rfl, rfl⟩)
    | (exact ⟨.inr _, rfl, rfl⟩)
    | (cases h)
theorem keyEq_iff (k j : Key) : keyEq (kI k) (kI j) = decide (k = j) := by
  cases k <;> cases j <;> simp [keyEq, kI]
theorem KRs.get {ρ : List Addr} {H : Hp} (k : Key) : ∀ {kvs : List (IV × IV)} {ls : List (Key × V)}, KRs D ρ H kvs ls → (getK (kI k) kvs = none ∧ valV ls k = none) ∨ ∃ x u, getK (kI k) kvs = some x ∧ valV ls k = some u ∧ VR D ρ H x u
  | _, _, .nil => .inl ⟨rfl, rfl⟩
  | _, _, @KRs.int _ _ _ i x u xs us q r => by
    have e : keyEq (.int i) (kI k) = decide ((Sum.inl i : Key) = k) := keyEq_iff (.inl i) k
    by_cases h : (Sum.inl i : Key) = k
    · refine .inr ⟨x, u, ?_, valV_pos h, q⟩
      show (if keyEq (.int i) (kI k) = true then some x else getK (kI k) xs) = some x
      rw [e, if_pos (decide_eq_true h)]
    · have g : getK (kI k) ((.int i, x) :: xs) = getK (kI k) xs := by
        show (if keyEq (.int i) (kI k) = true then some x else getK (kI k) xs) = _
        rw [e, if_neg (by simpa using h)]
      rw [g, valV_neg h]
      exact KRs.get k r
  | _, _, @KRs.str _ _ _ i x u xs us q r => by
    have e : keyEq (.str i) (kI k) = decide ((Sum.inr i : Key) = k) := keyEq_iff (.inr i) k
    by_cases h : (Sum.inr i : Key) = k
    · refine .inr ⟨x, u, ?_, valV_pos h, q⟩
      show (if keyEq (.str i) (kI k) = true then some x else getK (kI k) xs) = some x
      rw [e, if_pos (decide_eq_true h)]
    · have g : getK (kI k) ((.str i, x) :: xs) = getK (kI k) xs := by
        show (if keyEq (.str i) (kI k) = true then some x else getK (kI k) xs) = _
        rw [e, if_neg (by simpa using h)]
      rw [g, valV_neg h]
      exact KRs.get k r
theorem KRs.length {ρ : List Addr} {H : Hp} {kvs : List (IV × IV)} {ls : List (Key × V)} (r : KRs D ρ H kvs ls) : kvs.length = ls.length := by
  induction r with
  | nil => rfl
  | int _ _ k => rw [List.length_cons, List.length_cons, k]
  | str _ _ k => rw [List.length_cons, List.length_cons, k]
theorem KRs.any {ρ : List Addr} {H : Hp} (k : Key) {kvs : List (IV × IV)} {ls : List (Key × V)} (r : KRs D ρ H kvs ls) : (kvs.any fun p => keyEq p.1 (kI k)) = (ls.any fun p => decide (p.1 = k)) := by
  induction r with
  | nil => rfl
  | int _ _ ih => rw [List.any_cons, List.any_cons, ih]; congr 1; exact keyEq_iff (.inl _) k
  | str _ _ ih => rw [List.any_cons, List.any_cons, ih]; congr 1; exact keyEq_iff (.inr _) k
theorem KRs.map {ρ : List Addr} {H : Hp} {v : IV} {w : V} (q : VR D ρ H v w) (k : Key) {kvs : List (IV × IV)} {ls : List (Key × V)} (r : KRs D ρ H kvs ls) :
    KRs D ρ H (kvs.map fun p => if keyEq p.1 (kI k) = true then (p.1, v) else p) (ls.map fun p => if p.1 = k then (p.1, w) else p) := by
  induction r with
  | nil => exact .nil
  | @int i x u xs us q1 r ih =>
    have e : keyEq (.int i) (kI k) = decide ((Sum.inl i : Key) = k) := keyEq_iff (.inl i) k
    by_cases h : (Sum.inl i : Key) = k
    · rw [List.map_cons, List.map_cons, if_pos h, if_pos (by show keyEq (.int i) (kI k) = true; rw [e]; exact decide_eq_true h)]
      exact .int q ih
    · rw [List.map_cons, List.map_cons, if_neg h, if_neg (by show ¬ keyEq (.int i) (kI k) = true; rw [e]; simpa using h)]
      exact .int q1 ih
  | @str i x u xs us q1 r ih =>
    have e : keyEq (.str i) (kI k) = decide ((Sum.inr i : Key) = k) := keyEq_iff (.inr i) k
    by_cases h : (Sum.inr i : Key) = k
    · rw [List.map_cons, List.map_cons, if_pos h, if_pos (by show keyEq (.str i) (kI k) = true; rw [e]; exact decide_eq_true h)]
      exact .str q ih
    · rw [List.map_cons, List.map_cons, if_neg h, if_neg (by show ¬ keyEq (.str i) (kI k) = true; rw [e]; simpa using h)]
      exact .str q1 ih
theorem KRs.append {ρ : List Addr} {H : Hp} {k2 : List (IV × IV)} {l2 : List (Key × V)} (t : KRs D ρ H k2 l2) {kvs : List (IV × IV)} {ls : List (Key × V)} (r : KRs D ρ H kvs ls) : KRs D ρ H (kvs ++ k2) (ls ++ l2) := by
  induction r with
  | nil => exact t
  | int q _ ih => exact .int q ih
  | str q _ ih => exact .str q ih
theorem KRs.one {ρ : List Addr} {H : Hp} {v : IV} {w : V} (q : VR D ρ H v w) (k : Key) : KRs D ρ H [(kI k, v)] [(k, w)] := by
  cases k with
  | inl i => exact .int q .nil
  | inr i => exact .str q .nil
theorem KRs.put {ρ : List Addr} {H : Hp} {v : IV} {w : V} (q : VR D ρ H v w) (k : Key) {kvs : List (IV × IV)} {ls : List (Key × V)} (r : KRs D ρ H kvs ls) : KRs D ρ H (putD (kI k) v kvs) (putK ls k w) := by
  unfold putD putK
  rw [r.any k]
  by_cases h : (ls.any fun p => decide (p.1 = k)) = true
  · rw [if_pos h, if_pos h]
    exact r.map q k
  · rw [if_neg h, if_neg h]
    exact KRs.append (.one q k) r
/-! ### in -/
theorem flatD_V {ρ : List Addr} {H : Hp} {ih : IH} {n : Nat} {x : IV} {u : V} {d : PyData} (h : dat ih n x = some d) (f : flatD d = true) (r : VR D ρ H x u) (hr : HR D ρ ih H) : flatV u = true ∧ ∀ x' u' d', dat ih n x' = some d' → flatD d' = true → VR D ρ H x' u' → eqV u' u = PyData.eqv d' d := by
  cases n with
  | zero => cases h
  | succ n =>
    have key : ∀ {x : IV} {u : V} {d : PyData}, dat ih (n + 1) x = some d → flatD d = true → VR D ρ H x u → (x = .non ∧ u = .non ∧ d = .none) ∨ (∃ b, x = .bl b ∧ u = .bl b ∧ d = .bool b) ∨ (∃ b, x = .int b ∧ u = .int b ∧ d = .int b) ∨ (∃ b, x = .str b ∧ u = .str b ∧ d = .str b) := by
      intro x u d h f r
      cases r with
      | non => cases h; exact .inl ⟨rfl, rfl, rfl⟩
      | bl b => cases h; exact .inr (.inl ⟨b, rfl, rfl, rfl⟩)
      | int b => cases h; exact .inr (.inr (.inl ⟨b, rfl, rfl, rfl⟩))
      | str b => cases h; exact .inr (.inr (.inr ⟨b, rfl, rfl, rfl⟩))
      | tup q r =>
        obtain ⟨l, h1, h2⟩ := Option.map_eq_some_iff.mp h
        subst h2
        cases f
      | frz q r =>
        obtain ⟨l, h1, h2⟩ := Option.map_eq_some_iff.mp h
        subst h2
        cases f
      | @ref k a q =>
        have h' : (match ih[k]? with
          | some (.lst xs) => (datL (dat ih n) xs).map .list
          | some (.dic kvs) => (datK (dat ih n) kvs).map .dict
          | _ => none) = some d := h
        cases e : ih[k]? with
        | none => rw [e] at h'; cases h'
        | some o =>
          rw [e] at h'
          cases o with
          | ins _ _ => cases h'
          | dic kvs =>
            obtain ⟨l, h1, h2⟩ := Option.map_eq_some_iff.mp h'
            subst h2
            cases f
          | lst xs =>
            obtain ⟨l, h1, h2⟩ := Option.map_eq_some_iff.mp h'
            subst h2
            cases f
    refine ⟨?_, fun x' u' d' h' f' r' => ?_⟩
    · rcases key h f r with ⟨_, rfl, _⟩ | ⟨b, _, rfl, _⟩ | ⟨b, _, rfl, _⟩ | ⟨b, _, rfl, _⟩ <;> rfl
    · rcases key h f r with ⟨_, rfl, rfl⟩ | ⟨b, _, rfl, rfl⟩ | ⟨b, _, rfl, rfl⟩ | ⟨b, _, rfl, rfl⟩ <;>
        rcases key h' f' r' with ⟨_, rfl, rfl⟩ | ⟨b', _, rfl, rfl⟩ | ⟨b', _, rfl, rfl⟩ | ⟨b', _, rfl, rfl⟩ <;> simp [PyData.eqv, eqV]
theorem inV_dat {ρ : List Addr} {H : Hp} {ih : IH} {n : Nat} {x : IV} {u : V} {d : PyData} (h : dat ih n x = some d) (f : flatD d = true) (r : VR D ρ H x u) (hr : HR D ρ ih H) : ∀ {xs : List IV} {us : List V} {ds : List PyData}, datL (dat ih n) xs = some ds → ds.all flatD = true → VRs D ρ H xs us →
    us.all flatV = true ∧ inV u us = ds.any fun z => PyData.eqv z d
  | [], us, ds, e, _, r2 => by
    cases e
    cases r2
    exact ⟨rfl, rfl⟩
  | y :: xs, us, ds, e, g, r2 => by
    cases r2 with
    | @cons _ w _ ws q1 q2 =>
      unfold datL at e
      cases e1 : dat ih n y with
      | none => rw [e1] at e; cases e
      | some d1 =>
        rw [e1] at e
        obtain ⟨l, h1, h2⟩ := Option.map_eq_some_iff.mp e
        subst h2
        rw [List.all_cons, Bool.and_eq_true] at g
        obtain ⟨k1, k2⟩ := inV_dat h f r hr h1 g.2 q2
        have f1 := flatD_V e1 g.1 q1 hr
        refine ⟨by rw [List.all_cons, f1.1, k1]; rfl, ?_⟩
        show (eqV w u || inV u ws) = (PyData.eqv d1 d || l.any fun z => PyData.eqv z d)
        rw [k2, (flatD_V h f r hr).2 y w d1 e1 g.1 q1]
/-- what in says, as the layer has it -/
theorem inI_cases {ρ : List Addr} {H : Hp} {ih : IH} {x y : IV} {u w : V} {b : Bool} (hr : HR D ρ ih H) (e : inI x y ih = some b) (vx : VR D ρ H x u) (vy : VR D ρ H y w) :
    (∃ i j, u = .str i ∧ w = .str j ∧ b = !(Builtin.Str.occurrences j i 0 j.length 1).isEmpty) ∨ (∃ a o, w = .ref a ∧ DGet H a u o ∧ b = o.isSome) ∨
      (∃ d ds, Dp D.K H u d ∧ Dp D.K H w (.list ds) ∧ SeqAt.shaped d = true ∧ SeqAt.shaped (.list ds) = true ∧ b = ds.any fun z => PyData.eqv z d) ∨
      (∃ p xs, w = .ref p ∧ SqT D.K H p xs ∧ flatV u = true ∧ xs.all flatV = true ∧ b = inV u xs) := by
  have key : inD x y ih = some b → (∃ d ds, Dp D.K H u d ∧ Dp D.K H w (.list ds) ∧ SeqAt.shaped d = true ∧ SeqAt.shaped (.list ds) = true ∧ b = ds.any fun z => PyData.eqv z d) ∨
      (∃ p xs, w = .ref p ∧ SqT D.K H p xs ∧ flatV u = true ∧ xs.all flatV = true ∧ b = inV u xs) := by
    intro e0
    unfold inD at e0
    cases e1 : dat ih DP x with
    | none => rw [e1] at e0; cases e0
    | some d =>
      cases e2 : dat ih DP y with
      | none => rw [e1, e2] at e0; cases e0
      | some d2 =>
        rw [e1, e2] at e0
        cases d2 with
        | list ds =>
          replace e0 : (if SeqAt.shaped d = true ∧ SeqAt.shaped (.list ds) = true then some (ds.any fun z => PyData.eqv z d) else none) = some b := e0
          by_cases c : SeqAt.shaped d = true ∧ SeqAt.shaped (.list ds) = true
          · rw [if_pos c] at e0
            exact .inl ⟨d, ds, dp_sh hr e1 c.1 vx, dp_sh hr e2 c.2 vy, c.1, c.2, (Option.some.inj e0).symm⟩
          · rw [if_neg c] at e0
            cases e0
        | tuple ds =>
          replace e0 : (if flatD d = true ∧ ds.all flatD = true then some (ds.any fun z => PyData.eqv z d) else none) = some b := e0
          by_cases c : flatD d = true ∧ ds.all flatD = true
          · rw [if_pos c] at e0
            have hy : ∃ xs us a, y = .tup xs ∧ w = .ref a ∧ SqT D.K H a us ∧ VRs D ρ H xs us ∧ datL (dat ih 29) xs = some ds := by
              have e2' : dat ih (29 + 1) y = some (.tuple ds) := e2
              cases vy with
              | non => cases e2'
              | bl _ => cases e2'
              | int _ => cases e2'
              | str _ => cases e2'
              | tup q r =>
                obtain ⟨l, h1, h2⟩ := Option.map_eq_some_iff.mp e2'
                cases h2
                exact ⟨_, _, _, rfl, rfl, q, r, h1⟩
              | frz q r =>
                obtain ⟨l, h1, h2⟩ := Option.map_eq_some_iff.mp e2'
                cases h2
              | @ref k a q =>
                have h' : (match ih[k]? with
                  | some (.lst xs) => (datL (dat ih 29) xs).map PyData.list
                  | some (.dic kvs) => (datK (dat ih 29) kvs).map PyData.dict
                  | _ => none) = some (PyData.tuple ds) := e2'
                cases e : ih[k]? with
                | none => rw [e] at h'; cases h'
                | some o =>
                  rw [e] at h'
                  cases o with
                  | ins _ _ => cases h'
                  | dic kvs =>
                    obtain ⟨l, h1, h2⟩ := Option.map_eq_some_iff.mp h'
                    cases h2
                  | lst xs =>
                    obtain ⟨l, h1, h2⟩ := Option.map_eq_some_iff.mp h'
                    cases h2
            obtain ⟨xs, us, a, rfl, rfl, q, r, hd⟩ := hy
            -- the item is data at the lesser depth, too
            have e3 : dat ih 29 x = some d := by
              have e1' : dat ih (29 + 1) x = some d := e1
              cases x <;> first
                | (exact e1')
                | (exfalso
                   obtain ⟨l, h1, h2⟩ := Option.map_eq_some_iff.mp e1'
                   subst h2
                   cases c.1)
                | (exfalso
                   rename_i k
                   have h' : (match ih[k]? with
                     | some (.lst xs) => (datL (dat ih 29) xs).map PyData.list
                     | some (.dic kvs) => (datK (dat ih 29) kvs).map PyData.dict
                     | _ => none) = some d := e1'
                   cases e : ih[k]? with
                   | none => rw [e] at h'; cases h'
                   | some o =>
                     rw [e] at h'
                     cases o with
                     | ins _ _ => cases h'
                     | dic kvs =>
                       obtain ⟨l, h1, h2⟩ := Option.map_eq_some_iff.mp h'
                       subst h2
                       cases c.1
                     | lst xs =>
                       obtain ⟨l, h1, h2⟩ := Option.map_eq_some_iff.mp h'
                       subst h2
                       cases c.1)
            obtain ⟨k1, k2⟩ := inV_dat e3 c.1 vx hr hd c.2 r
            exact .inr ⟨a, us, rfl, q, (flatD_V e3 c.1 vx hr).1, k1, by rw [k2]; exact (Option.some.inj e0).symm⟩
          · rw [if_neg c] at e0
            cases e0
        | _ => cases e0
  cases vy with
  | str j =>
    cases vx with
    | str i =>
      cases e
      exact .inl ⟨i, j, rfl, rfl, rfl⟩
    | _ => cases e
  | @ref n a q =>
    cases eo : ih[n]? with
    | none =>
      have e' : (match ih[n]? with
        | some (.dic kvs) => if keyB x = true then some (getK x kvs).isSome else none
        | _ => inD x (.ref n) ih) = some b := e
      rw [eo] at e'
      exact .inr (.inr (key e'))
    | some o =>
      have e' : (match ih[n]? with
        | some (.dic kvs) => if keyB x = true then some (getK x kvs).isSome else none
        | _ => inD x (.ref n) ih) = some b := e
      rw [eo] at e'
      cases o with
      | dic kvs =>
        replace e' : (if keyB x = true then some (getK x kvs).isSome else none) = some b := e'
        by_cases c : keyB x = true
        · rw [if_pos c] at e'
          obtain ⟨k, rfl, rfl⟩ := key_of c vx
          obtain ⟨ls, h1, r⟩ := hr.ob _ _ _ eo q
          refine .inr (.inl ⟨a, valV ls k, rfl, .k h1, ?_⟩)
          rw [← Option.some.inj e']
          rcases r.get k with ⟨g1, g2⟩ | ⟨x, u, g1, g2, _⟩
          · rw [g1, g2]
            rfl
          · rw [g1, g2]
            rfl
        · rw [if_neg c] at e'
          cases e'
      | lst _ => exact .inr (.inr (key e'))
      | ins _ _ => exact .inr (.inr (key e'))
  | _ => exact .inr (.inr (key e))
theorem oc_in (hK : X.K = D.K) (hu : X.A.units + 80 < cLine) : OpR X (compareOp .In) (sem2 D cIn) := by
  intro pins s σ H u w v v' Q I ru rw ⟨ρ, ih, x, y, W, hr, vx, vy, p⟩
  obtain ⟨b, e, q⟩ := Post.boo hr p
  rcases inI_cases hr e vx vy with ⟨i, j, rfl, rfl, rfl⟩ | ⟨a, o, rfl, g, rfl⟩ | ⟨d, ds, h1, h2, h3, h4, rfl⟩ | ⟨a, xs, rfl, h1, h2, h3, rfl⟩
  · exact op_in_str pins s σ H _ _ v v' Q I ru rw ⟨i, j, rfl, rfl, q⟩
  · cases (show v' = Value.ref a from rw)
    exact d_in (by omega) I g ru fun s3 I3 => ⟨.bl _, H, I3, rfl, q⟩
  · exact op_inD (by omega) pins s σ H _ _ v v' Q I ru rw ⟨d, ds, by rw [hK]; exact h1, by rw [hK]; exact h2, h3, h4, q⟩
  · exact op_in_seq pins s σ H _ _ v v' Q I ru rw ⟨a, xs, rfl, .inr (by rw [hK]; exact h1), h2, h3, q⟩
theorem oc_nin (hK : X.K = D.K) (hu : X.A.units + 80 < cLine) : OpR X (compareOp .NotIn) (sem2 D cNin) := by
  intro pins s σ H u w v v' Q I ru rw ⟨ρ, ih, x, y, W, hr, vx, vy, p⟩
  obtain ⟨b, e, q⟩ := Post.boo hr p
  obtain ⟨b', e', e2⟩ := Option.map_eq_some_iff.mp e
  subst e2
  rcases inI_cases hr e' vx vy with ⟨i, j, rfl, rfl, rfl⟩ | ⟨a, o, rfl, g, rfl⟩ | ⟨d, ds, h1, h2, h3, h4, rfl⟩ | ⟨a, xs, rfl, h1, h2, h3, rfl⟩
  · exact op_notIn_str pins s σ H _ _ v v' Q I ru rw ⟨i, j, rfl, rfl, q⟩
  · cases (show v' = Value.ref a from rw)
    exact d_notIn (by omega) I g ru fun s3 I3 => ⟨.bl _, H, I3, rfl, q⟩
  · exact op_notInD (by omega) pins s σ H _ _ v v' Q I ru rw ⟨d, ds, by rw [hK]; exact h1, by rw [hK]; exact h2, h3, h4, q⟩
  · exact op_notIn_seq pins s σ H _ _ v v' Q I ru rw ⟨a, xs, rfl, .inr (by rw [hK]; exact h1), h2, h3, q⟩
end
end Itp

/-! ItE: truth, places, parts, built-in functions by values. -/
namespace Itp
open PySem PySem.Spec PyProof.Rows L2
section
variable {D : Dn} {X : Cx}
theorem tru_V {ρ : List Addr} {H : Hp} {ih : IH} {x : IV} {u : V} {b : Bool} (hr : HR D ρ ih H) (e : tru x ih = some b) (r : VR D ρ H x u) : TruV D.K u H b := by
  cases r with
  | non => cases e; rfl
  | bl b => cases e; rfl
  | int i => cases e; rfl
  | str z =>
    replace e : (if z.length ≤ LN then some ((z.length : Int) != 0) else none) = some b := e
    by_cases c : z.length ≤ LN
    · rw [if_pos c] at e
      exact ⟨by rw [← ln_eq]; exact c, (Option.some.inj e).symm⟩
    · rw [if_neg c] at e
      cases e
  | @tup xs us a q r =>
    cases e
    exact .inr (.inl ⟨us, q, by rw [r.isEmpty]⟩)
  | @frz xs us a q r =>
    cases e
    exact .inl ⟨us, q.sq, by rw [r.isEmpty]⟩
  | @ref n a q =>
    replace e : (match ih[n]? with
      | some (.lst xs) => some (!xs.isEmpty)
      | some (.dic kvs) => some (!kvs.isEmpty)
      | _ => none) = some b := e
    cases eo : ih[n]? with
    | none => rw [eo] at e; cases e
    | some o =>
      rw [eo] at e
      cases o with
      | lst xs =>
        cases e
        obtain ⟨us, h1, r⟩ := hr.ob _ _ _ eo q
        exact .inl ⟨us, .inl (.inl h1), by rw [r.isEmpty]⟩
      | dic xs =>
        cases e
        obtain ⟨us, h1, r⟩ := hr.ob _ _ _ eo q
        exact .inr (.inr ⟨us, h1, by cases r <;> rfl⟩)
      | ins _ _ => cases e
/-! ### places -/
theorem nIx_eq : nIx = ixN := rfl
theorem atIx_V {ρ : List Addr} {H : Hp} {xs : List IV} {us : List V} (r : VRs D ρ H xs us) {i : Int} {x : IV} (e : atIx xs i = some x) : ∃ u, atI us i = some u ∧ VR D ρ H x u := by
  unfold atIx at e
  unfold atI
  rw [← r.length]
  cases h : nIx xs.length i with
  | none => rw [h] at e; cases e
  | some j =>
    rw [h] at e
    rw [← nIx_eq, h]
    exact r.get e
theorem ox_ix (hK : X.K = D.K) (hu : X.A.units + 80 < cLine) : IxR X (sem2 D index) := by
  intro value slc pins s σ H u w v v' Q I ru rw ⟨ρ, ih, x, y, W, hr, vx, vy, p⟩ hs
  have fin : ∀ {o : Option IV}, Post D ρ H (opt o ih) (VR D) Q W → ∃ x, o = some x ∧ ∀ u, VR D ρ H x u → Q u H := fun p => by
    obtain ⟨x, e, p⟩ := Post.opt p
    exact ⟨x, e, fun u r => p.val hr r⟩
  cases vx with
  | str z =>
    cases vy with
    | int i =>
      obtain ⟨c, p⟩ := ifp (c := z.length ≤ LN) (F := fun r => Post D ρ H r (VR D) Q W) p fun z => z
      obtain ⟨x, e, k⟩ := fin p
      obtain ⟨d, e1, e2⟩ := Option.map_eq_some_iff.mp e
      subst e2
      exact ix_seq value slc pins s σ H _ _ v v' Q I ru rw (.inr (.inr ⟨z, i, d, rfl, rfl, by rw [← ln_eq]; exact c, e1, k _ (.str _)⟩)) hs
    | _ => exact p.elim
  | @tup xs us a q r =>
    cases vy with
    | int i =>
      obtain ⟨x, e, k⟩ := fin p
      obtain ⟨u, e1, r1⟩ := atIx_V r e
      exact ix_seq value slc pins s σ H _ _ v v' Q I ru rw (.inr (.inl ⟨a, us, i, u, rfl, rfl, by rw [hK]; exact q, e1, k _ r1⟩)) hs
    | _ => exact p.elim
  | @frz xs us a q r =>
    cases vy with
    | int i =>
      obtain ⟨x, e, k⟩ := fin p
      obtain ⟨u, e1, r1⟩ := atIx_V r e
      exact ix_seq value slc pins s σ H _ _ v v' Q I ru rw (.inl ⟨a, us, i, u, rfl, rfl, by rw [hK]; exact q.sq, e1, k _ r1⟩) hs
    | _ => exact p.elim
  | @ref n a q =>
    replace p : Post D ρ H (match ih[n]? with
      | some (.lst xs) => (match y with
        | .int i => opt (atIx xs i) ih
        | _ => .no)
      | some (.dic kvs) => if keyB y = true then opt (getK y kvs) ih else .no
      | _ => .no) (VR D) Q W := p
    cases eo : ih[n]? with
    | none => rw [eo] at p; exact p.elim
    | some o =>
      rw [eo] at p
      cases o with
      | lst xs =>
        obtain ⟨us, h1, r⟩ := hr.ob _ _ _ eo q
        cases vy with
        | int i =>
          obtain ⟨x, e, k⟩ := fin p
          obtain ⟨u, e1, r1⟩ := atIx_V r e
          exact ix_seq value slc pins s σ H _ _ v v' Q I ru rw (.inl ⟨a, us, i, u, rfl, rfl, .inl (.inl h1), e1, k _ r1⟩) hs
        | _ => exact p.elim
      | dic kvs =>
        obtain ⟨ls, h1, r⟩ := hr.ob _ _ _ eo q
        obtain ⟨c, p⟩ := ifp (c := keyB y = true) (F := fun r => Post D ρ H r (VR D) Q W) p fun z => z
        obtain ⟨k, rfl, rfl⟩ := key_of c vy
        obtain ⟨x, e, kk⟩ := fin p
        rcases r.get k with ⟨g1, g2⟩ | ⟨x', u, g1, g2, g3⟩
        · rw [g1] at e
          cases e
        · rw [g1] at e
          cases e
          cases (show v = Value.ref a from ru)
          have g : DGet H a (kV k) (some u) := by
            rw [← g2]
            exact .k h1
          exact tail_any (dict_typeIs I g) PySem.F.slot_dict_getitem.lookup (d_getItem (by omega) I g rw fun w' s3 I3 rw' => ⟨u, H, I3, rw', kk _ g3⟩) hs
      | ins _ _ => exact p.elim
  | _ => exact p.elim
theorem cut_V {ρ : List Addr} {H : Hp} {xs : List IV} {us : List V} (r : VRs D ρ H xs us) (lo hi : Option Int) : VRs D ρ H (cut xs lo hi) (cutV us lo hi) := by
  have e : ∀ n d o, HT.sIx n d o = sIx n d o := fun n d o => by cases o <;> rfl
  unfold cut cutV
  rw [e, e, ← r.length]
  exact (r.drop _).take _
theorem os_sl (hK : X.K = D.K) : SlR X (fun u lo hi H Q => ∃ ρ ih x W, HR D ρ ih H ∧ VR D ρ H x u ∧ Post D ρ H (slice x lo hi ih) (VR D) Q W) := by
  intro pins s σ H u v vl vu lo hi sl Q I ru hs pl pu ⟨ρ, ih, x, W, hr, vx, p⟩
  cases vx with
  | str z =>
    obtain ⟨c, p⟩ := ifp (c := z.length ≤ LN) (F := fun r => Post D ρ H r (VR D) Q W) p fun z => z
    exact C8.sl_txt pins s σ H _ v vl vu lo hi sl Q I ru hs pl pu ⟨z, rfl, by rw [← ln_eq]; exact c, p.val hr (.str _)⟩
  | @tup xs us a q r =>
    refine sl_tupA pins s σ H _ v vl vu lo hi sl Q I ru hs pl pu ⟨a, us, rfl, by rw [hK]; exact q, fun e => ?_, fun _ q' hq => p.tup hr (cut_V r lo hi) hq⟩
    have e2 : ∀ n d o, HT.sIx n d o = sIx n d o := fun n d o => by cases o <;> rfl
    have e3 : cut xs lo hi = xs := by
      unfold cut
      rw [r.length, ← e2, ← e2, e.1, e.2, List.drop_zero, Nat.sub_zero, ← r.length, List.take_length]
    have p' : Post D ρ H (.ok (.tup (cut xs lo hi)) ih) (VR D) Q W := p
    rw [e3] at p'
    exact p'.val hr (.tup q r)
  | @frz xs us a q r =>
    exact sl_list pins s σ H _ v vl vu lo hi sl Q I ru hs pl pu ⟨a, us, rfl, by rw [hK]; exact q.sq, fun q' hq => p.lst hr (cut_V r lo hi) hq⟩
  | @ref n a q =>
    replace p : Post D ρ H (match ih[n]? with
      | some (.lst xs) => .ok (.ref ih.length) (ih ++ [.lst (cut xs lo hi)])
      | _ => .no) (VR D) Q W := p
    cases eo : ih[n]? with
    | none => rw [eo] at p; exact p.elim
    | some o =>
      rw [eo] at p
      cases o with
      | lst xs =>
        obtain ⟨us, h1, r⟩ := hr.ob _ _ _ eo q
        exact sl_list pins s σ H _ v vl vu lo hi sl Q I ru hs pl pu ⟨a, us, rfl, .inl (.inl h1), fun q' hq => p.lst hr (cut_V r lo hi) hq⟩
      | dic _ => exact p.elim
      | ins _ _ => exact p.elim
  | _ => exact p.elim
/-! ### built-in functions -/
def semL (D : Dn) (f : List IV → IH → R IV) : List V → Hp → VK → Prop := fun us H Q => ∃ ρ ih vs W, HR D ρ ih H ∧ VRs D ρ H vs us ∧ Post D ρ H (f vs ih) (VR D) Q W
theorem items_V {ρ : List Addr} {H : Hp} {ih : IH} {x : IV} {u : V} {xs : List IV} (hr : HR D ρ ih H) (e : items x ih = some xs) (r : VR D ρ H x u) :
    ∃ p us, u = .ref p ∧ VRs D ρ H xs us ∧ ((∃ ys, x = .tup ys ∧ SqT D.K H p us) ∨ ((∀ ys, x ≠ .tup ys) ∧ SqL D.K H p us)) := by
  cases r with
  | @tup ys us a q r => cases e; exact ⟨a, us, rfl, r, .inl ⟨_, rfl, q⟩⟩
  | @frz ys us a q r => cases e; exact ⟨a, us, rfl, r, .inr ⟨fun _ z => (by cases z), q.sq⟩⟩
  | @ref n a q =>
    replace e : (match ih[n]? with
      | some (.lst xs) => some xs
      | _ => none) = some xs := e
    cases eo : ih[n]? with
    | none => rw [eo] at e; cases e
    | some o =>
      rw [eo] at e
      cases o with
      | lst ys =>
        cases e
        obtain ⟨us, h1, r⟩ := hr.ob _ _ _ eo q
        exact ⟨a, us, rfl, r, .inr ⟨fun _ z => (by cases z), .inl (.inl h1)⟩⟩
      | dic _ => cases e
      | ins _ _ => cases e
  | _ => cases e
theorem bools_V {ρ : List Addr} {H : Hp} : ∀ {xs : List IV} {bs : List Bool} {us : List V}, bools xs = some bs → VRs D ρ H xs us → us = bs.map V.bl
  | [], bs, us, h, r => by
    cases h
    cases r
    rfl
  | x :: xs, bs, us, h, r => by
    cases r with
    | cons r1 r2 =>
      cases r1 <;> first
        | (obtain ⟨l, h1, h2⟩ := Option.map_eq_some_iff.mp h
           subst h2
           rw [bools_V h1 r2]
           rfl)
        | cases h
theorem rds {pins : List (Addr × Obj)} {σ : L2.St} {H : Hp} {s : Shared} {ρ : List Addr} {ih : IH} (hK : X.K = D.K) (I : Inv X pins σ H s) (hr : HR D ρ ih H) {x : IV} {u : V} {v : Value} {d : PyData} {n : Nat} (e : dat ih n x = some d) (hd : noD d = true)
    (r : VR D ρ H x u) (ru : RelV u v) : ∃ as, Reads s.heap v d as ∧ (d.hasDict = true → sysModules ∉ as) := by
  -- without a dict
  have A : ∀ (n : Nat) (x : IV) (d : PyData) (u : V) (v : Value), dat ih n x = some d → d.hasDict = false → VR D ρ H x u → RelV u v → ∃ as, Reads s.heap v d as := by
    intro n
    induction n with
    | zero => intro x d u v e; cases e
    | succ n k =>
      intro x d u v e hd r ru
      have L : ∀ {xs : List IV} {us : List V} {ws : List Value} {ds : List PyData}, datL (dat ih n) xs = some ds → PyData.hasDictAll ds = false → VRs D ρ H xs us → Vals us ws → ∃ as, ReadsAll s.heap ws ds as := by
        intro xs
        induction xs with
        | nil =>
          intro us ws ds e _ r rv
          cases e
          cases r
          cases rv
          exact ⟨_, .nil⟩
        | cons y ys kk =>
          intro us ws ds e hd r rv
          cases r with
          | cons r1 r2 =>
            cases rv with
            | cons v1 v2 =>
              unfold datL at e
              cases e1 : dat ih n y with
              | none => rw [e1] at e; cases e
              | some d1 =>
                rw [e1] at e
                obtain ⟨l, h1, h2⟩ := Option.map_eq_some_iff.mp e
                subst h2
                have hd' : d1.hasDict = false ∧ PyData.hasDictAll l = false := by simpa [PyData.hasDictAll] using hd
                obtain ⟨as, q1⟩ := k y d1 _ _ e1 hd'.1 r1 v1
                obtain ⟨bs, q2⟩ := kk h1 hd'.2 r2 v2
                exact ⟨_, .cons q1 q2⟩
      cases r with
      | non => cases e; cases ru; exact ⟨_, .none⟩
      | bl b => cases e; cases ru; exact ⟨_, .bool b⟩
      | int b => cases e; obtain ⟨t, rfl⟩ := ru; exact ⟨_, .int b t⟩
      | str b => cases e; obtain ⟨t, rfl⟩ := ru; exact ⟨_, .str b t⟩
      | tup q r =>
        obtain ⟨l, h1, h2⟩ := Option.map_eq_some_iff.mp e
        subst h2
        cases ru
        obtain ⟨its, rv, ⟨o, ho, hc, n, hd1⟩, _⟩ := I.tuple (by rw [hK]; exact q)
        obtain ⟨as, q2⟩ := L h1 (by simpa [PyData.hasDict] using hd) r rv
        exact ⟨_, .tuple ho hc hd1 q2⟩
      | frz q r =>
        obtain ⟨l, h1, h2⟩ := Option.map_eq_some_iff.mp e
        subst h2
        cases ru
        obtain ⟨its, rv, ⟨o, n, ho, hc, _, hd1⟩, _⟩ := I.list (by rw [hK]; exact q.sq)
        obtain ⟨as, q2⟩ := L h1 (by simpa [PyData.hasDict] using hd) r rv
        exact ⟨_, .list ho hc hd1 q2⟩
      | @ref k a q =>
        have h' : (match ih[k]? with
          | some (.lst xs) => (datL (dat ih n) xs).map PyData.list
          | some (.dic kvs) => (datK (dat ih n) kvs).map PyData.dict
          | _ => none) = some d := e
        cases eo : ih[k]? with
        | none => rw [eo] at h'; cases h'
        | some o =>
          rw [eo] at h'
          cases o with
          | ins _ _ => cases h'
          | dic kvs =>
            obtain ⟨l, h1, h2⟩ := Option.map_eq_some_iff.mp h'
            subst h2
            simp [PyData.hasDict] at hd
          | lst xs =>
            obtain ⟨l, h1, h2⟩ := Option.map_eq_some_iff.mp h'
            subst h2
            cases ru
            obtain ⟨us, g1, r⟩ := hr.ob _ _ _ eo q
            obtain ⟨its, rv, ⟨o, n, ho, hc, _, hd1⟩, _⟩ := I.list (show SqL X.K H a us from .inl (.inl g1))
            obtain ⟨as, q2⟩ := L h1 (by simpa [PyData.hasDict] using hd) r rv
            exact ⟨_, .list ho hc hd1 q2⟩
  by_cases hz : d.hasDict = false
  · obtain ⟨as, q⟩ := A n x d u v e hz r ru
    exact ⟨as, q, fun z => by rw [hz] at z; cases z⟩
  · have hd0 : d = .dict [] := by
      unfold noD at hd
      split at hd
      · rfl
      · simp at hd
        exact absurd hd hz
    subst hd0
    cases n with
    | zero => cases e
    | succ n =>
      cases r with
      | non => cases e
      | bl b => cases e
      | int b => cases e
      | str b => cases e
      | tup q r => obtain ⟨l, h1, h2⟩ := Option.map_eq_some_iff.mp e; cases h2
      | frz q r => obtain ⟨l, h1, h2⟩ := Option.map_eq_some_iff.mp e; cases h2
      | @ref k a q =>
        have h' : (match ih[k]? with
          | some (.lst xs) => (datL (dat ih n) xs).map PyData.list
          | some (.dic kvs) => (datK (dat ih n) kvs).map PyData.dict
          | _ => none) = some (PyData.dict []) := e
        cases eo : ih[k]? with
        | none => rw [eo] at h'; cases h'
        | some o =>
          rw [eo] at h'
          cases o with
          | ins _ _ => cases h'
          | lst xs => obtain ⟨l, h1, h2⟩ := Option.map_eq_some_iff.mp h'; cases h2
          | dic kvs =>
            obtain ⟨l, h1, h2⟩ := Option.map_eq_some_iff.mp h'
            cases h2
            have hk : kvs = [] := by
              cases kvs with
              | nil => rfl
              | cons p r =>
                unfold datK at h1
                split at h1
                · obtain ⟨_, _, z⟩ := Option.map_eq_some_iff.mp h1
                  cases z
                · cases h1
            subst hk
            obtain ⟨us, g1, r⟩ := hr.ob _ _ _ eo q
            cases r
            cases ru
            obtain ⟨_, ne, vs, rv, o, es, ep, ho, ex, hd, hm⟩ := (show ObjOk X.prog X.w H s.heap a (.dK []) from I.hok a _ g1)
            cases rv
            have he : es.toList = [] := by
              have z := hm.2.1
              generalize es.toList = L at z
              cases z
              rfl
            refine ⟨_, .dict (as := []) (bs := []) ho ex.1 hd (by rw [he]; exact .nil) (by rw [he]; exact .nil), fun _ z => ?_⟩
            have e2 : sysModules = a := by simpa using z
            rw [e2] at ne
            simp at ne
theorem one_of {α : Type} {F : α → Prop} {r : α} (h : F r) : F r := h
theorem cb_len (hK : X.K = D.K) : CallR X (.builtin "len") (semL D (biF .len)) := by
  intro pins s σ H us ws Q I ru ⟨ρ, ih, vs, W, hr, r, p⟩
  cases r with
  | nil => exact p.elim
  | @cons x u xs us q r =>
    cases r with
    | cons _ _ => cases q <;> exact p.elim
    | nil =>
      cases q with
      | str z =>
        obtain ⟨c, p⟩ := ifp (c := z.length ≤ LN) (F := fun r => Post D ρ H r (VR D) Q W) p fun z => z
        exact call_len pins s σ H _ ws Q I ru ⟨_, _, rfl, ⟨by rw [← ln_eq]; exact c, rfl⟩, p.val hr (.int _)⟩
      | @tup xs us a q r =>
        exact call_len_seq pins s σ H _ ws Q I ru ⟨a, us, rfl, .inr (by rw [hK]; exact q), by rw [← r.length]; exact p.val hr (.int _)⟩
      | @frz xs us a q r =>
        exact call_len_seq pins s σ H _ ws Q I ru ⟨a, us, rfl, .inl (by rw [hK]; exact q.sq), by rw [← r.length]; exact p.val hr (.int _)⟩
      | @ref n a q =>
        replace p : Post D ρ H (match (match ih[n]? with
          | some (.lst xs) => some xs
          | _ => none) with
          | some xs => .ok (.int xs.length) ih
          | none => match ih[n]? with
            | some (.dic kvs) => .ok (.int kvs.length) ih
            | _ => .no) (VR D) Q W := p
        cases eo : ih[n]? with
        | none => rw [eo] at p; exact p.elim
        | some o =>
          rw [eo] at p
          cases o with
          | lst xs =>
            obtain ⟨us, h1, r⟩ := hr.ob _ _ _ eo q
            exact call_len_seq pins s σ H _ ws Q I ru ⟨a, us, rfl, .inl (.inl (.inl h1)), by rw [← r.length]; exact p.val hr (.int _)⟩
          | dic xs =>
            obtain ⟨us, h1, r⟩ := hr.ob _ _ _ eo q
            exact call_lenD pins s σ H _ ws Q I ru ⟨a, us, rfl, h1, by rw [← r.length]; exact p.val hr (.int _)⟩
          | ins _ _ => exact p.elim
      | _ => exact p.elim
theorem cb_abs : CallR X (.builtin "abs") (semL D (biF .abs)) := by
  intro pins s σ H us ws Q I ru ⟨ρ, ih, vs, W, hr, r, p⟩
  cases r with
  | nil => exact p.elim
  | cons q r =>
    cases r with
    | cons _ _ => cases q <;> exact p.elim
    | nil =>
      cases q with
      | int i => exact call_abs pins s σ H _ ws Q I ru ⟨i, rfl, p.val hr (.int _)⟩
      | _ => exact p.elim
theorem cb_int : CallR X (.type "int") (semL D (biF .int)) := by
  intro pins s σ H us ws Q I ru ⟨ρ, ih, vs, W, hr, r, p⟩
  cases r with
  | nil => exact p.elim
  | cons q r =>
    cases r with
    | cons _ _ => cases q <;> exact p.elim
    | nil =>
      cases q with
      | int i => exact call_int1 pins s σ H _ ws Q I ru (.inl ⟨i, rfl, p.val hr (.int _)⟩)
      | bl i => exact call_int1 pins s σ H _ ws Q I ru (.inr ⟨i, rfl, p.val hr (.int _)⟩)
      | _ => exact p.elim
theorem cb_bool : CallR X (.type "bool") (semL D (biF .bool)) := by
  intro pins s σ H us ws Q I ru ⟨ρ, ih, vs, W, hr, r, p⟩
  cases r with
  | nil => exact p.elim
  | cons q r =>
    cases r with
    | cons _ _ => cases q <;> exact p.elim
    | nil =>
      cases q with
      | int i => exact call_bool1 pins s σ H _ ws Q I ru (.inl ⟨i, rfl, p.val hr (.bl _)⟩)
      | bl i => exact call_bool1 pins s σ H _ ws Q I ru (.inr ⟨i, rfl, p.val hr (.bl _)⟩)
      | _ => exact p.elim
theorem cb_str : CallR X (.type "str") (semL D (biF .str)) := by
  intro pins s σ H us ws Q I ru ⟨ρ, ih, vs, W, hr, r, p⟩
  cases r with
  | nil => exact p.elim
  | cons q r =>
    cases r with
    | cons _ _ => cases q <;> exact p.elim
    | nil =>
      cases q with
      | int i =>
        obtain ⟨c, p⟩ := ifp (c := i.natAbs.log2 < 1920) (F := fun r => Post D ρ H r (VR D) Q W) p fun z => z
        exact call_str_int pins s σ H _ ws Q I ru ⟨i, rfl, c, p.val hr (.str _)⟩
      | _ => exact p.elim
theorem cb_list (hK : X.K = D.K) : CallR X (.type "list") (semL D (biF .list)) := by
  intro pins s σ H us ws Q I ru ⟨ρ, ih, vs, W, hr, r, p⟩
  cases r with
  | nil => exact p.elim
  | @cons x u xs us q r =>
    cases r with
    | cons _ _ => cases q <;> exact p.elim
    | nil =>
      replace p : Post D ρ H (match items x ih with
        | some xs => .ok (.ref ih.length) (ih ++ [.lst xs])
        | none => .no) (VR D) Q W := by cases x <;> exact p
      cases e : items x ih with
      | none => rw [e] at p; exact p.elim
      | some xs =>
        rw [e] at p
        obtain ⟨a, us, rfl, r, k⟩ := items_V hr e q
        refine call_list_of pins s σ H _ ws Q I ru ⟨a, us, rfl, ?_, fun l hl => p.lst hr r hl⟩
        rcases k with ⟨_, _, k⟩ | ⟨_, k⟩
        · exact .inr (by rw [hK]; exact k)
        · exact .inl (by rw [hK]; exact k)
theorem cb_tuple (hK : X.K = D.K) : CallR X (.type "tuple") (semL D (biF .tuple)) := by
  intro pins s σ H us ws Q I ru ⟨ρ, ih, vs, W, hr, r, p⟩
  cases r with
  | nil => exact p.elim
  | @cons x u xs us q r =>
    cases r with
    | cons _ _ => cases q <;> exact p.elim
    | nil =>
      replace p : Post D ρ H (match items x ih with
        | some xs => .ok (.tup xs) ih
        | none => .no) (VR D) Q W := by cases x <;> exact p
      cases e : items x ih with
      | none => rw [e] at p; exact p.elim
      | some xs =>
        rw [e] at p
        obtain ⟨a, us, rfl, r, k⟩ := items_V hr e q
        rcases k with ⟨ys, rfl, k⟩ | ⟨_, k⟩
        · exact call_tuple_of pins s σ H _ ws Q I ru ⟨a, us, rfl, .inr ⟨by rw [hK]; exact k, p.val hr (.tup k r)⟩⟩
        · exact call_tuple_of pins s σ H _ ws Q I ru ⟨a, us, rfl, .inl ⟨by rw [hK]; exact k, fun l hl => p.tup hr r hl⟩⟩
/-! tuples' sums, the greatest, the least -/
def rSumT (K : PySem.W.Frag) : List V → Hp → VK → Prop := fun vs H Q => ∃ (a : Addr) (ns : List Int), vs = [V.ref a] ∧ SqT K H a (ns.map V.int) ∧ Q (.int ns.sum) H
theorem cr_sumT (hc : X.calm = true) : CallR X (.builtin "sum") (rSumT X.K) := by
  intro pins s σ H vs us Q I r h
  obtain ⟨a, ns, rfl, hs, q⟩ := h
  obtain ⟨its, rv, ht, _⟩ := I.tuple hs
  rw [Vals.ref1 r]
  have hi := rv.ints
  obtain ⟨xs, hx⟩ := hi.allInts.items
  have hn : PySem.numsOf its.toArray.toList = ns := by rw [show its.toArray.toList = its from rfl, hi.numsOf]
  have hl : s.heap.IsTuple a its.toArray := ht
  rw [hx] at hl hn
  rw [PySem.nums_intItems] at hn
  refine PySem.W.ktm_sumG (I.ok.hd hc) hl fun h' tk t' hk => ⟨.int _, H, I.kept hk, ⟨_, rfl⟩, ?_⟩
  rw [PySem.preSum_eq, List.take_of_length_le (by simp), hn]
  exact q
theorem fold_max (ns : List Int) : ∀ n : Int, ns.foldl max n ∈ n :: ns ∧ ∀ y ∈ n :: ns, y ≤ ns.foldl max n := by
  induction ns with
  | nil => intro n; exact ⟨by simp, by simp⟩
  | cons x ns ih =>
    intro n
    obtain ⟨h1, h2⟩ := ih (max n x)
    rw [List.foldl_cons]
    refine ⟨?_, fun y hy => ?_⟩
    · rcases List.mem_cons.mp h1 with z | z
      · rw [z]
        rcases Int.le_total n x with q | q
        · rw [Int.max_eq_right q]; simp
        · rw [Int.max_eq_left q]; simp
      · simp [z]
    · have h3 := h2 (max n x) (by simp)
      rcases List.mem_cons.mp hy with rfl | hy
      · omega
      · rcases List.mem_cons.mp hy with rfl | hy
        · omega
        · exact h2 y (by simp [hy])
theorem fold_min (ns : List Int) : ∀ n : Int, ns.foldl min n ∈ n :: ns ∧ ∀ y ∈ n :: ns, ns.foldl min n ≤ y := by
  induction ns with
  | nil => intro n; exact ⟨by simp, by simp⟩
  | cons x ns ih =>
    intro n
    obtain ⟨h1, h2⟩ := ih (min n x)
    rw [List.foldl_cons]
    refine ⟨?_, fun y hy => ?_⟩
    · rcases List.mem_cons.mp h1 with z | z
      · rw [z]
        rcases Int.le_total n x with q | q
        · rw [Int.min_eq_left q]; simp
        · rw [Int.min_eq_right q]; simp
      · simp [z]
    · have h3 := h2 (min n x) (by simp)
      rcases List.mem_cons.mp hy with rfl | hy
      · omega
      · rcases List.mem_cons.mp hy with rfl | hy
        · omega
        · exact h2 y (by simp [hy])
theorem maxD_fold (n : Int) (ns : List Int) : PySem.W.maxD (.int n) (ns.map .int) = .int (ns.foldl max n) := PySem.W.maxD_ints n ns
theorem alike_ints (ns : List Int) : PySem.W.AlikeAll (ns.map PyData.int) := by
  refine ⟨fun x hx y hy => ?_, fun x hx z => ?_⟩
  · obtain ⟨i, _, rfl⟩ := List.mem_map.mp hx
    obtain ⟨j, _, rfl⟩ := List.mem_map.mp hy
    rfl
  · obtain ⟨i, _, rfl⟩ := List.mem_map.mp hx
    cases z
theorem depth_ints : ∀ ns : List Int, PyData.depthAll (ns.map PyData.int) ≤ 1
  | [] => by simp [PyData.depthAll]
  | n :: ns => by
    have := depth_ints ns
    simp only [List.map_cons, PyData.depthAll, PyData.depth]
    omega
def rExtT (K : PySem.W.Frag) (f : Int → Int → Int) : List V → Hp → VK → Prop := fun vs H Q => ∃ (a : Addr) (n : Int) (ns : List Int), vs = [V.ref a] ∧ SqT K H a ((n :: ns).map V.int) ∧ Q (.int (ns.foldl f n)) H
theorem cr_maxT (hc : X.calm = true) (hu : X.A.units + 80 < cLine) : CallR X (.builtin "max") (rExtT X.K max) := by
  intro pins s σ H vs us Q I r h
  obtain ⟨a, n, ns, rfl, hs, q⟩ := h
  obtain ⟨its, rv, ht, _⟩ := I.tuple hs
  rw [Vals.ref1 r]
  have hi := rv.ints
  have hl : s.heap.IsTuple a its.toArray := ht
  have hr : ReadsAll s.heap its.toArray.toList (PyData.int n :: ns.map PyData.int) [] := PySem.W.readsAll_of_ints hi
  have al := alike_ints (n :: ns)
  have dp := depth_ints (n :: ns)
  refine PySem.W.max_tuple_data (I.ok.hd hc) hl hr al (by simp only [List.map_cons] at dp; omega) fun i v h' tk bs hv rd hk => ?_
  rw [maxD_fold] at rd
  obtain ⟨t, rfl, _⟩ := reads_int_inv rd
  exact ⟨.int _, H, I.kept hk, ⟨_, rfl⟩, q⟩
theorem cr_minT (hc : X.calm = true) (hu : X.A.units + 80 < cLine) : CallR X (.builtin "min") (rExtT X.K min) := by
  intro pins s σ H vs us Q I r h
  obtain ⟨a, n, ns, rfl, hs, q⟩ := h
  obtain ⟨its, rv, ht, _⟩ := I.tuple hs
  rw [Vals.ref1 r]
  have hi := rv.ints
  have hl : s.heap.IsTuple a its.toArray := ht
  have hr : ReadsAll s.heap its.toArray.toList (PyData.int n :: ns.map PyData.int) [] := PySem.W.readsAll_of_ints hi
  have al := alike_ints (n :: ns)
  have dp := depth_ints (n :: ns)
  refine PySem.W.min_tuple_data (I.ok.hd hc) hl hr al (by simp only [List.map_cons] at dp; omega) fun i v h' tk bs hv rd hk => ?_
  rw [PySem.W.minD_ints] at rd
  obtain ⟨t, rfl, _⟩ := reads_int_inv rd
  exact ⟨.int _, H, I.kept hk, ⟨_, rfl⟩, q⟩
theorem cb_sum (hc : X.calm = true) (hK : X.K = D.K) : CallR X (.builtin "sum") (semL D (biF .sum)) := by
  intro pins s σ H us ws Q I ru ⟨ρ, ih, vs, W, hr, r, p⟩
  cases r with
  | nil => exact p.elim
  | @cons x u xs us q r =>
    cases r with
    | cons _ _ => cases q <;> exact p.elim
    | nil =>
      replace p : Post D ρ H (match (items x ih).bind intsOf with
          | some ns => .ok (.int ns.sum) ih
          | none => .no) (VR D) Q W := p
      cases e : items x ih with
      | none => rw [e] at p; exact p.elim
      | some xs =>
        rw [e] at p
        obtain ⟨a, us, rfl, r, k⟩ := items_V hr e q
        cases e2 : intsOf xs with
        | none => rw [Option.bind_some, e2] at p; exact p.elim
        | some ns =>
          rw [Option.bind_some, e2] at p
          have e3 := ints_vr e2 r
          subst e3
          rcases k with ⟨ys, h, k⟩ | ⟨_, k⟩
          · exact cr_sumT hc pins s σ H _ ws Q I ru ⟨a, ns, rfl, by rw [hK]; exact k, p.val hr (.int _)⟩
          · exact cr_sum hc pins s σ H _ ws Q I ru ⟨a, ns, rfl, by rw [hK]; exact k, p.val hr (.int _)⟩
theorem srt_eq {ns ns' : List Int} (h1 : ns'.Perm ns) (h2 : ns'.Pairwise (· ≤ ·)) : ns' = sortI ns := by
  have p := List.mergeSort_perm ns (fun a b => decide (a ≤ b))
  have s := List.pairwise_mergeSort (le := fun a b : Int => decide (a ≤ b)) (by intro a b c; simp; omega) (by intro a b; simp; omega) ns
  exact List.Perm.eq_of_pairwise (le := (· ≤ ·)) (fun a b _ _ => Int.le_antisymm) h2 (s.imp (by intro a b; simp)) (h1.trans p.symm)
theorem vrs_int {D : Dn} {ρ : List Addr} {H : Hp} : ∀ (ns : List Int), VRs D ρ H (ns.map IV.int) (ns.map V.int)
  | [] => .nil
  | n :: ns => .cons (.int n) (vrs_int ns)
theorem cb_sorted (hK : X.K = D.K) : CallR X (.builtin "sorted") (semL D (biF .sorted)) := by
  intro pins s σ H us ws Q I ru ⟨ρ, ih, vs, W, hr, r, p⟩
  cases r with
  | nil => exact p.elim
  | @cons x u xs us q r =>
    cases r with
    | cons _ _ => cases q <;> exact p.elim
    | nil =>
      by_cases ht : ∃ ys, x = .tup ys
      · obtain ⟨ys, rfl⟩ := ht
        exact p.elim
      · replace p : Post D ρ H (match (items x ih).bind intsOf with
          | some ns => .ok (.ref ih.length) (ih ++ [.lst ((sortI ns).map IV.int)])
          | none => .no) (VR D) Q W := by
          cases x <;> first
            | (exact absurd ⟨_, rfl⟩ ht)
            | exact p
        cases e : items x ih with
        | none => rw [e] at p; exact p.elim
        | some xs =>
          rw [e] at p
          obtain ⟨a, us, rfl, r, k⟩ := items_V hr e q
          cases e2 : intsOf xs with
          | none => rw [Option.bind_some, e2] at p; exact p.elim
          | some ns =>
            rw [Option.bind_some, e2] at p
            rcases k with ⟨ys, h, k⟩ | ⟨_, k⟩
            · exact absurd ⟨ys, h⟩ ht
            · have e3 := ints_vr e2 r
              subst e3
              refine cr_sortedI pins s σ H _ ws Q I ru ⟨a, ns, rfl, by rw [hK]; exact k, fun ns' q h1 h2 hq => ?_⟩
              rw [srt_eq h1 h2]
              exact p.lst hr (vrs_int _) hq
theorem cb_any (hc : X.calm = true) (hK : X.K = D.K) : CallR X (.builtin "any") (semL D (biF .any)) := by
  intro pins s σ H us ws Q I ru ⟨ρ, ih, vs, W, hr, r, p⟩
  cases r with
  | nil => exact p.elim
  | @cons x u xs us q r =>
    cases r with
    | cons _ _ => cases q <;> exact p.elim
    | nil =>
      by_cases ht : ∃ ys, x = .tup ys
      · obtain ⟨ys, rfl⟩ := ht
        exact p.elim
      · replace p : Post D ρ H (match (items x ih).bind bools with
          | some bs => .ok (.bl (bs.any id)) ih
          | none => .no) (VR D) Q W := by
          cases x <;> first
            | (exact absurd ⟨_, rfl⟩ ht)
            | exact p
        cases e : items x ih with
        | none => rw [e] at p; exact p.elim
        | some xs =>
          rw [e] at p
          obtain ⟨a, us, rfl, r, k⟩ := items_V hr e q
          cases e2 : bools xs with
          | none => rw [Option.bind_some, e2] at p; exact p.elim
          | some ns =>
            rw [Option.bind_some, e2] at p
            rcases k with ⟨ys, h, k⟩ | ⟨_, k⟩
            · exact absurd ⟨ys, h⟩ ht
            · have e3 := bools_V e2 r
              subst e3
              exact cr_any hc pins s σ H _ ws Q I ru ⟨a, ns, rfl, by rw [hK]; exact k, p.val hr (.bl _)⟩
theorem cb_all (hc : X.calm = true) (hK : X.K = D.K) : CallR X (.builtin "all") (semL D (biF .all)) := by
  intro pins s σ H us ws Q I ru ⟨ρ, ih, vs, W, hr, r, p⟩
  cases r with
  | nil => exact p.elim
  | @cons x u xs us q r =>
    cases r with
    | cons _ _ => cases q <;> exact p.elim
    | nil =>
      by_cases ht : ∃ ys, x = .tup ys
      · obtain ⟨ys, rfl⟩ := ht
        exact p.elim
      · replace p : Post D ρ H (match (items x ih).bind bools with
          | some bs => .ok (.bl (bs.all id)) ih
          | none => .no) (VR D) Q W := by
          cases x <;> first
            | (exact absurd ⟨_, rfl⟩ ht)
            | exact p
        cases e : items x ih with
        | none => rw [e] at p; exact p.elim
        | some xs =>
          rw [e] at p
          obtain ⟨a, us, rfl, r, k⟩ := items_V hr e q
          cases e2 : bools xs with
          | none => rw [Option.bind_some, e2] at p; exact p.elim
          | some ns =>
            rw [Option.bind_some, e2] at p
            rcases k with ⟨ys, h, k⟩ | ⟨_, k⟩
            · exact absurd ⟨ys, h⟩ ht
            · have e3 := bools_V e2 r
              subst e3
              exact cr_all hc pins s σ H _ ws Q I ru ⟨a, ns, rfl, by rw [hK]; exact k, p.val hr (.bl _)⟩
theorem cb_max (hc : X.calm = true) (hK : X.K = D.K) (hu : X.A.units + 80 < cLine) : CallR X (.builtin "max") (semL D (biF .max)) := by
  intro pins s σ H us ws Q I ru ⟨ρ, ih, vs, W, hr, r, p⟩
  cases r with
  | nil => exact p.elim
  | @cons x u xs us q r =>
    cases r with
    | nil =>
      replace p : Post D ρ H (match (items x ih).bind intsOf with
          | some (n :: ns) => .ok (.int (ns.foldl max n)) ih
          | _ => .no) (VR D) Q W := by cases q <;> exact p
      cases e : items x ih with
      | none => rw [e] at p; exact p.elim
      | some xs =>
        rw [e] at p
        obtain ⟨a, us, rfl, r, k⟩ := items_V hr e q
        cases e2 : intsOf xs with
        | none => rw [Option.bind_some, e2] at p; exact p.elim
        | some ns =>
          rw [Option.bind_some, e2] at p
          have e3 := ints_vr e2 r
          subst e3
          cases ns with
          | nil => exact p.elim
          | cons n ns =>
            rcases k with ⟨ys, h, k⟩ | ⟨_, k⟩
            · exact cr_maxT hc hu pins s σ H _ ws Q I ru ⟨a, n, ns, rfl, by rw [hK]; exact k, p.val hr (.int _)⟩
            · refine cr_max hc pins s σ H _ ws Q I ru ⟨a, n :: ns, rfl, by rw [hK]; exact k, by simp, fun m h1 h2 => ?_⟩
              obtain ⟨g1, g2⟩ := fold_max ns n
              have : m = ns.foldl max n := by
                have a1 := h2 _ g1
                have a2 := g2 _ h1
                omega
              rw [this]
              exact p.val hr (.int _)
    | cons q2 r =>
      cases r with
      | cons _ _ => cases q <;> cases q2 <;> exact p.elim
      | nil =>
        cases q with
        | int i =>
          cases q2 with
          | int j => exact call_max2 hc pins s σ H _ ws Q I ru ⟨i, j, rfl, p.val hr (.int _)⟩
          | _ => exact p.elim
        | _ => cases q2 <;> exact p.elim
theorem cb_min (hc : X.calm = true) (hK : X.K = D.K) (hu : X.A.units + 80 < cLine) : CallR X (.builtin "min") (semL D (biF .min)) := by
  intro pins s σ H us ws Q I ru ⟨ρ, ih, vs, W, hr, r, p⟩
  cases r with
  | nil => exact p.elim
  | @cons x u xs us q r =>
    cases r with
    | nil =>
      replace p : Post D ρ H (match (items x ih).bind intsOf with
          | some (n :: ns) => .ok (.int (ns.foldl min n)) ih
          | _ => .no) (VR D) Q W := by cases q <;> exact p
      cases e : items x ih with
      | none => rw [e] at p; exact p.elim
      | some xs =>
        rw [e] at p
        obtain ⟨a, us, rfl, r, k⟩ := items_V hr e q
        cases e2 : intsOf xs with
        | none => rw [Option.bind_some, e2] at p; exact p.elim
        | some ns =>
          rw [Option.bind_some, e2] at p
          have e3 := ints_vr e2 r
          subst e3
          cases ns with
          | nil => exact p.elim
          | cons n ns =>
            rcases k with ⟨ys, h, k⟩ | ⟨_, k⟩
            · exact cr_minT hc hu pins s σ H _ ws Q I ru ⟨a, n, ns, rfl, by rw [hK]; exact k, p.val hr (.int _)⟩
            · refine cr_min hc pins s σ H _ ws Q I ru ⟨a, n :: ns, rfl, by rw [hK]; exact k, by simp, fun m h1 h2 => ?_⟩
              obtain ⟨g1, g2⟩ := fold_min ns n
              have : m = ns.foldl min n := by
                have a1 := h2 _ g1
                have a2 := g2 _ h1
                omega
              rw [this]
              exact p.val hr (.int _)
    | cons q2 r =>
      cases r with
      | cons _ _ => cases q <;> cases q2 <;> exact p.elim
      | nil =>
        cases q with
        | int i =>
          cases q2 with
          | int j => exact call_min2 hc pins s σ H _ ws Q I ru ⟨i, j, rfl, p.val hr (.int _)⟩
          | _ => exact p.elim
        | _ => cases q2 <;> exact p.elim
theorem cb_repr (hK : X.K = D.K) (hu : X.A.units + 80 < cLine) (hg : X.A.guards = some []) : CallR X (.builtin "repr") (semL D (biF .repr)) := by
  intro pins s σ H us ws Q I ru ⟨ρ, ih, vs, W, hr, r, p⟩
  cases r with
  | nil => exact p.elim
  | @cons x u xs us q r =>
    cases r with
    | cons _ _ => cases q <;> exact p.elim
    | nil =>
      replace p : Post D ρ H (match dat ih DP x with
        | some d => if d.showable = true ∧ d.shown.length ≤ LN ∧ d.depth ≤ 64 ∧ noD d = true then .ok (.str d.shown) ih else .no
        | none => .no) (VR D) Q W := by cases x <;> exact p
      cases e : dat ih DP x with
      | none => rw [e] at p; exact p.elim
      | some d =>
        rw [e] at p
        obtain ⟨⟨c1, c2, c3, c4⟩, p⟩ := ifp (F := fun r => Post D ρ H r (VR D) Q W) p fun z => z
        obtain ⟨v, rfl, rv⟩ := vals1 ru
        obtain ⟨as, rd, hs⟩ := rds hK I hr e c4 q rv
        have qq : Q (.str d.shown) H := p.val hr (.str _)
        rw [ln_eq] at c2
        have fin : ∀ (h' : Heap) (t : Tok) (tk : Nat), (∀ b o, s.heap.get? b = some o → h'.get? b = some o) → EP X pins σ Q (.str d.shown t) { s with heap := h', toks := tk } := fun h' t tk k => ⟨.str _, H, I.kept k, ⟨t, rfl⟩, qq⟩
        cases rd with
        | none => exact PySem.P.repr_of_none (fin _ _ _ fun _ _ z => z)
        | bool b => exact PySem.P.repr_of_bool (fin _ _ _ fun _ _ z => z)
        | int i t => exact PySem.P.repr_of_int (by simpa [PyData.showable] using c1) (fin _ _ _ fun _ _ z => z)
        | str z t => exact PySem.P.repr_of_str (fin _ _ _ fun _ _ z => z) c2
        | list h1 h2 h3 h4 => exact repr_of_reads' (.list h1 h2 h3 h4) c1 hs hg (by omega) (fun _ _ z => z) (fun h' t tk k => fin h' t tk k) c2
        | tuple h1 h2 h3 h4 => exact repr_of_reads' (.tuple h1 h2 h3 h4) c1 hs hg (by omega) (fun _ _ z => z) (fun h' t tk k => fin h' t tk k) c2
        | dict h1 h2 h3 h4 h5 => exact repr_of_reads' (.dict h1 h2 h3 h4 h5) c1 hs hg (by omega) (fun _ _ z => z) (fun h' t tk k => fin h' t tk k) c2
end
end Itp

/-! ItF: defs and their calls. -/
namespace Itp
open PySem PySem.Spec PyProof.Rows L2
/-- room for k calls, no repr running -/
structure RoomI (k : Nat) (A : Around) : Prop where
  rm : Room k A
  gs : A.guards = some []
theorem RoomI.mono {j k : Nat} {A : Around} (r : RoomI k A) (h : j ≤ k) : RoomI j A := ⟨r.rm.mono h, r.gs⟩
theorem RoomI.deeper {k : Nat} {A : Around} (r : RoomI (k + 1) A) (env : Env) : RoomI k (A.deeper env) := ⟨r.rm.deeper env, r.gs⟩
/-- a def by its runs -/
structure FnI (P : Program) (w : World) (K : PySem.W.Frag) (mg : Str → Option Value) (base : Heap) (k : Nat) (f : Addr) (fd : FuncData) (ps : List Str) (sp : Sp) : Prop where
  len : ∀ vs H Q E, sp vs H Q E → vs.length = ps.length
  run : ∀ (A : Around) (outer : List Env) (s : Shared) (H : Hp) (ar : Args) (us : List Value) (vs : List V) (Q : VK) (E : XK), RoomI k A → Env0 P w K mg base A outer s H → BindsTo s fd ar (ps.zip us) → Vals vs us → sp vs H Q E →
    codeAny (model P w) A (.call (.ref f) ar) (CR (L2.CX P w) outer P w H s Q E) s
theorem FnI.mono {P : Program} {w : World} {K : PySem.W.Frag} {mg : Str → Option Value} {base : Heap} {j k : Nat} {f : Addr} {fd : FuncData} {ps : List Str} {sp : Sp} (F : FnI P w K mg base j f fd ps sp) (h : j ≤ k) : FnI P w K mg base k f fd ps sp :=
  ⟨F.len, fun A outer s H ar us vs Q E hr => F.run A outer s H ar us vs Q E (hr.mono h)⟩
section
variable {P : Program} {w : World} {K : PySem.W.Frag} {mg : Str → Option Value} {base : Heap} {k : Nat} {f : Addr} {qual : Str} {params : Arguments} {body : List Stmt} {scope : Scope} {N ps : List Str} {sp : Sp}
/-- a def by its body -/
theorem fnI_of {x : Str} {dvs : List V} {kws : List (Str × V)} {fd : FuncData} (F : FunD K x qual params body scope dvs kws f fd) (S : FnScope N ps scope) (len : ∀ vs H Q E, sp vs H Q E → vs.length = ps.length)
    (hb : ∀ (cdv : Value) (A : Around) (outer : List Env) (s : Shared) (H : Hp) (vs : List V) (Q : VK) (E : XK), RoomI k (A.deeper (envOfC qual scope s.heap.objs.size f cdv)) → sp vs H Q E →
      ∃ t, PSs (cxOf (L2.CX P w) P w K mg base N qual scope f cdv A outer s H E) body t ∧ t { nx := fun _ H' => Q .non H', rt := Q } (L2.start N vs) H) : FnI P w K mg base (k + 1) f fd ps sp := by
  obtain ⟨oc, od, dV, kV, doc, pm, an, cdv, ct, osl, rfl, lk, hcd, _, _⟩ := F.ex
  constructor
  · exact len
  intro A outer s H ar us vs Q E hr e0 bd rv hsp
  have hl : vs.length = ps.length := len _ _ _ _ hsp
  have hK : K.In s.heap := e0.mod.kin.keeps fun b o e => (e0.bs b o e).1
  have hlim : s.heap.NoLimit := e0.mod.nolimit.keeps fun b o e => (e0.bs b o e).1
  refine codeAny_call_function hr.rm.depth (hK _ _ lk) rfl S.co S.gen rfl (PySem.W.codeRec_of hK hcd) (bd _ _ _ _ (wpAny_newFunctionEnv_cells S.kind ?_ ?_))
  · rintro ⟨n, v⟩ hy
    exact (S.par n (List.of_mem_zip hy).1).elim .inl fun q => .inr ⟨q, PySem.W.cellsFrom_some _ _ _ (.inl q)⟩
  · intro env he s1 x
    subst he
    refine ⟨hlim.keeps x.toInCall.keep, codeAny_func ?_⟩
    obtain ⟨t, h1, h2⟩ := hb cdv A outer s H vs Q E (hr.deeper _) hsp
    have I0 := inv_start (CX := L2.CX P w) (E := E) S hr.rm.hd e0 hl rv x
    have done : ∀ {σ' : L2.St} {H' : Hp} {v : V} {u : Value} {s' : Shared}, Inv (cxOf (L2.CX P w) P w K mg base N qual scope f cdv A outer s H E) [] σ' H' s' → RelV v u → Q v H' → CE outer P w H s Q u s' := by
      intro σ' H' v u s' J r q
      exact ⟨v, H', J.os, J.bare, J.base, J.hok, r, q⟩
    apply wpAny_mono (h1.run [] s1 _ H _ I0 h2)
    · intro fl s' z
      cases fl with
      | next => obtain ⟨_, _, J, q⟩ := z; exact done (v := .non) (u := .none) J rfl q
      | ret u => obtain ⟨_, _, _, J, r, q⟩ := z; exact done J r q
      | brk => obtain ⟨_, _, _, q⟩ := z; exact q.elim
      | cont => obtain ⟨_, _, _, q⟩ := z; exact q.elim
    · exact fun _ _ z => z
end
/-- how the values bound stand to the values reckoned -/
inductive BdV (D : Dn) (xs : List Value) : List Bd → List Value → Prop
  | nil : BdV D xs [] []
  | arg {i : Nat} {u : Value} {bs : List Bd} {us : List Value} : xs[i]? = some u → BdV D xs bs us → BdV D xs (.arg i :: bs) (u :: us)
  | dfl {v : IV} {y : V} {u : Value} {bs : List Bd} {us : List Value} : RelV y u → (∀ ρ H, VR D ρ H v y) → BdV D xs bs us → BdV D xs (.dfl v :: bs) (u :: us)
def BdA (D : Dn) (bs : List Bd) (xs us : List Value) : Prop := (bs = [] ∧ us = xs) ∨ (bs ≠ [] ∧ BdV D xs bs us)
theorem bnd_V {D : Dn} {ρ : List Addr} {H : Hp} {vs : List IV} {xs : List V} {us : List Value} (r : VRs D ρ H vs xs) (rv : Vals xs us) : ∀ {bs : List Bd} {ws : List IV} {ws' : List Value}, bnd vs bs = some ws → BdV D us bs ws' → ∃ ys, VRs D ρ H ws ys ∧ Vals ys ws'
  | [], ws, ws', e, b => by
    cases e
    cases b
    exact ⟨[], .nil, .nil⟩
  | .arg i :: bs, ws, ws', e, b => by
    cases b with
    | arg g b =>
      unfold bnd at e
      cases e1 : vs[i]? with
      | none => rw [e1] at e; cases e
      | some v =>
        rw [e1] at e
        obtain ⟨l, h1, h2⟩ := Option.map_eq_some_iff.mp e
        subst h2
        obtain ⟨ys, q1, q2⟩ := bnd_V r rv h1 b
        obtain ⟨y, g1, g2⟩ := r.get e1
        obtain ⟨u, g3, g4⟩ := rv.get g1
        rw [g] at g3
        cases g3
        exact ⟨y :: ys, .cons g2 q1, .cons g4 q2⟩
  | .dfl v :: bs, ws, ws', e, b => by
    cases b with
    | dfl g1 g2 b =>
      obtain ⟨l, h1, h2⟩ := Option.map_eq_some_iff.mp e
      subst h2
      obtain ⟨ys, q1, q2⟩ := bnd_V r rv h1 b
      exact ⟨_ :: ys, .cons (g2 _ _) q1, .cons g1 q2⟩
theorem args_V {D : Dn} {ρ : List Addr} {H : Hp} {vs : List IV} {xs : List V} {us : List Value} (r : VRs D ρ H vs xs) (rv : Vals xs us) {bs : List Bd} {ws : List IV} {ws' : List Value} (e : args vs bs = some ws) (b : BdA D bs us ws') : ∃ ys, VRs D ρ H ws ys ∧ Vals ys ws' := by
  rcases b with ⟨rfl, rfl⟩ | ⟨hn, b⟩
  · cases e
    exact ⟨xs, r, rv⟩
  · refine bnd_V r rv ?_ b
    cases bs with
    | nil => exact absurd rfl hn
    | cons _ _ => exact e
/-- a def's binding of n values and of the keywords ks -/
def BindI (D : Dn) (fd : FuncData) (ps : List Str) (n : Nat) (ks : List Str) (bs : List Bd) : Prop :=
  ∀ (s : Shared) (us zs : List Value), D.K.In s.heap → us.length = n → zs.length = ks.length → ∃ ws, BindsTo s fd ⟨us, ks.zip zs⟩ (ps.zip ws) ∧ BdA D bs (us ++ zs) ws
/-- the promise: as the run says -/
def spI (D : Dn) (np : Nat) (f : List IV → IH → R IV) : Sp := fun vs H Q E => vs.length = np ∧ ∃ ρ ih xs, HR D ρ ih H ∧ VRs D ρ H xs vs ∧ Post D ρ H (f xs ih) (VR D) Q E
section
variable {D : Dn} {X : Cx} {k : Nat} {f C : Addr} {fd : FuncData} {ps ks : List Str} {np n : Nat} {bs : List Bd} {cf : List IV → IH → R IV} {W : WX}
variable {pins : List (Addr × Obj)} {σ : L2.St} {H : Hp} {s : Shared} {Q : VK} {us zs : List Value} {xs : List V} {ρ : List Addr} {ih : IH} {vs ws : List IV}
/-- a call with values -/
theorem run_I (hK : X.K = D.K) (F : FnI X.prog X.w X.K X.mg X.base k f fd ps (spI D np cf)) (hp : ps.length = np) (hr : RoomI k X.A) (hb : BindI D fd ps n ks bs) (hx : PassesAt (L2.CX X.prog X.w) X σ (WE W σ)) (I : Inv X pins σ H s)
    (hR : HR D ρ ih H) (r : VRs D ρ H vs xs) (rv : Vals xs (us ++ zs)) (h1 : us.length = n) (h2 : zs.length = ks.length) (e : args vs bs = some ws) (hw : ws.length = np) (p : Post D ρ H (cf ws ih) (VR D) Q (WE W σ)) :
    wpAny (model X.prog X.w) X.A (call (.ref f) us (ks.zip zs)) (EP X pins σ Q) X.xe s := by
  obtain ⟨ws', b1, b2⟩ := hb s us zs (by rw [← hK]; exact I.kIn) h1 h2
  obtain ⟨ys, q1, q2⟩ := args_V r rv e b2
  refine wpAny_call (codeAny_mono (F.run X.A X.stack s H ⟨us, ks.zip zs⟩ ws' ys Q (WE W σ) hr I.env0 b1 q2 ⟨by rw [← q1.length]; exact hw, ρ, ih, ws, hR, q1, p⟩) fun r s' z => ?_)
  cases r with
  | error e => exact hx pins H s e s' I z
  | ok fl =>
    cases fl with
    | ret u => exact I.after z
    | next => exact z.elim
    | brk => exact z.elim
    | cont => exact z.elim
/-- a new instance -/
theorem run_newI (hK : X.K = D.K) {c : Nat} (hC : C = D.cA c) (M : Mk X.K C f) (F : FnI X.prog X.w X.K X.mg X.base k f fd ps (spI D np cf)) (hr : RoomI (k + 1) X.A) (hb : BindI D fd ps (n + 1) ks bs) (hx : PassesAt (L2.CX X.prog X.w) X σ (WE W σ)) (I : Inv X pins σ H s)
    (hR : HR D ρ ih H) (r : VRs D ρ H vs xs) (rv : Vals xs (us ++ zs)) (h1 : us.length = n) (h2 : zs.length = ks.length) (e : args (.ref ih.length :: vs) bs = some ws) (hw : ws.length = np)
    (p : Post D ρ H ((cf ws (ih ++ [.ins c []])).bind fun v h' => match v with
      | .non => .ok (.ref ih.length) h'
      | _ => .no) (VR D) Q (WE W σ)) :
    wpAny (model X.prog X.w) X.A (call (.ref C) us (ks.zip zs)) (EP X pins σ Q) X.xe s := by
  subst hC
  have fx : H (s.heap.objs.size + 1) = none := I.hok.fresh (Nat.le_succ _)
  have fd0 : H s.heap.objs.size = none := I.hok.fresh (Nat.le_refl _)
  have I2 := Inv.made (C := D.cA c) I
  -- the new instance among the numbered things
  have hR1 : HR D ρ ih (upd H s.heap.objs.size (.own (s.heap.objs.size + 1))) := hR.lay fd0 _
  have fx1 : upd H s.heap.objs.size (.own (s.heap.objs.size + 1)) (s.heap.objs.size + 1) = none := by
    rw [upd_ne (Nat.succ_ne_self _)]
    exact fx
  have hR2 := hR1.new fx1 (.ins (D.cA c) s.heap.objs.size []) (o := .ins c []) ⟨_, [], upd_same, .nil⟩
  have ev : Ev ρ H (ρ ++ [s.heap.objs.size + 1]) (upd (upd H s.heap.objs.size (.own (s.heap.objs.size + 1))) (s.heap.objs.size + 1) (.ins (D.cA c) s.heap.objs.size [])) := (Ev.lay fd0 _).trans hR1 (Ev.new fx1 _)
  have r2 : VRs D (ρ ++ [s.heap.objs.size + 1]) (upd (upd H s.heap.objs.size (.own (s.heap.objs.size + 1))) (s.heap.objs.size + 1) (.ins (D.cA c) s.heap.objs.size [])) (.ref ih.length :: vs) (.ref (s.heap.objs.size + 1) :: xs) := .cons (.ref hR.last) (r.evo hR ev)
  obtain ⟨ws', b1, b2⟩ := hb _ (Value.ref (s.heap.objs.size + 1) :: us) zs (by rw [← hK]; exact I2.kIn) (congrArg Nat.succ h1) h2
  obtain ⟨ys, q1, q2⟩ := args_V r2 (.cons rfl rv) e b2
  have p2 : Post D (ρ ++ [s.heap.objs.size + 1]) (upd (upd H s.heap.objs.size (.own (s.heap.objs.size + 1))) (s.heap.objs.size + 1) (.ins (D.cA c) s.heap.objs.size [])) (cf ws (ih ++ [.ins c []])) (VR D) (fun v H2 => v = .non ∧ Q (.ref (s.heap.objs.size + 1)) H2) (WE W σ) := by
    cases hc : cf ws (ih ++ [.ins c []]) with
    | no => rw [hc] at p; exact p.elim
    | ex c' v' ih' =>
      rw [hc] at p
      exact fun ρ' H' d e1 hr' q => p ρ' H' d (ev.trans hR2 e1) hr' q
    | ok v ih' =>
      rw [hc] at p
      intro ρ' H' b e1 hr' q
      cases q with
      | non => exact ⟨rfl, p ρ' H' _ (ev.trans hR2 e1) hr' (.ref (e1.at_ hR.last))⟩
      | _ => exact p.elim
  refine wpAny_call (make_map (f := f) I.kIn M.makes M.init (beq_iff_eq.mp M.fn) (codeAny_mono (F.run _ X.stack _ _ ⟨Value.ref (s.heap.objs.size + 1) :: us, ks.zip zs⟩ ws' ys _ (WE W σ) ⟨hr.rm.make _ us (ks.zip zs), hr.gs⟩
    (I2.env0.make _ us (ks.zip zs)) b1 q2 ⟨by rw [← q1.length]; exact hw, _, _, ws, hR2, q1, p2⟩) fun r s' z => ?_))
  cases r with
  | error e => exact hx pins _ _ e s' I2 z
  | ok fl =>
    cases fl with
    | ret u =>
      obtain ⟨v, H', I3, rv, ev, q3⟩ := I2.after z
      subst ev
      exact ⟨rv, ⟨V.ref (s.heap.objs.size + 1), H', I3, rfl, q3⟩⟩
    | next => exact z.elim
    | brk => exact z.elim
    | cont => exact z.elim
end
end Itp

/-! ItG: expressions. -/
namespace Itp
open PySem PySem.Spec PyProof.Rows L2
def O2.op : O2 → Operator
  | .add => .Add
  | .sub => .Sub
  | .mul => .Mult
  | .fdiv => .FloorDiv
  | .mod => .Mod
  | .pow => .Pow
  | .band => .BitAnd
  | .bor => .BitOr
  | .bxor => .BitXor
  | .shl => .LShift
  | .shr => .RShift
def C2.op : C2 → CmpOp
  | .eq => .Eq
  | .ne => .NotEq
  | .lt => .Lt
  | .le => .LtE
  | .gt => .Gt
  | .ge => .GtE
  | .is_ => .Is
  | .isn => .IsNot
  | .in_ => .In
  | .nin => .NotIn
section
variable {D : Dn} {X : Cx} {xa : XA} {W : WX} {m : Bool} {cs : CF} {e a b c : Expr} {es rest : List Expr} {pos : Pos} {ia ib ic : IE} {ies iks : IA} {iq : IQ} {iqs : IQs}
theorem ob (hK : X.K = D.K) (o : O2) : OpR X (binaryOp o.op) (sem2 D (bin o)) := by
  cases o
  · exact ob_add hK
  · exact ob_sub
  · exact ob_mul
  · exact ob_fdiv
  · exact ob_mod
  · exact ob_pow
  · exact ob_band
  · exact ob_bor
  · exact ob_bxor
  · exact ob_shl
  · exact ob_shr
theorem oc (hK : X.K = D.K) (hu : X.A.units + 80 < cLine) (o : C2) : OpR X (compareOp o.op) (sem2 D (cmp o)) := by
  cases o
  · exact oc_eq hK hu
  · exact oc_ne hK hu
  · exact oc_lt hK hu
  · exact oc_le
  · exact oc_gt
  · exact oc_ge
  · exact oc_is
  · exact oc_isn
  · exact oc_in hK hu
  · exact oc_nin hK hu
abbrev sE (D : Dn) (xa : XA) (m : Bool) (cs : CF) (i : IE) (W : WX) : TE := semE D xa (evE D.sg m cs i) W
abbrev sT (D : Dn) (xa : XA) (m : Bool) (cs : CF) (i : IQ) (W : WX) : TT := semT D xa (evT D.sg m cs i) W
abbrev sA (D : Dn) (xa : XA) (m : Bool) (cs : CF) (i : IA) (W : WX) : TA := semA D xa (evA D.sg m cs i) W
abbrev sO (D : Dn) (xa : XA) (m : Bool) (cs : CF) (i : IOp) (W : WX) : TO := semO D xa (evO D.sg m cs i) W
theorem R.bind_assoc {α β γ : Type} (r : R α) (f : α → IH → R β) (g : β → IH → R γ) : (r.bind f).bind g = r.bind fun a h => (f a h).bind g := by
  cases r <;> rfl
/-- two parts, then what they make -/
theorem two {f : IV → IV → IH → R IV} {r : R2} {σ : L2.St} {H : Hp} {Q : VK} {ρ : List Addr} {ih : IH} {s : En} (hr : HR D ρ ih H) (l : LR D ρ H xa s σ)
    (p : Post D ρ H ((evE D.sg m cs ia s ih).bind fun x h => (evE D.sg m cs ib s h).bind fun y h => f x y h) (VR D) Q (WE W σ))
    (k : ∀ x y ih2 ρ2 H2 u w, HR D ρ2 ih2 H2 → LR D ρ2 H2 xa s σ → VR D ρ2 H2 x u → VR D ρ2 H2 y w → Post D ρ2 H2 (f x y ih2) (VR D) Q (WE W σ) → r u w H2 Q) : tOp r (sE D xa m cs ia W) (sE D xa m cs ib W) σ H Q :=
  semR.bind hr l p fun x ih1 ρ1 H1 u e hr1 l1 ev vx p1 => semR.bind hr1 l1 p1 fun y ih2 ρ2 H2 w e2 hr2 l2 ev2 vy p2 => k x y ih2 ρ2 H2 u w hr2 l2 (vx.evo hr1 ev2) vy p2
theorem L_bin (hK : X.K = D.K) (o : O2) (ha : PE X a (sE D xa m cs ia W)) (hb : PE X b (sE D xa m cs ib W)) : PE X (.BinOp a o.op b pos) (sE D xa m cs (.bin o ia ib) W) :=
  PEi (pe_op (ob hK o) ha hb) fun σ H Q ⟨ρ, ih, s, hr, l, p⟩ => two hr l p fun x y ih2 ρ2 H2 u w hr2 _ vx vy p2 => ⟨ρ2, ih2, x, y, _, hr2, vx, vy, p2⟩
theorem L_cmp (hK : X.K = D.K) (hu : X.A.units + 80 < cLine) (o : C2) (ha : PE X a (sE D xa m cs ia W)) (hb : PE X b (sE D xa m cs ib W)) (hm : behindInMarks o.op b = false) : PE X (.Compare a [o.op] [b] pos) (sE D xa m cs (.cmp o ia ib) W) :=
  PEi (pe_cmpR (oc hK hu o) ha hb hm) fun σ H Q ⟨ρ, ih, s, hr, l, p⟩ => two hr l p fun x y ih2 ρ2 H2 u w hr2 _ vx vy p2 => ⟨ρ2, ih2, x, y, _, hr2, vx, vy, p2⟩
theorem cmp_ok {o : C2} {x y z : IV} {h h' : IH} (e : cmp o x y h = .ok z h') : ∃ k, z = .bl k ∧ h' = h := by
  have key : ∀ {q : Option Bool}, boo q h = .ok z h' → ∃ k, z = .bl k ∧ h' = h := fun {q} e => by
    cases q with
    | none => cases e
    | some b => cases e; exact ⟨b, rfl, rfl⟩
  cases o <;> exact key e
theorem cmp_ex {o : C2} {x y v : IV} {c : Nat} {h h' : IH} : cmp o x y h ≠ .ex c v h' := by
  have key : ∀ {q : Option Bool}, boo q h ≠ .ex c v h' := fun {q} e => by
    cases q <;> cases e
  cases o <;> exact key
theorem chn_sem (o o' : C2) (σ : L2.St) (H : Hp) (Q : VK) (h0 : sE D xa m cs (.chn o o' ia ib ic) W σ H Q) : tChain (sem2 D (cmp o)) (sem2 D (cmp o')) (sE D xa m cs ia W) (sE D xa m cs ib W) (sE D xa m cs ic W) σ H Q := by
  obtain ⟨ρ, ih, s, hr, l, p⟩ := h0
  refine two (r := fun x y H2 Q => sem2 D (cmp o) x y H2 fun z H3 => ∃ k, z = .bl k ∧ (if k = true then sE D xa m cs ic W σ H3 fun w' H4 => sem2 D (cmp o') y w' H4 Q else Q (.bl false) H3)) hr l p fun x y ih2 ρ2 H2 u w hr2 l2 vx vy p2 => ⟨ρ2, ih2, x, y, fun _ _ _ => False, hr2, vx, vy, ?_⟩
  cases hc : cmp o x y ih2 with
  | no => rw [hc] at p2; exact p2.elim
  | ex _ _ _ => exact absurd hc cmp_ex
  | ok z h' =>
    obtain ⟨k, rfl, rfl⟩ := cmp_ok hc
    rw [hc] at p2
    intro ρ3 H3 d ev hr3 q
    cases q
    refine ⟨k, rfl, ?_⟩
    have w3 := vy.evo hr2 ev
    have l3 := l2.evo hr2 ev
    cases k with
    | false =>
      rw [if_neg (by decide)]
      have p2' : Post D ρ2 H2 (.ok (.bl false) h') (VR D) Q (WE W σ) := p2
      exact p2' ρ3 H3 _ ev hr3 (.bl false)
    | true =>
      rw [if_pos rfl]
      have p2' : Post D ρ2 H2 ((evE D.sg m cs ic s h').bind fun z h => cmp o' y z h) (VR D) Q (WE W σ) := p2
      refine ⟨ρ3, h', s, hr3, l3, ?_⟩
      have p3 : Post D ρ3 H3 ((evE D.sg m cs ic s h').bind fun z h => cmp o' y z h) (VR D) Q (WE W σ) := by
        cases hf : ((evE D.sg m cs ic s h').bind fun z h => cmp o' y z h) with
        | ok c ih4 =>
          rw [hf] at p2'
          exact fun ρ4 H4 d e2 hr4 q2 => p2' ρ4 H4 d (ev.trans hr3 e2) hr4 q2
        | ex c v ih4 =>
          rw [hf] at p2'
          exact fun ρ4 H4 d e2 hr4 q2 => p2' ρ4 H4 d (ev.trans hr3 e2) hr4 q2
        | no => rw [hf] at p2'; exact p2'
      exact p3.bind fun z ih4 ρ4 H4 w' e4 ev4 hr4 vz p4 => ⟨ρ4, ih4, y, z, _, hr4, w3.evo hr3 ev4, vz, p4⟩
theorem L_chn (hK : X.K = D.K) (hu : X.A.units + 80 < cLine) (o o' : C2) (ha : PE X a (sE D xa m cs ia W)) (hb : PE X b (sE D xa m cs ib W)) (hc : PE X c (sE D xa m cs ic W)) (hm : lastMarks [o.op, o'.op] [b, c] = false) : PE X (.Compare a [o.op, o'.op] [b, c] pos) (sE D xa m cs (.chn o o' ia ib ic) W) :=
  PEi (pe_chain (oc hK hu o) (oc hK hu o') ha hb hc hm) (chn_sem o o')
theorem R.bind_inv {α β : Type} {r : R α} {f : α → IH → R β} {y : β} {h' : IH} (e : r.bind f = .ok y h') : ∃ x h, r = .ok x h ∧ f x h = .ok y h' := by
  cases r with
  | ok x h => exact ⟨x, h, rfl, e⟩
  | ex _ _ _ => cases e
  | no => cases e
theorem chn_bl {G : Sg} {o o' : C2} {s : En} {h h' : IH} {z : IV} (e : evE G m cs (.chn o o' ia ib ic) s h = .ok z h') : ∃ k, z = .bl k := by
  obtain ⟨x, h1, _, e⟩ := R.bind_inv (show ((evE G m cs ia s h).bind fun x h => (evE G m cs ib s h).bind fun y h => (cmp o x y h).bind fun k h => match k with
    | .bl true => (evE G m cs ic s h).bind fun z h => cmp o' y z h
    | .bl false => .ok (.bl false) h
    | _ => .no) = .ok z h' from e)
  obtain ⟨y, h2, _, e⟩ := R.bind_inv e
  obtain ⟨k, h3, _, e⟩ := R.bind_inv e
  cases k with
  | bl k =>
    cases k with
    | true =>
      obtain ⟨w, h4, _, e⟩ := R.bind_inv (show ((evE G m cs ic s h3).bind fun z h => cmp o' y z h) = .ok z h' from e)
      obtain ⟨k, r, _⟩ := cmp_ok e
      exact ⟨k, r⟩
    | false => cases e; exact ⟨false, rfl⟩
  | _ => cases e
theorem chn_T {G : Sg} {o o' : C2} {s : En} {h : IH} : evT G m cs (.chn o o' ia ib ic) s h = (evE G m cs (.chn o o' ia ib ic) s h).bind fun x h => opt (tru x h) h := by
  show R.bind _ _ = R.bind (R.bind _ _) _
  rw [R.bind_assoc]
  congr
  funext x h
  rw [R.bind_assoc]
  congr
  funext y h
  rw [R.bind_assoc]
  congr
  funext k h
  cases k with
  | bl k =>
    cases k with
    | true => exact (R.bind_assoc _ _ _).symm
    | false => rfl
  | _ => rfl
theorem T_chn (hK : X.K = D.K) (hu : X.A.units + 80 < cLine) (o o' : C2) (ha : PE X a (sE D xa m cs ia W)) (hb : PE X b (sE D xa m cs ib W)) (hc : PE X c (sE D xa m cs ic W)) (hm : lastMarks [o.op, o'.op] [b, c] = false) : PT X (.Compare a [o.op, o'.op] [b, c] pos) (sT D xa m cs (.chn o o' ia ib ic) W) :=
  PTi (pt_chain (oc hK hu o) (oc hK hu o') ha hb hc hm) fun σ H Q ⟨ρ, ih, s, hr, l, p⟩ => chn_sem o o' σ H _ (semR.bind (rel2 := fun _ _ a b => a = b) (Q := Q) hr l (chn_T (G := D.sg) ▸ p) fun x ih1 ρ1 H1 u e hr1 l1 ev vx p1 => by
    obtain ⟨k, rfl⟩ := chn_bl e
    cases vx
    exact ⟨k, rfl, p1 _ _ _ .refl hr1 rfl⟩)
theorem L_neg (ha : PE X a (sE D xa m cs ia W)) : PE X (.UnaryOp .USub a pos) (sE D xa m cs (.neg ia) W) :=
  PEi (pe_un un_neg ha) fun σ H Q ⟨ρ, ih, s, hr, l, p⟩ => semR.bind hr l p fun x ih1 ρ1 H1 u e hr1 l1 ev vx p1 => by
    cases vx with
    | int i => exact ⟨i, rfl, p1 _ _ _ .refl hr1 (.int _)⟩
    | _ => exact p1.elim
theorem L_inv (ha : PE X a (sE D xa m cs ia W)) : PE X (.UnaryOp .Invert a pos) (sE D xa m cs (.inv ia) W) :=
  PEi (pe_un un_inv ha) fun σ H Q ⟨ρ, ih, s, hr, l, p⟩ => semR.bind hr l p fun x ih1 ρ1 H1 u e hr1 l1 ev vx p1 => by
    cases vx with
    | int i => exact ⟨i, rfl, p1 _ _ _ .refl hr1 (.int _)⟩
    | _ => exact p1.elim
theorem optB {α : Type} {o : Option α} {ih : IH} {γ δ : Type} {f : α → IH → R γ} {ρ : List Addr} {H : Hp} {rel2 : List Addr → Hp → γ → δ → Prop} {Q : δ → Hp → Prop} {W : Value → Option Addr → Hp → Prop} (p : Post D ρ H ((opt o ih).bind f) rel2 Q W) : ∃ x, o = some x ∧ Post D ρ H (f x ih) rel2 Q W := by
  cases o with
  | none => exact p.elim
  | some x => exact ⟨x, rfl, p⟩
theorem L_not (hK : X.K = D.K) (ha : PE X a (sE D xa m cs ia W)) : PE X (.UnaryOp .Not a pos) (sE D xa m cs (.not ia) W) :=
  PEi (pe_notT ha) fun σ H Q ⟨ρ, ih, s, hr, l, p⟩ => semR.bind hr l p fun x ih1 ρ1 H1 u e hr1 l1 ev vx p1 => by
    obtain ⟨k, e1, p2⟩ := optB p1
    exact ⟨k, by rw [hK]; exact tru_V hr1 e1 vx, p2 _ _ _ .refl hr1 (.bl _)⟩
theorem L_and1 (ha : PE X a (sE D xa m cs ia W)) : PE X (.BoolOp .And [a] pos) (semE D xa (evAnd D.sg m cs (.cons ia .nil)) W) :=
  PEi (pe_one ha) fun σ H Q h => h
theorem L_or1 (ha : PE X a (sE D xa m cs ia W)) : PE X (.BoolOp .Or [a] pos) (semE D xa (evOr D.sg m cs (.cons ia .nil)) W) :=
  PEi (pe_one ha) fun σ H Q h => h
theorem L_and (hK : X.K = D.K) (ha : PE X a (sE D xa m cs ia W)) (hb : PE X (.BoolOp .And (b :: rest) pos) (semE D xa (evAnd D.sg m cs (.cons ib ies)) W)) : PE X (.BoolOp .And (a :: b :: rest) pos) (semE D xa (evAnd D.sg m cs (.cons ia (.cons ib ies))) W) :=
  PEi (pe_andT ha hb) fun σ H Q ⟨ρ, ih, s, hr, l, p⟩ => semR.bind hr l p fun x ih1 ρ1 H1 u e hr1 l1 ev vx p1 => by
    obtain ⟨k, e1, p2⟩ := optB p1
    refine ⟨k, by rw [hK]; exact tru_V hr1 e1 vx, ?_⟩
    cases k with
    | true =>
      rw [if_pos rfl] at p2 ⊢
      exact ⟨ρ1, ih1, s, hr1, l1, p2⟩
    | false =>
      rw [if_neg (by decide)] at p2 ⊢
      exact p2 _ _ _ .refl hr1 vx
theorem L_or (hK : X.K = D.K) (ha : PE X a (sE D xa m cs ia W)) (hb : PE X (.BoolOp .Or (b :: rest) pos) (semE D xa (evOr D.sg m cs (.cons ib ies)) W)) : PE X (.BoolOp .Or (a :: b :: rest) pos) (semE D xa (evOr D.sg m cs (.cons ia (.cons ib ies))) W) :=
  PEi (pe_orT ha hb) fun σ H Q ⟨ρ, ih, s, hr, l, p⟩ => semR.bind hr l p fun x ih1 ρ1 H1 u e hr1 l1 ev vx p1 => by
    obtain ⟨k, e1, p2⟩ := optB p1
    refine ⟨k, by rw [hK]; exact tru_V hr1 e1 vx, ?_⟩
    cases k with
    | true =>
      rw [if_pos rfl] at p2 ⊢
      exact p2 _ _ _ .refl hr1 vx
    | false =>
      rw [if_neg (by decide)] at p2 ⊢
      exact ⟨ρ1, ih1, s, hr1, l1, p2⟩
/-! ### tests -/
theorem T_val (hK : X.K = D.K) (ha : PE X a (sE D xa m cs ia W)) (he : ∀ whole, isTrue a X.env whole = (do let v ← whole; standAt a.pos; holding [v] (truthy v))) : PT X a (sT D xa m cs (.val ia) W) :=
  PTi (pt_truth ha he) fun σ H Q ⟨ρ, ih, s, hr, l, p⟩ => by
    refine semR.bind hr l p fun x ih1 ρ1 H1 u e hr1 l1 ev vx p1 => ?_
    cases e1 : tru x ih1 with
    | none => rw [e1] at p1; exact p1.elim
    | some k =>
      rw [e1] at p1
      exact ⟨k, by rw [hK]; exact tru_V hr1 e1 vx, p1 _ _ _ .refl hr1 rfl⟩
theorem T_cmp (hK : X.K = D.K) (hu : X.A.units + 80 < cLine) (o : C2) (ha : PE X a (sE D xa m cs ia W)) (hb : PE X b (sE D xa m cs ib W)) (hm : behindInMarks o.op b = false) : PT X (.Compare a [o.op] [b] pos) (sT D xa m cs (.cmp o ia ib) W) :=
  PTi (pt_cmpR (oc hK hu o) ha hb hm) fun σ H Q ⟨ρ, ih, s, hr, l, p⟩ => by
    have p' : Post D ρ H ((evE D.sg m cs ia s ih).bind fun x h => (evE D.sg m cs ib s h).bind fun y h => (cmp o x y h).bind fun z h => opt (tru z h) h) (fun _ _ a b => a = b) Q (WE W σ) := p
    refine semR.bind hr l p' fun x ih1 ρ1 H1 u e hr1 l1 ev vx p1 => semR.bind hr1 l1 p1 fun y ih2 ρ2 H2 w e2 hr2 l2 ev2 vy p2 => ⟨ρ2, ih2, x, y, fun _ _ _ => False, hr2, vx.evo hr1 ev2, vy, ?_⟩
    cases hc : cmp o x y ih2 with
    | no => rw [hc] at p2; exact p2.elim
    | ex _ _ _ => exact absurd hc cmp_ex
    | ok z h' =>
      obtain ⟨k, rfl, rfl⟩ := cmp_ok hc
      rw [hc] at p2
      intro ρ3 H3 d ev hr3 q
      cases q
      exact ⟨k, rfl, p2 _ _ _ ev hr3 rfl⟩
theorem T_not (ha : PT X a (sT D xa m cs iq W)) : PT X (.UnaryOp .Not a pos) (sT D xa m cs (.not iq) W) :=
  PTi (pt_not ha) fun σ H Q ⟨ρ, ih, s, hr, l, p⟩ => semR.bind hr l p fun x ih1 ρ1 H1 u e hr1 l1 ev vx p1 => by
    subst vx
    exact p1 _ _ _ .refl hr1 rfl
theorem T_all1 (ha : PT X a (sT D xa m cs iq W)) : PW X (.BoolOp .And [a] pos) (semT D xa (evAll D.sg m cs (.cons iq .nil)) W) :=
  PWi (pw_and1 ha) fun σ H Q ⟨ρ, ih, s, hr, l, p⟩ => semR.bind hr l p fun x ih1 ρ1 H1 u e hr1 l1 ev vx p1 => by
    subst vx
    cases x with
    | true => exact p1 _ _ _ .refl hr1 rfl
    | false => exact p1 _ _ _ .refl hr1 rfl
theorem T_any1 (ha : PT X a (sT D xa m cs iq W)) : PW X (.BoolOp .Or [a] pos) (semT D xa (evAny D.sg m cs (.cons iq .nil)) W) :=
  PWi (pw_or1 ha) fun σ H Q ⟨ρ, ih, s, hr, l, p⟩ => semR.bind hr l p fun x ih1 ρ1 H1 u e hr1 l1 ev vx p1 => by
    subst vx
    cases x with
    | true => exact p1 _ _ _ .refl hr1 rfl
    | false => exact p1 _ _ _ .refl hr1 rfl
theorem T_all (ha : PT X a (sT D xa m cs iq W)) (hb : PW X (.BoolOp .And (b :: rest) pos) (semT D xa (evAll D.sg m cs iqs) W)) : PW X (.BoolOp .And (a :: b :: rest) pos) (semT D xa (evAll D.sg m cs (.cons iq iqs)) W) :=
  PWi (pw_and ha hb) fun σ H Q ⟨ρ, ih, s, hr, l, p⟩ => semR.bind hr l p fun x ih1 ρ1 H1 u e hr1 l1 ev vx p1 => by
    subst vx
    cases x with
    | true =>
      rw [if_pos rfl] at p1 ⊢
      exact ⟨ρ1, ih1, s, hr1, l1, p1⟩
    | false =>
      rw [if_neg (by decide)] at p1 ⊢
      exact p1 _ _ _ .refl hr1 rfl
theorem T_any (ha : PT X a (sT D xa m cs iq W)) (hb : PW X (.BoolOp .Or (b :: rest) pos) (semT D xa (evAny D.sg m cs iqs) W)) : PW X (.BoolOp .Or (a :: b :: rest) pos) (semT D xa (evAny D.sg m cs (.cons iq iqs)) W) :=
  PWi (pw_or ha hb) fun σ H Q ⟨ρ, ih, s, hr, l, p⟩ => semR.bind hr l p fun x ih1 ρ1 H1 u e hr1 l1 ev vx p1 => by
    subst vx
    cases x with
    | true =>
      rw [if_pos rfl] at p1 ⊢
      exact p1 _ _ _ .refl hr1 rfl
    | false =>
      rw [if_neg (by decide)] at p1 ⊢
      exact ⟨ρ1, ih1, s, hr1, l1, p1⟩
theorem L_ife (hc : PT X c (sT D xa m cs iq W)) (ha : PE X a (sE D xa m cs ia W)) (hb : PE X b (sE D xa m cs ib W)) : PE X (.IfExp c a b pos) (sE D xa m cs (.ife iq ia ib) W) :=
  PEi (pe_ifExp hc ha hb) fun σ H Q ⟨ρ, ih, s, hr, l, p⟩ => semR.bind hr l p fun x ih1 ρ1 H1 u e hr1 l1 ev vx p1 => by
    subst vx
    cases x with
    | true =>
      rw [if_pos rfl] at p1 ⊢
      exact ⟨ρ1, ih1, s, hr1, l1, p1⟩
    | false =>
      rw [if_neg (by decide)] at p1 ⊢
      exact ⟨ρ1, ih1, s, hr1, l1, p1⟩
/-! ### arguments, displays -/
theorem A_nil : PA X [] (sA D xa m cs .nil W) := PAi pa_nil fun σ H Q ⟨ρ, ih, s, hr, l, p⟩ => p _ _ _ .refl hr .nil
theorem A_cons (ha : PE X e (sE D xa m cs ia W)) (hb : PA X es (sA D xa m cs ies W)) (hs : starEach (e :: es) X.env = (false, eval e X.env) :: starEach es X.env) : PA X (e :: es) (sA D xa m cs (.cons ia ies) W) :=
  PAi (pa_cons ha hb hs) fun σ H Q ⟨ρ, ih, s, hr, l, p⟩ => semR.bind hr l p fun x ih1 ρ1 H1 u e hr1 l1 ev vx p1 => semR.bind hr1 l1 p1 fun xs ih2 ρ2 H2 us e2 hr2 l2 ev2 vxs p2 => p2 _ _ _ .refl hr2 (.cons (vx.evo hr1 ev2) vxs)
theorem L_tup {k : Nat} (ha : PA X es (sA D xa m cs ies W)) : PE X (.Tuple es k pos) (sE D xa m cs (.tup ies) W) :=
  PEi (pe_tup ha) fun σ H Q ⟨ρ, ih, s, hr, l, p⟩ => semR.bind hr l p fun x ih1 ρ1 H1 u e hr1 l1 ev vx p1 => by
    obtain ⟨c, p1⟩ := ifp (F := fun r => Post D ρ1 H1 r (VR D) Q (WE W σ)) p1 fun z => z
    exact ⟨by rw [← vx.length, ← ln_eq]; exact c, fun q hq => p1.tup hr1 vx hq⟩
theorem L_lst (ha : PA X es (sA D xa m cs ies W)) : PE X (.List es pos) (sE D xa m cs (.lst ies) W) :=
  PEi (pe_lst ha) fun σ H Q ⟨ρ, ih, s, hr, l, p⟩ => semR.bind hr l p fun x ih1 ρ1 H1 u e hr1 l1 ev vx p1 => by
    obtain ⟨c, p1⟩ := ifp (F := fun r => Post D ρ1 H1 r (VR D) Q (WE W σ)) p1 fun z => z
    exact ⟨by rw [← vx.length, ← ln_eq]; exact c, fun q hq => p1.lst hr1 vx hq⟩
theorem L_dic0 : PE X (.Dict [] [] pos) (sE D xa m cs (.dic .nil .nil) W) :=
  PEi pe_dnewK fun σ H Q ⟨ρ, ih, s, hr, l, p⟩ => fun q hq => by
    have p' : Post D ρ H (.ok (.ref ih.length) (ih ++ [.dic []])) (VR D) Q (WE W σ) := p
    exact p' (ρ ++ [q]) _ _ (Ev.new hq _) (hr.new hq _ ⟨[], upd_same, .nil⟩) (.ref hr.last)
theorem R.bind_bind {α β γ : Type} {r : R α} {f : α → IH → R β} {g : β → IH → R γ} : (r.bind f).bind g = r.bind fun a h => (f a h).bind g := by cases r <;> rfl
inductive PVs (D : Dn) (ρ : List Addr) (H : Hp) : List (IV × IV) → List (V × V) → Prop
  | nil : PVs D ρ H [] []
  | cons {x y : IV} {u w : V} {ps : List (IV × IV)} {us : List (V × V)} : VR D ρ H x u → VR D ρ H y w → PVs D ρ H ps us → PVs D ρ H ((x, y) :: ps) ((u, w) :: us)
theorem PVs.keys {ρ : List Addr} {H : Hp} {ps : List (IV × IV)} {us : List (V × V)} (h : PVs D ρ H ps us) : (ps.all fun p => keyB p.1) = true →
    ∃ kvs : List (Key × V), us = kvs.map (fun kv => (kV kv.1, kv.2)) ∧ kvs.length = ps.length ∧ ∀ (accI : List (IV × IV)) (acc : List (Key × V)), KRs D ρ H accI acc → KRs D ρ H (ps.foldl (fun acc p => putD p.1 p.2 acc) accI) (mergeK acc kvs) := by
  induction h with
  | nil => exact fun _ => ⟨[], rfl, rfl, fun _ _ r => r⟩
  | @cons x y u w ps us rx ry _ ih =>
    intro hk
    rw [List.all_cons, Bool.and_eq_true] at hk
    obtain ⟨kvs, e1, e2, e3⟩ := ih hk.2
    obtain ⟨k, rfl, rfl⟩ := key_of hk.1 rx
    exact ⟨(k, w) :: kvs, by rw [e1]; rfl, by rw [List.length_cons, List.length_cons, e2], fun accI acc r => e3 _ _ (KRs.put ry k r)⟩
/-- pairs of a display: their readings -/
inductive PrE (D : Dn) (X : Cx) (xa : XA) (m : Bool) (cs : CF) (W : WX) : IA → List (Option Expr) → List Expr → List (TE × TE) → Prop
  | nil : PrE D X xa m cs W .nil [] [] []
  | cons {k v : IE} {r : IA} {ek ev : Expr} {ks : List (Option Expr)} {vs : List Expr} {ts : List (TE × TE)} : PE X ek (sE D xa m cs k W) → PE X ev (sE D xa m cs v W) → PrE D X xa m cs W r ks vs ts →
      PrE D X xa m cs W (.cons k (.cons v r)) (some ek :: ks) (ev :: vs) ((sE D xa m cs k W, sE D xa m cs v W) :: ts)
theorem PrE.pps {kvs : IA} {ks : List (Option Expr)} {vs : List Expr} {ts : List (TE × TE)} (h : PrE D X xa m cs W kvs ks vs ts) : PPs X pos ks vs ts := by
  induction h with
  | nil => exact pps_nil
  | cons h1 h2 _ ih => exact pps_cons h1 h2 ih
theorem PrE.shape {kvs : IA} {ks : List (Option Expr)} {vs : List Expr} {ts : List (TE × TE)} (h : PrE D X xa m cs W kvs ks vs ts) : ks.all (·.isSome) = true ∧ ks.length = vs.length := by
  induction h with
  | nil => exact ⟨rfl, rfl⟩
  | cons _ _ _ ih => exact ⟨by rw [List.all_cons, ih.1]; rfl, congrArg Nat.succ ih.2⟩
theorem pr_sem {kvs : IA} {ks : List (Option Expr)} {vs : List Expr} {ts : List (TE × TE)} (h : PrE D X xa m cs W kvs ks vs ts) : ∀ {γ δ : Type} {rel2 : List Addr → Hp → γ → δ → Prop} {Q2 : δ → Hp → Prop} {ρ : List Addr} {ih : IH} {H : Hp} {s : En} {σ : L2.St}
    (_ : HR D ρ ih H) (_ : LR D ρ H xa s σ) (f : List IV → IH → R γ) (_ : Post D ρ H ((evA D.sg m cs kvs s ih).bind f) rel2 Q2 fun c d H' => W c d σ H') (Q : List (V × V) → Hp → Prop)
    (_ : ∀ xs ps us ih1 ρ1 H1, prs xs = some ps → PVs D ρ1 H1 ps us → HR D ρ1 ih1 H1 → Ev ρ H ρ1 H1 → Post D ρ1 H1 (f xs ih1) rel2 Q2 (fun c d H' => W c d σ H') → Q us H1), tPairs ts σ H Q := by
  induction h with
  | nil => exact fun {γ δ rel2 Q2 ρ ih H s σ} hr l f p Q k => k [] [] [] ih ρ H rfl .nil hr .refl p
  | @cons ik iv r ek ev ks vs ts h1 h2 _ ihp =>
    intro γ δ rel2 Q2 ρ ih H s σ hr l f p Q k
    have p' : Post D ρ H ((evE D.sg m cs ik s ih).bind fun x h => (evE D.sg m cs iv s h).bind fun y h => (evA D.sg m cs r s h).bind fun ys h => f (x :: y :: ys) h) rel2 Q2 fun c d H' => W c d σ H' := by
      have e : (evA D.sg m cs (.cons ik (.cons iv r)) s ih).bind f = (evE D.sg m cs ik s ih).bind fun x h => (evE D.sg m cs iv s h).bind fun y h => (evA D.sg m cs r s h).bind fun ys h => f (x :: y :: ys) h := by
        show ((evE D.sg m cs ik s ih).bind fun x h => (((evE D.sg m cs iv s h).bind fun y h => (evA D.sg m cs r s h).bind fun ys h => .ok (y :: ys) h).bind fun xs h => .ok (x :: xs) h)).bind f = _
        simp only [R.bind_bind, R.bind_ok]
      rw [← e]; exact p
    exact semR.bind hr l p' fun x ih1 ρ1 H1 u e hr1 l1 ev vx p1 => semR.bind hr1 l1 p1 fun y ih2 ρ2 H2 w e2 hr2 l2 ev2 vy p2 => ihp hr2 l2 _ p2 _ fun xs ps us ih3 ρ3 H3 e3 pv hr3 ev3 p3 =>
      k (x :: y :: xs) ((x, y) :: ps) ((u, w) :: us) ih3 ρ3 H3 (by rw [prs, e3]; rfl) (.cons (vx.evo hr1 (ev2.trans hr2 ev3)) (vy.evo hr2 ev3) pv) hr3 ((ev.trans hr1 ev2).trans hr2 ev3) p3
theorem Post.evo0 {α β : Type} {ρ ρ1 : List Addr} {ih1 : IH} {H H1 : Hp} {r : R α} {rel : List Addr → Hp → α → β → Prop} {Q : β → Hp → Prop} {W : Value → Option Addr → Hp → Prop} (p : Post D ρ H r rel Q W) (hr : HR D ρ1 ih1 H1) (e : Ev ρ H ρ1 H1) : Post D ρ1 H1 r rel Q W := by
  cases r with
  | ok a ih => exact fun ρ2 H2 b e2 hr2 q => p ρ2 H2 b (e.trans hr e2) hr2 q
  | ex c v ih => exact fun ρ2 H2 b e2 hr2 q => p ρ2 H2 b (e.trans hr e2) hr2 q
  | no => exact p
theorem L_dic {ik iv : IE} {r : IA} {ks : List (Option Expr)} {vs : List Expr} {ts : List (TE × TE)} (h : PrE D X xa m cs W (.cons ik (.cons iv r)) ks vs ts) (h15 : ks.length ≤ 15) : PE X (.Dict ks vs pos) (sE D xa m cs (.dic (.cons ik (.cons iv r)) .nil) W) :=
  PEi (pe_disp h.pps h.shape.1 h.shape.2 (by cases h; simp) h15) fun σ H Q ⟨ρ, ih, s, hr, l, p⟩ => fun q hq => by
    have hr' : HR D (ρ ++ [q]) (ih ++ [.dic []]) (upd H q (.dK [])) := hr.new hq _ ⟨[], upd_same, .nil⟩
    have ev0 : Ev ρ H (ρ ++ [q]) (upd H q (.dK [])) := Ev.new hq _
    have l' := l.evo hr ev0
    have p' : Post D ρ H ((evA D.sg m cs (.cons ik (.cons iv r)) s (ih ++ [.dic []])).bind fun xs h' => match h'[ih.length]?, prs xs with
      | some (.dic []), some ps => if ps.length ≤ 15 ∧ (ps.all fun p => keyB p.1) = true then .ok (.ref ih.length) (h'.set ih.length (.dic (mrg ps))) else .no
      | _, _ => .no) (VR D) Q fun c d H' => W c d σ H' := p
    refine pr_sem h hr' l' _ (p'.evo0 hr' ev0) _ fun xs ps us ih1 ρ1 H1 e1 pv hr1 ev1 p1 => ?_
    have p2 : Post D ρ1 H1 (match ih1[ih.length]?, prs xs with
      | some (.dic []), some ps => if ps.length ≤ 15 ∧ (ps.all fun p => keyB p.1) = true then .ok (.ref ih.length) (ih1.set ih.length (.dic (mrg ps))) else .no
      | _, _ => .no) (VR D) Q fun c d H' => W c d σ H' := p1
    rw [e1] at p2
    have hq1 : ρ1[ih.length]? = some q := ev1.at_ hr.last
    cases eo : ih1[ih.length]? with
    | none => rw [eo] at p2; exact p2.elim
    | some o =>
      rw [eo] at p2
      cases o with
      | lst _ => exact p2.elim
      | ins _ _ => exact p2.elim
      | dic kvs =>
        cases kvs with
        | cons _ _ => exact p2.elim
        | nil =>
          obtain ⟨⟨c1, c2⟩, p3⟩ := ifp (F := fun r => Post D ρ1 H1 r (VR D) Q fun c d H' => W c d σ H') p2 fun z => z
          obtain ⟨ls, g1, g2⟩ := hr1.ob _ _ _ eo hq1
          cases g2
          obtain ⟨kvs, f1, f2, f3⟩ := pv.keys c2
          have ev4 : Ev ρ1 H1 ρ1 (upd H1 q (.dK (mergeK [] kvs))) := Ev.put (List.mem_of_getElem? hq1) _
          refine ⟨g1, kvs, f1, by omega, p3 ρ1 _ _ ev4 (hr1.put hq1 _ ⟨_, upd_same, ?_⟩) (.ref (by exact hq1))⟩
          exact KRs.evo hr1 ev4 (f3 [] [] .nil)
/-! ### places, parts, fields -/
theorem L_idx (hK : X.K = D.K) (hu : X.A.units + 80 < cLine) (ha : PE X a (sE D xa m cs ia W)) (hb : PE X b (sE D xa m cs ib W)) (hs : PlainIx b) : PE X (.Subscript a b pos) (sE D xa m cs (.idx ia ib) W) :=
  PEi (pe_ix (ox_ix hK hu) ha hb hs) fun σ H Q ⟨ρ, ih, s, hr, l, p⟩ => two hr l p fun x y ih2 ρ2 H2 u w hr2 _ vx vy p2 => ⟨ρ2, ih2, x, y, _, hr2, vx, vy, p2⟩
theorem O_none : PO X none (sO D xa m cs .no W) := POi po_none fun σ H Q ⟨ρ, ih, s, hr, l, p⟩ => p _ _ _ .refl hr rfl
theorem O_some (ha : PE X a (sE D xa m cs ia W)) : PO X (some a) (sO D xa m cs (.so ia) W) :=
  POi (po_some ha) fun σ H Q ⟨ρ, ih, s, hr, l, p⟩ => semR.bind hr l p fun x ih1 ρ1 H1 u e hr1 l1 ev vx p1 => by
    cases vx with
    | int i => exact ⟨i, rfl, p1 _ _ _ .refl hr1 rfl⟩
    | _ => exact p1.elim
theorem L_sl {lo hi : Option Expr} {il iu : IOp} {p2 : Pos} (hK : X.K = D.K) (ha : PE X a (sE D xa m cs ia W)) (hl : PO X lo (sO D xa m cs il W)) (hh : PO X hi (sO D xa m cs iu W)) : PE X (.Subscript a (.Slice lo hi none p2) pos) (sE D xa m cs (.sl ia il iu) W) :=
  PEi (pe_slice (os_sl hK) ha hl hh) fun σ H Q ⟨ρ, ih, s, hr, l, p⟩ => semR.bind hr l p fun x ih1 ρ1 H1 u e hr1 l1 ev vx p1 => semR.bind hr1 l1 p1 fun y ih2 ρ2 H2 w e2 hr2 l2 ev2 vy p2 => semR.bind hr2 l2 p2 fun z ih3 ρ3 H3 w3 e3 hr3 l3 ev3 vz p3 => by
    subst vy vz
    exact ⟨ρ3, ih3, x, _, hr3, (vx.evo hr1 ev2).evo hr2 ev3, p3⟩
theorem FRs.lookup {ρ : List Addr} {H : Hp} (hn : ∀ f g, D.nm f = D.nm g → f = g) (f : Nat) : ∀ {fs : List (Nat × IV)} {gs : List (Str × V)}, FRs D ρ H fs gs → (fs.lookup f = none ∧ gs.lookup (D.nm f) = none) ∨ ∃ x u, fs.lookup f = some x ∧ gs.lookup (D.nm f) = some u ∧ VR D ρ H x u
  | _, _, .nil => .inl ⟨rfl, rfl⟩
  | _, _, @FRs.cons _ _ _ g x u xs us q r => by
    by_cases h : f = g
    · subst h
      exact .inr ⟨x, u, by simp [List.lookup], by simp [List.lookup], q⟩
    · have h2 : D.nm f ≠ D.nm g := fun z => h (hn _ _ z)
      have e1 : ((g, x) :: xs).lookup f = xs.lookup f := by
        have : (f == g) = false := by simpa using h
        simp [List.lookup, this]
      have e2 : ((D.nm g, u) :: us).lookup (D.nm f) = us.lookup (D.nm f) := by
        have : (D.nm f == D.nm g) = false := by simpa using h2
        simp [List.lookup, this]
      rw [e1, e2]
      exact FRs.lookup hn f r
theorem L_fld {f : Nat} (hn : ∀ f g, D.nm f = D.nm g → f = g) (hc : ∀ c f, D.sg.fd c f = true → Cls X.K (D.cA c) ∧ NoAttr X.K (D.cA c) (D.nm f)) (ha : PE X a (sE D xa m cs ia W)) (hb : attributeBase a (D.nm f) X.env (eval a X.env) = eval a X.env) : PE X (.Attribute a (D.nm f) pos) (sE D xa m cs (.fld ia f) W) :=
  PEi (pe_fld ha hb) fun σ H Q ⟨ρ, ih, s, hr, l, p⟩ => semR.bind hr l p fun x ih1 ρ1 H1 u e hr1 l1 ev vx p1 => by
    cases vx with
    | @ref n ad q =>
      replace p1 : Post D ρ1 H1 (match ih1[n]? with
        | some (.ins c fs) => if D.sg.fd c f = true then opt (fs.lookup f) ih1 else .no
        | _ => .no) (VR D) Q (WE W σ) := p1
      cases eo : ih1[n]? with
      | none => rw [eo] at p1; exact p1.elim
      | some o =>
        rw [eo] at p1
        cases o with
        | ins c fs =>
          obtain ⟨cc, p1⟩ := ifp (F := fun r => Post D ρ1 H1 r (VR D) Q (WE W σ)) p1 fun z => z
          obtain ⟨dx, gs, h1, r⟩ := hr1.ob _ _ _ eo q
          obtain ⟨x, e1, p1⟩ := Post.opt p1
          obtain ⟨k1, k2⟩ := hc c f cc
          rcases r.lookup hn f with ⟨g1, _⟩ | ⟨x', u, g1, g2, g3⟩
          · rw [g1] at e1
            cases e1
          · rw [g1] at e1
            cases e1
            exact ⟨ad, D.cA c, dx, gs, u, rfl, h1, k1, k2, g2, p1.val hr1 g3⟩
        | lst _ => exact p1.elim
        | dic _ => exact p1.elim
    | _ => exact p1.elim
end
end Itp

/-! ItH: names, calls. -/
namespace Itp
open PySem PySem.Spec PyProof.Rows L2
def IA.len : IA → Nat
  | .nil => 0
  | .cons _ r => r.len + 1
theorem evA_len {G : Sg} {m : Bool} {cs : CF} : ∀ {es : IA} {s : En} {h h' : IH} {xs : List IV}, evA G m cs es s h = .ok xs h' → xs.length = es.len
  | .nil, s, h, h', xs, e => by cases e; rfl
  | .cons a r, s, h, h', xs, e => by
    have e' : ((evE G m cs a s h).bind fun x h => (evA G m cs r s h).bind fun xs h => .ok (x :: xs) h) = .ok xs h' := e
    cases e1 : evE G m cs a s h with
    | no => rw [e1] at e'; cases e'
    | ex c v k => rw [e1] at e'; cases e'
    | ok x h1 =>
      rw [e1] at e'
      have e'' : ((evA G m cs r s h1).bind fun xs h => .ok (x :: xs) h) = .ok xs h' := e'
      cases e2 : evA G m cs r s h1 with
      | no => rw [e2] at e''; cases e''
      | ex c v k => rw [e2] at e''; cases e''
      | ok ys h2 =>
        rw [e2] at e''
        cases e''
        exact congrArg Nat.succ (evA_len e2)
/-! ### arguments' form -/
def nostar : Expr → Bool
  | .Starred _ _ => false
  | _ => true
theorem star_ok {e : Expr} {es : List Expr} {env : Env} (h : nostar e = true) : starEach (e :: es) env = (false, eval e env) :: starEach es env := by
  cases e <;> first | rfl | cases h
theorem plain_ok {pos : Pos} {env : Env} : ∀ {es : List Expr}, es.all nostar = true → (backTo pos (starEach es env)).any (·.1) = false
  | [], _ => rfl
  | e :: es, h => by
    have h' := Bool.and_eq_true_iff.mp h
    rw [star_ok h'.1]
    show (false || (backTo pos (starEach es env)).any (·.1)) = false
    rw [plain_ok h'.2]
    rfl
theorem plain_all {pos : Pos} {env : Env} : ∀ {es : List Expr}, es.all nostar = true → (backTo pos (starEach es env)).all (fun x => !x.1) = true
  | [], _ => rfl
  | e :: es, h => by
    have h' := Bool.and_eq_true_iff.mp h
    rw [star_ok h'.1]
    show (true && (backTo pos (starEach es env)).all (fun x => !x.1)) = true
    rw [plain_all h'.2]
    rfl
def kwn : List Keyword → Option (List Str)
  | [] => some []
  | ⟨some x, _, _⟩ :: r => (kwn r).map (x :: ·)
  | _ => none
theorem kwn_ok {pos : Pos} {env : Env} : ∀ {kws : List Keyword} {ks : List Str}, kwn kws = some ks → (backToKw pos (keywordEach kws env)).all (·.1.isSome) = true ∧ (backToKw pos (keywordEach kws env)).filterMap (·.1) = ks ∧ (backToKw pos (keywordEach kws env)).any (·.1.isNone) = false ∧ (backToKw pos (keywordEach kws env)).length = ks.length
  | [], ks, h => by
    cases h
    exact ⟨rfl, rfl, rfl, rfl⟩
  | ⟨none, e, p⟩ :: r, ks, h => by cases h
  | ⟨some x, e, p⟩ :: r, ks, h => by
    obtain ⟨l, h1, h2⟩ := Option.map_eq_some_iff.mp (show (kwn r).map (x :: ·) = some ks from h)
    subst h2
    obtain ⟨a, b, c, d⟩ := kwn_ok (pos := pos) (env := env) h1
    refine ⟨?_, ?_, ?_, ?_⟩
    · show (true && (backToKw pos (keywordEach r env)).all (·.1.isSome)) = true
      rw [a]; rfl
    · show x :: (backToKw pos (keywordEach r env)).filterMap (·.1) = x :: l
      rw [b]
    · show (false || (backToKw pos (keywordEach r env)).any (·.1.isNone)) = false
      rw [c]; rfl
    · show (backToKw pos (keywordEach r env)).length + 1 = l.length + 1
      rw [d]
theorem kwn_len : ∀ {kws : List Keyword} {ks : List Str}, kwn kws = some ks → kws.length = ks.length
  | [], _, h => by cases h; rfl
  | ⟨none, _, _⟩ :: _, _, h => by cases h
  | ⟨some x, _, _⟩ :: r, ks, h => by
    obtain ⟨l, h1, h2⟩ := Option.map_eq_some_iff.mp (show (kwn r).map (x :: ·) = some ks from h)
    subst h2
    exact congrArg Nat.succ (kwn_len h1)
/-- no super() -/
def nosup : Expr → Bool
  | .Call (.Name x _) [] [] _ => x != "super"
  | _ => true
theorem base_ok {o : Expr} {f : Str} {env : Env} {whole : Sem Value} (h : nosup o = true) : attributeBase o f env whole = whole := by
  unfold attributeBase
  split
  · rename_i x _ _
    have h' : (x != "super") = true := h
    rw [if_pos (by rw [h']; rfl)]
  · rfl
section
variable {D : Dn} {X : Cx} {xa : XA} {W : WX} {m : Bool} {cs : CF} {e a b c : Expr} {es rest : List Expr} {kws : List Keyword} {pos apos p0 : Pos} {ia ib ic : IE} {ies iks : IA} {x : Str}
theorem L_var {i : Nat} (hN : X.N[i]? = some x) (hv : Vis X.env.scope x) (hd : (x == ("__debug__" : Str)) = false) (hcd : (x == ("__classdict__" : Str)) = false) : PE X (.Name x pos) (sE D xa m cs (.var i) W) :=
  PEi (pe_var hN hv hd hcd) fun σ H Q ⟨ρ, ih, s, hr, l, p⟩ => by
    obtain ⟨y, e1, p1⟩ := Post.opt (show Post D ρ H (opt (getV s i) ih) (VR D) Q (WE W σ) from p)
    obtain ⟨u, h1, h2⟩ := l.val e1
    exact ⟨u, h1, p1 _ _ _ .refl hr h2⟩
theorem L_int {i : Int} {j : Nat} : PE X (.Constant (.int i) j pos) (sE D xa m cs (.lit (.int i)) W) :=
  PEi pe_int fun σ H Q ⟨ρ, ih, s, hr, l, p⟩ => (show Post D ρ H (.ok (.int i) ih) (VR D) Q (WE W σ) from p) _ _ _ .refl hr (.int i)
theorem L_bl {i : Bool} {j : Nat} : PE X (.Constant (.bool i) j pos) (sE D xa m cs (.lit (.bl i)) W) :=
  PEi pe_bl fun σ H Q ⟨ρ, ih, s, hr, l, p⟩ => (show Post D ρ H (.ok (.bl i) ih) (VR D) Q (WE W σ) from p) _ _ _ .refl hr (.bl i)
theorem L_non {j : Nat} : PE X (.Constant .none j pos) (sE D xa m cs (.lit .non) W) :=
  PEi pe_non fun σ H Q ⟨ρ, ih, s, hr, l, p⟩ => (show Post D ρ H (.ok .non ih) (VR D) Q (WE W σ) from p) _ _ _ .refl hr .non
theorem L_str {i : Str} {j : Nat} : PE X (.Constant (.str i) j pos) (sE D xa m cs (.lit (.str i)) W) :=
  PEi pe_str fun σ H Q ⟨ρ, ih, s, hr, l, p⟩ => (show Post D ρ H (.ok (.str i) ih) (VR D) Q (WE W σ) from p) _ _ _ .refl hr (.str i)
theorem L_glo {i : Nat} (hg : Gl X x) (h : ∀ y, D.sg.glo[i]? = some y → ∃ v u, X.mg x = some u ∧ RelV v u ∧ ∀ ρ H, VR D ρ H y v) (hd : (x == ("__debug__" : Str)) = false) : PE X (.Name x pos) (sE D xa m cs (.glo i) W) :=
  ⟨fun pins s σ H Q I ⟨ρ, ih, sl, hr, l, p⟩ => by
    obtain ⟨y, e1, p1⟩ := Post.opt (show Post D ρ H (opt D.sg.glo[i]? ih) (VR D) Q (WE W σ) from p)
    obtain ⟨v, u, h1, h2, h3⟩ := h y e1
    exact (pe_glob (pos := pos) hg h1 h2 hd).run pins s σ H Q I (p1 _ _ _ .refl hr (h3 _ _))⟩
/-! ### keywords -/
theorem K_nil : PK X [] (sA D xa m cs .nil W) := ⟨fun pos pins s σ H Q I ⟨ρ, ih, sl, hr, l, p⟩ => pk_nil.run pos pins s σ H Q I (p _ _ _ .refl hr .nil)⟩
theorem K_cons {nm : Option Str} {kpos : Pos} (ha : PE X e (sE D xa m cs ia W)) (hb : PK X kws (sA D xa m cs ies W)) : PK X (⟨nm, e, kpos⟩ :: kws) (sA D xa m cs (.cons ia ies) W) :=
  ⟨fun pos pins s σ H Q I ⟨ρ, ih, sl, hr, l, p⟩ => (pk_cons ha hb).run pos pins s σ H Q I <| semR.bind hr l p fun x ih1 ρ1 H1 u e hr1 l1 ev vx p1 => semR.bind hr1 l1 p1 fun xs ih2 ρ2 H2 us e2 hr2 l2 ev2 vxs p2 => p2 _ _ _ .refl hr2 (.cons (vx.evo hr1 ev2) vxs)⟩
/-! ### own calls -/
section
variable {pins : List (Addr × Obj)} {σ : L2.St} {H : Hp} {s : Shared} {Q : VK} {ρ : List Addr} {ih : IH} {sl : En} {ks : List Str} {fv : Value} {first : List Value} {f : List IV → List IV → IH → R IV}
theorem call_args (hz : es.length = ies.len) (hk : PySem.W.keepIn X.K fv = true) (ha : PA X es (sA D xa m cs ies W)) (hkw : PK X kws (sA D xa m cs iks W)) (hst : es.all nostar = true) (hkn : kwn kws = some ks) (I : Inv X pins σ H s) (hr : HR D ρ ih H) (l : LR D ρ H xa sl σ)
    (p : Post D ρ H ((evA D.sg m cs ies sl ih).bind fun vs h => (evA D.sg m cs iks sl h).bind fun zs h => f vs zs h) (VR D) Q (WE W σ))
    (k : ∀ vs zs ih2 ρ2 H2 us ws xs s2, Inv X pins σ H2 s2 → HR D ρ2 ih2 H2 → Ev ρ H ρ2 H2 → VRs D ρ2 H2 (vs ++ zs) xs → Vals xs (us ++ ws) → us.length = ies.len → ws.length = iks.len → Post D ρ2 H2 (f vs zs ih2) (VR D) Q (WE W σ) → wpAny (model X.prog X.w) X.A (call fv (first ++ us) (ks.zip ws)) (EP X pins σ Q) X.xe s2) :
    wpAny (model X.prog X.w) X.A (callWith pos fv first (backTo pos (starEach es X.env)) (backToKw pos (keywordEach kws X.env))) (EP X pins σ Q) X.xe s := by
  obtain ⟨hall, hks, hno, _⟩ := kwn_ok (pos := pos) (env := X.env) hkn
  have A1 := ha.run pos pins s σ H (fun xs H1 => ∃ vs ih1 ρ1, HR D ρ1 ih1 H1 ∧ LR D ρ1 H1 xa sl σ ∧ Ev ρ H ρ1 H1 ∧ VRs D ρ1 H1 vs xs ∧ vs.length = ies.len ∧ Post D ρ1 H1 ((evA D.sg m cs iks sl ih1).bind fun zs h => f vs zs h) (VR D) Q (WE W σ)) I
    (semR.bind hr l p fun vs ih1 ρ1 H1 xs e hr1 l1 ev q p1 => ⟨vs, ih1, ρ1, hr1, l1, ev, q, evA_len e, p1⟩)
  have B : ∀ us s1 H1 xs vs ih1 ρ1, Inv X pins σ H1 s1 → Vals xs us → HR D ρ1 ih1 H1 → LR D ρ1 H1 xa sl σ → Ev ρ H ρ1 H1 → VRs D ρ1 H1 vs xs → vs.length = ies.len → Post D ρ1 H1 ((evA D.sg m cs iks sl ih1).bind fun zs h => f vs zs h) (VR D) Q (WE W σ) →
      wpAny (model X.prog X.w) X.A (evalAll ((backToKw pos (keywordEach kws X.env)).map (·.2))) (fun ws s2 => X.K.In s2.heap ∧ wpAny (model X.prog X.w) X.A (call fv (first ++ us) (((backToKw pos (keywordEach kws X.env)).filterMap (·.1)).zip ws)) (EP X pins σ Q) X.xe s2) X.xe s1 := by
    intro us s1 H1 xs vs ih1 ρ1 I1 rv hr1 l1 ev q hl p1
    refine thn (hkw.run pos pins s1 σ H1 (fun zs' H2 => ∃ zs ih2 ρ2, HR D ρ2 ih2 H2 ∧ Ev ρ1 H1 ρ2 H2 ∧ VRs D ρ2 H2 zs zs' ∧ zs.length = iks.len ∧ Post D ρ2 H2 (f vs zs ih2) (VR D) Q (WE W σ)) I1
      (semR.bind hr1 l1 p1 fun zs ih2 ρ2 H2 zs' e hr2 l2 ev2 q2 p2 => ⟨zs, ih2, ρ2, hr2, ev2, q2, evA_len e, p2⟩)) fun ws s2 ⟨zs', H2, I2, rz, zs, ih2, ρ2, hr2, ev2, q2, hl2, p2⟩ => ⟨I2.kIn, ?_⟩
    rw [hks]
    exact k vs zs ih2 ρ2 H2 us ws (xs ++ zs') s2 I2 hr2 (ev.trans hr1 ev2) ((q.evo hr1 ev2).append q2) (rv.append rz) (by rw [← hl, q.length, rv.length]) (by rw [← hl2, q2.length, rz.length]) p2
  cases es with
  | nil =>
    refine PySem.W.callWith_KW0 (h₀ := X.base) I.ok.mod.kin hk hall ?_ (by show (false || _) = false; rw [hno]; rfl)
    cases ies with
    | cons _ _ => cases hz
    | nil => exact B [] s H [] [] ih ρ I .nil hr l .refl .nil rfl p
  | cons e rest =>
    have h' := Bool.and_eq_true_iff.mp hst
    refine PySem.W.callWith_KW (h₀ := X.base) I.ok.mod.kin hk hall (thn A1 fun us s1 ⟨xs, H1, I1, rv, vs, ih1, ρ1, hr1, l1, ev, q, hl, p1⟩ => B us s1 H1 xs vs ih1 ρ1 I1 rv hr1 l1 ev q hl p1) (by rw [plain_ok hst, hno]; rfl) (star_ok h'.1)
end
/-- a def, as seen from a call: cs f's promise -/
structure FnC (D : Dn) (X : Cx) (k : Nat) (cs : CF) (f : Nat) (fa : Addr) (fd : FuncData) (ps : List Str) : Prop where
  ok : FnI X.prog X.w X.K X.mg X.base k fa fd ps (spI D ps.length (cs f))
  no : ∀ ws h, ws.length ≠ ps.length → cs f ws h = .no
theorem FnC.np {D : Dn} {X : Cx} {k : Nat} {cs : CF} {f : Nat} {fa : Addr} {fd : FuncData} {ps : List Str} (F : FnC D X k cs f fa fd ps) {ρ : List Addr} {H : Hp} {Q : VK} {W : Value → Option Addr → Hp → Prop} {ws : List IV} {ih : IH} (p : Post D ρ H (cs f ws ih) (VR D) Q W) : ws.length = ps.length := by
  by_cases h : ws.length = ps.length
  · exact h
  · rw [F.no ws ih h] at p
    exact p.elim
theorem L_call {k f : Nat} {fa : Addr} {fd : FuncData} {ps ks : List Str} {bs : List Bd} (hK : X.K = D.K) (tk : Takes X W) (hr : RoomI k X.A) (F : FnC D X k cs f fa fd ps) (hb : BindI D fd ps ies.len ks bs) (hg : Gl X x) (hm : X.mg x = some (.ref fa)) (hk : PySem.W.keepIn X.K (.ref fa) = true)
    (hz : es.length = ies.len) (ha : PA X es (sA D xa m cs ies W)) (hkw : PK X kws (sA D xa m cs iks W)) (hst : es.all nostar = true) (hkn : kwn kws = some ks) (hl : iks.len = ks.length) (hd : (x == ("__debug__" : Str)) = false) :
    PE X (.Call (.Name x p0) es kws pos) (sE D xa m cs (.call f ies iks bs) W) := by
  refine ⟨fun pins s σ H Q I ⟨ρ, ih, sl, hR, l, p⟩ => ?_⟩
  cases m with
  | true => exact False.elim p
  | false =>
    have p' : Post D ρ H ((evA D.sg false cs ies sl ih).bind fun vs h => (evA D.sg false cs iks sl h).bind fun zs h => match args (vs ++ zs) bs with
      | some ws => cs f ws h
      | none => .no) (VR D) Q (WE W σ) := p
    refine wpAny_Call_Name_kw (ld_glob I hg hm ?_ hd)
    refine call_args (first := []) hz hk ha hkw hst hkn I hR l p' fun vs zs ih2 ρ2 H2 us ws xs s2 I2 hR2 ev q rv l1 l2 p2 => ?_
    cases e : args (vs ++ zs) bs with
    | none => rw [e] at p2; exact p2.elim
    | some vw =>
      rw [e] at p2
      exact run_I hK F.ok rfl hr hb (passAt tk σ) I2 hR2 q rv l1 (l2.trans hl) e (F.np p2) p2
theorem L_new {k f c : Nat} {fa C : Addr} {fd : FuncData} {ps ks : List Str} {bs : List Bd} (hK : X.K = D.K) (tk : Takes X W) (hr : RoomI (k + 1) X.A) (hi : (D.sg.cls[c]?).bind (·.ini) = some f) (hC : C = D.cA c) (M : Mk X.K C fa) (F : FnC D X k cs f fa fd ps) (hb : BindI D fd ps (ies.len + 1) ks bs) (hg : Gl X x) (hm : X.mg x = some (.ref C))
    (hz : es.length = ies.len) (ha : PA X es (sA D xa m cs ies W)) (hkw : PK X kws (sA D xa m cs iks W)) (hst : es.all nostar = true) (hkn : kwn kws = some ks) (hl : iks.len = ks.length) (hd : (x == ("__debug__" : Str)) = false) :
    PE X (.Call (.Name x p0) es kws pos) (sE D xa m cs (.new c ies iks bs) W) := by
  refine ⟨fun pins s σ H Q I ⟨ρ, ih, sl, hR, l, p⟩ => ?_⟩
  cases m with
  | true => exact False.elim p
  | false =>
    have p' : Post D ρ H ((evA D.sg false cs ies sl ih).bind fun vs h => (evA D.sg false cs iks sl h).bind fun zs h => match (D.sg.cls[c]?).bind (·.ini), args (.ref h.length :: (vs ++ zs)) bs with
      | some f, some ws => (cs f ws (h ++ [.ins c []])).bind fun v h' => match v with
        | .non => .ok (.ref h.length) h'
        | _ => .no
      | _, _ => .no) (VR D) Q (WE W σ) := p
    refine wpAny_Call_Name_kw (ld_glob I hg hm ?_ hd)
    refine call_args (first := []) hz M.kp ha hkw hst hkn I hR l p' fun vs zs ih2 ρ2 H2 us ws xs s2 I2 hR2 ev q rv l1 l2 p2 => ?_
    rw [hi] at p2
    cases e : args (.ref ih2.length :: (vs ++ zs)) bs with
    | none => rw [e] at p2; exact p2.elim
    | some vw =>
      rw [e] at p2
      have hw : vw.length = ps.length := by
        by_cases h : vw.length = ps.length
        · exact h
        · replace p2 : Post D ρ2 H2 ((cs f vw (ih2 ++ [.ins c []])).bind fun v h' => match v with
            | .non => .ok (.ref ih2.length) h'
            | _ => .no) (VR D) Q (WE W σ) := p2
          rw [F.no vw _ h] at p2
          exact p2.elim
      exact run_newI hK hC M F.ok hr hb (passAt tk σ) I2 hR2 q rv l1 (l2.trans hl) e hw p2
theorem L_meth {k n : Nat} {o : Expr} {io : IE} {ks : List Str} {bs : List Bd} (hn : ∀ f g, D.nm f = D.nm g → f = g) (hK : X.K = D.K) (tk : Takes X W) (hr : RoomI k X.A)
    (hF : ∀ c f, D.sg.mt c n = some f → ∃ fa fd ps, Cls X.K (D.cA c) ∧ Meth X.K (D.cA c) (D.nm n) fa ∧ FnC D X k cs f fa fd ps ∧ BindI D fd ps (ies.len + 1) ks bs)
    (ho : PE X o (sE D xa m cs io W)) (hs : nosup o = true) (hz : es.length = ies.len) (ha : PA X es (sA D xa m cs ies W)) (hkw : PK X kws (sA D xa m cs iks W)) (hst : es.all nostar = true) (hkn : kwn kws = some ks) (hl : iks.len = ks.length) (h30 : es.length + ks.length < 29) (hline : (apos.endLine == pos.line) = true) :
    PE X (.Call (.Attribute o (D.nm n) apos) es kws pos) (sE D xa m cs (.meth n io ies iks bs) W) := by
  refine ⟨fun pins s σ H Q I ⟨ρ, ih, sl, hR, l, p⟩ => ?_⟩
  cases m with
  | true => exact False.elim p
  | false =>
    have p' : Post D ρ H ((evE D.sg false cs io sl ih).bind fun x h => match x with
      | .ref r => match h[r]? with
        | some (.ins c fs) => match D.sg.mt c n, fs.lookup n with
          | some f, none => (evA D.sg false cs ies sl h).bind fun vs h => (evA D.sg false cs iks sl h).bind fun zs h => match args (.ref r :: (vs ++ zs)) bs with
            | some ws => cs f ws h
            | none => .no
          | _, _ => .no
        | _ => .no
      | _ => .no) (VR D) Q (WE W σ) := p
    have hform : methodCallForm (es.length + kws.length) (backTo pos (starEach es X.env)) (backToKw pos (keywordEach kws X.env)) = true := by
      obtain ⟨k1, k2, k3, k4⟩ := kwn_ok (pos := pos) (env := X.env) hkn
      have k5 := kwn_len hkn
      unfold methodCallForm
      rw [plain_all hst, k1, k5]
      simp only [Bool.true_and, decide_eq_true_eq]
      split <;> omega
    refine PySem.W.methodCall_KW (pl := plainOf o X.env) ?_ (by rw [arm_eval_Call, base_ok hs]; simp only [mcall_line hform hline])
    refine thn (ho.run pins s σ H (fun y H1 => ∃ x ih1 ρ1, HR D ρ1 ih1 H1 ∧ LR D ρ1 H1 xa sl σ ∧ VR D ρ1 H1 x y ∧ Post D ρ1 H1 (match x with
      | .ref r => match ih1[r]? with
        | some (.ins c fs) => match D.sg.mt c n, fs.lookup n with
          | some f, none => (evA D.sg false cs ies sl ih1).bind fun vs h => (evA D.sg false cs iks sl h).bind fun zs h => match args (.ref r :: (vs ++ zs)) bs with
            | some ws => cs f ws h
            | none => .no
          | _, _ => .no
        | _ => .no
      | _ => .no) (VR D) Q (WE W σ)) I (semR.bind hR l p' fun x ih1 ρ1 H1 y e hr1 l1 ev q p1 => ⟨x, ih1, ρ1, hr1, l1, q, p1⟩)) fun u s1 ⟨y, H1, I1, ry, x, ih1, ρ1, hR1, l1, q, p1⟩ => ?_
    cases q with
    | @ref r ad q =>
      replace p1 : Post D ρ1 H1 (match ih1[r]? with
        | some (.ins c fs) => match D.sg.mt c n, fs.lookup n with
          | some f, none => (evA D.sg false cs ies sl ih1).bind fun vs h => (evA D.sg false cs iks sl h).bind fun zs h => match args (.ref r :: (vs ++ zs)) bs with
            | some ws => cs f ws h
            | none => .no
          | _, _ => .no
        | _ => .no) (VR D) Q (WE W σ) := p1
      cases eo : ih1[r]? with
      | none => rw [eo] at p1; exact p1.elim
      | some ob =>
        rw [eo] at p1
        cases ob with
        | lst _ => exact p1.elim
        | dic _ => exact p1.elim
        | ins c fs =>
          obtain ⟨dx, gs, h1, rg⟩ := hR1.ob _ _ _ eo q
          replace p1 : Post D ρ1 H1 (match D.sg.mt c n, fs.lookup n with
            | some f, none => (evA D.sg false cs ies sl ih1).bind fun vs h => (evA D.sg false cs iks sl h).bind fun zs h => match args (.ref r :: (vs ++ zs)) bs with
              | some ws => cs f ws h
              | none => .no
            | _, _ => .no) (VR D) Q (WE W σ) := p1
          cases ef : D.sg.mt c n with
          | none => rw [ef] at p1; exact p1.elim
          | some f =>
            cases el : fs.lookup n with
            | some _ => rw [ef, el] at p1; exact p1.elim
            | none =>
              rw [ef, el] at p1
              obtain ⟨fa, fd, ps, k1, k2, F, hb⟩ := hF c f ef
              have hlook : gs.lookup (D.nm n) = none := by
                rcases rg.lookup hn n with ⟨_, z⟩ | ⟨_, _, z, _⟩
                · exact z
                · rw [el] at z; cases z
              cases ry
              refine getmeth_ok I1 h1 k1 k2 hlook ?_
              refine call_args (first := [.ref ad]) hz k2.kp ha hkw hst hkn I1 hR1 l1 p1 fun vs zs ih2 ρ2 H2 us ws xs s2 I2 hR2 ev q' rv l1 l2 p2 => ?_
              cases e : args (.ref r :: (vs ++ zs)) bs with
              | none => rw [e] at p2; exact p2.elim
              | some vw =>
                rw [e] at p2
                exact run_I (us := .ref ad :: us) (vs := .ref r :: (vs ++ zs)) (xs := .ref ad :: xs) hK F.ok rfl hr hb (passAt tk σ) I2 hR2 (.cons (.ref (ev.at_ q)) q') (.cons rfl rv) (congrArg Nat.succ l1) (l2.trans hl) e (F.np p2) p2
    | _ => exact p1.elim
end
end Itp

/-! ItI: built-in functions, isinstance, list methods. -/
namespace Itp
open PySem PySem.Spec PyProof.Rows L2
def Bi.nm : Bi → Str
  | .len => "len"
  | .abs => "abs"
  | .int => "int"
  | .bool => "bool"
  | .str => "str"
  | .list => "list"
  | .tuple => "tuple"
  | .sum => "sum"
  | .max => "max"
  | .min => "min"
  | .any => "any"
  | .all => "all"
  | .sorted => "sorted"
  | .repr => "repr"
section
variable {D : Dn} {X : Cx} {xa : XA} {W : WX} {m : Bool} {cs : CF} {e a b c : Expr} {es rest : List Expr} {kws : List Keyword} {pos apos p0 p1 : Pos} {ia ib ic : IE} {ies iks : IA} {x : Str}
theorem L_bi (hK : X.K = D.K) (hu : X.A.units + 80 < cLine) (hg : X.A.guards = some []) (hc : m = false → X.calm = true) (k : Bi) (g : Gl X k.nm) (hm : X.mg k.nm = none) (ha : PA X (e :: es) (sA D xa m cs ies W)) (hst : (e :: es).all nostar = true) : PE X (.Call (.Name k.nm p0) (e :: es) [] pos) (sE D xa m cs (.bi k ies) W) := by
  have h' := Bool.and_eq_true_iff.mp hst
  have s1 := star_ok (es := es) (env := X.env) h'.1
  have s2 := plain_ok (pos := pos) (env := X.env) h'.2
  by_cases hh : m = true ∧ k.hot = false
  · refine ⟨fun pins s σ H Q I ⟨ρ, ih, sl, hr, l, p⟩ => ?_⟩
    have p' : Post D ρ H (if m = true ∧ k.hot = false then .no else (evA D.sg m cs ies sl ih).bind fun vs h => biF k vs h) (VR D) Q (WE W σ) := p
    rw [if_pos hh] at p'
    exact p'.elim
  · have hc' : k.hot = false → X.calm = true := fun z => hc (by
      cases m with
      | false => rfl
      | true => exact absurd ⟨rfl, z⟩ hh)
    have key : ∀ σ H Q, sE D xa m cs (.bi k ies) W σ H Q → tCB (semL D (biF k)) (sA D xa m cs ies W) σ H Q := fun σ H Q ⟨ρ, ih, s, hr, l, p⟩ => by
      have p' : Post D ρ H (if m = true ∧ k.hot = false then .no else (evA D.sg m cs ies s ih).bind fun vs h => biF k vs h) (VR D) Q (WE W σ) := p
      rw [if_neg hh] at p'
      exact semR.bind hr l p' fun vs ih1 ρ1 H1 us e hr1 l1 ev q p1 => ⟨ρ1, ih1, vs, _, hr1, q, p1⟩
    cases k with
    | len => exact PEi (pe_callB (cb_len hK) g hm rfl ha (by decide) (by decide) s1 s2) key
    | abs => exact PEi (pe_callB cb_abs g hm rfl ha (by decide) (by decide) s1 s2) key
    | int => exact PEi (pe_callTy cb_int g hm rfl ha (by decide) (by decide) s1 s2) key
    | bool => exact PEi (pe_callTy cb_bool g hm rfl ha (by decide) (by decide) s1 s2) key
    | str => exact PEi (pe_callTy cb_str g hm rfl ha (by decide) (by decide) s1 s2) key
    | list => exact PEi (pe_callTy (cb_list hK) g hm rfl ha (by decide) (by decide) s1 s2) key
    | tuple => exact PEi (pe_callTy (cb_tuple hK) g hm rfl ha (by decide) (by decide) s1 s2) key
    | sum => exact PEi (pe_callB (cb_sum (hc' rfl) hK) g hm rfl ha (by decide) (by decide) s1 s2) key
    | max => exact PEi (pe_callB (cb_max (hc' rfl) hK hu) g hm rfl ha (by decide) (by decide) s1 s2) key
    | min => exact PEi (pe_callB (cb_min (hc' rfl) hK hu) g hm rfl ha (by decide) (by decide) s1 s2) key
    | any => exact PEi (pe_callB (cb_any (hc' rfl) hK) g hm rfl ha (by decide) (by decide) s1 s2) key
    | all => exact PEi (pe_callB (cb_all (hc' rfl) hK) g hm rfl ha (by decide) (by decide) s1 s2) key
    | sorted => exact PEi (pe_callB (cb_sorted hK) g hm rfl ha (by decide) (by decide) s1 s2) key
    | repr => exact PEi (pe_callB (cb_repr hK hu hg) g hm rfl ha (by decide) (by decide) s1 s2) key
/-! ### isinstance -/
def IC.v (D : Dn) : IC → V
  | .int => .ty "int"
  | .bool => .ty "bool"
  | .str => .ty "str"
  | .list => .ty "list"
  | .tuple => .ty "tuple"
  | .dict => .ty "dict"
  | .own c => .ref (D.cA c)
def IC.u (D : Dn) : IC → Value
  | .int => .type "int"
  | .bool => .type "bool"
  | .str => .type "str"
  | .list => .type "list"
  | .tuple => .type "tuple"
  | .dict => .type "dict"
  | .own c => .ref (D.cA c)
def IC.nm (cn : Nat → Str) : IC → Str
  | .int => "int"
  | .bool => "bool"
  | .str => "str"
  | .list => "list"
  | .tuple => "tuple"
  | .dict => "dict"
  | .own c => cn c
def IC.bt : IC → Bool
  | .own _ => false
  | _ => true
theorem IC.cv (D : Dn) (c : IC) : ClsV (c.v D) (c.u D) := by
  cases c with
  | own c => exact .own _
  | _ => exact .ty _
def tyNs : List String := ["NoneType", "bool", "int", "str", "tuple", "list", "dict"]
/-- what isinstance asks of the own classes -/
structure IsF (D : Dn) : Prop where
  own : ∀ k ki, D.sg.cls[k]? = some ki → ki.exf.isNone = true → Cls D.K (D.cA k) ∧ PySem.W.findIn D.K (.ref (D.cA k)) "__class__" = some (some (.builtin "object.__class__")) ∧ PySem.W.specialIn D.K (.builtin "object.__class__") "__get__" = some (some (.builtin "getset_descriptor.__get__")) ∧
    PySem.W.takesIn D.K (.builtin "object.__class__") = some true ∧ PySem.W.mroIn D.K (D.cA k) (.type "object") = some true
  oo : ∀ k ki d, D.sg.cls[k]? = some ki → ki.exf.isNone = true → d < D.sg.cls.length → PySem.W.kitOne D.K (.ref (D.cA k)) (.ref (D.cA d)) = some (ki.par.contains d)
  ob : ∀ k ki t, D.sg.cls[k]? = some ki → ki.exf.isNone = true → t ∈ tyNs → PySem.W.kitOne D.K (.ref (D.cA k)) (.type t) = some false
  bo : ∀ t d, t ∈ tyNs → d < D.sg.cls.length → PySem.W.kitOne D.K (.type t) (.ref (D.cA d)) = some false
def IC.ok (D : Dn) : IC → Prop
  | .own d => d < D.sg.cls.length
  | _ => True
theorem IC.u_bt {D : Dn} {c : IC} : (∃ d, c = .own d) ∨ ∃ t ∈ tyNs, c.u D = .type t := by
  cases c with
  | own d => exact .inl ⟨d, rfl⟩
  | _ => exact .inr ⟨_, by decide, rfl⟩
/-- a value's type, and isinstance's answers by it -/
theorem ty_V (F : IsF D) {ρ : List Addr} {H : Hp} {ih : IH} {x : IV} {u : V} (hr : HR D ρ ih H) (r : VR D ρ H x u) : (∀ c, isC D.sg x ih c = none) ∨ ∃ t, TyX D.K H u t ∧ ∀ c b, c.ok D → isC D.sg x ih c = some b → PySem.W.kitOne D.K t (c.u D) = some b := by
  have plain : ∀ (t : String), t ∈ tyNs → ∀ (c : IC) (b : Bool), c.ok D → (∀ d, c = .own d → b = false) → (c.bt = true → kitB t (match c with | .int => "int" | .bool => "bool" | .str => "str" | .list => "list" | .tuple => "tuple" | .dict => "dict" | .own _ => "") = some b) → PySem.W.kitOne D.K (.type t) (c.u D) = some b := by
    intro t ht c b hc ho hb
    cases c with
    | own d => rw [ho d rfl]; exact F.bo t d ht hc
    | _ => exact kit_ty (hb rfl)
  cases r with
  | non => exact .inr ⟨_, .base .non, fun c b hc e => plain "NoneType" (by decide) c b hc (fun d q => by cases e; rfl) (fun z => by cases e; cases c <;> first | decide +kernel | cases z)⟩
  | bl k => exact .inr ⟨_, .base (.bl k), fun c b hc e => plain "bool" (by decide) c b hc (fun d q => by subst q; cases e; rfl) (fun z => by cases e; cases c <;> first | decide +kernel | cases z)⟩
  | int k => exact .inr ⟨_, .base (.int k), fun c b hc e => plain "int" (by decide) c b hc (fun d q => by subst q; cases e; rfl) (fun z => by cases e; cases c <;> first | decide +kernel | cases z)⟩
  | str k => exact .inr ⟨_, .base (.str k), fun c b hc e => plain "str" (by decide) c b hc (fun d q => by subst q; cases e; rfl) (fun z => by cases e; cases c <;> first | decide +kernel | cases z)⟩
  | @tup xs us a q _ =>
    have T : TyX D.K H (.ref a) (.type "tuple") := by
      rcases q with (q | ⟨o, q⟩) | ⟨o, its, n, q, h1, _⟩
      · exact .base (.tup q)
      · exact .fTuple q
      · exact .kTuple q h1
    exact .inr ⟨_, T, fun c b hc e => plain "tuple" (by decide) c b hc (fun d q => by subst q; cases e; rfl) (fun z => by cases e; cases c <;> first | decide +kernel | cases z)⟩
  | @frz xs us a q _ =>
    have T : TyX D.K H (.ref a) (.type "list") := by
      rcases q with ⟨o, q⟩ | ⟨o, its, n, q, h1, _⟩
      · exact .base (.frz q)
      · exact .kList q h1
    exact .inr ⟨_, T, fun c b hc e => plain "list" (by decide) c b hc (fun d q => by subst q; cases e; rfl) (fun z => by cases e; cases c <;> first | decide +kernel | cases z)⟩
  | @ref n a q =>
    cases eo : ih[n]? with
    | none => exact .inl fun c => by unfold isC; simp only [eo]
    | some o =>
      have z := hr.ob n o a eo q
      cases o with
      | lst xs =>
        obtain ⟨us, h1, _⟩ := z
        exact .inr ⟨_, .base (.lst h1), fun c b hc e => by
          unfold isC at e
          simp only [eo] at e
          exact plain "list" (by decide) c b hc (fun d q => by subst q; cases e; rfl) (fun z => by cases e; cases c <;> first | decide +kernel | cases z)⟩
      | dic xs =>
        obtain ⟨us, h1, _⟩ := z
        exact .inr ⟨_, .base (.dK h1), fun c b hc e => by
          unfold isC at e
          simp only [eo] at e
          exact plain "dict" (by decide) c b hc (fun d q => by subst q; cases e; rfl) (fun z => by cases e; cases c <;> first | decide +kernel | cases z)⟩
      | ins k fs =>
        obtain ⟨dx, gs, h1, _⟩ := z
        cases ek : D.sg.cls[k]? with
        | none => exact .inl fun c => by unfold isC; simp only [eo, ek]
        | some ki =>
          cases ex : ki.exf.isNone with
          | false => exact .inl fun c => by unfold isC; simp only [eo, ek, ex]; rfl
          | true =>
            obtain ⟨k1, k2, k3, k4, k5⟩ := F.own k ki ek ex
            refine .inr ⟨_, .base (.ins h1 k1 k2 k3 k4 k5), fun c b hc e => ?_⟩
            unfold isC at e
            simp only [eo, ek, ex] at e
            cases c with
            | own d => cases e; exact F.oo k ki d ek ex hc
            | _ => cases e; exact F.ob k ki _ ek ex (by decide)
theorem isAny_V (F : IsF D) {ρ : List Addr} {H : Hp} {ih : IH} {x : IV} {u : V} (hr : HR D ρ ih H) (r : VR D ρ H x u) : ∀ {ks : List IC} {b : Bool}, ks ≠ [] → (∀ c ∈ ks, c.ok D) → isAny D.sg x ih ks = some b → ∃ t, TyX D.K H u t ∧ PySem.W.kitAny D.K t (ks.map (IC.u D)) = some b := by
  intro ks b hn ho e
  rcases ty_V F hr r with z | ⟨t, ty, z⟩
  · cases ks with
    | nil => exact absurd rfl hn
    | cons c r => unfold isAny at e; rw [z c] at e; cases e
  · refine ⟨t, ty, ?_⟩
    clear hn
    induction ks generalizing b with
    | nil => cases e; exact kitAny_nil
    | cons c r ih2 =>
      unfold isAny at e
      cases ec : isC D.sg x ih c with
      | none => rw [ec] at e; cases e
      | some k =>
        rw [ec] at e
        refine kitAny_cons (z c k (ho c List.mem_cons_self) ec) (fun q => ?_) (fun q => ?_)
        · subst q
          exact ih2 (fun d hd => ho d (List.mem_cons_of_mem _ hd)) e
        · subst q
          cases e
          rfl
theorem cv_all (D : Dn) : ∀ ks : List IC, Paired ClsV (ks.map (IC.v D)) (ks.map (IC.u D))
  | [] => .nil
  | k :: r => .cons (k.cv D) (cv_all D r)
/-- a class's name -/
def ClE (D : Dn) (X : Cx) (c : IC) (x : Str) : Prop := Gl X x ∧ (x == ("__debug__" : Str)) = false ∧ ((x ≠ "__name__" ∧ X.mg x = none ∧ bootBuiltins x = some (c.u D)) ∨ X.mg x = some (c.u D))
theorem pe_cle {k : IC} (h : ClE D X k x) : PE X (.Name x pos) (tC (k.v D)) := by
  obtain ⟨g, d, h⟩ := h
  have r : RelV (k.v D) (k.u D) := by cases k <;> rfl
  rcases h with ⟨n, h1, h2⟩ | h
  · exact pe_bltn g h1 h2 r n d
  · exact pe_glob g h r d
inductive ClEs (D : Dn) (X : Cx) : List IC → List Expr → Prop
  | nil : ClEs D X [] []
  | cons {k : IC} {x : Str} {p : Pos} {ks : List IC} {es : List Expr} : ClE D X k x → ClEs D X ks es → ClEs D X (k :: ks) (.Name x p :: es)
theorem pa_cles {ks : List IC} {es : List Expr} (h : ClEs D X ks es) : PA X es (fun _ H Q => Q (ks.map (IC.v D)) H) := by
  induction h with
  | nil => exact PAi pa_nil fun σ H Q q => q
  | cons h _ ih => exact PAi (pa_cons (pe_cle h) ih rfl) fun σ H Q q => q
theorem booB {ρ : List Addr} {H : Hp} {ih : IH} {o : Option Bool} {Q : VK} {W : Value → Option Addr → Hp → Prop} (p : Post D ρ H (boo o ih) (VR D) Q W) : ∃ b, o = some b ∧ Post D ρ H (.ok (.bl b) ih) (VR D) Q W := by
  cases o with
  | none => exact p.elim
  | some b => exact ⟨b, rfl, p⟩
theorem L_isi1 (F : IsF D) (hK : X.K = D.K) {k : IC} (hg : Gl X "isinstance") (hm : X.mg "isinstance" = none) (ha : PE X a (sE D xa m cs ia W)) (hs : nostar a = true) (hk : ClE D X k x) (ho : k.ok D) : PE X (.Call (.Name "isinstance" p0) [a, .Name x p1] [] pos) (sE D xa m cs (.isi ia [k]) W) :=
  PEi (pe_callB (call_isi) hg hm rfl (pa_cons ha (pa_cons (pe_cle hk) pa_nil rfl) (star_ok hs)) (by decide) (by decide) (star_ok hs) rfl) fun σ H Q ⟨ρ, ih, s, hr, l, p⟩ => semR.bind hr l p fun x ih1 ρ1 H1 u e hr1 l1 ev vx p1 => by
    obtain ⟨b, e1, p2⟩ := booB p1
    obtain ⟨t, ty, h⟩ := isAny_V F hr1 vx (by simp) (fun c hc => by rw [List.mem_singleton.mp hc]; exact ho) e1
    rw [← hK] at ty h
    have h1 : PySem.W.kitOne X.K t (k.u D) = some b := by
      have h' : PySem.W.kitAny X.K t [k.u D] = some b := h
      unfold PySem.W.kitAny at h'
      cases q : PySem.W.kitOne X.K t (k.u D) with
      | none => rw [q] at h'; cases h'
      | some k2 =>
        rw [q] at h'
        cases k2 with
        | true => cases h'; rfl
        | false => cases h'; rfl
    exact ⟨u, k.v D, t, k.u D, b, rfl, k.cv D, ty, h1, p2.val hr1 (.bl b)⟩
theorem L_isiN (F : IsF D) (hK : X.K = D.K) {ks : List IC} {n : Nat} (hn : ks ≠ []) (hg : Gl X "isinstance") (hm : X.mg "isinstance" = none) (ha : PE X a (sE D xa m cs ia W)) (hs : nostar a = true) (hk : ClEs D X ks es) (ho : ∀ c ∈ ks, c.ok D) (hl : ks.length ≤ sizeLine) : PE X (.Call (.Name "isinstance" p0) [a, .Tuple es n p1] [] pos) (sE D xa m cs (.isi ia ks) W) :=
  PEi (pe_callB (call_isiT) hg hm rfl (pa_cons ha (pa_cons (pe_tup (pa_cles hk)) pa_nil rfl) (star_ok hs)) (by decide) (by decide) (star_ok hs) rfl) fun σ H Q ⟨ρ, ih, s, hr, l, p⟩ => semR.bind hr l p fun x ih1 ρ1 H1 u e hr1 l1 ev vx p1 => by
    obtain ⟨b, e1, p2⟩ := booB p1
    refine ⟨by rw [List.length_map]; exact hl, fun q hq => ?_⟩
    have ev2 : Ev ρ1 H1 ρ1 (upd H1 q (.tup (ks.map (IC.v D)))) := Ev.lay hq _
    have hr2 := hr1.lay hq (.tup (ks.map (IC.v D)))
    obtain ⟨t, ty, h⟩ := isAny_V F hr2 (vx.evo hr1 ev2) hn ho e1
    rw [← hK] at ty h
    have cv : Paired ClsV (ks.map (IC.v D)) (ks.map (IC.u D)) := by
      exact cv_all D ks
    exact ⟨u, q, ks.map (IC.v D), t, ks.map (IC.u D), b, rfl, upd_same, cv, ty, h, p2 _ _ _ ev2 hr2 (.bl b)⟩
end
end Itp

/-! ItIa: == and != of instances with an own __eq__. -/
namespace Own
open PySem PySem.W PyProof.Rows
section
variable {M : Model} {prog : Program} {w : World} {A : Around} {E : Value → Shared → Prop} {s : Shared} {K : Frag} {x C f L : Addr} {ox : Obj} {od : Option Obj} {b tb : Value} {h₀ : Heap} {m : Str → Option Value}
theorem ifBound_ne {args : List Value} {Q : Option Value → Shared → Prop} (X : K.In s.heap) (I : InstAt s.heap x ox C od) (hs : findIn K (.ref C) "__ne__" = some (some (.builtin "object.__ne__")))
    (h : wpAny M A (call (.builtin "object.__ne__") (.ref x :: args)) (fun v => Q (some v)) E s) : wpAny M A (callSpecialIfBound? (.ref x) "__ne__" args) Q E s := by
  simp only [callSpecialIfBound?, bindSpecialIfBound?]
  refine wpAny_holding (wpAny_bind (wpAny_bind (wpAny_bind (I.type.here ((looks_findIn X hs).here ?_)))))
  refine wpAny_bind (wpAny_askSetting (wpAny_ite ?_))
  have fin : wpAny M A (call (.builtin "object.__ne__") ([.ref x] ++ args) >>= fun v => pure (some v)) Q E s := wpAny_bind (wpAny_mono h (fun v s' h' => wpAny_pure h') fun _ _ h' => h')
  split
  · exact wpAny_bind (wpAny_of_eq (F.cmp_object.ne.bind _) (wpAny_pure (by exact fin)))
  · exact wpAny_tryCatch (wpAny_bind (wpAny_of_eq (F.cmp_object.ne.bind _) (wpAny_pure (by exact fin))))
theorem entry_ne {Q : Fin → Shared → Prop} (hu : A.units < cLine) (X : K.In s.heap) (I : InstAt s.heap x ox C od) (hs : findIn K (.ref C) "__eq__" = some (some (.ref f))) (hf : isFn K (.ref f) = true)
    (hcall : wpAny (model prog w) A (call (.ref f) [.ref x, b]) (fun v s' => ∃ k, v = .bool k ∧ Q (.done (.ret (.bool (!k)))) s') E s) : wpAny (model prog w) A (Builtin.«object.__ne__» ⟨[.ref x, b], []⟩) Q E s := by
  unfold Builtin.«object.__ne__»
  repeat (first
    | with_reducible refine wpAny_cRoomFor hu ?_
    | (refine wpAny_bind (m := callSpecialIfBound? (.ref x) (Str.ofString "__eq__") [b])
        (ifBound_K X I hs hf (wpAny_mono hcall (fun r s' hr => by
          obtain ⟨k, rfl, hq⟩ := hr
          repeat (first | exact hq | exact wpAny_pure hq | exact wpAny_truthy_bool hq | (refine wpAny_bind (m := truthy (.bool _)) (wpAny_truthy_bool ?_)) | wp_step)) fun _ _ e => e)))
    | wp_step)
theorem ne_K {Q : Value → Shared → Prop} (hu : A.units + 1 < cLine) (F₀ : Fr h₀ L s.heap m) (X₀ : K.In h₀) (I : InstAt s.heap x ox C od) (hb : Looks (model prog w) s.heap (typeOf b) tb) (hn : notFirst K C tb = true)
    (hs : findIn K (.ref C) "__eq__" = some (some (.ref f))) (hf : isFn K (.ref f) = true) (hne : findIn K (.ref C) "__ne__" = some (some (.builtin "object.__ne__"))) (hm : mroIn K C (.type "object") = some true)
    (h : wpAny (model prog w) A.in1 (call (.ref f) [.ref x, b]) (fun v s' => ∃ k, v = .bool k ∧ Q (.bool (!k)) s') E s) : wpAny (model prog w) A (richCompare .NotEq (.ref x) b) Q E s := by
  have X := X₀.keeps F₀.keep
  have one : wpAny (model prog w) A (tryCompare (.ref x) "__ne__" b) (fun r s' => ∃ v, r = some v ∧ Q v s') E s := by
    unfold tryCompare
    refine wpAny_bind (ifBound_ne X I hne (wpAny_call (codeAny_call_builtin F.cmp_object.ne.plain F.cmpEntry_ne (check_slot F.cmpKind_ne F.cmpSplit_ne (I.type.andThen (looks_mroIn X hm)) (F.cmpArgs_ne _ _)
      (entry_ne (A := A.in1) hu X I hs hf (wpAny_mono h (fun v s' hv => ?_) fun _ _ e => e))))))
    obtain ⟨k, rfl, hq⟩ := hv
    first | exact ⟨k, rfl, wpAny_pure ⟨_, rfl, hq⟩⟩ | exact ⟨k, rfl, wpAny_pure (wpAny_pure ⟨_, rfl, hq⟩)⟩ | exact ⟨k, rfl, ⟨_, rfl, hq⟩⟩
  unfold richCompare
  simp only [oneThing_ref]
  refine wpAny_holding (wpAny_bind (wpAny_cRoomFor (Nat.lt_of_succ_lt hu) ?_))
  rw [cmpInfo_NotEq]
  dsimp only
  refine wpAny_bind (I.type.here (wpAny_bind (hb.here ?_)))
  split
  · rename_i q
    have e : subIn K tb (.ref C) = some false := by
      rcases Bool.or_eq_true_iff.mp hn with e | e
      · rw [beq_iff_eq.mp e] at q; simp at q
      · exact beq_iff_eq.mp e
    refine wpAny_bind ((looks_subIn X e).here ?_)
    simp only [Bool.false_eq_true, if_false]
    refine wpAny_bind (wpAny_mono one (fun r s' z => ?_) fun _ _ e => e)
    obtain ⟨v, rfl, hq⟩ := z
    exact wpAny_pure hq
  · refine wpAny_bind (wpAny_pure ?_)
    simp only [Bool.false_eq_true, if_false]
    refine wpAny_bind (wpAny_mono one (fun r s' z => ?_) fun _ _ e => e)
    obtain ⟨v, rfl, hq⟩ := z
    exact wpAny_pure hq
theorem sub_ty {T : String} (hT : T ∈ ["NoneType", "bool", "int", "str", "tuple", "list", "dict"]) : subIn K (.type T) (.ref C) = some false := by
  have key : ∀ (l : List String), (fastBuiltinMro T) = some (l.map Value.type) → subIn K (.type T) (.ref C) = some false := fun l e => by
    show (fastBuiltinMro T).map (·.contains (.ref C)) = some false
    rw [e]
    show some ((l.map Value.type).contains (.ref C)) = some false
    congr 1
    induction l with
    | nil => rfl
    | cons a l ih => simpa using ih
  simp only [List.mem_cons, List.not_mem_nil, or_false] at hT
  rcases hT with rfl | rfl | rfl | rfl | rfl | rfl | rfl
  · exact key ["NoneType", "object"] (by decide +kernel)
  · exact key ["bool", "int", "object"] (by decide +kernel)
  · exact key ["int", "object"] (by decide +kernel)
  · exact key ["str", "object"] (by decide +kernel)
  · exact key ["tuple", "object"] (by decide +kernel)
  · exact key ["list", "object"] (by decide +kernel)
  · exact key ["dict", "object"] (by decide +kernel)
end
end Own
namespace Itp
open PySem PySem.Spec PyProof.Rows L2
section
variable {D : Dn} {X : Cx} {xa : XA} {W : WX} {m : Bool} {cs : CF} {a b : Expr} {pos : Pos} {ia ib : IE} {ne : Bool} {n k : Nat}
def semOw (D : Dn) (ne : Bool) (n : Nat) (cs : CF) : R2 := fun u w H Q => ∃ ρ ih x y W, HR D ρ ih H ∧ VR D ρ H x u ∧ VR D ρ H y w ∧ Post D ρ H (ocmF D.sg cs ne n x y ih) (VR D) Q W
theorem ty_Y {ρ : List Addr} {H : Hp} {ih : IH} {c : Nat} {y : IV} {u : V} {K : PySem.W.Frag} {C : Addr} (F : IsF D) (hr : HR D ρ ih H) (r : VR D ρ H y u) (e : ocmY c y ih = true) (hx : ∃ ki, D.sg.cls[c]? = some ki ∧ ki.exf.isNone = true) (hK : K = D.K) (hC : C = D.cA c) :
    ∃ t, TyX D.K H u t ∧ PySem.W.notFirst K C t = true := by
  have pl : ∀ {T : String}, T ∈ ["NoneType", "bool", "int", "str", "tuple", "list", "dict"] → PySem.W.notFirst K C (.type T) = true := fun hT => by
    unfold PySem.W.notFirst
    rw [Own.sub_ty hT]
    simp
  cases r with
  | non => exact ⟨_, .base .non, pl (by simp)⟩
  | bl k => exact ⟨_, .base (.bl k), pl (by simp)⟩
  | int k => exact ⟨_, .base (.int k), pl (by simp)⟩
  | str k => exact ⟨_, .base (.str k), pl (by simp)⟩
  | @tup xs us a q _ =>
    have T : TyX D.K H (.ref a) (.type "tuple") := by
      rcases q with (q | ⟨o, q⟩) | ⟨o, its, n, q, h1, _⟩
      · exact .base (.tup q)
      · exact .fTuple q
      · exact .kTuple q h1
    exact ⟨_, T, pl (by simp)⟩
  | @frz xs us a q _ =>
    have T : TyX D.K H (.ref a) (.type "list") := by
      rcases q with ⟨o, q⟩ | ⟨o, its, n, q, h1, _⟩
      · exact .base (.frz q)
      · exact .kList q h1
    exact ⟨_, T, pl (by simp)⟩
  | @ref n a q =>
    cases eo : ih[n]? with
    | none =>
      have e' : (match ih[n]? with
        | some (.lst _) => true
        | some (.dic _) => true
        | some (.ins d _) => decide (d = c)
        | none => false) = true := e
      rw [eo] at e'
      cases e'
    | some o =>
      have z := hr.ob n o a eo q
      cases o with
      | lst xs =>
        obtain ⟨us, h1, _⟩ := z
        exact ⟨_, .base (.lst h1), pl (by simp)⟩
      | dic xs =>
        obtain ⟨us, h1, _⟩ := z
        exact ⟨_, .base (.dK h1), pl (by simp)⟩
      | ins d fs =>
        have e1 : (match ih[n]? with
          | some (.lst _) => true
          | some (.dic _) => true
          | some (.ins d _) => decide (d = c)
          | none => false) = true := e
        rw [eo] at e1
        have e' : d = c := of_decide_eq_true e1
        subst e'
        obtain ⟨dx, us, h1, _⟩ := z
        obtain ⟨ki, g1, g2⟩ := hx
        obtain ⟨f1, f2, f3, f4, f5⟩ := F.own d ki g1 g2
        exact ⟨_, .base (.ins h1 f1 f2 f3 f4 f5), by unfold PySem.W.notFirst; rw [hC]; simp⟩
theorem opr_ocm (hK : X.K = D.K) (F : IsF D) (hr : RoomI (k + 1) X.A) (hu : X.A.units + 80 < cLine)
    (hF : ∀ c f, D.sg.mt c n = some f → ∃ fa fd ps, Meth X.K (D.cA c) "__eq__" fa ∧ FnC D X k cs f fa fd ps ∧ BindI D fd ps 2 [] [] ∧ ∃ ki, D.sg.cls[c]? = some ki ∧ ki.exf.isNone = true)
    (hN : ne = true → ∀ c f, D.sg.mt c n = some f → PySem.W.findIn X.K (.ref (D.cA c)) "__ne__" = some (some (.builtin "object.__ne__"))) : OpR X (compareOp (if ne = true then .NotEq else .Eq)) (semOw D ne n cs) := by
  intro pins s σ H u w v v' Q I ru rw ⟨ρ, ih, x, y, W, hr', vx, vy, p⟩
  cases vx with
  | @ref r ad q =>
    replace p : Post D ρ H (match ih[r]? with
      | some (.ins c _) => match D.sg.mt c n with
        | some f => if ocmY c y ih = true then ocmR ne (cs f [.ref r, y] ih) else .no
        | none => .no
      | _ => .no) (VR D) Q W := p
    cases eo : ih[r]? with
    | none => rw [eo] at p; exact p.elim
    | some o =>
      rw [eo] at p
      cases o with
      | lst _ => exact p.elim
      | dic _ => exact p.elim
      | ins c fs =>
        replace p : Post D ρ H (match D.sg.mt c n with
          | some f => if ocmY c y ih = true then ocmR ne (cs f [.ref r, y] ih) else .no
          | none => .no) (VR D) Q W := p
        cases em : D.sg.mt c n with
        | none => rw [em] at p; exact p.elim
        | some f =>
          rw [em] at p
          obtain ⟨ey, p⟩ := ifp (c := ocmY c y ih = true) (F := fun r => Post D ρ H r (VR D) Q W) p fun z => z
          cases er : cs f [.ref r, y] ih with
          | ex _ _ _ => rw [er] at p; exact p.elim
          | no => rw [er] at p; exact p.elim
          | ok z ih2 =>
            rw [er] at p
            cases z with
            | bl kb =>
              replace p : Post D ρ H (.ok (.bl (kb != ne)) ih2) (VR D) Q W := p
              cases (show v = Value.ref ad from ru)
              obtain ⟨fa, fd, ps, M, FC, BI, hx⟩ := hF c f em
              obtain ⟨dx, gs, h1, _⟩ := hr'.ob _ _ _ eo q
              obtain ⟨mA, O, _⟩ := ins_get I.hok h1
              obtain ⟨od, J, _⟩ := O.look
              obtain ⟨m', hFr⟩ := I.fr
              obtain ⟨t, T, nf⟩ := ty_Y (K := X.K) (C := D.cA c) F hr' vy ey hx hK rfl
              obtain ⟨PP, kx, hp, _⟩ := kit_of I rw (by rw [hK]; exact T)
              have look := kx.ty (model X.prog X.w) s.heap I.kIn hp
              have len : ([IV.ref r, y] : List IV).length = ps.length := by
                by_cases h : ([IV.ref r, y] : List IV).length = ps.length
                · exact h
                · rw [FC.no _ ih h] at er; cases er
              have run : ∀ A : Around, RoomI k A → A.frames = X.A.frames → wpAny (model X.prog X.w) A (call (.ref fa) [.ref ad, v']) (fun w' s' => w' = .bool kb ∧ EP X pins σ Q (.bool (kb != ne)) s') X.xe s := by
                intro A hA hfr
                obtain ⟨ws, b1, b2⟩ := BI s [.ref ad, v'] [] (by rw [← hK]; exact I.kIn) rfl rfl
                have ew : ws = [.ref ad, v'] := by
                  rcases b2 with ⟨_, e⟩ | ⟨e, _⟩
                  · simpa using e
                  · exact absurd rfl e
                subst ew
                have e0 : Env0 X.prog X.w X.K X.mg X.base A X.stack s H := by
                  have e := I.env0
                  exact ⟨by rw [hfr]; exact e.frames, e.mod, e.bs, e.bsz, e.funs, e.frf, e.hok, e.bare⟩
                have hsp : spI D ps.length (cs f) [V.ref ad, w] H (fun b H' => b = .bl kb ∧ ∃ ρ', Ev ρ H ρ' H' ∧ HR D ρ' ih2 H') (fun _ _ _ => False) := by
                  refine ⟨len, ρ, ih, [.ref r, y], hr', .cons (.ref q) (.cons vy .nil), ?_⟩
                  rw [er]
                  intro ρ' H' b ev hr2 vb
                  cases vb
                  exact ⟨rfl, ρ', ev, hr2⟩
                refine wpAny_call (codeAny_mono (FC.ok.run A X.stack s H ⟨[.ref ad, v'], []⟩ [.ref ad, v'] [V.ref ad, w] _ _ hA e0 b1 (.cons rfl (.cons rw .nil)) hsp) fun r' s' z => ?_)
                cases r' with
                | error e =>
                  obtain ⟨_, _, _, _, _, _, _, _, _, _, _, _, hf⟩ := z
                  exact hf.elim
                | ok fl =>
                  cases fl with
                  | ret w2 =>
                    obtain ⟨z', H', I', rz, ez, ρ', ev, hr2⟩ := I.after z
                    subst ez
                    cases (show w2 = Value.bool kb from rz)
                    exact ⟨rfl, .bl (kb != ne), H', I', rfl, p ρ' H' _ ev hr2 (.bl _)⟩
                  | next => exact z.elim
                  | brk => exact z.elim
                  | cont => exact z.elim
              have hfn : PySem.W.findIn X.K (.ref (D.cA c)) "__eq__" = some (some (.ref fa)) := M.at_
              cases ne with
              | false =>
                show wpAny (model X.prog X.w) X.A (compareOp .Eq (.ref ad) v') (EP X pins σ Q) X.xe s
                unfold compareOp
                refine PySem.W.cmp_K (op := .Eq) (tb := t) hr.rm.units0 hFr I.ok.mod.kin J look nf hfn M.fn (wpAny_mono (run X.A (hr.mono (Nat.le_succ _)) rfl) (fun w' s' z => ?_) fun _ _ x => x)
                obtain ⟨rfl, z⟩ := z
                have : (kb != false) = kb := by cases kb <;> rfl
                rw [this] at z
                exact z
              | true =>
                show wpAny (model X.prog X.w) X.A (compareOp .NotEq (.ref ad) v') (EP X pins σ Q) X.xe s
                unfold compareOp
                obtain ⟨ki, g1, g2⟩ := hx
                have hm := (F.own c ki g1 g2).2.2.2.2
                refine Own.ne_K (tb := t) (by omega) hFr I.ok.mod.kin J look nf hfn M.fn (hN rfl c f em) (by rw [hK]; exact hm) (wpAny_mono (run X.A.in1 ⟨hr.rm.in1, hr.gs⟩ rfl) (fun w' s' z => ?_) fun _ _ x => x)
                obtain ⟨rfl, z⟩ := z
                have : (kb != true) = !kb := by cases kb <;> rfl
                rw [this] at z
                exact ⟨kb, rfl, z⟩
            | _ => exact p.elim
  | _ => exact p.elim
theorem L_ocm (hK : X.K = D.K) (F : IsF D) (hr : m = false → RoomI (k + 1) X.A) (hu : X.A.units + 80 < cLine)
    (hF : m = false → ∀ c f, D.sg.mt c n = some f → ∃ fa fd ps, Meth X.K (D.cA c) "__eq__" fa ∧ FnC D X k cs f fa fd ps ∧ BindI D fd ps 2 [] [] ∧ ∃ ki, D.sg.cls[c]? = some ki ∧ ki.exf.isNone = true)
    (hN : ne = true → ∀ c f, D.sg.mt c n = some f → PySem.W.findIn X.K (.ref (D.cA c)) "__ne__" = some (some (.builtin "object.__ne__")))
    (ha : PE X a (sE D xa m cs ia W)) (hb : PE X b (sE D xa m cs ib W)) (hm : behindInMarks (if ne = true then .NotEq else .Eq) b = false) : PE X (.Compare a [if ne = true then .NotEq else .Eq] [b] pos) (sE D xa m cs (.ocm ne n ia ib) W) := by
  cases m with
  | true => exact ⟨fun pins s σ H Q I ⟨ρ, ih, sl, hR, l, p⟩ => False.elim p⟩
  | false =>
    exact PEi (pe_cmpR (opr_ocm hK F (hr rfl) hu (hF rfl) hN) ha hb hm) fun σ H Q ⟨ρ, ih, s, hr, l, p⟩ => two hr l p fun x y ih2 ρ2 H2 u w hr2 _ vx vy p2 => ⟨ρ2, ih2, x, y, _, hr2, vx, vy, p2⟩
theorem L_rev {p1 p2 p3 : Pos} {kk : Nat} (hK : X.K = D.K) (ha : PE X a (sE D xa m cs ia W)) : PE X (.Subscript a (.Slice none none (some (.UnaryOp .USub (.Constant (.int 1) kk p1) p2)) p3) pos) (sE D xa m cs (.rev ia) W) :=
  PEi (pe_revL ha) fun σ H Q ⟨ρ, ih, s, hr, l, p⟩ => semR.bind hr l p fun x ih1 ρ1 H1 u e hr1 l1 ev vx p1 => by
    cases vx with
    | @frz xs us ad q r =>
      have p2 : Post D ρ1 H1 (.ok (.ref ih1.length) (ih1 ++ [.lst xs.reverse])) (VR D) Q (WE W σ) := p1
      exact ⟨ad, us, rfl, by rw [hK]; exact q.sq, fun q' hq => p2.lst hr1 r.reverse hq⟩
    | @ref n ad q =>
      replace p1 : Post D ρ1 H1 (match ih1[n]? with
        | some (.lst xs) => .ok (.ref ih1.length) (ih1 ++ [.lst xs.reverse])
        | _ => .no) (VR D) Q (WE W σ) := p1
      cases eo : ih1[n]? with
      | none => rw [eo] at p1; exact p1.elim
      | some o =>
        rw [eo] at p1
        cases o with
        | lst xs =>
          obtain ⟨us, h1, r⟩ := hr1.ob _ _ _ eo q
          exact ⟨ad, us, rfl, .inl (.inl h1), fun q' hq => p1.lst hr1 r.reverse hq⟩
        | dic _ => exact p1.elim
        | ins _ _ => exact p1.elim
    | _ => exact p1.elim
theorem L_bits {apos : Pos} (ha : PE X a (sE D xa m cs ia W)) (hs : nosup a = true) (hline : (apos.endLine == pos.line) = true) : PE X (.Call (.Attribute a "bit_length" apos) [] [] pos) (sE D xa m cs (.bits ia) W) :=
  PEi (pe_bits ha (base_ok hs) hline) fun σ H Q ⟨ρ, ih, s, hr, l, p⟩ => semR.bind hr l p fun x ih1 ρ1 H1 u e hr1 l1 ev vx p1 => by
    cases vx with
    | int i => exact ⟨i, rfl, p1 _ _ _ .refl hr1 (.int _)⟩
    | _ => exact p1.elim
def tCh3 (r r' r'' : R2) (ta tb tc td : TE) : TT := fun σ H Q => ta σ H fun x H1 => tb σ H1 fun y H2 => r x y H2 fun z H3 => ∃ k, z = .bl k ∧ (if k = true then tc σ H3 fun w H4 => r' y w H4 fun z H5 => ∃ k, z = .bl k ∧
  (if k = true then td σ H5 fun v H6 => r'' w v H6 fun z H7 => ∃ k, z = .bl k ∧ Q k H7 else Q false H5) else Q false H3)
theorem pt_ch3 {c d : Expr} {op op' op'' : CmpOp} {r r' r'' : R2} {ta tb tc td : TE} (ho : OpR X (compareOp op) r) (ho' : OpR X (compareOp op') r') (ho'' : OpR X (compareOp op'') r'') (ha : PE X a ta) (hb : PE X b tb) (hc : PE X c tc) (hd : PE X d td)
    (hm : lastMarks [op, op', op''] [b, c, d] = false) : PT X (.Compare a [op, op', op''] [b, c, d] pos) (tCh3 r r' r'' ta tb tc td) := by
  refine ⟨fun pins s σ H Q I h => ?_⟩
  refine isTrue_chain (thn (ha.run pins s σ H _ I h) fun v s1 ⟨x, H1, I1, r1, q1⟩ => test_link (thn (hb.run pins s1 σ H1 _ I1 q1) fun u s2 ⟨y, H2, I2, r2, q2⟩ =>
    thn (ho pins s2 σ H2 x y v u _ I2 r1 r2 q2) fun dd s3 ⟨z, H3, I3, r3, k, e, q3⟩ => ?_)) hm
  subst e
  cases r3
  refine wpAny_truthy_bool ?_
  cases k with
  | false => exact ite_ff ⟨H3, I3, q3⟩
  | true =>
    refine ite_tt (test_link (thn (hc.run pins s3 σ H3 _ I3 q3) fun w' s4 ⟨z', H4, I4, r4, q4⟩ => thn (ho' pins s4 σ H4 y z' u w' _ I4 r2 r4 q4) fun d' s5 ⟨z2, H5, I5, r5, k2, e2, q5⟩ => ?_))
    subst e2
    cases r5
    refine wpAny_truthy_bool ?_
    cases k2 with
    | false => exact ite_ff ⟨H5, I5, q5⟩
    | true =>
      refine ite_tt (test_last (thn (hd.run pins s5 σ H5 _ I5 q5) fun w2 s6 ⟨z3, H6, I6, r6, q6⟩ => thn (ho'' pins s6 σ H6 z' z3 w' w2 _ I6 r4 r6 q6) fun d2 s7 ⟨z4, H7, I7, r7, k3, e3, q7⟩ => ?_))
      subst e3
      cases r7
      exact wpAny_truthy_bool ⟨H7, I7, q7⟩
/-- an operator's reading, from a run that goes on -/
theorem cmp_go {o : C2} {x y : IV} {ih : IH} {ρ : List Addr} {H : Hp} {u w : V} {γ δ : Type} {f : IV → IH → R γ} {rel2 : List Addr → Hp → γ → δ → Prop} {Q : δ → Hp → Prop} {W : Value → Option Addr → Hp → Prop} {R2' : V → Hp → Prop} (hr : HR D ρ ih H) (vx : VR D ρ H x u) (vy : VR D ρ H y w)
    (p : Post D ρ H ((cmp o x y ih).bind f) rel2 Q W) (k : ∀ kb ρ1 H1, Ev ρ H ρ1 H1 → HR D ρ1 ih H1 → Post D ρ1 H1 (f (.bl kb) ih) rel2 Q W → R2' (.bl kb) H1) : sem2 D (cmp o) u w H R2' := by
  refine ⟨ρ, ih, x, y, fun _ _ _ => False, hr, vx, vy, ?_⟩
  cases hc : cmp o x y ih with
  | no => rw [hc] at p; exact p.elim
  | ex _ _ _ => exact absurd hc cmp_ex
  | ok z h' =>
    obtain ⟨kb, rfl, rfl⟩ := cmp_ok hc
    rw [hc] at p
    intro ρ3 H3 d ev hr3 q
    cases q
    exact k kb ρ3 H3 ev hr3 (Post.evo0 (show Post D ρ H (f (.bl kb) h') rel2 Q W from p) hr3 ev)
theorem T_ch3 {c d : Expr} {ic id : IE} (hK : X.K = D.K) (hu : X.A.units + 80 < cLine) (o o' o'' : C2) (ha : PE X a (sE D xa m cs ia W)) (hb : PE X b (sE D xa m cs ib W)) (hc : PE X c (sE D xa m cs ic W)) (hd : PE X d (sE D xa m cs id W)) (hm : lastMarks [o.op, o'.op, o''.op] [b, c, d] = false) :
    PT X (.Compare a [o.op, o'.op, o''.op] [b, c, d] pos) (sT D xa m cs (.ch3 o o' o'' ia ib ic id) W) :=
  PTi (pt_ch3 (oc hK hu o) (oc hK hu o') (oc hK hu o'') ha hb hc hd hm) fun σ H Q ⟨ρ, ih, s, hr, l, p⟩ => by
    refine semR.bind hr l p fun x ih1 ρ1 H1 u e hr1 l1 ev vx p1 => semR.bind hr1 l1 p1 fun y ih2 ρ2 H2 w e2 hr2 l2 ev2 vy p2 => ?_
    refine cmp_go hr2 (vx.evo hr1 ev2) vy p2 fun kb ρ3 H3 ev3 hr3 p3 => ⟨kb, rfl, ?_⟩
    cases kb with
    | false =>
      rw [if_neg (by decide)]
      exact p3 ρ3 H3 _ .refl hr3 rfl
    | true =>
      rw [if_pos rfl]
      have l3 := l2.evo hr2 ev3
      have vy3 := vy.evo hr2 ev3
      refine semR.bind hr3 l3 p3 fun z ih4 ρ4 H4 w4 e4 hr4 l4 ev4 vz p4 => ?_
      refine cmp_go hr4 (vy3.evo hr3 ev4) vz p4 fun kb ρ5 H5 ev5 hr5 p5 => ⟨kb, rfl, ?_⟩
      cases kb with
      | false =>
        rw [if_neg (by decide)]
        exact p5 ρ5 H5 _ .refl hr5 rfl
      | true =>
        rw [if_pos rfl]
        have l5 := l4.evo hr4 ev5
        have vz5 := vz.evo hr4 ev5
        refine semR.bind hr5 l5 p5 fun v ih6 ρ6 H6 w6 e6 hr6 l6 ev6 vv p6 => ?_
        refine cmp_go hr6 (vz5.evo hr5 ev6) vv p6 fun kb ρ7 H7 ev7 hr7 p7 => ⟨kb, rfl, ?_⟩
        exact p7 ρ7 H7 _ .refl hr7 rfl
theorem ocmR_bl {ne : Bool} {r : R IV} {z : IV} {h' : IH} (e : ocmR ne r = .ok z h') : ∃ k, z = .bl k := by
  cases r with
  | ok v h => cases v <;> first | (cases e; exact ⟨_, rfl⟩) | cases e
  | ex _ _ _ => cases e
  | no => cases e
theorem ocmR_ex {ne : Bool} {r : R IV} {c : Nat} {v : IV} {h' : IH} : ocmR ne r ≠ .ex c v h' := by
  cases r with
  | ok v h => cases v <;> exact fun e => nomatch e
  | ex _ _ _ => exact fun e => nomatch e
  | no => exact fun e => nomatch e
theorem ocm_bl {G : Sg} {x y z : IV} {h h' : IH} (e : ocmF G cs ne n x y h = .ok z h') : ∃ k, z = .bl k := by
  unfold ocmF at e
  split at e
  · split at e
    · split at e
      · split at e
        · exact ocmR_bl e
        · cases e
      · cases e
    · cases e
  · cases e
theorem ocm_ex {G : Sg} {x y v : IV} {c : Nat} {h h' : IH} : ocmF G cs ne n x y h ≠ .ex c v h' := by
  intro e
  unfold ocmF at e
  split at e
  · split at e
    · split at e
      · split at e
        · exact ocmR_ex e
        · cases e
      · cases e
    · cases e
  · cases e
theorem T_ocm (hK : X.K = D.K) (F : IsF D) (hr : m = false → RoomI (k + 1) X.A) (hu : X.A.units + 80 < cLine)
    (hF : m = false → ∀ c f, D.sg.mt c n = some f → ∃ fa fd ps, Meth X.K (D.cA c) "__eq__" fa ∧ FnC D X k cs f fa fd ps ∧ BindI D fd ps 2 [] [] ∧ ∃ ki, D.sg.cls[c]? = some ki ∧ ki.exf.isNone = true)
    (hN : ne = true → ∀ c f, D.sg.mt c n = some f → PySem.W.findIn X.K (.ref (D.cA c)) "__ne__" = some (some (.builtin "object.__ne__")))
    (ha : PE X a (sE D xa m cs ia W)) (hb : PE X b (sE D xa m cs ib W)) (hm : behindInMarks (if ne = true then .NotEq else .Eq) b = false) : PT X (.Compare a [if ne = true then .NotEq else .Eq] [b] pos) (sT D xa m cs (.ocm ne n ia ib) W) := by
  cases m with
  | true => exact ⟨fun pins s σ H Q I ⟨ρ, ih, sl, hR, l, p⟩ => False.elim p⟩
  | false =>
    refine PTi (pt_cmpR (opr_ocm hK F (hr rfl) hu (hF rfl) hN) ha hb hm) fun σ H Q ⟨ρ, ih, s, hr, l, p⟩ => ?_
    have p' : Post D ρ H ((evE D.sg false cs ia s ih).bind fun x h => (evE D.sg false cs ib s h).bind fun y h => (ocmF D.sg cs ne n x y h).bind fun z h => opt (tru z h) h) (fun _ _ a b => a = b) Q (WE W σ) := p
    refine semR.bind hr l p' fun x ih1 ρ1 H1 u e hr1 l1 ev vx p1 => semR.bind hr1 l1 p1 fun y ih2 ρ2 H2 w e2 hr2 l2 ev2 vy p2 => ⟨ρ2, ih2, x, y, fun _ _ _ => False, hr2, vx.evo hr1 ev2, vy, ?_⟩
    cases hc : ocmF D.sg cs ne n x y ih2 with
    | no => rw [hc] at p2; exact p2.elim
    | ex _ _ _ => exact absurd hc ocm_ex
    | ok z h' =>
      obtain ⟨kb, rfl⟩ := ocm_bl hc
      rw [hc] at p2
      intro ρ3 H3 d ev hr3 q
      cases q
      exact ⟨kb, rfl, (show Post D ρ2 H2 (.ok kb h') (fun _ _ a b => a = b) Q (WE W σ) from p2) ρ3 H3 kb ev hr3 rfl⟩
end
end Itp

/-! ItJ: list methods, targets, walks, comprehensions. -/
namespace Itp
open PySem PySem.Spec PyProof.Rows L2
section
variable {D : Dn} {X : Cx} {xa : XA} {W : WX} {m : Bool} {cs : CF} {e a b c : Expr} {es rest : List Expr} {kws : List Keyword} {pos apos p0 p1 : Pos} {ia ib ic : IE} {ies iks : IA} {x : Str}
/-! ### list methods -/
def semM (D : Dn) (f : IV → List IV → IH → R IV) : V → List V → Hp → VK → Prop := fun u us H Q => ∃ ρ ih x vs W, HR D ρ ih H ∧ VR D ρ H x u ∧ VRs D ρ H vs us ∧ Post D ρ H (f x vs ih) (VR D) Q W
def Bm.nm : Bm → Str
  | .append => "append"
  | .pop => "pop"
  | .extend => "extend"
  | .reverse => "reverse"
  | .clear => "clear"
  | .insert => "insert"
  | .index => "index"
  | .count => "count"
theorem bm_lst {k : Bm} {o : IV} {vs : List IV} {ih : IH} {ρ : List Addr} {H : Hp} {u : V} {Q : VK} {W : Value → Option Addr → Hp → Prop} (hr : HR D ρ ih H) (r : VR D ρ H o u) (p : Post D ρ H (bmF k o vs ih) (VR D) Q W) :
    ∃ n a xs us, o = .ref n ∧ u = .ref a ∧ ih[n]? = some (.lst xs) ∧ ρ[n]? = some a ∧ H a = some (.lst us) ∧ VRs D ρ H xs us ∧ Post D ρ H (bmL k n xs vs ih) (VR D) Q W := by
  cases r with
  | @ref n a q =>
    replace p : Post D ρ H (match ih[n]? with
      | some (.lst xs) => bmL k n xs vs ih
      | _ => .no) (VR D) Q W := p
    cases e : ih[n]? with
    | none => rw [e] at p; exact p.elim
    | some ob =>
      rw [e] at p
      cases ob with
      | lst xs =>
        obtain ⟨us, h1, h2⟩ := hr.ob n _ a e q
        exact ⟨n, a, xs, us, rfl, rfl, e, q, h1, h2, p⟩
      | dic _ => exact p.elim
      | ins _ _ => exact p.elim
  | _ => exact p.elim
/-- behind a change of a list -/
theorem Post.put {ρ : List Addr} {H : Hp} {ih : IH} {n : Nat} {ad : Addr} {xs : List IV} {us : List V} {y : IV} {w : V} {Q : VK} {W : Value → Option Addr → Hp → Prop} (hr : HR D ρ ih H) (q : ρ[n]? = some ad) (r : VRs D ρ H xs us) (ry : VR D ρ H y w) (p : Post D ρ H (.ok y (ih.set n (.lst xs))) (VR D) Q W) : Q w (upd H ad (.lst us)) := by
  have ev : Ev ρ H ρ (upd H ad (.lst us)) := Ev.put (List.mem_of_getElem? q) _
  exact p ρ _ w ev (hr.put q _ ⟨us, upd_same, r.evo hr ev⟩) (ry.evo hr ev)
theorem mb_append : MtR X "list.append" (semM D (bmF .append)) := by
  intro pins s σ H u us v ws Q I ru rs ⟨ρ, ih, o, vs, W, hr, r, rv, p⟩
  obtain ⟨n, ad, xs, zs, rfl, rfl, e, q, h1, rx, p⟩ := bm_lst hr r p
  cases rv with
  | nil => exact p.elim
  | @cons y w vs ws' ry rt =>
    cases rt with
    | cons _ _ => exact p.elim
    | nil =>
      obtain ⟨hl, p2⟩ := ifp (F := fun r => Post D ρ H r (VR D) Q W) p fun z => z
      exact mt_append pins s σ H _ _ v ws Q I ru rs ⟨ad, zs, w, rfl, rfl, h1, by rw [← rx.length, ← ln_eq]; exact hl, Post.put hr q (rx.append (.cons ry .nil)) .non p2⟩
theorem getLast_ix {α : Type} : ∀ (xs : List α), xs.getLast? = xs[xs.length - 1]?
  | [] => rfl
  | x :: r => by rw [List.getLast?_eq_getElem?]
theorem nIx_seq {n : Nat} {i : Int} {k : Nat} (hn : n ≤ LN) (h : nIx n i = some k) : seqIndex? i n = some k ∧ -(2 ^ 63) ≤ i ∧ i < 2 ^ 63 := by
  unfold nIx at h
  unfold seqIndex?
  have hL : (LN : Nat) = 16777216 := rfl
  by_cases h0 : 0 ≤ i
  · rw [if_pos h0] at h
    by_cases h1 : i < n
    · rw [if_pos h1] at h
      cases h
      have e : (if i < 0 then i + (n : Int) else i) = i := if_neg (by omega)
      refine ⟨?_, by omega, by omega⟩
      simp only [e]
      rw [if_pos (by simp; omega)]
    · rw [if_neg h1] at h
      cases h
  · rw [if_neg h0] at h
    by_cases h1 : -(n : Int) ≤ i
    · rw [if_pos h1] at h
      cases h
      have e : (if i < 0 then i + (n : Int) else i) = i + n := if_pos (by omega)
      refine ⟨?_, by omega, by omega⟩
      simp only [e]
      rw [if_pos (by simp; omega)]
    · rw [if_neg h1] at h
      cases h
theorem mb_pop : MtR X "list.pop" (semM D (bmF .pop)) := by
  intro pins s σ H u us v ws Q I ru rs ⟨ρ, ih, o, vs, W, hr, r, rv, p⟩
  obtain ⟨n, ad, xs, zs, rfl, rfl, e, q, h1, rx, p⟩ := bm_lst hr r p
  cases rv with
  | nil =>
    replace p : Post D ρ H (match xs.getLast? with
      | some y => .ok y (ih.set n (.lst xs.dropLast))
      | none => .no) (VR D) Q W := p
    cases el : xs.getLast? with
    | none => rw [el] at p; exact p.elim
    | some y =>
      rw [el] at p
      rw [getLast_ix] at el
      obtain ⟨w, g1, g2⟩ := rx.get el
      exact mt_pop pins s σ H _ _ v ws Q I ru rs ⟨ad, zs, w, rfl, rfl, h1, by rw [← rx.length]; exact g1, Post.put hr q rx.dropLast g2 p⟩
  | @cons y w vs ws' ry rt =>
    cases rt with
    | cons _ _ => cases ry <;> exact p.elim
    | nil =>
      cases ry with
      | int i =>
        replace p : Post D ρ H (match nIx xs.length i with
          | some k => match xs[k]? with
            | some y => if xs.length ≤ LN then .ok y (ih.set n (.lst (xs.eraseIdx k))) else .no
            | none => .no
          | none => .no) (VR D) Q W := p
        cases en : nIx xs.length i with
        | none => rw [en] at p; exact p.elim
        | some k =>
          rw [en] at p
          replace p : Post D ρ H (match xs[k]? with
            | some y => if xs.length ≤ LN then .ok y (ih.set n (.lst (xs.eraseIdx k))) else .no
            | none => .no) (VR D) Q W := p
          cases ek : xs[k]? with
          | none => rw [ek] at p; exact p.elim
          | some y =>
            rw [ek] at p
            obtain ⟨hl, p⟩ := ifp (F := fun r => Post D ρ H r (VR D) Q W) p fun z => z
            obtain ⟨w, g1, g2⟩ := rx.get ek
            obtain ⟨s1, s2, s3⟩ := nIx_seq hl en
            rw [rx.length] at s1
            exact mt_popAt pins s σ H _ _ v ws Q I ru rs ⟨ad, zs, i, k, w, rfl, rfl, h1, s2, s3, s1, g1, Post.put hr q (rx.erase k) g2 p⟩
      | _ => exact p.elim
theorem mb_reverse : MtR X "list.reverse" (semM D (bmF .reverse)) := by
  intro pins s σ H u us v ws Q I ru rs ⟨ρ, ih, o, vs, W, hr, r, rv, p⟩
  obtain ⟨n, ad, xs, zs, rfl, rfl, e, q, h1, rx, p⟩ := bm_lst hr r p
  cases rv with
  | nil => exact mt_reverse pins s σ H _ _ v ws Q I ru rs ⟨ad, zs, rfl, rfl, h1, Post.put hr q rx.reverse .non p⟩
  | cons _ _ => exact p.elim
theorem mb_clear : MtR X "list.clear" (semM D (bmF .clear)) := by
  intro pins s σ H u us v ws Q I ru rs ⟨ρ, ih, o, vs, W, hr, r, rv, p⟩
  obtain ⟨n, ad, xs, zs, rfl, rfl, e, q, h1, rx, p⟩ := bm_lst hr r p
  cases rv with
  | nil => exact mt_clear pins s σ H _ _ v ws Q I ru rs ⟨ad, zs, rfl, rfl, h1, Post.put hr q .nil .non p⟩
  | cons _ _ => exact p.elim
theorem mb_extend : MtR X "list.extend" (semM D (bmF .extend)) := by
  intro pins s σ H u us v ws Q I ru rs ⟨ρ, ih, o, vs, W, hr, r, rv, p⟩
  obtain ⟨n, ad, xs, zs, rfl, rfl, e, q, h1, rx, p⟩ := bm_lst hr r p
  cases rv with
  | nil => exact p.elim
  | @cons y w vs ws' ry rt =>
    cases rt with
    | cons _ _ => cases ry <;> exact p.elim
    | nil =>
      cases ry with
      | @ref n2 a2 q2 =>
        replace p : Post D ρ H (match ih[n2]? with
          | some (.lst ys) => if xs.length + ys.length ≤ LN then .ok .non (ih.set n (.lst (xs ++ ys))) else .no
          | _ => .no) (VR D) Q W := p
        cases e2 : ih[n2]? with
        | none => rw [e2] at p; exact p.elim
        | some ob =>
          rw [e2] at p
          cases ob with
          | lst ys =>
            obtain ⟨ts, g1, g2⟩ := hr.ob n2 _ a2 e2 q2
            obtain ⟨hl, p⟩ := ifp (F := fun r => Post D ρ H r (VR D) Q W) p fun z => z
            exact mt_extend pins s σ H _ _ v ws Q I ru rs ⟨ad, a2, zs, ts, rfl, rfl, h1, g1, by rw [← rx.length, ← g2.length, ← ln_eq]; exact hl, Post.put hr q (rx.append g2) .non p⟩
          | dic _ => exact p.elim
          | ins _ _ => exact p.elim
      | _ => exact p.elim
theorem mb_insert : MtR X "list.insert" (semM D (bmF .insert)) := by
  intro pins s σ H u us v ws Q I ru rs ⟨ρ, ih, o, vs, W, hr, r, rv, p⟩
  obtain ⟨n, ad, xs, zs, rfl, rfl, e, q, h1, rx, p⟩ := bm_lst hr r p
  cases rv with
  | nil => exact p.elim
  | @cons y w vs ws' ry rt =>
    cases rt with
    | nil => cases ry <;> exact p.elim
    | @cons y2 w2 vs2 ws2 ry2 rt2 =>
      cases rt2 with
      | cons _ _ => cases ry <;> exact p.elim
      | nil =>
        cases ry with
        | int i =>
          obtain ⟨⟨hl, h2, h3⟩, p⟩ := ifp (F := fun r => Post D ρ H r (VR D) Q W) p fun z => z
          exact mt_insert pins s σ H _ _ v ws Q I ru rs ⟨ad, zs, i, w2, rfl, rfl, h1, by rw [← rx.length, ← ln_eq]; exact hl, h2, h3, Post.put hr q (((rx.take _).append (.cons ry2 .nil)).append (rx.drop _)) .non p⟩
        | _ => exact p.elim
theorem ints_V {ρ : List Addr} {H : Hp} : ∀ {xs : List IV} {us : List V} {ns : List Int}, VRs D ρ H xs us → intsOf xs = some ns → us = ns.map V.int ∧ xs.length = ns.length
  | _, _, _, .nil, e => by cases e; exact ⟨rfl, rfl⟩
  | _, _, _, .cons q r, e => by
    cases q with
    | int i =>
      obtain ⟨l, h1, h2⟩ := Option.map_eq_some_iff.mp (show (intsOf _).map (i :: ·) = some _ from e)
      subst h2
      obtain ⟨g1, g2⟩ := ints_V r h1
      exact ⟨by rw [g1]; rfl, congrArg Nat.succ g2⟩
    | _ => cases e
theorem mb_index (hK : X.K = D.K) : MtR X "list.index" (semM D (bmF .index)) := by
  intro pins s σ H u us v ws Q I ru rs ⟨ρ, ih, o, vs, W, hr, r, rv, p⟩
  obtain ⟨n, ad, xs, zs, rfl, rfl, e, q, h1, rx, p⟩ := bm_lst hr r p
  cases rv with
  | nil => exact p.elim
  | @cons y w vs ws' ry rt =>
    cases rt with
    | cons _ _ => cases ry <;> exact p.elim
    | nil =>
      cases ry with
      | int i =>
        replace p : Post D ρ H (match intsOf xs with
          | some ns => if ns.idxOf i < ns.length then .ok (.int (ns.idxOf i)) ih else .no
          | none => .no) (VR D) Q W := p
        cases e2 : intsOf xs with
        | none => rw [e2] at p; exact p.elim
        | some ns =>
          rw [e2] at p
          obtain ⟨hl, p⟩ := ifp (F := fun r => Post D ρ H r (VR D) Q W) p fun z => z
          obtain ⟨g1, g2⟩ := ints_V rx e2
          subst g1
          refine mt_index pins s σ H _ _ v ws Q I ru rs ⟨ad, ns.map V.int, .int i, ns.idxOf i, .int i, rfl, rfl, .inl (.inl h1), rfl, by simp [flatV], ?_, ?_, ?_, p.val hr (.int _)⟩
          · rw [List.getElem?_map, List.getElem?_eq_getElem hl, List.getElem_idxOf hl]; rfl
          · simp [eqV]
          · intro j z hj hz
            rw [List.getElem?_map] at hz
            obtain ⟨y, h3, h4⟩ := Option.map_eq_some_iff.mp hz
            subst h4
            obtain ⟨h5, h6⟩ := List.getElem?_eq_some_iff.mp h3
            have := List.not_of_lt_findIdx (xs := ns) (p := (· == i)) hj
            simp [eqV]
            rw [← h6]
            simpa using this
      | _ => exact p.elim
theorem mb_count (hK : X.K = D.K) : MtR X "list.count" (semM D (bmF .count)) := by
  intro pins s σ H u us v ws Q I ru rs ⟨ρ, ih, o, vs, W, hr, r, rv, p⟩
  obtain ⟨n, ad, xs, zs, rfl, rfl, e, q, h1, rx, p⟩ := bm_lst hr r p
  cases rv with
  | nil => exact p.elim
  | @cons y w vs ws' ry rt =>
    cases rt with
    | cons _ _ => cases ry <;> exact p.elim
    | nil =>
      cases ry with
      | int i =>
        replace p : Post D ρ H (match intsOf xs with
          | some ns => .ok (.int (ns.count i)) ih
          | none => .no) (VR D) Q W := p
        cases e2 : intsOf xs with
        | none => rw [e2] at p; exact p.elim
        | some ns =>
          rw [e2] at p
          obtain ⟨g1, g2⟩ := ints_V rx e2
          subst g1
          exact mt_lcount pins s σ H _ _ v ws Q I ru rs ⟨ad, ns, i, rfl, rfl, .inl (.inl h1), p.val hr (.int _)⟩
      | _ => exact p.elim
theorem few_ok {e : Expr} {es : List Expr} {cpos : Pos} {env : Env} (h : (e :: es).all nostar = true) (hl : (e :: es).length < 30) : ((backTo cpos (starEach (e :: es) env)).all (fun x => !x.1) && (backToKw cpos (keywordEach [] env)).all (fun x => x.1.isSome)
      && decide ((e :: es).length + ([] : List Keyword).length + (if ([] : List Keyword).isEmpty then 0 else 1) < 30)) = true := by
  rw [plain_all h]
  show (true && true && decide ((e :: es).length + 0 + 0 < 30)) = true
  simp only [Bool.true_and, decide_eq_true_eq]
  omega
theorem ty_lst {ρ : List Addr} {H : Hp} {ih : IH} {x : IV} {u : V} (hr : HR D ρ ih H) (r : VR D ρ H x u) (e : isL x ih = true) (K : PySem.W.Frag) : tyV K "list" u H := by
  cases r with
  | @ref n a q =>
    unfold isL at e
    cases eo : ih[n]? with
    | none => simp [eo] at e
    | some o =>
      cases o with
      | lst xs =>
        obtain ⟨us, h1, _⟩ := hr.ob n _ a eo q
        exact .inl ⟨rfl, us, .inl (.inl h1)⟩
      | _ => simp [eo] at e
  | _ => simp [isL] at e
theorem L_bm {o : Expr} {io : IE} (hK : X.K = D.K) (k : Bm) (ho : PE X o (sE D xa m cs io W)) (hs : nosup o = true) (ha : PA X (e :: es) (sA D xa m cs ies W)) (hst : (e :: es).all nostar = true) (hl : (e :: es).length < 30) (hline : (apos.endLine == pos.line) = true) :
    PE X (.Call (.Attribute o k.nm apos) (e :: es) [] pos) (sE D xa m cs (.bm k io ies) W) := by
  have h' := Bool.and_eq_true_iff.mp hst
  have s1 := star_ok (es := es) (env := X.env) h'.1
  have s2 := plain_ok (pos := pos) (env := X.env) h'.2
  have key : ∀ σ H Q, sE D xa m cs (.bm k io ies) W σ H Q → tBM X.K "list" (semM D (bmF k)) (sE D xa m cs io W) (sA D xa m cs ies W) σ H Q := fun σ H Q ⟨ρ, ih, s, hr, l, p⟩ => by
    refine semR.bind hr l (show Post D ρ H ((evE D.sg m cs io s ih).bind fun x h => if isL x h = true then (evA D.sg m cs ies s h).bind fun vs h => bmF k x vs h else .no) (VR D) Q (WE W σ) from p) fun x ih1 ρ1 H1 u e hr1 l1 ev q p1 => ?_
    obtain ⟨hl, p1⟩ := ifp (F := fun r => Post D ρ1 H1 r (VR D) Q (WE W σ)) p1 fun z => z
    exact ⟨ty_lst hr1 q hl _, semR.bind hr1 l1 p1 fun vs ih2 ρ2 H2 us e2 hr2 l2 ev2 q2 p2 => ⟨ρ2, ih2, x, vs, _, hr2, q.evo hr1 ev2, q2, p2⟩⟩
  cases k with
  | append => exact PEi (pe_bm PySem.F.plainAttrs_list PySem.F.slot_list_append PySem.F.type_list_append mb_append ho ha (base_ok hs) (few_ok hst hl) hline s1 s2) key
  | pop => exact PEi (pe_bm PySem.F.plainAttrs_list PySem.F.slot_list_pop PySem.F.type_list_pop mb_pop ho ha (base_ok hs) (few_ok hst hl) hline s1 s2) key
  | extend => exact PEi (pe_bm PySem.F.plainAttrs_list PySem.F.slot_list_extend PySem.F.type_list_extend mb_extend ho ha (base_ok hs) (few_ok hst hl) hline s1 s2) key
  | reverse => exact PEi (pe_bm PySem.F.plainAttrs_list PySem.F.slot_list_reverse PySem.F.type_list_reverse mb_reverse ho ha (base_ok hs) (few_ok hst hl) hline s1 s2) key
  | clear => exact PEi (pe_bm PySem.F.plainAttrs_list PySem.F.slot_list_clear PySem.F.type_list_clear mb_clear ho ha (base_ok hs) (few_ok hst hl) hline s1 s2) key
  | insert => exact PEi (pe_bm PySem.F.plainAttrs_list PySem.F.slot_list_insert PySem.F.type_list_insert mb_insert ho ha (base_ok hs) (few_ok hst hl) hline s1 s2) key
  | index => exact PEi (pe_bm PySem.F.plainAttrs_list PySem.F.slot_list_index PySem.F.type_list_index (mb_index hK) ho ha (base_ok hs) (few_ok hst hl) hline s1 s2) key
  | count => exact PEi (pe_bm PySem.F.plainAttrs_list PySem.F.slot_list_count PySem.F.type_list_count (mb_count hK) ho ha (base_ok hs) (few_ok hst hl) hline s1 s2) key
theorem L_bm0 {o : Expr} {io : IE} (hK : X.K = D.K) (k : Bm) (ho : PE X o (sE D xa m cs io W)) (hs : nosup o = true) (hline : (apos.endLine == pos.line) = true) :
    PE X (.Call (.Attribute o k.nm apos) [] [] pos) (sE D xa m cs (.bm k io .nil) W) := by
  have key : ∀ σ H Q, sE D xa m cs (.bm k io .nil) W σ H Q → tBM0 X.K "list" (semM D (bmF k)) (sE D xa m cs io W) σ H Q := fun σ H Q ⟨ρ, ih, s, hr, l, p⟩ => by
    refine semR.bind hr l (show Post D ρ H ((evE D.sg m cs io s ih).bind fun x h => if isL x h = true then (evA D.sg m cs .nil s h).bind fun vs h => bmF k x vs h else .no) (VR D) Q (WE W σ) from p) fun x ih1 ρ1 H1 u e hr1 l1 ev q p1 => ?_
    obtain ⟨hl, p1⟩ := ifp (F := fun r => Post D ρ1 H1 r (VR D) Q (WE W σ)) p1 fun z => z
    exact ⟨ty_lst hr1 q hl _, ρ1, ih1, x, [], _, hr1, q, .nil, p1⟩
  cases k with
  | append => exact PEi (pe_bm0 PySem.F.plainAttrs_list PySem.F.slot_list_append PySem.F.type_list_append mb_append ho (base_ok hs) hline) key
  | pop => exact PEi (pe_bm0 PySem.F.plainAttrs_list PySem.F.slot_list_pop PySem.F.type_list_pop mb_pop ho (base_ok hs) hline) key
  | extend => exact PEi (pe_bm0 PySem.F.plainAttrs_list PySem.F.slot_list_extend PySem.F.type_list_extend mb_extend ho (base_ok hs) hline) key
  | reverse => exact PEi (pe_bm0 PySem.F.plainAttrs_list PySem.F.slot_list_reverse PySem.F.type_list_reverse mb_reverse ho (base_ok hs) hline) key
  | clear => exact PEi (pe_bm0 PySem.F.plainAttrs_list PySem.F.slot_list_clear PySem.F.type_list_clear mb_clear ho (base_ok hs) hline) key
  | insert => exact PEi (pe_bm0 PySem.F.plainAttrs_list PySem.F.slot_list_insert PySem.F.type_list_insert mb_insert ho (base_ok hs) hline) key
  | index => exact PEi (pe_bm0 PySem.F.plainAttrs_list PySem.F.slot_list_index PySem.F.type_list_index (mb_index hK) ho (base_ok hs) hline) key
  | count => exact PEi (pe_bm0 PySem.F.plainAttrs_list PySem.F.slot_list_count PySem.F.type_list_count (mb_count hK) ho (base_ok hs) hline) key
/-! ### the place in a constant tuple of texts -/
theorem strs_V {ρ : List Addr} {H : Hp} : ∀ {xs : List IV} {us : List V} {zs : List Str}, VRs D ρ H xs us → strsOf xs = some zs → us = zs.map V.str
  | _, _, _, .nil, e => by cases e; rfl
  | _, _, _, .cons q r, e => by
    cases q with
    | str i =>
      obtain ⟨l, h1, h2⟩ := Option.map_eq_some_iff.mp (show (strsOf _).map (i :: ·) = some _ from e)
      subst h2
      rw [strs_V r h1]
      rfl
    | _ => cases e
theorem L_gix {i : Nat} {xs : List IV} {ad : Addr} {ob : Obj} {us : List V} (hK : X.K = D.K) (hg : Gl X x) (hgl : D.sg.glo[i]? = some (.tup xs)) (hm : X.mg x = some (.ref ad)) (hl : D.K.lookup ad = some ob) (hc : ob.cls = .type "tuple") (hd0 : ob.dict = none) (hv : ∀ ρ H, SqT D.K H ad us ∧ VRs D ρ H xs us)
    (ha : PE X e (sE D xa m cs ia W)) (hs : nostar e = true) (hd : (x == ("__debug__" : Str)) = false) (hline : (apos.endLine == pos.line) = true) :
    PE X (.Call (.Attribute (.Name x p0) "index" apos) [e] [] pos) (sE D xa m cs (.gix i ia) W) := by
  have hst : [e].all nostar = true := by rw [List.all_cons, hs]; rfl
  refine PEi (pe_bm PySem.F.plainAttrs_tuple PySem.F.slot_tuple_index PySem.F.type_tuple_index mt_tup_index (pe_glob (pos := p0) hg hm (v := .ref ad) rfl hd) (pa_cons ha pa_nil (star_ok hs)) rfl (few_ok hst (show 1 < 30 by omega)) hline (star_ok hs) rfl) fun σ H Q ⟨ρ, ih, s, hr, l, p⟩ => ?_
  have p' : Post D ρ H ((evE D.sg m cs ia s ih).bind fun y h => tixF D.sg.glo[i]? y h) (VR D) Q (WE W σ) := p
  refine ⟨.inr (.inl ⟨rfl, ob, by rw [hK]; exact hl, hc, hd0⟩), semR.bind hr l p' fun y ih1 ρ1 H1 u e hr1 l1 ev q p1 => ?_⟩
  rw [hgl] at p1
  cases q with
  | str z =>
    replace p1 : Post D ρ1 H1 (match strsOf xs with
      | some zs => if zs.idxOf z < zs.length then .ok (.int (zs.idxOf z)) ih1 else .no
      | none => .no) (VR D) Q (WE W σ) := p1
    cases es : strsOf xs with
    | none => rw [es] at p1; exact p1.elim
    | some zs =>
      rw [es] at p1
      obtain ⟨hl, p1⟩ := ifp (F := fun r => Post D ρ1 H1 r (VR D) Q (WE W σ)) p1 fun z => z
      obtain ⟨h1, h2⟩ := hv ρ1 H1
      rw [strs_V h2 es] at h1
      refine ⟨ad, zs, z, zs.idxOf z, rfl, rfl, by rw [hK]; exact h1, ?_, fun j hj hz => ?_, p1.val hr1 (.int _)⟩
      · rw [List.getElem?_eq_getElem hl, List.getElem_idxOf hl]
      · obtain ⟨h5, h6⟩ := List.getElem?_eq_some_iff.mp hz
        have := List.not_of_lt_findIdx (xs := zs) (p := (· == z)) hj
        simp [h6] at this
  | _ => exact p1.elim
end
end Itp

/-! ItK: targets, walks, comprehensions. -/
namespace Itp
open PySem PySem.Spec PyProof.Rows L2
theorem Post.evo {D : Dn} {α β : Type} {ρ ρ1 : List Addr} {ih1 : IH} {H H1 : Hp} {r : R α} {rel : List Addr → Hp → α → β → Prop} {Q : β → Hp → Prop} {W : Value → Option Addr → Hp → Prop} (p : Post D ρ H r rel Q W) (hr : HR D ρ1 ih1 H1) (e : Ev ρ H ρ1 H1) : Post D ρ1 H1 r rel Q W := by
  cases r with
  | ok a ih => exact fun ρ2 H2 b e2 hr2 q => p ρ2 H2 b (e.trans hr e2) hr2 q
  | ex c v ih => exact fun ρ2 H2 b e2 hr2 q => p ρ2 H2 b (e.trans hr e2) hr2 q
  | no => exact p
/-! ### slots of the layer -/
theorem w_in {i : Nat} : ∀ {vs : List Nat} {σ : L2.St}, i ∈ vs → i < σ.length → (L2.wipe σ vs)[i]? = some none
  | [], _, h, _ => by cases h
  | v :: vs, σ, h, hl => by
    show ((L2.wipe σ vs).set v none)[i]? = some none
    by_cases e : v = i
    · subst e
      exact List.getElem?_set_self (by rw [wipe_length]; exact hl)
    · rw [List.getElem?_set_ne e]
      exact w_in (by rcases List.mem_cons.mp h with z | z; exact absurd z.symm e; exact z) hl
theorem w_congr {σ σ2 : L2.St} {vs : List Nat} (hl : σ.length = σ2.length) (h : ∀ i, i ∉ vs → σ[i]? = σ2[i]?) : L2.wipe σ vs = L2.wipe σ2 vs := by
  refine List.ext_getElem? fun i => ?_
  by_cases hi : i ∈ vs
  · by_cases hb : i < σ.length
    · rw [w_in hi hb, w_in hi (by rw [← hl]; exact hb)]
    · rw [List.getElem?_eq_none (by rw [wipe_length]; omega), List.getElem?_eq_none (by rw [wipe_length]; omega)]
  · rw [wipe_out hi, wipe_out hi, h i hi]
section
variable {D : Dn} {X : Cx} {xa : XA} {W : WX} {m : Bool} {cs : CF} {e a b c : Expr} {es rest : List Expr} {kws : List Keyword} {pos apos p0 p1 : Pos} {ia ib ic : IE} {ies iks : IA} {x : Str}
/-! ### targets -/
/-- a name that may be stored -/
def Sto (X : Cx) (i : Nat) (x : Str) : Prop := X.N[i]? = some x ∧ Loc X.env.scope x ∧ (X.fn x = true ∨ X.env.scope.names.lookup x = some .local)
def semG (D : Dn) (xa : XA) (tg : Tg) : TG := fun v σ H Q => ∃ ρ ih s x s1, HR D ρ ih H ∧ LR D ρ H xa s σ ∧ VR D ρ H x v ∧ asg tg x s ih = some s1 ∧ ∀ σ1, LR D ρ H xa s1 σ1 → σ1.length = σ.length → (∀ j, j ∉ tg.slots → σ1[j]? = σ[j]?) → Q σ1 H
def semGs (D : Dn) (xa : XA) (is : List Nat) : TGs := fun vs σ H Q => ∃ ρ ih s xs s1, HR D ρ ih H ∧ LR D ρ H xa s σ ∧ VRs D ρ H xs vs ∧ setAll is xs s = some s1 ∧ ∀ σ1, LR D ρ H xa s1 σ1 → σ1.length = σ.length → (∀ j, j ∉ is → σ1[j]? = σ[j]?) → Q σ1 H
theorem PGi {t t' : TG} (h : PG X e t) (k : ∀ v σ H Q, t' v σ H Q → t v σ H Q) : PG X e t' := ⟨fun pins s σ H v u Q I r q => h.run pins s σ H v u Q I r (k v σ H Q q)⟩
theorem PGor {t t' : TG} (h : PG X e t) (h' : PG X e t') : PG X e (fun v σ H Q => t v σ H Q ∨ t' v σ H Q) := ⟨fun pins s σ H v u Q I r q => q.elim (h.run pins s σ H v u Q I r) (h'.run pins s σ H v u Q I r)⟩
theorem items_W {ρ : List Addr} {H : Hp} {ih : IH} {x : IV} {u : V} {xs : List IV} (hr : HR D ρ ih H) (r : VR D ρ H x u) (e : items x ih = some xs) : (∃ ad us, u = .ref ad ∧ SqT D.K H ad us ∧ VRs D ρ H xs us) ∨ (∃ ad us, u = .ref ad ∧ SqL D.K H ad us ∧ VRs D ρ H xs us) := by
  cases r with
  | @tup ys us ad q rs => cases e; exact .inl ⟨ad, us, rfl, q, rs⟩
  | @frz ys us ad q rs => cases e; exact .inr ⟨ad, us, rfl, q.sq, rs⟩
  | @ref n ad q =>
    unfold items at e
    cases eo : ih[n]? with
    | none => simp [eo] at e
    | some o =>
      cases o with
      | lst ys =>
        simp only [eo, Option.some.injEq] at e
        subst e
        obtain ⟨us, h1, h2⟩ := hr.ob n _ ad eo q
        exact .inr ⟨ad, us, rfl, .inl (.inl h1), h2⟩
      | _ => simp [eo] at e
  | _ => cases e
theorem PGsi {t t' : TGs} (h : PGs X es t) (k : ∀ v σ H Q, t' v σ H Q → t v σ H Q) : PGs X es t' := ⟨fun pins s σ H v u Q I r q => h.run pins s σ H v u Q I r (k v σ H Q q)⟩
theorem G_nm {i : Nat} (hN : X.N.Nodup) (h : Sto X i x) : PG X (.Name x pos) (semG D xa (.nm i)) :=
  PGi (pg_name hN h.1 h.2.1 h.2.2) fun v σ H Q ⟨ρ, ih, s, y, s1, hr, l, r, e, q⟩ => by
    rw [asg] at e
    cases e
    exact q _ (l.setV i r) (by rw [List.length_set]) fun j hj => List.getElem?_set_ne (fun z => hj (by subst z; rw [Tg.slots]; exact List.mem_singleton.mpr rfl))
inductive Stos (X : Cx) : List Nat → List Expr → Prop
  | nil : Stos X [] []
  | cons {i : Nat} {x : Str} {p : Pos} {is : List Nat} {es : List Expr} : Sto X i x → Stos X is es → Stos X (i :: is) (.Name x p :: es)
theorem G_s (hN : X.N.Nodup) {is : List Nat} {es : List Expr} (h : Stos X is es) : PGs X es (semGs D xa is) := by
  induction h with
  | nil =>
    refine PGsi pgs_nil fun vs σ H Q ⟨ρ, ih, s, xs, s1, hr, l, r, e, q⟩ => ?_
    cases r with
    | nil =>
      cases e
      exact ⟨rfl, q σ l rfl fun _ _ => rfl⟩
    | cons _ _ => cases e
  | @cons i x p is es h _ ihh =>
    refine PGsi (pgs_cons (G_nm hN h (D := D) (xa := xa)) ihh rfl) fun vs σ H Q ⟨ρ, ih, s, xs, s1, hr, l, r, e, q⟩ => ?_
    cases r with
    | nil => cases e
    | @cons y u ys us ry rs =>
      replace e : setAll is ys (s.set i (.v y)) = some s1 := e
      exact ⟨u, us, rfl, ρ, ih, s, y, _, hr, l, ry, by rw [asg], fun σ1 l1 hl hj => ⟨ρ, ih, _, ys, s1, hr, l1, rs, e, fun σ2 l2 hl2 hj2 => q σ2 l2 (hl2.trans hl) fun j hn => by
          rw [hj2 j fun z => hn (List.mem_cons_of_mem _ z)]
          exact hj j fun z => hn (by rw [Tg.slots] at z; rw [List.mem_singleton.mp z]; exact List.mem_cons_self)⟩⟩
theorem stos_plain {is : List Nat} {es : List Expr} (h : Stos X is es) : (assignEach es X.env).length = is.length ∧ (assignEach es X.env).findIdx? (·.1) = none := by
  induction h with
  | nil => exact ⟨rfl, rfl⟩
  | @cons i x p is es h _ ih =>
    refine ⟨congrArg Nat.succ ih.1, ?_⟩
    show List.findIdx? (·.1) ((false, assign (.Name x p) X.env) :: assignEach es X.env) = none
    rw [List.findIdx?_cons, ih.2]
    rfl
theorem setAll_len : ∀ {is : List Nat} {xs : List IV} {s s1 : En}, setAll is xs s = some s1 → xs.length = is.length
  | [], [], _, _, _ => rfl
  | [], _ :: _, _, _, e => by cases e
  | _ :: _, [], _, _, e => by cases e
  | i :: is, x :: xs, s, s1, e => congrArg Nat.succ (setAll_len (is := is) (xs := xs) e)
theorem G_tp (hK : X.K = D.K) (hc : X.calm = true) (hN : X.N.Nodup) {is : List Nat} {k : Nat} (h : Stos X is es) : PG X (.Tuple es k pos) (semG D xa (.tp is)) :=
  PGi (PGor (pg_tup hc (G_s hN h (D := D) (xa := xa)) (stos_plain h).1 (stos_plain h).2) (pg_lst hc (G_s hN h (D := D) (xa := xa)) (stos_plain h).1 (stos_plain h).2)) fun v σ H Q ⟨ρ, ih, s, y, s1, hr, l, r, e, q⟩ => by
    have e : (match items y ih with
      | some xs => setAll is xs s
      | none => none) = some s1 := by
      rw [asg] at e
      exact e
    cases ei : items y ih with
    | none => rw [ei] at e; cases e
    | some xs =>
      rw [ei] at e
      rcases items_W hr r ei with ⟨ad, us, rfl, sq, rs⟩ | ⟨ad, us, rfl, sq, rs⟩
      · exact .inl ⟨ad, us, rfl, by rw [hK]; exact sq, by rw [← rs.length]; exact setAll_len e, ρ, ih, s, xs, s1, hr, l, rs, e, q⟩
      · exact .inr ⟨ad, us, rfl, by rw [hK]; exact sq, by rw [← rs.length]; exact setAll_len e, ρ, ih, s, xs, s1, hr, l, rs, e, q⟩
/-! targets in targets -/
def semGn (D : Dn) (xa : XA) (ts : Tgs) : TGs := fun vs σ H Q => ∃ ρ ih s xs s1, HR D ρ ih H ∧ LR D ρ H xa s σ ∧ VRs D ρ H xs vs ∧ asgs ts xs s ih = some s1 ∧ ∀ σ1, LR D ρ H xa s1 σ1 → σ1.length = σ.length → (∀ j, j ∉ ts.slots → σ1[j]? = σ[j]?) → Q σ1 H
mutual
inductive Sto1 (X : Cx) : Tg → Expr → Prop
  | nm {i : Nat} {x : Str} {p : Pos} : Sto X i x → Sto1 X (.nm i) (.Name x p)
  | tp {is : List Nat} {es : List Expr} {k : Nat} {p : Pos} : Stos X is es → Sto1 X (.tp is) (.Tuple es k p)
  | ns {ts : Tgs} {es : List Expr} {k : Nat} {p : Pos} : Sto1s X ts es → Sto1 X (.ns ts) (.Tuple es k p)
inductive Sto1s (X : Cx) : Tgs → List Expr → Prop
  | nil : Sto1s X .nil []
  | cons {t : Tg} {ts : Tgs} {e : Expr} {es : List Expr} : Sto1 X t e → Sto1s X ts es → Sto1s X (.cons t ts) (e :: es)
end
def Tgs.len : Tgs → Nat
  | .nil => 0
  | .cons _ ts => ts.len + 1
theorem asgs_len : ∀ {ts : Tgs} {xs : List IV} {s s1 : En} {h : IH}, asgs ts xs s h = some s1 → xs.length = ts.len
  | .nil, [], _, _, _, _ => rfl
  | .nil, _ :: _, _, _, _, e => by simp [asgs] at e
  | .cons _ _, [], _, _, _, e => by simp [asgs] at e
  | .cons t ts, x :: xs, s, s1, h, e => by
    rw [asgs] at e
    cases e1 : asg t x s h with
    | none => simp [e1] at e
    | some s2 => simp only [e1] at e; exact congrArg Nat.succ (asgs_len e)
theorem plain1 {t : Tg} {e : Expr} {es : List Expr} (h : Sto1 X t e) : assignEach (e :: es) X.env = (false, assign e X.env) :: assignEach es X.env := by
  cases h <;> rfl
theorem plain1s : ∀ {ts : Tgs} {es : List Expr}, Sto1s X ts es → (assignEach es X.env).length = ts.len ∧ (assignEach es X.env).findIdx? (·.1) = none
  | _, _, .nil => ⟨rfl, rfl⟩
  | _, _, .cons h r => by
    rw [plain1 h]
    obtain ⟨a, b⟩ := plain1s r
    refine ⟨congrArg Nat.succ a, ?_⟩
    rw [List.findIdx?_cons, b]
    rfl
mutual
theorem G_1 (hK : X.K = D.K) (hc : X.calm = true) (hN : X.N.Nodup) : ∀ {t : Tg} {e : Expr}, Sto1 X t e → PG X e (semG D xa t)
  | _, _, .nm h => G_nm hN h
  | _, _, .tp h => G_tp hK hc hN h
  | _, _, .ns (ts := ts) h =>
    PGi (PGor (pg_tup hc (G_1s hK hc hN h) (plain1s h).1 (plain1s h).2) (pg_lst hc (G_1s hK hc hN h) (plain1s h).1 (plain1s h).2)) fun v σ H Q ⟨ρ, ih, s, y, s1, hr, l, r, e, q⟩ => by
    have e : (match items y ih with
      | some xs => asgs ts xs s ih
      | none => none) = some s1 := by
      rw [asg] at e
      exact e
    cases ei : items y ih with
    | none => rw [ei] at e; cases e
    | some xs =>
      rw [ei] at e
      rcases items_W hr r ei with ⟨ad, us, rfl, sq, rs⟩ | ⟨ad, us, rfl, sq, rs⟩
      · exact .inl ⟨ad, us, rfl, by rw [hK]; exact sq, by rw [← rs.length]; exact asgs_len e, ρ, ih, s, xs, s1, hr, l, rs, e, fun σ1 l1 hl hj => q σ1 l1 hl fun j hn => hj j (by rw [Tg.slots] at hn; exact hn)⟩
      · exact .inr ⟨ad, us, rfl, by rw [hK]; exact sq, by rw [← rs.length]; exact asgs_len e, ρ, ih, s, xs, s1, hr, l, rs, e, fun σ1 l1 hl hj => q σ1 l1 hl fun j hn => hj j (by rw [Tg.slots] at hn; exact hn)⟩
theorem G_1s (hK : X.K = D.K) (hc : X.calm = true) (hN : X.N.Nodup) : ∀ {ts : Tgs} {es : List Expr}, Sto1s X ts es → PGs X es (semGn D xa ts)
  | _, _, .nil => PGsi pgs_nil fun vs σ H Q ⟨ρ, ih, s, xs, s1, hr, l, r, e, q⟩ => by
    cases r with
    | nil =>
      rw [asgs] at e
      cases e
      exact ⟨rfl, q σ l rfl fun _ _ => rfl⟩
    | cons _ _ => simp [asgs] at e
  | _, _, .cons (t := t) (ts := ts) h r => PGsi (pgs_cons (G_1 hK hc hN h) (G_1s hK hc hN r) (by rw [plain1 h]; rfl)) fun vs σ H Q ⟨ρ, ih, s, xs, s1, hr, l, r, e, q⟩ => by
    cases r with
    | nil => simp [asgs] at e
    | @cons y u ys us ry rs =>
      rw [asgs] at e
      cases e1 : asg t y s ih with
      | none => simp [e1] at e
      | some s2 =>
        simp only [e1] at e
        exact ⟨u, us, rfl, ρ, ih, s, y, s2, hr, l, ry, e1, fun σ1 l1 hl hj => ⟨ρ, ih, s2, ys, s1, hr, l1, rs, e, fun σ2 l2 hl2 hj2 => q σ2 l2 (hl2.trans hl) fun j hn => by
          rw [Tgs.slots, List.mem_append, not_or] at hn
          rw [hj2 j hn.2, hj j hn.1]⟩⟩
end
/-! ### walks -/
/-- an iterator that walks as w -/
def WkR (D : Dn) (ρ : List Addr) (H : Hp) (w : Wk) (J : It) : Prop := ∀ ρ1 ih1 H1, Ev ρ H ρ1 H1 → HR D ρ1 ih1 H1 → ∀ i, (w.nxt i ih1 = some none → J.stop i H1) ∧ ∀ x, w.nxt i ih1 = some (some x) → J.go i H1 ∧ ∀ v H2, J.yld i H1 v H2 → Ev ρ1 H1 ρ1 H2 ∧ HR D ρ1 ih1 H2 ∧ VR D ρ1 H2 x v
def semI (D : Dn) (xa : XA) (m : Bool) (cs : CF) (it : IT) (W : WX) : TI := semR D xa (WkR D) (evI D.sg m cs it) W
theorem PIi {tg : Expr} {t t' : TI} (h : PI X tg e t) (k : ∀ σ H Q, t' σ H Q → t σ H Q) : PI X tg e t' := ⟨fun pins s σ H R I q => h.run pins s σ H R I (k σ H R q)⟩
/-- what is known of a list in the heap, by S -/
theorem at_V {ρ : List Addr} {H : Hp} {S : List V → Prop} {xs : List IV} {us : List V} (s : S us) (r : VRs D ρ H xs us) (i : Nat) : (xs[i]? = none → ∃ us, S us ∧ us.length ≤ i) ∧ ∀ x, xs[i]? = some x → (∃ us v, S us ∧ us[i]? = some v) ∧ ∀ v, (∀ us, S us → us[i]? = some v) → VR D ρ H x v := by
  refine ⟨fun h => ⟨us, s, by rw [← r.length]; exact List.getElem?_eq_none_iff.mp h⟩, fun x h => ?_⟩
  obtain ⟨u, h1, h2⟩ := r.get h
  refine ⟨⟨us, u, s, h1⟩, fun v k => ?_⟩
  have := k us s
  rw [h1] at this
  cases this
  exact h2
theorem lstI_V {ρ : List Addr} {H : Hp} {ih : IH} {x : IV} {u : V} {xs : List IV} (hr : HR D ρ ih H) (r : VR D ρ H x u) (e : lstI x ih = some xs) : ∃ ad us, u = .ref ad ∧ SqL D.K H ad us ∧ VRs D ρ H xs us := by
  cases r with
  | @frz ys us ad q rs => cases e; exact ⟨ad, us, rfl, q.sq, rs⟩
  | @ref n ad q =>
    unfold lstI at e
    cases eo : ih[n]? with
    | none => simp [eo] at e
    | some o =>
      cases o with
      | lst ys =>
        simp only [eo, Option.some.injEq] at e
        subst e
        obtain ⟨us, h1, h2⟩ := hr.ob n _ ad eo q
        exact ⟨ad, us, rfl, .inl (.inl h1), h2⟩
      | _ => simp [eo] at e
  | _ => cases e
theorem wk_tup {ρ : List Addr} {H : Hp} {ih : IH} {xs : List IV} {us : List V} {ad : Addr} (hr : HR D ρ ih H) (q : SqT D.K H ad us) (r : VRs D ρ H xs us) : WkR D ρ H (.fix xs) (Itt D.K ad) := by
  intro ρ1 ih1 H1 ev hr1 i
  obtain ⟨h1, h2⟩ := at_V (S := SqT D.K H1 ad) (sqT_evo q hr ev) (r.evo hr ev) i
  refine ⟨fun z => h1 (Option.some.inj z), fun x z => ?_⟩
  obtain ⟨⟨us, v, g1, g2⟩, g3⟩ := h2 x (Option.some.inj z)
  exact ⟨⟨us, v, g1, g2⟩, fun v H2 ⟨e, k⟩ => by subst e; exact ⟨.refl, hr1, g3 v k⟩⟩
theorem wk_frz {ρ : List Addr} {H : Hp} {ih : IH} {xs : List IV} {us : List V} {ad : Addr} (hr : HR D ρ ih H) (q : SqF D.K H ad us) (r : VRs D ρ H xs us) : WkR D ρ H (.fix xs) (Itl D.K ad) := by
  intro ρ1 ih1 H1 ev hr1 i
  obtain ⟨h1, h2⟩ := at_V (S := SqL D.K H1 ad) (sqF_evo q hr ev).sq (r.evo hr ev) i
  refine ⟨fun z => h1 (Option.some.inj z), fun x z => ?_⟩
  obtain ⟨⟨us, v, g1, g2⟩, g3⟩ := h2 x (Option.some.inj z)
  exact ⟨⟨us, v, g1, g2⟩, fun v H2 ⟨e, k⟩ => by subst e; exact ⟨.refl, hr1, g3 v k⟩⟩
theorem wk_lst {ρ : List Addr} {H : Hp} {n : Nat} {ad : Addr} (q : ρ[n]? = some ad) : WkR D ρ H (.lst n) (Itl D.K ad) := by
  intro ρ1 ih1 H1 ev hr1 i
  have q1 := ev.at_ q
  show ((match ih1[n]? with
    | some (.lst xs) => some xs[i]?
    | _ => none) = some none → _) ∧ _
  cases eo : ih1[n]? with
  | none => exact ⟨fun z => (by cases z), fun x z => (by simp [Wk.nxt, eo] at z)⟩
  | some o =>
    cases o with
    | lst xs =>
      obtain ⟨us, g1, g2⟩ := hr1.ob n _ ad eo q1
      obtain ⟨h1, h2⟩ := at_V (S := SqL D.K H1 ad) (.inl (.inl g1)) g2 i
      refine ⟨fun z => h1 (Option.some.inj z), fun x z => ?_⟩
      simp only [Wk.nxt, eo] at z
      obtain ⟨⟨us, v, g1, g2⟩, g3⟩ := h2 x (Option.some.inj z)
      exact ⟨⟨us, v, g1, g2⟩, fun v H2 ⟨e, k⟩ => by subst e; exact ⟨.refl, hr1, g3 v k⟩⟩
    | _ => exact ⟨fun z => (by cases z), fun x z => (by simp [Wk.nxt, eo] at z)⟩
theorem wk_str {ρ : List Addr} {H : Hp} {z : Str} : WkR D ρ H (.fix (z.cps.toList.map fun c => .str ⟨#[c]⟩)) (Its z) := by
  intro ρ1 ih1 H1 ev hr1 i
  refine ⟨fun q => ?_, fun x q => ?_⟩
  · have q' := Option.some.inj q
    rw [List.getElem?_eq_none_iff, List.length_map, Array.length_toList] at q'
    exact q'
  · have q' := Option.some.inj q
    rw [List.getElem?_map] at q'
    obtain ⟨c, h1, h2⟩ := Option.map_eq_some_iff.mp q'
    subst h2
    have h3 : z.cps[i]? = some c := by rw [← h1, Array.getElem?_toList]
    refine ⟨(Array.getElem?_eq_some_iff.mp h3).1, fun v H2 ⟨e, c2, h4, h5⟩ => ?_⟩
    subst e h5
    rw [h3] at h4
    cases h4
    exact ⟨.refl, hr1, .str _⟩
theorem wk_rng {ρ : List Addr} {H : Hp} {i : Int} {n : Nat} : WkR D ρ H (.fix ((List.range n).map fun k : Nat => .int (i + (k : Int)))) (Itr i n) := by
  intro ρ1 ih1 H1 ev hr1 j
  refine ⟨fun q => ?_, fun x q => ?_⟩
  · have q' := Option.some.inj q
    rw [List.getElem?_eq_none_iff, List.length_map, List.length_range] at q'
    exact q'
  · have q' := Option.some.inj q
    rw [List.getElem?_map] at q'
    obtain ⟨c, h1, h2⟩ := Option.map_eq_some_iff.mp q'
    subst h2
    obtain ⟨h3, h4⟩ := List.getElem?_eq_some_iff.mp h1
    rw [List.length_range] at h3
    rw [List.getElem_range] at h4
    subst h4
    exact ⟨h3, fun v H2 ⟨e, h5⟩ => by subst e h5; exact ⟨.refl, hr1, .int _⟩⟩
theorem wk_enm {ρ : List Addr} {H : Hp} {ih : IH} {y : IV} {ad : Addr} (hr : HR D ρ ih H) (r : VR D ρ H y (.ref ad)) : WkR D ρ H (.enm y) (Ite D.K ad) := by
  intro ρ1 ih1 H1 ev hr1 i
  have r1 := r.evo hr ev
  show ((lstI y ih1).map _ = some none → _) ∧ ∀ x, (lstI y ih1).map _ = some (some x) → _
  cases el : lstI y ih1 with
  | none => exact ⟨fun z => (by cases z), fun x z => (by cases z)⟩
  | some xs =>
    obtain ⟨_, us, e1, g1, g2⟩ := lstI_V hr1 r1 el
    cases e1
    obtain ⟨h1, h2⟩ := at_V (S := SqL D.K H1 ad) g1 g2 i
    refine ⟨fun z => h1 ?_, fun x z => ?_⟩
    · have z' := Option.some.inj z
      exact Option.map_eq_none_iff.mp z'
    · have z' := Option.some.inj z
      obtain ⟨y0, k1, k2⟩ := Option.map_eq_some_iff.mp z'
      subst k2
      obtain ⟨⟨us, v, g1, g2⟩, g3⟩ := h2 y0 k1
      refine ⟨⟨us, v, g1, g2⟩, fun v H2 ⟨T, x, e1, hT, e2, k⟩ => ?_⟩
      subst e1 e2
      have ev2 : Ev ρ1 H1 ρ1 (upd H1 T (.tup [.int (i : Nat), x])) := Ev.lay hT _
      exact ⟨ev2, hr1.lay hT _, .tup (.inl (.inl upd_same)) (.cons (.int _) (.cons ((g3 x k).evo hr1 ev2) .nil))⟩
theorem wk_zip {ρ : List Addr} {H : Hp} {ih : IH} {y z : IV} {ad bd : Addr} (hr : HR D ρ ih H) (r : VR D ρ H y (.ref ad)) (rz : VR D ρ H z (.ref bd)) : WkR D ρ H (.zip y z) (Itz D.K ad bd) := by
  intro ρ1 ih1 H1 ev hr1 i
  have r1 := r.evo hr ev
  have rz1 := rz.evo hr ev
  cases el : lstI y ih1 with
  | none => exact ⟨fun q => (by simp [Wk.nxt, el] at q), fun x q => (by simp [Wk.nxt, el] at q)⟩
  | some xs =>
    cases el2 : lstI z ih1 with
    | none => exact ⟨fun q => (by simp [Wk.nxt, el, el2] at q), fun x q => (by simp [Wk.nxt, el, el2] at q)⟩
    | some ys =>
      obtain ⟨_, us, e1, g1, g2⟩ := lstI_V hr1 r1 el
      cases e1
      obtain ⟨_, ws, e2, k1, k2⟩ := lstI_V hr1 rz1 el2
      cases e2
      obtain ⟨h1, h2⟩ := at_V (S := SqL D.K H1 ad) g1 g2 i
      obtain ⟨h3, h4⟩ := at_V (S := SqL D.K H1 bd) k1 k2 i
      cases ex : xs[i]? with
      | none =>
        refine ⟨fun _ => ?_, fun x q => (by simp [Wk.nxt, el, el2, ex] at q)⟩
        obtain ⟨us', q1, q2⟩ := h1 ex
        exact ⟨us', ws, q1, k1, .inl q2⟩
      | some x0 =>
        cases ey : ys[i]? with
        | none =>
          refine ⟨fun _ => ?_, fun x q => (by simp [Wk.nxt, el, el2, ex, ey] at q)⟩
          obtain ⟨us', q1, q2⟩ := h3 ey
          exact ⟨us, us', g1, q1, .inr q2⟩
        | some y0 =>
          refine ⟨fun q => (by simp [Wk.nxt, el, el2, ex, ey] at q), fun x q => ?_⟩
          simp only [Wk.nxt, el, el2, ex, ey, Option.some.injEq] at q
          subst q
          obtain ⟨⟨us', v, f1, f2⟩, f3⟩ := h2 x0 ex
          obtain ⟨⟨ws', v2, f4, f5⟩, f6⟩ := h4 y0 ey
          refine ⟨⟨us', ws', v, v2, f1, f4, f2, f5⟩, fun v H2 ⟨T, x, y, e1, hT, e2, k, kk⟩ => ?_⟩
          subst e1 e2
          have ev2 : Ev ρ1 H1 ρ1 (upd H1 T (.tup [x, y])) := Ev.lay hT _
          exact ⟨ev2, hr1.lay hT _, .tup (.inl (.inl upd_same)) (.cons ((f3 x k).evo hr1 ev2) (.cons ((f6 y kk).evo hr1 ev2) .nil))⟩
theorem zipT_at : ∀ {xs ys : List IV} {i : Nat}, (zipT xs ys)[i]? = match xs[i]?, ys[i]? with
      | some x, some y => some (.tup [x, y])
      | _, _ => none
  | [], _, _ => by simp [zipT]
  | _ :: _, [], i => by simp only [zipT]; cases i <;> simp <;> split <;> simp_all
  | x :: xs, y :: ys, 0 => by simp [zipT]
  | x :: xs, y :: ys, i + 1 => by simp only [zipT, List.getElem?_cons_succ]; exact zipT_at
theorem wk_zipT {ρ : List Addr} {H : Hp} {ih : IH} {xs ys : List IV} {us ws : List V} {ad bd : Addr} (hr : HR D ρ ih H) (q : SqT D.K H ad us) (r : VRs D ρ H xs us) (q2 : SqT D.K H bd ws) (r2 : VRs D ρ H ys ws) : WkR D ρ H (.fix (zipT xs ys)) (RZ.ItzT D.K ad bd) := by
  intro ρ1 ih1 H1 ev hr1 i
  obtain ⟨h1, h2⟩ := at_V (S := SqT D.K H1 ad) (sqT_evo q hr ev) (r.evo hr ev) i
  obtain ⟨h3, h4⟩ := at_V (S := SqT D.K H1 bd) (sqT_evo q2 hr ev) (r2.evo hr ev) i
  show (some ((zipT xs ys)[i]?) = some none → _) ∧ ∀ x, some ((zipT xs ys)[i]?) = some (some x) → _
  rw [zipT_at]
  cases ex : xs[i]? with
  | none =>
    refine ⟨fun _ => ?_, fun x z => by simp at z⟩
    obtain ⟨us', q1, q2'⟩ := h1 ex
    exact ⟨us', ws, q1, sqT_evo q2 hr ev, .inl q2'⟩
  | some x0 =>
    cases ey : ys[i]? with
    | none =>
      refine ⟨fun _ => ?_, fun x z => by simp at z⟩
      obtain ⟨us', q1, q2'⟩ := h3 ey
      exact ⟨us, us', sqT_evo q hr ev, q1, .inr q2'⟩
    | some y0 =>
      refine ⟨fun z => by simp at z, fun x z => ?_⟩
      simp only [Option.some.injEq] at z
      subst z
      obtain ⟨⟨us', v, f1, f2⟩, f3⟩ := h2 x0 ex
      obtain ⟨⟨ws', v2, f4, f5⟩, f6⟩ := h4 y0 ey
      refine ⟨⟨us', ws', v, v2, f1, f4, f2, f5⟩, fun v H2 ⟨T, x, y, e1, hT, e2, k, kk⟩ => ?_⟩
      subst e1 e2
      have ev2 : Ev ρ1 H1 ρ1 (upd H1 T (.tup [x, y])) := Ev.lay hT _
      exact ⟨ev2, hr1.lay hT _, .tup (.inl (.inl upd_same)) (.cons ((f3 x k).evo hr1 ev2) (.cons ((f6 y kk).evo hr1 ev2) .nil))⟩
theorem I_val {tg : Expr} (hK : X.K = D.K) (he : PE X e (sE D xa m cs ia W)) : PI X tg e (semI D xa m cs (.val ia) W) := ⟨fun pins s σ H R I ⟨ρ, ih, sl, hr, l, p⟩ => by
  have p' : Post D ρ H ((evE D.sg m cs ia sl ih).bind fun x h => match x with
    | .tup xs => .ok (.fix xs) h
    | .frz xs => .ok (.fix xs) h
    | .ref r => match h[r]? with
      | some (.lst _) => .ok (.lst r) h
      | _ => .no
    | .str z => .ok (.fix (z.cps.toList.map fun c => .str ⟨#[c]⟩)) h
    | _ => .no) (WkR D) R (WE W σ) := p
  cases hx : evE D.sg m cs ia sl ih with
  | no => rw [hx] at p'; exact p'.elim
  | ex c v k =>
    refine (pi_list he).run pins s σ H R I (semR.bind hr l p' fun x ih1 ρ1 H1 u e hr1 l1 ev q p1 => ?_)
    rw [hx] at e
    cases e
  | ok x k =>
    cases x with
    | tup xs =>
      refine (pi_tup he).run pins s σ H R I (semR.bind hr l p' fun x ih1 ρ1 H1 u e hr1 l1 ev q p1 => ?_)
      rw [hx] at e
      cases e
      cases q with
      | @tup _ us ad sq rs => exact ⟨ad, rfl, ⟨us, by rw [hK]; exact sq⟩, by rw [hK]; exact p1 _ _ _ .refl hr1 (wk_tup hr1 sq rs)⟩
    | frz xs =>
      refine (pi_list he).run pins s σ H R I (semR.bind hr l p' fun x ih1 ρ1 H1 u e hr1 l1 ev q p1 => ?_)
      rw [hx] at e
      cases e
      cases q with
      | @frz _ us ad sq rs => exact ⟨ad, rfl, ⟨us, by rw [hK]; exact sq.sq⟩, by rw [hK]; exact p1 _ _ _ .refl hr1 (wk_frz hr1 sq rs)⟩
    | str z =>
      refine (pi_str he).run pins s σ H R I (semR.bind hr l p' fun x ih1 ρ1 H1 u e hr1 l1 ev q p1 => ?_)
      rw [hx] at e
      cases e
      cases q with
      | str z => exact ⟨z, rfl, p1 _ _ _ .refl hr1 wk_str⟩
    | ref n =>
      refine (pi_list he).run pins s σ H R I (semR.bind hr l p' fun x ih1 ρ1 H1 u e hr1 l1 ev q p1 => ?_)
      rw [hx] at e
      injection e with e1 e2
      subst e1 e2
      cases q with
      | @ref _ ad q =>
        replace p1 : Post D ρ1 H1 (match k[n]? with
          | some (.lst _) => .ok (.lst n) k
          | _ => .no) (WkR D) R (WE W σ) := p1
        cases eo : k[n]? with
        | none => rw [eo] at p1; exact p1.elim
        | some o =>
          rw [eo] at p1
          cases o with
          | lst xs =>
            obtain ⟨us, g1, g2⟩ := hr1.ob n _ ad eo q
            exact ⟨ad, rfl, ⟨us, .inl (.inl g1)⟩, by rw [hK]; exact p1 _ _ _ .refl hr1 (wk_lst q)⟩
          | _ => exact p1.elim
    | _ => rw [hx] at p'; exact p'.elim⟩
theorem I_rng1 {tg : Expr} (g : Gl X "range") (hm : X.mg "range" = none) (ha : PA X [a] (sA D xa m cs (.cons ia .nil) W)) (hs : nostar a = true) : PI X tg (.Call (.Name "range" p0) [a] [] pos) (semI D xa m cs (.rng (.cons ia .nil)) W) :=
  PIi (pi_range1 g hm ha (star_ok hs)) fun σ H R ⟨ρ, ih, s, hr, l, p⟩ => semR.bind hr l (show Post D ρ H ((evA D.sg m cs (.cons ia .nil) s ih).bind fun vs h => (opt (rng vs) h).bind fun xs h => .ok (.fix xs) h) (WkR D) R (WE W σ) from p) fun vs ih1 ρ1 H1 us e hr1 l1 ev q p1 => by
    have hl := evA_len e
    cases q with
    | nil => cases hl
    | @cons y u vs us ry rt =>
      cases rt with
      | cons _ _ => cases hl
      | nil =>
        obtain ⟨xs, e1, p2⟩ := optB p1
        cases ry with
        | int j =>
          have e2 : (if -4611686018427387904 ≤ j ∧ j < 4611686018427387904 then some ((List.range j.toNat).map fun k : Nat => IV.int (0 + (k : Int))) else none) = some xs := e1
          by_cases hc : -4611686018427387904 ≤ j ∧ j < 4611686018427387904
          · rw [if_pos hc] at e2
            cases e2
            exact ⟨j, rfl, by omega, by omega, p2 _ _ _ .refl hr1 wk_rng⟩
          · rw [if_neg hc] at e2
            cases e2
        | _ => cases e1
theorem I_rng2 {tg : Expr} (g : Gl X "range") (hm : X.mg "range" = none) (ha : PA X [a, b] (sA D xa m cs (.cons ia (.cons ib .nil)) W)) (hs : nostar a = true) (hs2 : nostar b = true) : PI X tg (.Call (.Name "range" p0) [a, b] [] pos) (semI D xa m cs (.rng (.cons ia (.cons ib .nil))) W) :=
  PIi (pi_range2 g hm ha (by rw [star_ok hs, star_ok hs2]; rfl) (star_ok hs2)) fun σ H R ⟨ρ, ih, s, hr, l, p⟩ => semR.bind hr l (show Post D ρ H ((evA D.sg m cs (.cons ia (.cons ib .nil)) s ih).bind fun vs h => (opt (rng vs) h).bind fun xs h => .ok (.fix xs) h) (WkR D) R (WE W σ) from p) fun vs ih1 ρ1 H1 us e hr1 l1 ev q p1 => by
    have hl := evA_len e
    cases q with
    | nil => cases hl
    | @cons y u vs us ry rt =>
      cases rt with
      | nil => cases hl
      | @cons y2 u2 vs2 us2 ry2 rt2 =>
        cases rt2 with
        | cons _ _ => cases hl
        | nil =>
          obtain ⟨xs, e1, p2⟩ := optB p1
          cases ry with
          | int i =>
            cases ry2 with
            | int j =>
              have e2 : (if -4611686018427387904 ≤ i ∧ i < 4611686018427387904 ∧ -4611686018427387904 ≤ j ∧ j < 4611686018427387904 then some ((List.range (j - i).toNat).map fun k : Nat => IV.int (i + (k : Int))) else none) = some xs := e1
              by_cases hc : -4611686018427387904 ≤ i ∧ i < 4611686018427387904 ∧ -4611686018427387904 ≤ j ∧ j < 4611686018427387904
              · rw [if_pos hc] at e2
                cases e2
                exact ⟨i, j, rfl, ⟨by omega, by omega, by omega, by omega⟩, p2 _ _ _ .refl hr1 wk_rng⟩
              · rw [if_neg hc] at e2
                cases e2
            | _ => cases e1
          | _ => cases e1
theorem I_zip {elts : List Expr} {kk : Nat} {tpos : Pos} (hK : X.K = D.K) (g : Gl X "zip") (hm : X.mg "zip" = none) (ha : PE X a (sE D xa m cs ia W)) (hb : PE X b (sE D xa m cs ib W)) (hs : nostar a = true) (hs2 : nostar b = true) : PI X (.Tuple elts kk tpos) (.Call (.Name "zip" p0) [a, b] [] pos) (semI D xa m cs (.zip ia ib) W) :=
  PIi (RZ.pi_zipA g hm (pa_cons ha (pa_cons hb pa_nil (star_ok hs2)) (star_ok hs)) (star_ok hs) (by rw [star_ok hs2]; rfl)) fun σ H R ⟨ρ, ih, s, hr, l, p⟩ => semR.bind hr l (show Post D ρ H ((evE D.sg m cs ia s ih).bind fun x h => (evE D.sg m cs ib s h).bind fun y h => match lstI x h, lstI y h with
    | some _, some _ => .ok (.zip x y) h
    | _, _ => match x, y with
      | .tup xs, .tup ys => .ok (.fix (zipT xs ys)) h
      | _, _ => .no) (WkR D) R (WE W σ) from p) fun x ih1 ρ1 H1 u e hr1 l1 ev q p1 => semR.bind hr1 l1 p1 fun y ih2 ρ2 H2 w e2 hr2 l2 ev2 q2 p2 => by
    have q := q.evo hr1 ev2
    cases el : lstI x ih2 with
    | some xs =>
      cases el2 : lstI y ih2 with
      | some ys =>
        rw [el, el2] at p2
        obtain ⟨ad, us, e1, g1, g2⟩ := lstI_V hr2 q el
        subst e1
        obtain ⟨bd, ws, e1, k1, k2⟩ := lstI_V hr2 q2 el2
        subst e1
        exact ⟨ad, bd, us, ws, rfl, .inl ⟨by rw [hK]; exact g1, by rw [hK]; exact k1, by rw [hK]; exact p2 _ _ _ .refl hr2 (wk_zip hr2 q q2)⟩⟩
      | none =>
        rw [el, el2] at p2
        cases x with
        | tup _ => cases el
        | _ => exact p2.elim
    | none =>
      have p3 : Post D ρ2 H2 (match x, y with
        | .tup xs, .tup ys => .ok (.fix (zipT xs ys)) ih2
        | _, _ => .no) (WkR D) R (WE W σ) := by
        rw [el] at p2
        exact p2
      cases q with
      | @tup xs us ad sq rs =>
        cases q2 with
        | @tup ys ws bd sq2 rs2 => exact ⟨ad, bd, us, ws, rfl, .inr ⟨by rw [hK]; exact sq, by rw [hK]; exact sq2, by rw [hK]; exact p3 _ _ _ .refl hr2 (wk_zipT hr2 sq rs sq2 rs2)⟩⟩
        | _ => exact p3.elim
      | _ => exact p3.elim
/-! ### comprehensions -/
abbrev WF : WX := fun _ _ _ _ => False
def noset : Expr → Bool
  | .Set _ _ _ => false
  | _ => true
theorem noset_ok {iter : Expr} {env : Env} (h : noset iter = true) (x : Value) : foldedSetIterable iter env x = pure x := by
  cases iter <;> first | rfl | cases h
def semTs (D : Dn) (xa : XA) (m : Bool) (cs : CF) (qs : IQs) (W : WX) : TT := semT D xa (evAll D.sg m cs qs) W
theorem lc_sem {t : Tg} {it : IT} {qs : IQs} (σ : L2.St) (H : Hp) (Q : VK) (h0 : sE D xa false cs (.lc t it qs ia) W σ H Q) : tLc (semI D xa false cs it W) (semG D xa t) (semTs D xa false cs qs WF) (sE D xa false cs ia WF) t.slots σ H Q := by
  obtain ⟨ρ, ih, s, hr, l, p⟩ := h0
  have p' : Post D ρ H ((evI D.sg false cs it s ih).bind fun w h => (colle w t (wipe s t.slots) (evAll D.sg false cs qs) (evE D.sg false cs ia) h.length FU 0 (h ++ [.lst []])).bind fun _ h' => .ok (.ref h.length) h') (VR D) Q (WE W σ) := p
  refine semR.bind hr l p' fun w ih1 ρ1 H1 J e hr1 l1 ev wk p1 => fun A hA => ?_
  have ev2 : Ev ρ1 H1 (ρ1 ++ [A]) (upd H1 A (.lst [])) := Ev.new hA _
  have hr2 : HR D (ρ1 ++ [A]) (ih1 ++ [.lst []]) (upd H1 A (.lst [])) := hr1.new hA _ ⟨[], upd_same, .nil⟩
  have hAt : (ρ1 ++ [A])[ih1.length]? = some A := hr1.last
  let Wf : Nat → Nat → Hp → Prop := fun i k H' => ∃ ρ' ih', Ev (ρ1 ++ [A]) (upd H1 A (.lst [])) ρ' H' ∧ HR D ρ' ih' H' ∧ Post D ρ' H' ((colle w t (wipe s t.slots) (evAll D.sg false cs qs) (evE D.sg false cs ia) ih1.length k i ih').bind fun _ h' => .ok (.ref ih1.length) h') (VR D) Q (WE W σ)
  refine ⟨Wf, ⟨FU, _, _, .refl, hr2, p1.evo hr2 ev2⟩, fun i k H' ⟨ρ', ih', ev3, hr3, p3⟩ => ?_⟩
  cases k with
  | zero => exact p3.elim
  | succ k =>
    have p4 : Post D ρ' H' (R.bind (α := Unit) (match w.nxt i ih' with
      | none => .no
      | some none => .ok () ih'
      | some (some x) => match asg t x (wipe s t.slots) ih' with
        | none => .no
        | some s1 => match evAll D.sg false cs qs s1 ih' with
          | .ok true h1 => (match evE D.sg false cs ia s1 h1 with
            | .ok y h2 => match h2[ih1.length]? with
              | some (.lst acc) => if acc.length < LN then colle w t (wipe s t.slots) (evAll D.sg false cs qs) (evE D.sg false cs ia) ih1.length k (i + 1) (h2.set ih1.length (.lst (acc ++ [y]))) else .no
              | _ => .no
            | _ => .no)
          | .ok false h1 => colle w t (wipe s t.slots) (evAll D.sg false cs qs) (evE D.sg false cs ia) ih1.length k (i + 1) h1
          | _ => .no) fun _ h' => .ok (.ref ih1.length) h') (VR D) Q (WE W σ) := p3
    obtain ⟨wk1, wk2⟩ := wk ρ' ih' H' (ev2.trans hr2 ev3) hr3 i
    cases hn : w.nxt i ih' with
    | none => rw [hn] at p4; exact p4.elim
    | some o =>
      cases o with
      | none =>
        rw [hn] at p4
        exact .inl ⟨wk1 hn, p4 _ _ _ .refl hr3 (.ref (ev3.at_ hAt))⟩
      | some x =>
        rw [hn] at p4
        obtain ⟨go, yl⟩ := wk2 x hn
        refine .inr ⟨go, fun H'' => Wf (i + 1) k H'', fun H'' n => ⟨k, Nat.lt_succ_self k, n⟩, fun v H'' y => ?_⟩
        obtain ⟨ev4, hr4, rv⟩ := yl v H'' y
        have ev34 := ev3.trans hr3 ev4
        have l4 : LR D ρ' H'' xa (wipe s t.slots) (L2.wipe σ t.slots) := ((l1.evo hr1 ev2).evo hr2 ev34).wip _
        replace p4 : Post D ρ' H' (R.bind (α := Unit) (match asg t x (wipe s t.slots) ih' with
          | none => .no
          | some s1 => match evAll D.sg false cs qs s1 ih' with
            | .ok true h1 => (match evE D.sg false cs ia s1 h1 with
              | .ok y h2 => match h2[ih1.length]? with
                | some (.lst acc) => if acc.length < LN then colle w t (wipe s t.slots) (evAll D.sg false cs qs) (evE D.sg false cs ia) ih1.length k (i + 1) (h2.set ih1.length (.lst (acc ++ [y]))) else .no
                | _ => .no
              | _ => .no)
            | .ok false h1 => colle w t (wipe s t.slots) (evAll D.sg false cs qs) (evE D.sg false cs ia) ih1.length k (i + 1) h1
            | _ => .no) fun _ h' => .ok (.ref ih1.length) h') (VR D) Q (WE W σ) := p4
        cases ha : asg t x (wipe s t.slots) ih' with
        | none => rw [ha] at p4; exact p4.elim
        | some s1 =>
          rw [ha] at p4
          refine ⟨ρ', ih', _, x, s1, hr4, l4, rv, ha, fun σ1 l5 hl5 hj5 => ⟨?_, ?_⟩⟩
          · exact w_congr (hl5.trans (wipe_length _ _)) fun j hj => by rw [hj5 j hj, wipe_out hj]
          · refine ⟨ρ', ih', s1, hr4, l5, ?_⟩
            replace p4 : Post D ρ' H' (R.bind (α := Unit) (match evAll D.sg false cs qs s1 ih' with
              | .ok true h1 => (match evE D.sg false cs ia s1 h1 with
                | .ok y h2 => match h2[ih1.length]? with
                  | some (.lst acc) => if acc.length < LN then colle w t (wipe s t.slots) (evAll D.sg false cs qs) (evE D.sg false cs ia) ih1.length k (i + 1) (h2.set ih1.length (.lst (acc ++ [y]))) else .no
                  | _ => .no
                | _ => .no)
              | .ok false h1 => colle w t (wipe s t.slots) (evAll D.sg false cs qs) (evE D.sg false cs ia) ih1.length k (i + 1) h1
              | _ => .no) fun _ h' => .ok (.ref ih1.length) h') (VR D) Q (WE W σ) := p4
            cases hq : evAll D.sg false cs qs s1 ih' with
            | no => rw [hq] at p4; exact p4.elim
            | ex _ _ _ => rw [hq] at p4; exact p4.elim
            | ok tb h1 =>
              rw [hq] at p4
              intro ρ5 H5 tb' ev5 hr5 eb
              subst eb
              have ev45 := ev34.trans hr4 ev5
              cases tb with
              | false =>
                rw [if_neg (by decide)]
                exact ⟨ρ5, h1, ev45, hr5, p4.evo hr5 (ev4.trans hr4 ev5)⟩
              | true =>
                rw [if_pos rfl]
                refine ⟨ρ5, h1, s1, hr5, l5.evo hr4 ev5, ?_⟩
                replace p4 : Post D ρ' H' (R.bind (α := Unit) (match evE D.sg false cs ia s1 h1 with
                  | .ok y h2 => match h2[ih1.length]? with
                    | some (.lst acc) => if acc.length < LN then colle w t (wipe s t.slots) (evAll D.sg false cs qs) (evE D.sg false cs ia) ih1.length k (i + 1) (h2.set ih1.length (.lst (acc ++ [y]))) else .no
                    | _ => .no
                  | _ => .no) fun _ h' => .ok (.ref ih1.length) h') (VR D) Q (WE W σ) := p4
                cases hE : evE D.sg false cs ia s1 h1 with
                | no => rw [hE] at p4; exact p4.elim
                | ex _ _ _ => rw [hE] at p4; exact p4.elim
                | ok y h2 =>
                  rw [hE] at p4
                  intro ρ6 H6 u ev6 hr6 ry
                  have ev56 := ev45.trans hr5 ev6
                  replace p4 : Post D ρ' H' (R.bind (α := Unit) (match h2[ih1.length]? with
                    | some (.lst acc) => if acc.length < LN then colle w t (wipe s t.slots) (evAll D.sg false cs qs) (evE D.sg false cs ia) ih1.length k (i + 1) (h2.set ih1.length (.lst (acc ++ [y]))) else .no
                    | _ => .no) fun _ h' => .ok (.ref ih1.length) h') (VR D) Q (WE W σ) := p4
                  cases ho2 : h2[ih1.length]? with
                  | none => rw [ho2] at p4; exact p4.elim
                  | some ob =>
                    rw [ho2] at p4
                    cases ob with
                    | lst acc =>
                      obtain ⟨us, g1, g2⟩ := hr6.ob _ _ A ho2 (ev56.at_ hAt)
                      obtain ⟨hl, p5⟩ := ifp (a := colle w t (wipe s t.slots) (evAll D.sg false cs qs) (evE D.sg false cs ia) ih1.length k (i + 1) (h2.set ih1.length (.lst (acc ++ [y])))) (b := .no) (F := fun r : R Unit => Post D ρ' H' (r.bind fun _ h' => .ok (.ref ih1.length) h') (VR D) Q (WE W σ)) p4 fun z => z
                      have hm := List.mem_of_getElem? (ev56.at_ hAt)
                      have ev7 : Ev ρ6 H6 ρ6 (upd H6 A (.lst (us ++ [u]))) := Ev.put hm _
                      have hr7 := hr6.put (ev56.at_ hAt) (.lst (us ++ [u])) (o := .lst (acc ++ [y])) ⟨_, upd_same, (g2.append (.cons ry .nil)).evo hr6 ev7⟩
                      exact ⟨us, g1, by rw [← g2.length, ← ln_eq]; exact hl, ρ6, _, ev56.trans hr6 ev7, hr7, p5.evo hr7 (((ev4.trans hr4 ev5).trans hr5 ev6).trans hr6 ev7)⟩
                    | _ => exact p4.elim
theorem L_lc {elt tg iter : Expr} {ifs : List Expr} {scope : Scope} {own : List (Str × Nat)} {t : Tg} {it : IT} {qs : IQs} (hc : m = false → X.calm = true) (hN : X.N.Nodup) (hi : PI X tg iter (semI D xa m cs it W)) (ok : BlkOk X.N X.env.scope scope own) (ho : own.map (·.2) = t.slots)
    (hg : ∀ (s : Shared) (H : Hp) (C : Addr) (cl : List (Str × Addr)) (fp : List Addr), PG (X.blk s H scope (compEnvC scope cl C X.env) fp) tg (semG D xa t)) (ht : ∀ (s : Shared) (H : Hp) (C : Addr) (cl : List (Str × Addr)) (fp : List Addr), PTs (X.blk s H scope (compEnvC scope cl C X.env) fp) ifs (semTs D xa m cs qs WF))
    (he : ∀ (s : Shared) (H : Hp) (C : Addr) (cl : List (Str × Addr)) (fp : List Addr), PE (X.blk s H scope (compEnvC scope cl C X.env) fp) elt (sE D xa m cs ia WF)) (hs : noset iter = true) :
    PE X (.ListComp elt [⟨tg, iter, ifs, 0⟩] scope pos) (sE D xa m cs (.lc t it qs ia) W) := by
  cases m with
  | true => exact ⟨fun pins s σ H Q I ⟨ρ, ih, sl, hr, l, p⟩ => False.elim p⟩
  | false =>
    exact PEi (pe_lc (hc rfl) hN hi ok hg ht he fun x => noset_ok hs x) fun σ H Q h => by rw [ho]; exact lc_sem σ H Q h
end
end Itp

/-! ItKa: lists of ranges, displays with stars, comprehensions of two. -/
namespace Itp
open PySem PySem.Spec PyProof.Rows L2
section
variable {D : Dn} {X : Cx} {xa : XA} {W : WX} {m : Bool} {cs : CF} {e a b c : Expr} {es rest : List Expr} {kws : List Keyword} {pos apos p0 p1 : Pos} {ia ib ic : IE} {ies iks : IA} {ids : ID} {x : Str}
theorem newL_P {tup : Bool} {ρ : List Addr} {H : Hp} {ih : IH} {xs : List IV} {us : List V} {Q : VK} {W : Value → Option Addr → Hp → Prop} (hr : HR D ρ ih H) (r : VRs D ρ H xs us) (p : Post D ρ H (newL tup xs ih) (VR D) Q W) :
    us.length ≤ sizeLine ∧ ∀ q, H q = none → Q (.ref q) (upd H q (if tup = true then .tup us else .lst us)) := by
  obtain ⟨c, p1⟩ := ifp (F := fun r => Post D ρ H r (VR D) Q W) p fun z => z
  refine ⟨by rw [← r.length, ← ln_eq]; exact c, fun q hq => ?_⟩
  cases tup with
  | true =>
    have p1 : Post D ρ H (.ok (.tup xs) ih) (VR D) Q W := p1
    exact p1.tup hr r hq
  | false =>
    have p1 : Post D ρ H (.ok (.ref ih.length) (ih ++ [.lst xs])) (VR D) Q W := p1
    exact p1.lst hr r hq
theorem vrs_rg {ρ : List Addr} {H : Hp} {i : Int} {n : Nat} : VRs D ρ H ((List.range n).map fun k : Nat => IV.int (i + (k : Int))) ((List.range n).map fun k : Nat => V.int (i + (k : Int))) := by
  generalize List.range n = l
  induction l with
  | nil => exact .nil
  | cons k l ih => exact .cons (.int _) ih
theorem L_lrg1 {tup : Bool} (hc : m = false → X.calm = true) (hg : Gl X (if tup = true then "tuple" else "list")) (hm : X.mg (if tup = true then "tuple" else "list") = none) (g : Gl X "range") (hm2 : X.mg "range" = none) (ha : PE X a (sE D xa m cs ia W)) (hs : nostar a = true) :
    PE X (.Call (.Name (if tup = true then "tuple" else "list") p0) [.Call (.Name "range" p1) [a] [] apos] [] pos) (sE D xa m cs (.lrg tup (.cons ia .nil)) W) := by
  cases m with
  | true => exact ⟨fun pins s σ H Q I ⟨ρ, ih, sl, hr, l, p⟩ => False.elim p⟩
  | false =>
    have key : ∀ σ H Q, sE D xa false cs (.lrg tup (.cons ia .nil)) W σ H Q → tRg1 (sE D xa false cs ia W) σ H fun a b H1 => RgOk a b ∧ ∀ q, H1 q = none → Q (.ref q) (upd H1 q (if tup = true then .tup (rgV a b) else .lst (rgV a b))) := fun σ H Q ⟨ρ, ih, s, hr, l, p⟩ => by
      have p' : Post D ρ H ((evE D.sg false cs ia s ih).bind fun x h => (opt (lrgV [x]) h).bind fun xs h => newL tup xs h) (VR D) Q (WE W σ) := by
        have p0 : Post D ρ H ((evA D.sg false cs (.cons ia .nil) s ih).bind fun vs h => (opt (lrgV vs) h).bind fun xs h => newL tup xs h) (VR D) Q (WE W σ) := p
        have e : evA D.sg false cs (.cons ia .nil) s ih = (evE D.sg false cs ia s ih).bind fun x h => .ok [x] h := by
          show (evE D.sg false cs ia s ih).bind _ = _
          cases evE D.sg false cs ia s ih <;> rfl
        rw [e, R.bind_bind] at p0
        exact p0
      refine semR.bind hr l p' fun x ih1 ρ1 H1 u e hr1 l1 ev q p1 => ?_
      obtain ⟨xs, e1, p2⟩ := optB p1
      cases q with
      | int j =>
        have e2 : (if 0 ≤ j ∧ j ≤ 16777216 then some ((List.range j.toNat).map fun k : Nat => IV.int (0 + (k : Int))) else none) = some xs := e1
        by_cases hc : 0 ≤ j ∧ j ≤ 16777216
        · rw [if_pos hc] at e2
          cases e2
          refine ⟨j, rfl, .of_le (by omega) hc.2 (by omega) hc.1, fun q hq => ?_⟩
          have z := (newL_P hr1 vrs_rg p2).2 q hq
          have e3 : rgV 0 j = (List.range j.toNat).map fun k : Nat => V.int (0 + (k : Int)) := by unfold rgV; rw [Int.sub_zero]
          rw [e3]
          exact z
        · rw [if_neg hc] at e2
          cases e2
      | _ => cases e1
    cases tup with
    | true => exact PEi (pe_tupRg (hc rfl) hg hm (prg_1 g hm2 ha (star_ok hs)) (by rfl)) fun σ H Q h => key σ H Q h
    | false => exact PEi (pe_listRg (hc rfl) hg hm (prg_1 g hm2 ha (star_ok hs)) (by rfl)) fun σ H Q h => key σ H Q h
theorem L_lrg2 {tup : Bool} (hc : m = false → X.calm = true) (hg : Gl X (if tup = true then "tuple" else "list")) (hm : X.mg (if tup = true then "tuple" else "list") = none) (g : Gl X "range") (hm2 : X.mg "range" = none) (ha : PE X a (sE D xa m cs ia W)) (hb : PE X b (sE D xa m cs ib W)) (hs : nostar a = true) (hs2 : nostar b = true) :
    PE X (.Call (.Name (if tup = true then "tuple" else "list") p0) [.Call (.Name "range" p1) [a, b] [] apos] [] pos) (sE D xa m cs (.lrg tup (.cons ia (.cons ib .nil))) W) := by
  cases m with
  | true => exact ⟨fun pins s σ H Q I ⟨ρ, ih, sl, hr, l, p⟩ => False.elim p⟩
  | false =>
    have key : ∀ σ H Q, sE D xa false cs (.lrg tup (.cons ia (.cons ib .nil))) W σ H Q → tRg2 (sE D xa false cs ia W) (sE D xa false cs ib W) σ H fun a b H1 => RgOk a b ∧ ∀ q, H1 q = none → Q (.ref q) (upd H1 q (if tup = true then .tup (rgV a b) else .lst (rgV a b))) := fun σ H Q ⟨ρ, ih, s, hr, l, p⟩ => by
      have p' : Post D ρ H ((evE D.sg false cs ia s ih).bind fun x h => (evE D.sg false cs ib s h).bind fun y h => (opt (lrgV [x, y]) h).bind fun xs h => newL tup xs h) (VR D) Q (WE W σ) := by
        have p0 : Post D ρ H ((evA D.sg false cs (.cons ia (.cons ib .nil)) s ih).bind fun vs h => (opt (lrgV vs) h).bind fun xs h => newL tup xs h) (VR D) Q (WE W σ) := p
        have e : evA D.sg false cs (.cons ia (.cons ib .nil)) s ih = (evE D.sg false cs ia s ih).bind fun x h => (evE D.sg false cs ib s h).bind fun y h => .ok [x, y] h := by
          show (evE D.sg false cs ia s ih).bind (fun x h => (evA D.sg false cs (.cons ib .nil) s h).bind fun xs h => .ok (x :: xs) h) = _
          cases evE D.sg false cs ia s ih with
          | ok x h =>
            show ((evE D.sg false cs ib s h).bind _).bind _ = (evE D.sg false cs ib s h).bind _
            cases evE D.sg false cs ib s h <;> rfl
          | ex _ _ _ => rfl
          | no => rfl
        rw [e, R.bind_bind] at p0
        have f : (fun a h => ((evE D.sg false cs ib s h).bind fun y h => R.ok [a, y] h).bind fun vs h => (opt (lrgV vs) h).bind fun xs h => newL tup xs h) = fun x h => (evE D.sg false cs ib s h).bind fun y h => (opt (lrgV [x, y]) h).bind fun xs h => newL tup xs h := by
          funext a h
          rw [R.bind_bind]
          rfl
        rw [f] at p0
        exact p0
      refine semR.bind hr l p' fun x ih1 ρ1 H1 u e hr1 l1 ev q p1 => semR.bind hr1 l1 p1 fun y ih2 ρ2 H2 w e2 hr2 l2 ev2 q2 p2 => ?_
      obtain ⟨xs, e1, p3⟩ := optB p2
      cases q with
      | int i =>
        cases q2 with
        | int j =>
          have e2 : (if 0 ≤ i ∧ i ≤ 16777216 ∧ 0 ≤ j ∧ j ≤ 16777216 then some ((List.range (j - i).toNat).map fun k : Nat => IV.int (i + (k : Int))) else none) = some xs := e1
          by_cases hc : 0 ≤ i ∧ i ≤ 16777216 ∧ 0 ≤ j ∧ j ≤ 16777216
          · rw [if_pos hc] at e2
            cases e2
            refine ⟨i, j, rfl, rfl, .of_le hc.1 hc.2.2.2 hc.2.1 hc.2.2.1, fun q hq => ?_⟩
            exact (newL_P hr2 vrs_rg p3).2 q hq
          · rw [if_neg hc] at e2
            cases e2
        | _ => cases e1
      | _ => cases q2 <;> cases e1
    cases tup with
    | true => exact PEi (pe_tupRg (hc rfl) hg hm (prg_2 g hm2 ha hb (star_ok hs) (star_ok hs2) (by rw [star_ok hs2]; rfl)) (by rfl)) fun σ H Q h => key σ H Q h
    | false => exact PEi (pe_listRg (hc rfl) hg hm (prg_2 g hm2 ha hb (star_ok hs) (star_ok hs2) (by rw [star_ok hs2]; rfl)) (by rfl)) fun σ H Q h => key σ H Q h
/-! displays with stars -/
abbrev sDs (D : Dn) (xa : XA) (m : Bool) (cs : CF) (i : ID) (W : WX) : TA := semA D xa (evD D.sg m cs i) W
theorem D_nil : PA X [] (sDs D xa m cs .nil W) := PAi pa_nil fun σ H Q ⟨ρ, ih, s, hr, l, p⟩ => p _ _ _ .refl hr .nil
theorem D_cons (ha : PE X e (sE D xa m cs ia W)) (hb : PA X es (sDs D xa m cs ids W)) (hs : starEach (e :: es) X.env = (false, eval e X.env) :: starEach es X.env) : PA X (e :: es) (sDs D xa m cs (.cons ia ids) W) :=
  PAi (pa_cons ha hb hs) fun σ H Q ⟨ρ, ih, s, hr, l, p⟩ => semR.bind hr l p fun x ih1 ρ1 H1 u e hr1 l1 ev vx p1 => semR.bind hr1 l1 p1 fun xs ih2 ρ2 H2 us e2 hr2 l2 ev2 vxs p2 => p2 _ _ _ .refl hr2 (.cons (vx.evo hr1 ev2) vxs)
theorem D_star (hK : X.K = D.K) (ha : PE X e (sE D xa m cs ia W)) (hb : PA X es (sDs D xa m cs ids W)) : PA X (.Starred e p0 :: es) (sDs D xa m cs (.star ia ids) W) :=
  PAi (StX.pa_star ha hb) fun σ H Q ⟨ρ, ih, s, hr, l, p⟩ => semR.bind hr l p fun x ih1 ρ1 H1 u e hr1 l1 ev vx p1 => by
    obtain ⟨xs, e1, p2⟩ := optB p1
    have hx : ∃ ad us, u = .ref ad ∧ (SqT X.K H1 ad us ∨ SqL X.K H1 ad us) ∧ VRs D ρ1 H1 xs us := by
      rcases items_W hr1 vx e1 with ⟨ad, us, rfl, sq, rs⟩ | ⟨ad, us, rfl, sq, rs⟩
      · exact ⟨ad, us, rfl, .inl (by rw [hK]; exact sq), rs⟩
      · exact ⟨ad, us, rfl, .inr (by rw [hK]; exact sq), rs⟩
    obtain ⟨ad, us, rfl, sq, rs⟩ := hx
    exact ⟨ad, us, rfl, sq, semR.bind hr1 l1 p2 fun ys ih2 ρ2 H2 ws e2 hr2 l2 ev2 vys p3 => p3 _ _ _ .refl hr2 ((rs.evo hr1 ev2).append vys)⟩
theorem L_dspL (ha : PA X es (sDs D xa m cs ids W)) : PE X (.List es pos) (sE D xa m cs (.dsp false ids) W) :=
  PEi (pe_lst ha) fun σ H Q ⟨ρ, ih, s, hr, l, p⟩ => semR.bind hr l (show Post D ρ H ((evD D.sg m cs ids s ih).bind fun xs h => newL false xs h) (VR D) Q (WE W σ) from p) fun x ih1 ρ1 H1 u e hr1 l1 ev vx p1 => newL_P hr1 vx p1
theorem L_dspT {k : Nat} (ha : PA X es (sDs D xa m cs ids W)) : PE X (.Tuple es k pos) (sE D xa m cs (.dsp true ids) W) :=
  PEi (pe_tup ha) fun σ H Q ⟨ρ, ih, s, hr, l, p⟩ => semR.bind hr l (show Post D ρ H ((evD D.sg m cs ids s ih).bind fun xs h => newL true xs h) (VR D) Q (WE W σ) from p) fun x ih1 ρ1 H1 u e hr1 l1 ev vx p1 => newL_P hr1 vx p1
end
end Itp

/-! ItKb: comprehensions of two. -/
namespace Itp
open PySem PySem.Spec PyProof.Rows L2
section
variable {D : Dn} {X : Cx} {xa : XA} {W : WX} {m : Bool} {cs : CF} {elt : Expr} {pos : Pos} {ia : IE}
/-- what goes on behind -/
def Nxt (D : Dn) {γ δ : Type} (ρ0 : List Addr) (H0 : Hp) (f : IH → R γ) (rel2 : List Addr → Hp → γ → δ → Prop) (Q : δ → Hp → Prop) (W : Value → Option Addr → Hp → Prop) (H : Hp) : Prop :=
  ∃ ρ ih, Ev ρ0 H0 ρ H ∧ HR D ρ ih H ∧ Post D ρ H (f ih) rel2 Q W
theorem lc_in {γ δ : Type} {t : Tg} {qs : IQs} {w : Wk} {J : It} {r : Nat} {A : Addr} {f : IH → R γ} {rel2 : List Addr → Hp → γ → δ → Prop} {Q : δ → Hp → Prop} {W2 : Value → Option Addr → Hp → Prop} {ρ0 ρ1 : List Addr} {H0 H1 : Hp} {ih1 : IH} {s : En} {σ : L2.St} (ev0 : Ev ρ0 H0 ρ1 H1) (hr1 : HR D ρ1 ih1 H1) (l1 : LR D ρ1 H1 xa s σ) (wk : WkR D ρ1 H1 w J) (hA : ρ1[r]? = some A)
    (p : Post D ρ1 H1 ((colle w t (wipe s t.slots) (evAll D.sg false cs qs) (evE D.sg false cs ia) r FU 0 ih1).bind fun _ h => f h) rel2 Q W2) :
    ∃ W1 : Nat → Nat → Hp → Prop, (∃ m, W1 0 m H1) ∧ ∀ j k H, W1 j k H →
      (J.stop j H ∧ Nxt D ρ0 H0 f rel2 Q W2 H) ∨ (J.go j H ∧ ∃ Nx1 : Hp → Prop, (∀ H', Nx1 H' → ∃ k', k' < k ∧ W1 (j + 1) k' H') ∧ ∀ x H', J.yld j H x H' → semG D xa t x (L2.wipe σ t.slots) H' fun σ3 H5 => L2.wipe σ3 t.slots = L2.wipe σ t.slots ∧ semTs D xa false cs qs WF σ3 H5 fun b H6 =>
        if b = true then sE D xa false cs ia WF σ3 H6 fun y H7 => ∃ acc, H7 A = some (.lst acc) ∧ acc.length < sizeLine ∧ Nx1 (upd H7 A (.lst (acc ++ [y]))) else Nx1 H6) := by
  let Wf : Nat → Nat → Hp → Prop := fun i k H' => ∃ ρ' ih', Ev ρ1 H1 ρ' H' ∧ HR D ρ' ih' H' ∧ Post D ρ' H' ((colle w t (wipe s t.slots) (evAll D.sg false cs qs) (evE D.sg false cs ia) r k i ih').bind fun _ h' => f h') rel2 Q W2
  refine ⟨Wf, ⟨FU, _, _, .refl, hr1, p⟩, fun i k H' ⟨ρ', ih', ev3, hr3, p3⟩ => ?_⟩
  cases k with
  | zero => exact p3.elim
  | succ k =>
    have p4 : Post D ρ' H' (R.bind (α := Unit) (match w.nxt i ih' with
      | none => .no
      | some none => .ok () ih'
      | some (some x) => match asg t x (wipe s t.slots) ih' with
        | none => .no
        | some s1 => match evAll D.sg false cs qs s1 ih' with
          | .ok true h1 => (match evE D.sg false cs ia s1 h1 with
            | .ok y h2 => match h2[r]? with
              | some (.lst acc) => if acc.length < LN then colle w t (wipe s t.slots) (evAll D.sg false cs qs) (evE D.sg false cs ia) r k (i + 1) (h2.set r (.lst (acc ++ [y]))) else .no
              | _ => .no
            | _ => .no)
          | .ok false h1 => colle w t (wipe s t.slots) (evAll D.sg false cs qs) (evE D.sg false cs ia) r k (i + 1) h1
          | _ => .no) fun _ h' => f h') rel2 Q W2 := p3
    obtain ⟨wk1, wk2⟩ := wk ρ' ih' H' ev3 hr3 i
    cases hn : w.nxt i ih' with
    | none => rw [hn] at p4; exact p4.elim
    | some o =>
      cases o with
      | none =>
        rw [hn] at p4
        exact .inl ⟨wk1 hn, ρ', ih', ev0.trans hr1 ev3, hr3, p4⟩
      | some x =>
        rw [hn] at p4
        obtain ⟨go, yl⟩ := wk2 x hn
        refine .inr ⟨go, fun H'' => Wf (i + 1) k H'', fun H'' n => ⟨k, Nat.lt_succ_self k, n⟩, fun v H'' y => ?_⟩
        obtain ⟨ev4, hr4, rv⟩ := yl v H'' y
        have ev34 := ev3.trans hr3 ev4
        have l4 : LR D ρ' H'' xa (wipe s t.slots) (L2.wipe σ t.slots) := (l1.evo hr1 ev34).wip _
        replace p4 : Post D ρ' H' (R.bind (α := Unit) (match asg t x (wipe s t.slots) ih' with
          | none => .no
          | some s1 => match evAll D.sg false cs qs s1 ih' with
            | .ok true h1 => (match evE D.sg false cs ia s1 h1 with
              | .ok y h2 => match h2[r]? with
                | some (.lst acc) => if acc.length < LN then colle w t (wipe s t.slots) (evAll D.sg false cs qs) (evE D.sg false cs ia) r k (i + 1) (h2.set r (.lst (acc ++ [y]))) else .no
                | _ => .no
              | _ => .no)
            | .ok false h1 => colle w t (wipe s t.slots) (evAll D.sg false cs qs) (evE D.sg false cs ia) r k (i + 1) h1
            | _ => .no) fun _ h' => f h') rel2 Q W2 := p4
        cases ha : asg t x (wipe s t.slots) ih' with
        | none => rw [ha] at p4; exact p4.elim
        | some s1 =>
          rw [ha] at p4
          refine ⟨ρ', ih', _, x, s1, hr4, l4, rv, ha, fun σ1 l5 hl5 hj5 => ⟨?_, ?_⟩⟩
          · exact w_congr (hl5.trans (wipe_length _ _)) fun j hj => by rw [hj5 j hj, wipe_out hj]
          · refine ⟨ρ', ih', s1, hr4, l5, ?_⟩
            replace p4 : Post D ρ' H' (R.bind (α := Unit) (match evAll D.sg false cs qs s1 ih' with
              | .ok true h1 => (match evE D.sg false cs ia s1 h1 with
                | .ok y h2 => match h2[r]? with
                  | some (.lst acc) => if acc.length < LN then colle w t (wipe s t.slots) (evAll D.sg false cs qs) (evE D.sg false cs ia) r k (i + 1) (h2.set r (.lst (acc ++ [y]))) else .no
                  | _ => .no
                | _ => .no)
              | .ok false h1 => colle w t (wipe s t.slots) (evAll D.sg false cs qs) (evE D.sg false cs ia) r k (i + 1) h1
              | _ => .no) fun _ h' => f h') rel2 Q W2 := p4
            cases hq : evAll D.sg false cs qs s1 ih' with
            | no => rw [hq] at p4; exact p4.elim
            | ex _ _ _ => rw [hq] at p4; exact p4.elim
            | ok tb h1 =>
              rw [hq] at p4
              intro ρ5 H5 tb' ev5 hr5 eb
              subst eb
              have ev45 := ev34.trans hr4 ev5
              cases tb with
              | false =>
                rw [if_neg (by decide)]
                exact ⟨ρ5, h1, ev45, hr5, p4.evo hr5 (ev4.trans hr4 ev5)⟩
              | true =>
                rw [if_pos rfl]
                refine ⟨ρ5, h1, s1, hr5, l5.evo hr4 ev5, ?_⟩
                replace p4 : Post D ρ' H' (R.bind (α := Unit) (match evE D.sg false cs ia s1 h1 with
                  | .ok y h2 => match h2[r]? with
                    | some (.lst acc) => if acc.length < LN then colle w t (wipe s t.slots) (evAll D.sg false cs qs) (evE D.sg false cs ia) r k (i + 1) (h2.set r (.lst (acc ++ [y]))) else .no
                    | _ => .no
                  | _ => .no) fun _ h' => f h') rel2 Q W2 := p4
                cases hE : evE D.sg false cs ia s1 h1 with
                | no => rw [hE] at p4; exact p4.elim
                | ex _ _ _ => rw [hE] at p4; exact p4.elim
                | ok y h2 =>
                  rw [hE] at p4
                  intro ρ6 H6 u ev6 hr6 ry
                  have ev56 := ev45.trans hr5 ev6
                  replace p4 : Post D ρ' H' (R.bind (α := Unit) (match h2[r]? with
                    | some (.lst acc) => if acc.length < LN then colle w t (wipe s t.slots) (evAll D.sg false cs qs) (evE D.sg false cs ia) r k (i + 1) (h2.set r (.lst (acc ++ [y]))) else .no
                    | _ => .no) fun _ h' => f h') rel2 Q W2 := p4
                  cases ho2 : h2[r]? with
                  | none => rw [ho2] at p4; exact p4.elim
                  | some ob =>
                    rw [ho2] at p4
                    cases ob with
                    | lst acc =>
                      obtain ⟨us, g1, g2⟩ := hr6.ob _ _ A ho2 (ev56.at_ hA)
                      obtain ⟨hl, p5⟩ := ifp (a := colle w t (wipe s t.slots) (evAll D.sg false cs qs) (evE D.sg false cs ia) r k (i + 1) (h2.set r (.lst (acc ++ [y])))) (b := .no) (F := fun q : R Unit => Post D ρ' H' (q.bind fun _ h' => f h') rel2 Q W2) p4 fun z => z
                      have hm := List.mem_of_getElem? (ev56.at_ hA)
                      have ev7 : Ev ρ6 H6 ρ6 (upd H6 A (.lst (us ++ [u]))) := Ev.put hm _
                      have hr7 := hr6.put (ev56.at_ hA) (.lst (us ++ [u])) (o := .lst (acc ++ [y])) ⟨_, upd_same, (g2.append (.cons ry .nil)).evo hr6 ev7⟩
                      exact ⟨us, g1, by rw [← g2.length, ← ln_eq]; exact hl, ρ6, _, ev56.trans hr6 ev7, hr7, p5.evo hr7 (((ev4.trans hr4 ev5).trans hr5 ev6).trans hr6 ev7)⟩
                    | _ => exact p4.elim
theorem lc2_sem {t t1 : Tg} {it it1 : IT} {qs qs1 : IQs} (σ : L2.St) (H : Hp) (Q : VK) (h0 : sE D xa false cs (.lc2 t it qs t1 it1 qs1 ia) W σ H Q) : tLc2 (semI D xa false cs it W) (semG D xa t) (semTs D xa false cs qs WF) (semI D xa false cs it1 WF) (semG D xa t1) (semTs D xa false cs qs1 WF) (sE D xa false cs ia WF) (t.slots ++ t1.slots) t1.slots σ H Q := by
  obtain ⟨ρ, ih, s, hr, l, p⟩ := h0
  have p' : Post D ρ H ((evI D.sg false cs it s ih).bind fun w h => (colle2 w t (wipe s (t.slots ++ t1.slots)) (evAll D.sg false cs qs) (evI D.sg false cs it1) t1 (evAll D.sg false cs qs1) (evE D.sg false cs ia) h.length FU 0 (h ++ [.lst []])).bind fun _ h' => .ok (.ref h.length) h') (VR D) Q (WE W σ) := p
  refine semR.bind hr l p' fun w ih1 ρ1 H1 J e hr1 l1 ev wk p1 => fun A hA => ?_
  have ev2 : Ev ρ1 H1 (ρ1 ++ [A]) (upd H1 A (.lst [])) := Ev.new hA _
  have hr2 : HR D (ρ1 ++ [A]) (ih1 ++ [.lst []]) (upd H1 A (.lst [])) := hr1.new hA _ ⟨[], upd_same, .nil⟩
  have hAt : (ρ1 ++ [A])[ih1.length]? = some A := hr1.last
  let vs := t.slots ++ t1.slots
  let go2 : Nat → Nat → IH → R Unit := colle2 w t (wipe s vs) (evAll D.sg false cs qs) (evI D.sg false cs it1) t1 (evAll D.sg false cs qs1) (evE D.sg false cs ia) ih1.length
  let Wf : Nat → Nat → Hp → Prop := fun i k H' => ∃ ρ' ih', Ev (ρ1 ++ [A]) (upd H1 A (.lst [])) ρ' H' ∧ HR D ρ' ih' H' ∧ Post D ρ' H' ((go2 k i ih').bind fun _ h' => .ok (.ref ih1.length) h') (VR D) Q (WE W σ)
  refine ⟨Wf, ⟨FU, _, _, .refl, hr2, p1.evo hr2 ev2⟩, fun i k H' ⟨ρ', ih', ev3, hr3, p3⟩ => ?_⟩
  cases k with
  | zero => exact p3.elim
  | succ k =>
    have p4 : Post D ρ' H' (R.bind (α := Unit) (match w.nxt i ih' with
      | none => .no
      | some none => .ok () ih'
      | some (some x) => match asg t x (wipe s vs) ih' with
        | none => .no
        | some s1 => match evAll D.sg false cs qs s1 ih' with
          | .ok true h1 => (match evI D.sg false cs it1 s1 h1 with
            | .ok w1 h2 => (colle w1 t1 (wipe s1 t1.slots) (evAll D.sg false cs qs1) (evE D.sg false cs ia) ih1.length FU 0 h2).bind fun _ h3 => go2 k (i + 1) h3
            | _ => .no)
          | .ok false h1 => go2 k (i + 1) h1
          | _ => .no) fun _ h' => .ok (.ref ih1.length) h') (VR D) Q (WE W σ) := p3
    obtain ⟨wk1, wk2⟩ := wk ρ' ih' H' (ev2.trans hr2 ev3) hr3 i
    cases hn : w.nxt i ih' with
    | none => rw [hn] at p4; exact p4.elim
    | some o =>
      cases o with
      | none =>
        rw [hn] at p4
        exact .inl ⟨wk1 hn, p4 _ _ _ .refl hr3 (.ref (ev3.at_ hAt))⟩
      | some x =>
        rw [hn] at p4
        obtain ⟨go, yl⟩ := wk2 x hn
        refine .inr ⟨go, fun H'' => Nxt D (ρ1 ++ [A]) (upd H1 A (.lst [])) (fun h3 => (go2 k (i + 1) h3).bind fun _ h' => .ok (.ref ih1.length) h') (VR D) Q (WE W σ) H'', fun H'' ⟨ρ4, ih4, e4, hr4, p5⟩ => ⟨k, Nat.lt_succ_self k, ρ4, ih4, e4, hr4, p5⟩, fun v H'' y => ?_⟩
        obtain ⟨ev4, hr4, rv⟩ := yl v H'' y
        have ev34 := ev3.trans hr3 ev4
        have l4 : LR D ρ' H'' xa (wipe s vs) (L2.wipe σ vs) := ((l1.evo hr1 ev2).evo hr2 ev34).wip _
        replace p4 : Post D ρ' H' (R.bind (α := Unit) (match asg t x (wipe s vs) ih' with
          | none => .no
          | some s1 => match evAll D.sg false cs qs s1 ih' with
            | .ok true h1 => (match evI D.sg false cs it1 s1 h1 with
              | .ok w1 h2 => (colle w1 t1 (wipe s1 t1.slots) (evAll D.sg false cs qs1) (evE D.sg false cs ia) ih1.length FU 0 h2).bind fun _ h3 => go2 k (i + 1) h3
              | _ => .no)
            | .ok false h1 => go2 k (i + 1) h1
            | _ => .no) fun _ h' => .ok (.ref ih1.length) h') (VR D) Q (WE W σ) := p4
        cases ha : asg t x (wipe s vs) ih' with
        | none => rw [ha] at p4; exact p4.elim
        | some s1 =>
          rw [ha] at p4
          refine ⟨ρ', ih', _, x, s1, hr4, l4, rv, ha, fun σ1 l5 hl5 hj5 => ⟨?_, ?_⟩⟩
          · exact w_congr (hl5.trans (wipe_length _ _)) fun j hj => by rw [hj5 j (fun z => hj (List.mem_append_left _ z)), wipe_out hj]
          · refine ⟨ρ', ih', s1, hr4, l5, ?_⟩
            replace p4 : Post D ρ' H' (R.bind (α := Unit) (match evAll D.sg false cs qs s1 ih' with
              | .ok true h1 => (match evI D.sg false cs it1 s1 h1 with
                | .ok w1 h2 => (colle w1 t1 (wipe s1 t1.slots) (evAll D.sg false cs qs1) (evE D.sg false cs ia) ih1.length FU 0 h2).bind fun _ h3 => go2 k (i + 1) h3
                | _ => .no)
              | .ok false h1 => go2 k (i + 1) h1
              | _ => .no) fun _ h' => .ok (.ref ih1.length) h') (VR D) Q (WE W σ) := p4
            cases hq : evAll D.sg false cs qs s1 ih' with
            | no => rw [hq] at p4; exact p4.elim
            | ex _ _ _ => rw [hq] at p4; exact p4.elim
            | ok tb h1 =>
              rw [hq] at p4
              intro ρ5 H5 tb' ev5 hr5 eb
              subst eb
              have ev45 := ev34.trans hr4 ev5
              cases tb with
              | false =>
                rw [if_neg (by decide)]
                exact ⟨ρ5, h1, ev3.trans hr3 (ev4.trans hr4 ev5), hr5, p4.evo hr5 (ev4.trans hr4 ev5)⟩
              | true =>
                rw [if_pos rfl]
                refine ⟨ρ5, h1, s1, hr5, l5.evo hr4 ev5, ?_⟩
                replace p4 : Post D ρ' H' (R.bind (α := Unit) (match evI D.sg false cs it1 s1 h1 with
                  | .ok w1 h2 => (colle w1 t1 (wipe s1 t1.slots) (evAll D.sg false cs qs1) (evE D.sg false cs ia) ih1.length FU 0 h2).bind fun _ h3 => go2 k (i + 1) h3
                  | _ => .no) fun _ h' => .ok (.ref ih1.length) h') (VR D) Q (WE W σ) := p4
                cases hE : evI D.sg false cs it1 s1 h1 with
                | no => rw [hE] at p4; exact p4.elim
                | ex _ _ _ => rw [hE] at p4; exact p4.elim
                | ok w1 h2 =>
                  rw [hE] at p4
                  intro ρ6 H6 J1 ev6 hr6 wr
                  have ev56 := ev45.trans hr5 ev6
                  have p5 : Post D ρ6 H6 ((colle w1 t1 (wipe s1 t1.slots) (evAll D.sg false cs qs1) (evE D.sg false cs ia) ih1.length FU 0 h2).bind fun _ h => (go2 k (i + 1) h).bind fun _ h' => .ok (.ref ih1.length) h') (VR D) Q (WE W σ) := by
                    have := p4.evo hr6 ((ev4.trans hr4 ev5).trans hr5 ev6)
                    rw [← R.bind_bind]
                    exact this
                  exact lc_in ev56 hr6 ((l5.evo hr4 ev5).evo hr5 ev6) wr (ev56.at_ hAt) p5
theorem L_lc2 {elt tg iter tg1 iter1 : Expr} {ifs ifs1 : List Expr} {scope : Scope} {own : List (Str × Nat)} {t t1 : Tg} {it it1 : IT} {qs qs1 : IQs} (hc : m = false → X.calm = true) (hN : X.N.Nodup) (hi : PI X tg iter (semI D xa m cs it W)) (ok : BlkOk X.N X.env.scope scope own) (ho : own.map (·.2) = t.slots ++ t1.slots)
    (hg : ∀ (s : Shared) (H : Hp) (C : Addr) (cl : List (Str × Addr)) (fp : List Addr), PG (X.blk s H scope (compEnvC scope cl C X.env) fp) tg (semG D xa t)) (ht : ∀ (s : Shared) (H : Hp) (C : Addr) (cl : List (Str × Addr)) (fp : List Addr), PTs (X.blk s H scope (compEnvC scope cl C X.env) fp) ifs (semTs D xa m cs qs WF))
    (hi1 : ∀ (s : Shared) (H : Hp) (C : Addr) (cl : List (Str × Addr)) (fp : List Addr), PI (X.blk s H scope (compEnvC scope cl C X.env) fp) tg1 iter1 (semI D xa m cs it1 WF))
    (hg1 : ∀ (s : Shared) (H : Hp) (C : Addr) (cl : List (Str × Addr)) (fp : List Addr), PG (X.blk s H scope (compEnvC scope cl C X.env) fp) tg1 (semG D xa t1)) (ht1 : ∀ (s : Shared) (H : Hp) (C : Addr) (cl : List (Str × Addr)) (fp : List Addr), PTs (X.blk s H scope (compEnvC scope cl C X.env) fp) ifs1 (semTs D xa m cs qs1 WF))
    (he : ∀ (s : Shared) (H : Hp) (C : Addr) (cl : List (Str × Addr)) (fp : List Addr), PE (X.blk s H scope (compEnvC scope cl C X.env) fp) elt (sE D xa m cs ia WF)) (hs : noset iter = true) (hs1 : noset iter1 = true) :
    PE X (.ListComp elt [⟨tg, iter, ifs, 0⟩, ⟨tg1, iter1, ifs1, 0⟩] scope pos) (sE D xa m cs (.lc2 t it qs t1 it1 qs1 ia) W) := by
  cases m with
  | true => exact ⟨fun pins s σ H Q I ⟨ρ, ih, sl, hr, l, p⟩ => False.elim p⟩
  | false =>
    exact PEi (pe_lc2 (hc rfl) hN hi ok (vs1 := t1.slots) (by rw [ho]; exact fun i hi => List.mem_append_right _ hi) hg ht hi1 hg1 ht1 he (fun x => noset_ok hs x) (fun env x => noset_ok hs1 x)) fun σ H Q h => by rw [ho]; exact lc2_sem σ H Q h
end
end Itp

/-! ItKc: enumerate of a tuple. -/
namespace Itp
section
open PySem PySem.Sem
theorem meets_enum1B {v : Value} {o : Obj} {H : Heap → Prop} (B : Begins v o H) :
    Meets (Builtin.«enumerate.__new__» ⟨[.type "enumerate", v], []⟩) (fun _ R s => H s.heap ∧
      R (.ok (.ret (.ref (s.heap.push o).objs.size))) { s with heap := (s.heap.push o).push { cls := .type "enumerate", data := .fields #[.none, .bool false, .ref s.heap.objs.size, rawInt 0, .none, .none] } }) :=
  .of_wp fun prog w A R s h => by
    obtain ⟨hp, g, d, tk, os⟩ := s; obtain ⟨h1, h⟩ := h
    have hsub := sub_enumerate
    have q1 : ∀ {A' : Around} {E : Value → Shared → Prop} {Q : Value → Shared → Prop}, Q (.ref hp.objs.size) ⟨hp.push o, g, d, tk, os⟩ → wpAny (model prog w) A' (pyIter v) Q E ⟨hp, g, d, tk, os⟩ :=
      fun q => B.iter prog w _ _ ⟨hp, g, d, tk, os⟩ _ h1 q
    wp_walk using q1
    refine wpAny_stack_any fun st => wpAny_pure ?_
    split
    · rename_i c _ _ _ _ _
      cases (c == Value.type "enumerate")
      · wp_walk using q1
        exact ⟨_, rfl, h⟩
      · wp_walk using q1
        exact ⟨_, rfl, h⟩
    · wp_walk using q1
      exact ⟨_, rfl, h⟩
theorem call_enumT {prog : Program} {w : World} {A : Around} {E : Value → Shared → Prop} {s : Shared} {t : Addr} {items : Array Value} {Q : Value → Shared → Prop} (hT : s.heap.IsTuple t items)
    (h : ∀ h', IsEnum h' (s.heap.objs.size + 1) s.heap.objs.size 0 .none → h'.IsTupleIter s.heap.objs.size t 0 → h'.objs.size = s.heap.objs.size + 2 →
      (∀ b o, s.heap.get? b = some o → h'.get? b = some o) → Q (.ref (s.heap.objs.size + 1)) { s with heap := h' }) :
    wpAny (model prog w) A (call (.type "enumerate") [.ref t]) Q E s := by
  refine callType_new F.called_enumerate (by decide) (F.typeCall_enumerate_1 _) (F.newCall_enumerate_1 _) (fun obj => F.args_object_init_2 obj _) F.entry_enumerate_new
    (meets_enum1B (begins_tuple t items)) ⟨hT, ?_⟩
  have hz : (s.heap.push { cls := .type "tuple_iterator", data := .fields #[.ref t, .int 0 0] }).objs.size = s.heap.objs.size + 1 := Heap.size_push ..
  show _ ∧ _
  rw [hz]
  have he : IsEnum ((s.heap.push { cls := .type "tuple_iterator", data := .fields #[.ref t, .int 0 0] }).push
      { cls := .type "enumerate", data := .fields #[.none, .bool false, .ref s.heap.objs.size, rawInt 0, .none, .none] }) (s.heap.objs.size + 1) s.heap.objs.size 0 .none := by
    have := Heap.get?_push_size (s.heap.push { cls := .type "tuple_iterator", data := .fields #[.ref t, .int 0 0] })
      (o := { cls := .type "enumerate", data := .fields #[.none, .bool false, .ref s.heap.objs.size, rawInt 0, .none, .none] }) rfl
    rw [hz] at this; exact this
  refine ⟨⟨_, he, rfl⟩, h _ he ⟨_, Heap.get?_push_of_some _ (Heap.get?_push_size _ rfl), rfl, rfl⟩ (by rw [Heap.size_push, hz]) fun b o x => Heap.get?_push_of_some _ (Heap.get?_push_of_some _ x)⟩
theorem enum_endT {prog : Program} {w : World} {A : Around} {E : Value → Shared → Prop} {s : Shared} {e it l : Addr} {i : Nat} {items : Array Value} {old : Value} {Q : Option Value → Shared → Prop} (hh : A.handled = none)
    (he : IsEnum s.heap e it i old) (hit : s.heap.IsTupleIter it l i) (hl : s.heap.IsTuple l items) (hx : items[i]? = none)
    (hQ : ∀ h', Heap.ExtBut it s.heap h' → Q none { s with heap := h' }) : wpAny (model prog w) A (pyNext (.ref e)) Q E s := by
  have hT : s.TypeIs (.ref e) "enumerate" := ⟨_, he, rfl⟩
  unfold pyNext
  refine wpAny_bind (wpAny_attempt (wpAny_callSpecial?_slot (name := Str.ofString "__next__") hT F.slot_enumerate_next
    (wpAny_call_entry F.slot_enumerate_next hT F.entry_enumerate_next ?_ (F.args_enumerate_next_1 _))))
  show wpAny _ _ (field (.ref e) 2 >>= _) _ _ _
  refine wpAny_bind (wpAny_field he rfl (x := .ref it) rfl ?_)
  refine wpAny_bind (wpAny_nextOf_tuple_end hh hit hl hx fun h' x he' hx' => ?_)
  obtain ⟨o, ho, hc⟩ := hx'
  refine wpAny_bind (wpAny_isInstance (T := "StopIteration") (b := true) ⟨o, ho, hc⟩ isSubtype_stop ?_)
  exact wpAny_pure (hQ _ he')
end
open PySem PySem.Spec PyProof.Rows L2
def IteT (K : PySem.W.Frag) (a : Addr) : It :=
  ⟨fun i H => ∃ (xs : List V) (x : V), SqT K H a xs ∧ xs[i]? = some x, fun i H v H' => ∃ T x, v = .ref T ∧ H T = none ∧ H' = upd H T (.tup [.int (i : Nat), x]) ∧ ∀ xs, SqT K H a xs → xs[i]? = some x, fun i H => ∃ xs : List V, SqT K H a xs ∧ xs.length ≤ i⟩
theorem enum_ne_tup {h : Heap} {e it a : Addr} {i : Int} {old : Value} {items : Array Value} (he : IsEnum h e it i old) (ht : h.IsTuple a items) : e ≠ a := by
  rintro rfl
  obtain ⟨o, ho, hc, _⟩ := ht
  have he' : h.get? e = some _ := he
  rw [he'] at ho
  cases ho
  injection hc with hc
  exact absurd hc (by decide)
theorem iter_ne_tup {h : Heap} {it a t : Addr} {i : Nat} {items : Array Value} (hi : h.IsTupleIter it t i) (ht : h.IsTuple a items) : a ≠ it := by
  rintro rfl
  obtain ⟨o, ho, hc, _⟩ := ht
  obtain ⟨o2, ho2, hc2, _⟩ := hi
  rw [ho2] at ho
  cases ho
  rw [hc2] at hc
  injection hc with hc
  exact absurd hc (by decide)
theorem turn_enumT {P : Program} {w : World} {K : PySem.W.Frag} {elts : List Expr} {kk : Nat} {tpos : Pos} (a e it : Addr) :
    Turn P w K (.Tuple elts kk tpos) (IteT K a) [e, it] e (fun i h => (∃ old, IsEnum h e it ((i : Nat) : Int) old) ∧ h.IsTupleIter it a i ∧ e ≠ it) where
  mem := by simp
  obj := fun i h st b hb => by
    obtain ⟨⟨old, he⟩, ⟨o, ho, hc, hd⟩, _⟩ := st
    have e' : b = e ∨ b = it := by simpa using hb
    rcases e' with z | z
    · rw [z]; exact ⟨_, he, fun v q => nomatch q⟩
    · rw [z]; exact ⟨o, ho, fun v q => by rw [hd] at q; cases q⟩
  keep := fun i h h' st k => let ⟨⟨old, he⟩, hi, hne⟩ := st; ⟨⟨old, k e (by simp) _ he⟩, hi.at fun o q => k it (by simp) o q, hne⟩
  item := by
    intro X hP hw hK hc i pins s σ H E I hf st hg
    subst hP hw hK
    obtain ⟨⟨old, he⟩, hit, hne⟩ := st
    obtain ⟨xs, x, hq, hx⟩ := hg
    obtain ⟨its, rv, p, hz⟩ := I.tuple hq
    obtain ⟨u, hu, ru⟩ := rv.get hx
    have p : s.heap.IsTuple a its.toArray := p
    have hel : e < s.heap.objs.size := Heap.lt_size he
    have hil : it < s.heap.objs.size := by obtain ⟨_, q, _⟩ := hit; exact Heap.lt_size q
    have n1 : e ≠ a := enum_ne_tup he p
    have n2 : a ≠ it := iter_ne_tup hit p
    have hlt : i < its.toArray.size := by
      have := (List.getElem?_eq_some_iff.mp hu).1
      simpa using this
    refine wpAny_pyNext_enum_itemD (Draws.tuple (A := X.A.in1) (I.ok.hd hc) it a n2 its.toArray) he ⟨hit, p⟩ hlt hne (by simp [hne, n1]) fun x' h' tk hPx ho hit' hT hsz hk => ?_
    have hxu : x' = u := by
      have h1 : its.toArray[i]? = some x' := hPx
      have h2 : its.toArray[i]? = some u := by simpa using hu
      rw [h1] at h2
      cases h2
      rfl
    subst hxu
    obtain ⟨hit', _⟩ := hit'
    refine ⟨_, rfl, wpAny_letOwnedTupleGo_enum (s := { s with heap := h', toks := tk + 1 }) ho fun h'' he' sb => ?_⟩
    have hT2 : h''.get? s.heap.objs.size = some { cls := .type "tuple", data := .seq #[.int i tk, x'] } := (sb.2 _ (Nat.ne_of_gt hel)).trans hT
    have new : ObjOk X.prog X.w (upd H s.heap.objs.size (.tup [.int (i : Nat), x])) h'' s.heap.objs.size (.tup [.int (i : Nat), x]) :=
      ⟨by show 2 ≤ sizeLine; decide, [.int i tk, x'], .cons ⟨_, rfl⟩ (.cons ru .nil), ⟨_, hT2, rfl, _, rfl⟩⟩
    have I1 : Inv X pins σ (upd H s.heap.objs.size (.tup [.int (i : Nat), x])) { s with heap := h'', toks := tk + 1 } :=
      I.turnedNew (ch := [e, it]) (fun b ob hb q => (sb.2 b (fun z => hb (by simp [z]))).trans (hk b ob (fun z => hb (by simp [z])) (fun z => hb (by simp [z])) q)) hf (Nat.le_refl _) new
    refine ⟨.ref s.heap.objs.size, _, I1, rfl, ⟨_, x, rfl, I.hok.fresh (Nat.le_refl _), rfl, fun ys hy => by rw [I.tuple_inj hy hq]; exact hx⟩, ⟨⟨x', ?_⟩, hit'.at fun o q => (sb.2 it (Ne.symm hne)).trans q, hne⟩, fun b hb => ?_⟩
    · have e1 : ((i + 1 : Nat) : Int) = (i : Int) + 1 := by omega
      rw [e1]; exact he'
    · have hb' : b < s.heap.objs.size := by
        have e' : b = e ∨ b = it := by simpa using hb
        rcases e' with z | z
        · rw [z]; exact hel
        · rw [z]; exact hil
      rw [upd_ne (Nat.ne_of_lt hb')]
      exact (hf b hb).1
  done := by
    intro X hP hw hK hc i pins s σ H E I hf st hg
    subst hP hw hK
    obtain ⟨⟨old, he⟩, hit, hne⟩ := st
    obtain ⟨xs, hq, hx⟩ := hg
    obtain ⟨its, rv, p, hz⟩ := I.tuple hq
    have p : s.heap.IsTuple a its.toArray := p
    obtain ⟨f0, f1, f2, f3, f4, f5⟩ := hf it (by simp)
    have hl := rv.length
    have n2 : a ≠ it := iter_ne_tup hit p
    exact enum_endT (I.ok.hd hc) he hit p (by simp; omega) fun h' eb => ⟨rfl, I.turned (t' := s.toks) (fun b o hb q => eb b o hb q) f0 f1 f3 f4 f5⟩
  self := fun A i s Q E st h => let ⟨⟨_, he⟩, _⟩ := st; wpAny_pyIter_enum he h
def iEnumA (K : PySem.W.Frag) (ta : TA) : TI := fun σ H R => ta σ H fun vs H1 => ∃ a xs, vs = [.ref a] ∧ ((SqL K H1 a xs ∧ R (Ite K a) H1) ∨ (SqT K H1 a xs ∧ R (IteT K a) H1))
theorem pi_enumA {X : Cx} {e : Expr} {ta : TA} {p pos tpos : Pos} {elts : List Expr} {kk : Nat} (hg : Gl X "enumerate") (hm : X.mg "enumerate" = none) (ha : PA X [e] ta) (hs : starEach [e] X.env = [(false, eval e X.env)] := by rfl) :
    PI X (.Tuple elts kk tpos) (.Call (.Name "enumerate" p) [e] [] pos) (iEnumA X.K ta) := by
  refine ⟨fun pins s σ H R I h => ?_⟩
  refine Call_ (ld_blt I hg hm boot_enumerate (PyProof.Rows.callWith_type1 (thn (ha.run pos pins s σ H _ I h) fun us s1 ⟨vs, H1, I1, r1, q1⟩ => ?_) hs rfl))
  obtain ⟨a, xs, ex, q1⟩ := q1
  subst ex
  cases r1 with
  | cons r rr =>
    cases rr
    cases r
    have fresh2 : ∀ b, b ∈ [s1.heap.objs.size + 1, s1.heap.objs.size] → FpOk X pins H1 b := fun b hb => by
      have e' : b = s1.heap.objs.size + 1 ∨ b = s1.heap.objs.size := by simpa using hb
      have hle : s1.heap.objs.size ≤ b := by
        rcases e' with z | z
        · rw [z]; exact Nat.le_add_right _ _
        · rw [z]; exact Nat.le_refl _
      exact I1.fpOk hle (I1.hok.fresh hle)
    rcases q1 with ⟨hq, q⟩ | ⟨hq, q⟩
    · obtain ⟨its, rv, p', hz⟩ := I1.list hq
      refine call_enumerate_list p'.isList fun h' he hit hsz hk => wpAny_pyIter_enum he ?_
      have I2 : Inv X pins σ H1 { s1 with heap := h' } := I1.kept (t' := s1.toks) hk
      exact ⟨s1.heap.objs.size + 1, [s1.heap.objs.size + 1, s1.heap.objs.size], _, _, H1, rfl, I2, turn_enum a (s1.heap.objs.size + 1) s1.heap.objs.size, ⟨⟨.none, he⟩, hit, Nat.succ_ne_self _⟩, fresh2, q⟩
    · obtain ⟨its, rv, p', hz⟩ := I1.tuple hq
      refine call_enumT (items := its.toArray) p' fun h' he hit hsz hk => wpAny_pyIter_enum he ?_
      have I2 : Inv X pins σ H1 { s1 with heap := h' } := I1.kept (t' := s1.toks) hk
      exact ⟨s1.heap.objs.size + 1, [s1.heap.objs.size + 1, s1.heap.objs.size], _, _, H1, rfl, I2, turn_enumT a (s1.heap.objs.size + 1) s1.heap.objs.size, ⟨⟨.none, he⟩, hit, Nat.succ_ne_self _⟩, fresh2, q⟩
section
variable {D : Dn} {X : Cx} {xa : XA} {W : WX} {m : Bool} {cs : CF} {a : Expr} {pos p0 : Pos} {ia : IE}
theorem enmT_at : ∀ {xs : List IV} {k i : Nat}, (enmT k xs)[i]? = (xs[i]?).map fun x => IV.tup [.int ((k + i : Nat) : Int), x]
  | [], _, _ => by simp [enmT]
  | x :: xs, k, 0 => by simp [enmT]
  | x :: xs, k, i + 1 => by
    rw [enmT, List.getElem?_cons_succ, List.getElem?_cons_succ, enmT_at, show k + 1 + i = k + (i + 1) by omega]
theorem wk_enmT {ρ : List Addr} {H : Hp} {ih : IH} {xs : List IV} {us : List V} {ad : Addr} (hr : HR D ρ ih H) (q : SqT D.K H ad us) (r : VRs D ρ H xs us) : WkR D ρ H (.fix (enmT 0 xs)) (IteT D.K ad) := by
  intro ρ1 ih1 H1 ev hr1 i
  obtain ⟨h1, h2⟩ := at_V (S := SqT D.K H1 ad) (sqT_evo q hr ev) (r.evo hr ev) i
  show (some ((enmT 0 xs)[i]?) = some none → _) ∧ ∀ x, some ((enmT 0 xs)[i]?) = some (some x) → _
  rw [enmT_at, Nat.zero_add]
  refine ⟨fun z => h1 (Option.map_eq_none_iff.mp (Option.some.inj z)), fun x z => ?_⟩
  obtain ⟨y0, k1, k2⟩ := Option.map_eq_some_iff.mp (Option.some.inj z)
  subst k2
  obtain ⟨⟨us, v, g1, g2⟩, g3⟩ := h2 y0 k1
  refine ⟨⟨us, v, g1, g2⟩, fun v H2 ⟨T, x, e1, hT, e2, k⟩ => ?_⟩
  subst e1 e2
  have ev2 : Ev ρ1 H1 ρ1 (upd H1 T (.tup [.int (i : Nat), x])) := Ev.lay hT _
  exact ⟨ev2, hr1.lay hT _, .tup (.inl (.inl upd_same)) (.cons (.int _) (.cons ((g3 x k).evo hr1 ev2) .nil))⟩
theorem I_enm2 {elts : List Expr} {kk : Nat} {tpos : Pos} (hK : X.K = D.K) (g : Gl X "enumerate") (hm : X.mg "enumerate" = none) (ha : PE X a (sE D xa m cs ia W)) (hs : nostar a = true) : PI X (.Tuple elts kk tpos) (.Call (.Name "enumerate" p0) [a] [] pos) (semI D xa m cs (.enm ia) W) :=
  PIi (pi_enumA g hm (pa_cons ha pa_nil (star_ok hs)) (star_ok hs)) fun σ H R ⟨ρ, ih, s, hr, l, p⟩ => semR.bind hr l (show Post D ρ H ((evE D.sg m cs ia s ih).bind fun x h => match lstI x h with
    | some _ => .ok (.enm x) h
    | none => match x with
      | .tup xs => .ok (.fix (enmT 0 xs)) h
      | _ => .no) (WkR D) R (WE W σ) from p) fun x ih1 ρ1 H1 u e hr1 l1 ev q p1 => by
    cases el : lstI x ih1 with
    | none =>
      rw [el] at p1
      cases q with
      | @tup xs us ad sq rs => exact ⟨ad, us, rfl, .inr ⟨by rw [hK]; exact sq, by rw [hK]; exact p1 _ _ _ .refl hr1 (wk_enmT hr1 sq rs)⟩⟩
      | _ => exact p1.elim
    | some xs =>
      rw [el] at p1
      obtain ⟨ad, us, e1, g1, g2⟩ := lstI_V hr1 q el
      subst e1
      exact ⟨ad, us, rfl, .inl ⟨by rw [hK]; exact g1, by rw [hK]; exact p1 _ _ _ .refl hr1 (wk_enm hr1 q)⟩⟩
end
end Itp

/-! ItL: statements. -/
namespace Itp
open PySem PySem.Spec PyProof.Rows L2
section
variable {D : Dn} {X : Cx}
theorem oi_add : OpR X (inplaceOp .Add) (sem2 D (ipo .add)) := by
  intro pins s σ H u w v v' Q I ru rw ⟨ρ, ih, x, y, W, hr, vx, vy, p⟩
  cases vx with
  | int i =>
    cases vy <;> first
      | exact False.elim p
      | exact iop_add pins s σ H _ _ v v' Q I ru rw ⟨_, _, rfl, rfl, p.val hr (.int _)⟩
  | str i =>
    cases vy <;> first
      | exact False.elim p
      | (obtain ⟨c, p⟩ := ifp (F := fun r => Post D ρ H r (VR D) Q W) p fun z => z
         exact iop_add_str pins s σ H _ _ v v' Q I ru rw ⟨_, _, rfl, rfl, by rw [← ln_eq]; exact c, p.val hr (.str _)⟩)
  | @ref n a q =>
    cases vy with
    | @ref k b q2 =>
      replace p : Post D ρ H (match ih[n]?, ih[k]? with
        | some (.lst xs), some (.lst ys) => if xs.length + ys.length ≤ LN then .ok (.ref n) (ih.set n (.lst (xs ++ ys))) else .no
        | _, _ => .no) (VR D) Q W := p
      cases e : ih[n]? with
      | none => rw [e] at p; exact p.elim
      | some o =>
        cases e2 : ih[k]? with
        | none => rw [e, e2] at p; cases o <;> exact p.elim
        | some o2 =>
          rw [e, e2] at p
          cases o with
          | lst xs =>
            cases o2 with
            | lst ys =>
              obtain ⟨c, p⟩ := ifp (F := fun r => Post D ρ H r (VR D) Q W) p fun z => z
              obtain ⟨us, h1, r⟩ := hr.ob _ _ _ e q
              obtain ⟨ws, h2, r2⟩ := hr.ob _ _ _ e2 q2
              exact iop_ext pins s σ H _ _ v v' Q I ru rw ⟨a, b, us, ws, rfl, rfl, h1, h2, by rw [← r.length, ← r2.length, ← ln_eq]; exact c, Post.put hr q (r.append r2) (.ref q) p⟩
            | _ => exact p.elim
          | _ => cases o2 <;> exact p.elim
    | _ => exact p.elim
  | _ => cases vy <;> exact p.elim
theorem oi (o : O2) : OpR X (inplaceOp o.op) (sem2 D (ipo o)) := by
  cases o with
  | add => exact oi_add
  | sub =>
    intro pins s σ H u w v v' Q I ru rw ⟨ρ, ih, x, y, W, hr, vx, vy, p⟩
    cases vx <;> cases vy <;> first | exact False.elim p | exact iop_sub pins s σ H _ _ v v' Q I ru rw ⟨_, _, rfl, rfl, p.val hr (.int _)⟩
  | mul =>
    intro pins s σ H u w v v' Q I ru rw ⟨ρ, ih, x, y, W, hr, vx, vy, p⟩
    cases vx <;> cases vy <;> first
      | exact False.elim p
      | (obtain ⟨c, p⟩ := ifp (F := fun r => Post D ρ H r (VR D) Q W) p fun z => z
         rw [b64] at c
         exact iop_mul pins s σ H _ _ v v' Q I ru rw ⟨_, _, rfl, rfl, c, p.val hr (.int _)⟩)
  | fdiv =>
    intro pins s σ H u w v v' Q I ru rw ⟨ρ, ih, x, y, W, hr, vx, vy, p⟩
    cases vx <;> cases vy <;> first
      | exact False.elim p
      | (obtain ⟨c, p⟩ := ifp (F := fun r => Post D ρ H r (VR D) Q W) p fun z => z
         have h2 := b64 ▸ c.2
         exact iop_fdivW pins s σ H _ _ v v' Q I ru rw ⟨_, _, rfl, rfl, wide_div (b := 64) c.1 (by omega) (by decide) (by decide), p.val hr (.int _)⟩)
  | mod =>
    intro pins s σ H u w v v' Q I ru rw ⟨ρ, ih, x, y, W, hr, vx, vy, p⟩
    cases vx <;> cases vy <;> first
      | exact False.elim p
      | (obtain ⟨c, p⟩ := ifp (F := fun r => Post D ρ H r (VR D) Q W) p fun z => z
         exact iop_mod pins s σ H _ _ v v' Q I ru rw ⟨_, _, rfl, rfl, c, p.val hr (.int _)⟩)
  | pow =>
    intro pins s σ H u w v v' Q I ru rw ⟨ρ, ih, x, y, W, hr, vx, vy, p⟩
    cases vx <;> cases vy <;> exact False.elim p
  | band =>
    intro pins s σ H u w v v' Q I ru rw ⟨ρ, ih, x, y, W, hr, vx, vy, p⟩
    cases vx <;> cases vy <;> first | exact False.elim p | exact iop_and pins s σ H _ _ v v' Q I ru rw ⟨_, _, rfl, rfl, p.val hr (.int _)⟩
  | bor =>
    intro pins s σ H u w v v' Q I ru rw ⟨ρ, ih, x, y, W, hr, vx, vy, p⟩
    cases vx <;> cases vy <;> first | exact False.elim p | exact iop_or pins s σ H _ _ v v' Q I ru rw ⟨_, _, rfl, rfl, p.val hr (.int _)⟩
  | bxor =>
    intro pins s σ H u w v v' Q I ru rw ⟨ρ, ih, x, y, W, hr, vx, vy, p⟩
    cases vx <;> cases vy <;> first | exact False.elim p | exact iop_xor pins s σ H _ _ v v' Q I ru rw ⟨_, _, rfl, rfl, p.val hr (.int _)⟩
  | shl =>
    intro pins s σ H u w v v' Q I ru rw ⟨ρ, ih, x, y, W, hr, vx, vy, p⟩
    cases vx <;> cases vy <;> first
      | exact False.elim p
      | (obtain ⟨⟨c1, c2, c3, c4⟩, p⟩ := ifp (F := fun r => Post D ρ H r (VR D) Q W) p fun z => z
         rw [b64] at c3 c4
         exact iop_shl pins s σ H _ _ v v' Q I ru rw ⟨_, _, rfl, rfl, ⟨c1, c2, by omega⟩, p.val hr (.int _)⟩)
  | shr =>
    intro pins s σ H u w v v' Q I ru rw ⟨ρ, ih, x, y, W, hr, vx, vy, p⟩
    cases vx <;> cases vy <;> first
      | exact False.elim p
      | (obtain ⟨c, p⟩ := ifp (F := fun r => Post D ρ H r (VR D) Q W) p fun z => z
         exact iop_shr pins s σ H _ _ v v' Q I ru rw ⟨_, _, rfl, rfl, c, p.val hr (.int _)⟩)
/-! ### readings of statements -/
def PostS (D : Dn) (xa : XA) (ρ : List Addr) (H : Hp) (r : RS) (E : Ends) (W : WX) : Prop := match r with
  | .nx s ih => ∀ ρ' H' σ', Ev ρ H ρ' H' → HR D ρ' ih H' → LR D ρ' H' xa s σ' → E.nx σ' H'
  | .rt v ih => ∀ ρ' H' u, Ev ρ H ρ' H' → HR D ρ' ih H' → VR D ρ' H' v u → E.rt u H'
  | .bk s ih => ∀ ρ' H' σ', Ev ρ H ρ' H' → HR D ρ' ih H' → LR D ρ' H' xa s σ' → E.bk σ' H'
  | .ct s ih => ∀ ρ' H' σ', Ev ρ H ρ' H' → HR D ρ' ih H' → LR D ρ' H' xa s σ' → E.ct σ' H'
  | .ex c v s ih => ∀ ρ' H' σ' d, Ev ρ H ρ' H' → HR D ρ' ih H' → LR D ρ' H' xa s σ' → XR D ρ' H' c v d → W (.ref (D.cA c)) (some d) σ' H'
  | .no => False
def semS (D : Dn) (xa : XA) (ev : En → IH → RS) (W : WX) : TS := fun E σ H => ∃ ρ ih s, HR D ρ ih H ∧ LR D ρ H xa s σ ∧ PostS D xa ρ H (ev s ih) E W
end
section
variable {D : Dn} {α β : Type} {xa : XA} {ρ ρ1 : List Addr} {ih ih1 : IH} {H H1 : Hp} {s : En} {σ : L2.St} {W : WX} {E : Ends}
theorem PostS.evo {r : RS} (p : PostS D xa ρ H r E W) (hr : HR D ρ1 ih1 H1) (e : Ev ρ H ρ1 H1) : PostS D xa ρ1 H1 r E W := by
  cases r with
  | nx s ih => exact fun ρ2 H2 σ' e2 hr2 l => p ρ2 H2 σ' (e.trans hr e2) hr2 l
  | rt v ih => exact fun ρ2 H2 u e2 hr2 l => p ρ2 H2 u (e.trans hr e2) hr2 l
  | bk s ih => exact fun ρ2 H2 σ' e2 hr2 l => p ρ2 H2 σ' (e.trans hr e2) hr2 l
  | ct s ih => exact fun ρ2 H2 σ' e2 hr2 l => p ρ2 H2 σ' (e.trans hr e2) hr2 l
  | ex c v s ih => exact fun ρ2 H2 σ' d e2 hr2 l x => p ρ2 H2 σ' d (e.trans hr e2) hr2 l x
  | no => exact p
theorem PostS.of {r : R α} {f : α → IH → RS} {rel : List Addr → Hp → α → β → Prop} {Q1 : β → Hp → Prop} (hr : HR D ρ ih H) (l : LR D ρ H xa s σ) (p : PostS D xa ρ H (RS.of s r f) E W)
    (k : ∀ a ih1 ρ1 H1 b, r = .ok a ih1 → HR D ρ1 ih1 H1 → LR D ρ1 H1 xa s σ → Ev ρ H ρ1 H1 → rel ρ1 H1 a b → PostS D xa ρ1 H1 (f a ih1) E W → Q1 b H1) : Post D ρ H r rel Q1 fun c d H' => W c d σ H' := by
  cases r with
  | ok a ih1 => exact fun ρ1 H1 b e hr1 q => k a ih1 ρ1 H1 b rfl hr1 (l.evo hr e) e q (PostS.evo (r := f a ih1) p hr1 e)
  | ex c v ih1 => exact fun ρ1 H1 d e hr1 x => p ρ1 H1 σ d e hr1 (l.evo hr e) x
  | no => exact p
theorem semS.of {ev : En → IH → R α} {f : α → IH → RS} {rel : List Addr → Hp → α → β → Prop} {Q1 : β → Hp → Prop} (hr : HR D ρ ih H) (l : LR D ρ H xa s σ) (p : PostS D xa ρ H (RS.of s (ev s ih) f) E W)
    (k : ∀ a ih1 ρ1 H1 b, ev s ih = .ok a ih1 → HR D ρ1 ih1 H1 → LR D ρ1 H1 xa s σ → Ev ρ H ρ1 H1 → rel ρ1 H1 a b → PostS D xa ρ1 H1 (f a ih1) E W → Q1 b H1) : semR D xa rel ev W σ H Q1 := ⟨ρ, ih, s, hr, l, p.of hr l k⟩
end
section
variable {D : Dn} {X : Cx} {xa : XA} {W : WX} {m : Bool} {cs : CF} {e a b c : Expr} {es rest : List Expr} {st : Stmt} {sts : List Stmt} {kws : List Keyword} {pos apos p0 p1 : Pos} {ia ib ic : IE} {ies iks : IA} {x : Str} {is : IS} {bs : IB} {iq : IQ}
abbrev sS (D : Dn) (xa : XA) (m : Bool) (cs : CF) (i : IS) (W : WX) : TS := semS D xa (evS D.sg cs m i) W
abbrev sB (D : Dn) (xa : XA) (m : Bool) (cs : CF) (i : IB) (W : WX) : TS := semS D xa (evB D.sg cs m i) W
/-- no comprehension -/
def nolc : Expr → Bool
  | .ListComp _ _ _ _ => false
  | .SetComp _ _ _ _ => false
  | .DictComp _ _ _ _ _ => false
  | _ => true
theorem sw_ok {e : Expr} {t : Option Expr} {n : Nat} {env : Env} (h : nolc e = true) : swapsWith e t n env = pure false := by
  cases e <;> first | rfl | cases h
theorem B_nil : PSs X [] (sB D xa m cs .nil W) := PSsi pss_nil fun E σ H ⟨ρ, ih, s, hr, l, p⟩ => p ρ H σ .refl hr l
theorem seq_of {ρ : List Addr} {H : Hp} {r : RS} {f : En → IH → RS} {E : Ends} (p : PostS D xa ρ H (RS.seq r f) E W) (k : ∀ s ih1 ρ1 H1 σ1, HR D ρ1 ih1 H1 → LR D ρ1 H1 xa s σ1 → Ev ρ H ρ1 H1 → PostS D xa ρ1 H1 (f s ih1) E W → ∀ E1 : Ends, E1 = E → True) : True := trivial
theorem B_cons (h1 : PS X st (sS D xa m cs is W)) (h2 : PSs X sts (sB D xa m cs bs W)) : PSs X (st :: sts) (sB D xa m cs (.cons is bs) W) :=
  PSsi (pss_cons h1 h2) fun E σ H ⟨ρ, ih, s, hr, l, p⟩ => ⟨ρ, ih, s, hr, l, by
    have p' : PostS D xa ρ H (RS.seq (evS D.sg cs m is s ih) fun s h => evB D.sg cs m bs s h) E W := p
    cases hs : evS D.sg cs m is s ih with
    | nx s1 ih1 =>
      rw [hs] at p'
      exact fun ρ1 H1 σ1 ev hr1 l1 => ⟨ρ1, ih1, s1, hr1, l1, PostS.evo (r := evB D.sg cs m bs s1 ih1) p' hr1 ev⟩
    | rt v ih1 => rw [hs] at p'; exact p'
    | bk s1 ih1 => rw [hs] at p'; exact p'
    | ct s1 ih1 => rw [hs] at p'; exact p'
    | ex c v s1 ih1 => rw [hs] at p'; exact p'
    | no => rw [hs] at p'; exact p'⟩
theorem S_pas : PS X (.Pass pos) (sS D xa m cs .pas W) := PSi ps_pass fun E σ H ⟨ρ, ih, s, hr, l, p⟩ => p ρ H σ .refl hr l
theorem S_brk : PS X (.Break pos) (sS D xa m cs .brk W) := PSi ps_break fun E σ H ⟨ρ, ih, s, hr, l, p⟩ => p ρ H σ .refl hr l
theorem S_cnt : PS X (.Continue pos) (sS D xa m cs .cnt W) := PSi ps_continue fun E σ H ⟨ρ, ih, s, hr, l, p⟩ => p ρ H σ .refl hr l
theorem S_doc {z : Str} {j : Nat} : PS X (.Expr (.Constant (.str z) j p0) pos) (sS D xa m cs .pas W) := PSi ps_doc fun E σ H ⟨ρ, ih, s, hr, l, p⟩ => p ρ H σ .refl hr l
theorem S_retn : PS X (.Return none pos) (sS D xa m cs .retn W) := PSi ps_retN fun E σ H ⟨ρ, ih, s, hr, l, p⟩ => p ρ H _ .refl hr .non
theorem S_ret (ha : PE X e (sE D xa m cs ia W)) : PS X (.Return (some e) pos) (sS D xa m cs (.ret ia) W) :=
  PSi (ps_ret ha) fun E σ H ⟨ρ, ih, s, hr, l, p⟩ => semS.of hr l p fun x ih1 ρ1 H1 u _ hr1 l1 ev vx p1 => p1 ρ1 H1 u .refl hr1 vx
theorem S_expr (ha : PE X e (sE D xa m cs ia W)) (hs : nolc e = true) : PS X (.Expr e pos) (sS D xa m cs (.expr ia) W) :=
  PSi (ps_expr ha (sw_ok hs)) fun E σ H ⟨ρ, ih, s, hr, l, p⟩ => semS.of hr l p fun x ih1 ρ1 H1 u _ hr1 l1 ev vx p1 => p1 ρ1 H1 σ .refl hr1 l1
/-- a store, in the reading of a statement -/
theorem sto_of {tg : Tg} {ρ : List Addr} {H : Hp} {ih : IH} {s : En} {σ : L2.St} {E : Ends} {y : IV} {u : V} (hr : HR D ρ ih H) (l : LR D ρ H xa s σ) (r : VR D ρ H y u) (p : PostS D xa ρ H (match asg tg y s ih with
    | some s1 => .nx s1 ih
    | none => .no) E W) : semG D xa tg u σ H E.nx := by
  cases e : asg tg y s ih with
  | none => rw [e] at p; exact p.elim
  | some s1 =>
    rw [e] at p
    exact ⟨ρ, ih, s, y, s1, hr, l, r, e, fun σ1 l1 _ _ => p ρ H σ1 .refl hr l1⟩
theorem S_sets2 {x1 x2 : Str} {i j : Nat} (ha : PE X e (sE D xa m cs ia W)) (h1 : PG X (.Name x1 p0) (semG D xa (.nm i))) (h2 : PG X (.Name x2 p1) (semG D xa (.nm j))) : PS X (.Assign [.Name x1 p0, .Name x2 p1] e pos) (sS D xa m cs (.sets [i, j] ia) W) :=
  PSi (ps_asg2 ha h1 h2 rfl (by cases e <;> rfl)) fun E σ H ⟨ρ, ih, s, hr, l, p⟩ => semS.of hr l p fun x ih1 ρ1 H1 u _ hr1 l1 ev vx p1 =>
    ⟨ρ1, ih1, s, x, _, hr1, l1, vx, rfl, fun σ1 l2 _ _ => ⟨ρ1, ih1, _, x, _, hr1, l2, vx, rfl, fun σ2 l3 _ _ => p1 ρ1 H1 σ2 .refl hr1 l3⟩⟩
theorem S_if {a b : List Stmt} {ba bb : IB} (hc : PT X c (sT D xa m cs iq W)) (ha : PSs X a (sB D xa m cs ba W)) (hb : PSs X b (sB D xa m cs bb W)) : PS X (.If c a b pos) (sS D xa m cs (.if_ iq ba bb) W) :=
  PSi (ps_if hc ha hb) fun E σ H ⟨ρ, ih, s, hr, l, p⟩ => semS.of hr l p fun k ih1 ρ1 H1 u _ hr1 l1 ev e p1 => by
    subst e
    cases k with
    | true => rw [if_pos rfl] at p1 ⊢; exact ⟨ρ1, ih1, s, hr1, l1, p1⟩
    | false => rw [if_neg (by decide)] at p1 ⊢; exact ⟨ρ1, ih1, s, hr1, l1, p1⟩
theorem S_whl {a : List Stmt} {ba : IB} (hp : PassesOwn (model X.prog X.w) X.A X.env X.xe) (hc : PT X c (sT D xa m cs iq W)) (ha : PSs X a (sB D xa m cs ba W)) : PS X (.While c a [] pos) (sS D xa m cs (.whl iq ba) W) :=
  PSi (ps_while hp hc ha) fun E σ H ⟨ρ, ih, s, hr, l, p⟩ => by
    let Wf : Nat → L2.St → Hp → Prop := fun k σ' H' => ∃ ρ' ih' s', HR D ρ' ih' H' ∧ LR D ρ' H' xa s' σ' ∧ PostS D xa ρ' H' (loopW (evT D.sg m cs iq) (evB D.sg cs m ba) k s' ih') E W
    refine ⟨Wf, ⟨FU, ρ, ih, s, hr, l, p⟩, fun k σ' H' ⟨ρ', ih', s', hr1, l1, p1⟩ => ?_⟩
    cases k with
    | zero => exact p1.elim
    | succ k =>
      have p2 : PostS D xa ρ' H' (RS.of s' (evT D.sg m cs iq s' ih') fun b h1 => match b with
        | true => (match evB D.sg cs m ba s' h1 with
          | .nx s2 h2 => loopW (evT D.sg m cs iq) (evB D.sg cs m ba) k s2 h2
          | .ct s2 h2 => loopW (evT D.sg m cs iq) (evB D.sg cs m ba) k s2 h2
          | .bk s2 h2 => .nx s2 h2
          | .rt v h2 => .rt v h2
          | .ex c v s2 h2 => .ex c v s2 h2
          | .no => .no)
        | false => .nx s' h1) E W := by
        exact p1
      refine semS.of hr1 l1 p2 fun b ih2 ρ2 H2 b' _ hr2 l2 ev eb p3 => ?_
      subst eb
      cases b with
      | false =>
        rw [if_neg (by decide)]
        exact p3 ρ2 H2 σ' .refl hr2 l2
      | true =>
        rw [if_pos rfl]
        refine ⟨fun σ' H' => Wf k σ' H', fun σ' H' w => ⟨k, Nat.lt_succ_self k, w⟩, ρ2, ih2, s', hr2, l2, ?_⟩
        replace p3 : PostS D xa ρ2 H2 (match evB D.sg cs m ba s' ih2 with
            | .nx s2 h2 => loopW (evT D.sg m cs iq) (evB D.sg cs m ba) k s2 h2
            | .ct s2 h2 => loopW (evT D.sg m cs iq) (evB D.sg cs m ba) k s2 h2
            | .bk s2 h2 => .nx s2 h2
            | .rt v h2 => .rt v h2
            | .ex c v s2 h2 => .ex c v s2 h2
            | .no => .no) E W := p3
        cases hb : evB D.sg cs m ba s' ih2 with
        | nx s2 h2 => rw [hb] at p3; exact fun ρ3 H3 σ3 ev3 hr3 l3 => ⟨ρ3, h2, s2, hr3, l3, PostS.evo p3 hr3 ev3⟩
        | ct s2 h2 => rw [hb] at p3; exact fun ρ3 H3 σ3 ev3 hr3 l3 => ⟨ρ3, h2, s2, hr3, l3, PostS.evo p3 hr3 ev3⟩
        | bk s2 h2 => rw [hb] at p3; exact p3
        | rt v h2 => rw [hb] at p3; exact p3
        | ex c v s2 h2 => rw [hb] at p3; exact p3
        | no => rw [hb] at p3; exact p3
theorem S_for {tg : Tg} {it : IT} {t iter : Expr} {a : List Stmt} {ba : IB} (hp : PassesOwn (model X.prog X.w) X.A X.env X.xe) (hc : m = false → X.calm = true) (hi : PI X t iter (semI D xa m cs it W)) (hg : PG X t (semG D xa tg)) (ha : PSs X a (sB D xa m cs ba W)) (hs : noset iter = true) : PS X (.For t iter a [] pos) (sS D xa m cs (.for_ tg it ba) W) := by
  cases m with
  | true => exact ⟨fun pins s σ H E I ⟨ρ, ih, sl, hr, l, p⟩ => False.elim p⟩
  | false =>
    refine PSi (ps_for hp (hc rfl) hi hg ha fun x => noset_ok hs x) fun E σ H ⟨ρ, ih, s, hr, l, p⟩ => ?_
    have p' : PostS D xa ρ H (RS.of s (evI D.sg false cs it s ih) fun w h => walk w tg (evB D.sg cs false ba) FU 0 s h) E W := p
    refine semS.of hr l p' fun w ih1 ρ1 H1 J _ hr1 l1 ev wk p1 => ?_
    let Wf : Nat → Nat → L2.St → Hp → Prop := fun i k σ' H' => ∃ ρ' ih' s', Ev ρ1 H1 ρ' H' ∧ HR D ρ' ih' H' ∧ LR D ρ' H' xa s' σ' ∧ PostS D xa ρ' H' (walk w tg (evB D.sg cs false ba) k i s' ih') E W
    refine ⟨Wf, ⟨FU, ρ1, ih1, s, .refl, hr1, l1, p1⟩, fun i k σ' H' ⟨ρ', ih', s', ev1, hr2, l2, p2⟩ => ?_⟩
    cases k with
    | zero => exact p2.elim
    | succ k =>
      have p3 : PostS D xa ρ' H' (match w.nxt i ih' with
        | none => .no
        | some none => .nx s' ih'
        | some (some x) => match asg tg x s' ih' with
          | none => .no
          | some s1 => match evB D.sg cs false ba s1 ih' with
            | .nx s2 h2 => walk w tg (evB D.sg cs false ba) k (i + 1) s2 h2
            | .ct s2 h2 => walk w tg (evB D.sg cs false ba) k (i + 1) s2 h2
            | .bk s2 h2 => .nx s2 h2
            | .rt v h2 => .rt v h2
            | .ex c v s2 h2 => .ex c v s2 h2
            | .no => .no) E W := p2
      obtain ⟨wk1, wk2⟩ := wk ρ' ih' H' ev1 hr2 i
      cases hn : w.nxt i ih' with
      | none => rw [hn] at p3; exact p3.elim
      | some o =>
        cases o with
        | none =>
          rw [hn] at p3
          exact .inl ⟨wk1 hn, p3 ρ' H' σ' .refl hr2 l2⟩
        | some x =>
          rw [hn] at p3
          obtain ⟨go, yl⟩ := wk2 x hn
          refine .inr ⟨go, fun σ'' H'' => Wf (i + 1) k σ'' H'', fun σ'' H'' n => ⟨k, Nat.lt_succ_self k, n⟩, fun v H'' y => ?_⟩
          obtain ⟨ev4, hr4, rv⟩ := yl v H'' y
          replace p3 : PostS D xa ρ' H' (match asg tg x s' ih' with
            | none => .no
            | some s1 => match evB D.sg cs false ba s1 ih' with
              | .nx s2 h2 => walk w tg (evB D.sg cs false ba) k (i + 1) s2 h2
              | .ct s2 h2 => walk w tg (evB D.sg cs false ba) k (i + 1) s2 h2
              | .bk s2 h2 => .nx s2 h2
              | .rt v h2 => .rt v h2
              | .ex c v s2 h2 => .ex c v s2 h2
              | .no => .no) E W := p3
          cases ha : asg tg x s' ih' with
          | none => rw [ha] at p3; exact p3.elim
          | some s1 =>
            rw [ha] at p3
            refine ⟨ρ', ih', s', x, s1, hr4, l2.evo hr2 ev4, rv, ha, fun σ1 l5 _ _ => ⟨ρ', ih', s1, hr4, l5, ?_⟩⟩
            replace p3 : PostS D xa ρ' H' (match evB D.sg cs false ba s1 ih' with
              | .nx s2 h2 => walk w tg (evB D.sg cs false ba) k (i + 1) s2 h2
              | .ct s2 h2 => walk w tg (evB D.sg cs false ba) k (i + 1) s2 h2
              | .bk s2 h2 => .nx s2 h2
              | .rt v h2 => .rt v h2
              | .ex c v s2 h2 => .ex c v s2 h2
              | .no => .no) E W := p3
            cases hb : evB D.sg cs false ba s1 ih' with
            | nx s2 h2 => rw [hb] at p3; exact fun ρ5 H5 σ5 ev5 hr5 l5 => ⟨ρ5, h2, s2, (ev1.trans hr2 ev4).trans hr4 ev5, hr5, l5, PostS.evo p3 hr5 (ev4.trans hr4 ev5)⟩
            | ct s2 h2 => rw [hb] at p3; exact fun ρ5 H5 σ5 ev5 hr5 l5 => ⟨ρ5, h2, s2, (ev1.trans hr2 ev4).trans hr4 ev5, hr5, l5, PostS.evo p3 hr5 (ev4.trans hr4 ev5)⟩
            | bk s2 h2 => rw [hb] at p3; exact PostS.evo (W := W) (r := .bk s2 h2) (E := { E with bk := E.nx, nx := fun _ _ => True, ct := fun _ _ => True }) p3 hr4 ev4
            | rt v h2 => rw [hb] at p3; exact PostS.evo (r := .rt v h2) p3 hr4 ev4
            | ex c v s2 h2 => rw [hb] at p3; exact PostS.evo (r := .ex c v s2 h2) p3 hr4 ev4
            | no => rw [hb] at p3; exact p3.elim
end
end Itp

/-! ItM: stores. -/
namespace Itp
open PySem PySem.Spec PyProof.Rows L2
def swc (sc : Scope) (ts vs : List Expr) : Option (Option (List Str)) :=
  if (!(ts.length == 2 || ts.length == 3) || vs.length != ts.length) = true then some none else
  if (vs.any fun | .Starred .. => true | _ => false) = true then some none else
  if ((ts.filterMap fun
    | .Name id pos => if sc.names.lookup id == some .local && pos.line == (ts.head?.map (·.pos.line)).getD 0 then some id else none
    | _ => none).length != ts.length || (ts.filterMap fun
    | .Name id pos => if sc.names.lookup id == some .local && pos.line == (ts.head?.map (·.pos.line)).getD 0 then some id else none
    | _ => none).eraseDups.length != (ts.filterMap fun
    | .Name id pos => if sc.names.lookup id == some .local && pos.line == (ts.head?.map (·.pos.line)).getD 0 then some id else none
    | _ => none).length) = true then some none else
  if vs.all (foldedForSure 8) = true then some none else
  if vs.all (constantsAlone 8) = true then none else some (some (ts.filterMap fun
    | .Name id pos => if sc.names.lookup id == some .local && pos.line == (ts.head?.map (·.pos.line)).getD 0 then some id else none
    | _ => none))
theorem swc_ok {env : Env} {ts vs : List Expr} {k k2 : Nat} {p p2 : Pos} {r : Option (List Str)} (hk : env.scope.kind = .function) (h : swc env.scope ts vs = some r) : swappedStores [.Tuple ts k p] (.Tuple vs k2 p2) env = pure r := by
  have hb : env.blockKind = .function := by unfold Env.blockKind; rw [hk]; rfl
  unfold swc at h
  unfold swappedStores
  simp only [hb]
  split at h
  · rename_i h1
    cases h
    exact if_pos (by rw [h1]; rfl)
  · rename_i h1
    refine (if_neg (by rw [Bool.not_eq_true] at h1; rw [h1]; decide)).trans ?_
    split at h
    · rename_i h2
      cases h
      exact if_pos h2
    · rename_i h2
      refine (if_neg h2).trans ?_
      split at h
      · rename_i h3
        cases h
        exact if_pos h3
      · rename_i h3
        refine (if_neg h3).trans ?_
        split at h
        · rename_i h4
          cases h
          exact if_pos h4
        · rename_i h4
          refine (if_neg h4).trans ?_
          split at h
          · cases h
          · rename_i h5
            cases h
            exact if_neg h5
/-- a target that is no tuple or list -/
def notup : Expr → Bool
  | .Tuple _ _ _ => false
  | .List _ _ => false
  | _ => true
theorem sw1_ok {env : Env} {t e : Expr} (h : notup t = true) : swappedStores [t] e env = pure none := by
  cases t <;> first | rfl | cases h
theorem sw2_ok {env : Env} {t e : Expr} (h : notup e = true) : swappedStores [t] e env = pure none := by
  cases e <;> first | (cases t <;> rfl) | cases h
/-- does a comprehension's value swap with the name -/
def swl (env : Env) (scope : Scope) (pos : Pos) (t : Str) (py : Pos) : Bool := env.scope.names.lookup t == some .local && py.line == pos.line && !(scope.names.any fun (n, k) => n == t && (k == .local || k == .cell))
theorem swl_ok {env : Env} {elt : Expr} {gs : List Comprehension} {scope : Scope} {pos py : Pos} {t : Str} {n : Nat} (hk : env.scope.kind = .function) : swapsWith (.ListComp elt gs scope pos) (some (.Name t py)) n env = pure (swl env scope pos t py) := by
  have hb : env.blockKind = .function := by unfold Env.blockKind; rw [hk]; rfl
  unfold swapsWith swl
  simp only [hb, Expr.pos]
  rfl
section
variable {D : Dn} {X : Cx} {xa : XA} {W : WX} {m : Bool} {cs : CF} {e a b c o : Expr} {es rest : List Expr} {st : Stmt} {sts : List Stmt} {kws : List Keyword} {pos apos p0 p1 : Pos} {ia ib ic io : IE} {ies iks : IA} {x : Str} {is : IS} {bs : IB} {iq : IQ}
theorem S_setA {tg : Tg} {t : Expr} (ha : PE X e (sE D xa m cs ia W)) (hg : PG X t (semG D xa tg)) (hs : swapsWith e (some t) pos.line X.env = pure false) (hw : swappedStores [t] e X.env = pure none) (hn : nostar t = true) : PS X (.Assign [t] e pos) (sS D xa m cs (.set tg ia) W) :=
  PSi (ps_asg ha hg hs hw (by cases t <;> first | rfl | cases hn)) fun E σ H ⟨ρ, ih, s, hr, l, p⟩ => by
    have p' : PostS D xa ρ H (if tg.isT = true ∧ m = true then .no else RS.of s (evE D.sg m cs ia s ih) fun x h => match asg tg x s h with
      | some s1 => .nx s1 h
      | none => .no) E W := p
    by_cases hh : tg.isT = true ∧ m = true
    · rw [if_pos hh] at p'
      exact p'.elim
    · rw [if_neg hh] at p'
      exact semS.of hr l p' fun x ih1 ρ1 H1 u _ hr1 l1 ev vx p1 => sto_of hr1 l1 vx p1
theorem S_setLc {i : Nat} {y : Str} {py : Pos} {elt tg iter : Expr} {ifs : List Expr} {scope : Scope} {own : List (Str × Nat)} {lpos : Pos} {t : Tg} {it : IT} {qs : IQs} (hc : m = false → X.calm = true) (hN : X.N.Nodup) (hy : X.N[i]? = some y) (hyl : X.env.scope.names.lookup y = some .local)
    (hsw : swapsWith (.ListComp elt [⟨tg, iter, ifs, 0⟩] scope lpos) (some (.Name y py)) pos.line X.env = pure true) (hi : PI X tg iter (semI D xa m cs it W)) (ok : BlkOk X.N X.env.scope scope own) (ho : own.map (·.2) = t.slots)
    (hg : ∀ (s : Shared) (H : Hp) (C : Addr) (cl : List (Str × Addr)) (fp : List Addr), PG (X.blk s H scope (compEnvC scope cl C X.env) fp) tg (semG D xa t)) (ht : ∀ (s : Shared) (H : Hp) (C : Addr) (cl : List (Str × Addr)) (fp : List Addr), PTs (X.blk s H scope (compEnvC scope cl C X.env) fp) ifs (semTs D xa m cs qs WF))
    (he : ∀ (s : Shared) (H : Hp) (C : Addr) (cl : List (Str × Addr)) (fp : List Addr), PE (X.blk s H scope (compEnvC scope cl C X.env) fp) elt (sE D xa m cs ia WF)) (hs : noset iter = true) :
    PS X (.Assign [.Name y py] (.ListComp elt [⟨tg, iter, ifs, 0⟩] scope lpos) pos) (sS D xa m cs (.set (.nm i) (.lc t it qs ia)) W) := by
  cases m with
  | true => exact ⟨fun pins s σ H E I ⟨ρ, ih, sl, hr, l, p⟩ => False.elim p⟩
  | false =>
    refine PSi (ps_setLc (hc rfl) hN hy hyl hsw hi ok hg ht he fun x => noset_ok hs x) fun E σ H ⟨ρ, ih, s, hr, l, p⟩ => ?_
    rw [ho]
    exact lc_sem σ H _ (semS.of hr l p fun x ih1 ρ1 H1 u _ hr1 l1 ev vx p1 => p1 ρ1 H1 _ .refl hr1 (l1.setV i vx))
theorem S_par2 {i j : Nat} {x y : Str} {px py pt : Pos} {kt k2 : Nat} {pt2 : Pos} (hc : m = false → X.calm = true) (hN : X.N.Nodup) (hk : X.env.scope.kind = .function) (hi : X.N[i]? = some x) (hj : X.N[j]? = some y) (hij : i ≠ j)
    (hx : X.env.scope.names.lookup x = some .local) (hy : X.env.scope.names.lookup y = some .local) (ha : PA X [a, b] (sA D xa m cs ies W)) (hw : swc X.env.scope [.Name x px, .Name y py] [a, b] = some (some [x, y])) :
    PS X (.Assign [.Tuple [.Name x px, .Name y py] kt pt] (.Tuple [a, b] k2 pt2) pos) (sS D xa m cs (.par [i, j] ies) W) := by
  cases m with
  | true => exact ⟨fun pins s σ H E I ⟨ρ, ih, sl, hr, l, p⟩ => False.elim p⟩
  | false =>
    refine PSi (ps_par (hc rfl) hN hi hj hij hx hy ha (swc_ok hk hw) (by rfl)) fun E σ H ⟨ρ, ih, s, hr, l, p⟩ => ?_
    refine semS.of hr l (show PostS D xa ρ H (RS.of s (evA D.sg false cs ies s ih) fun vs h => match setAll [i, j] vs s with
      | some s1 => .nx s1 h
      | none => .no) E W from p) fun vs ih1 ρ1 H1 us _ hr1 l1 ev q p1 => ?_
    cases q with
    | nil => exact p1.elim
    | @cons v1 u1 vs1 us1 r1 q =>
      cases q with
      | nil => exact p1.elim
      | @cons v2 u2 vs2 us2 r2 q =>
        cases q with
        | cons _ _ => exact p1.elim
        | nil => exact ⟨u1, u2, rfl, p1 ρ1 H1 _ .refl hr1 ((l1.setV i r1).setV j r2)⟩
theorem S_par3 {i j k : Nat} {x y z : Str} {px py pz pt : Pos} {kt k2 : Nat} {pt2 : Pos} (hc : m = false → X.calm = true) (hN : X.N.Nodup) (hk : X.env.scope.kind = .function) (hi : X.N[i]? = some x) (hj : X.N[j]? = some y) (hl : X.N[k]? = some z) (hij : i ≠ j) (hik : i ≠ k) (hjk : j ≠ k)
    (hx : X.env.scope.names.lookup x = some .local) (hy : X.env.scope.names.lookup y = some .local) (hz : X.env.scope.names.lookup z = some .local) (ha : PA X [a, b, c] (sA D xa m cs ies W)) (hw : swc X.env.scope [.Name x px, .Name y py, .Name z pz] [a, b, c] = some (some [x, y, z])) :
    PS X (.Assign [.Tuple [.Name x px, .Name y py, .Name z pz] kt pt] (.Tuple [a, b, c] k2 pt2) pos) (sS D xa m cs (.par [i, j, k] ies) W) := by
  cases m with
  | true => exact ⟨fun pins s σ H E I ⟨ρ, ih, sl, hr, l, p⟩ => False.elim p⟩
  | false =>
    refine PSi (ps_par3 (hc rfl) hN hi hj hl hij hik hjk hx hy hz ha (swc_ok hk hw) (by rfl)) fun E σ H ⟨ρ, ih, s, hr, l, p⟩ => ?_
    refine semS.of hr l (show PostS D xa ρ H (RS.of s (evA D.sg false cs ies s ih) fun vs h => match setAll [i, j, k] vs s with
      | some s1 => .nx s1 h
      | none => .no) E W from p) fun vs ih1 ρ1 H1 us _ hr1 l1 ev q p1 => ?_
    cases q with
    | nil => exact p1.elim
    | @cons v1 u1 vs1 us1 r1 q =>
      cases q with
      | nil => exact p1.elim
      | @cons v2 u2 vs2 us2 r2 q =>
        cases q with
        | nil => exact p1.elim
        | @cons v3 u3 vs3 us3 r3 q =>
          cases q with
          | cons _ _ => exact p1.elim
          | nil => exact ⟨u1, u2, u3, rfl, p1 ρ1 H1 _ .refl hr1 (((l1.setV i r1).setV j r2).setV k r3)⟩
/-! ### fields -/
theorem FRs.put {ρ : List Addr} {H : Hp} (hn : ∀ f g, D.nm f = D.nm g → f = g) (f : Nat) {x : IV} {u : V} (q : VR D ρ H x u) : ∀ {fs : List (Nat × IV)} {gs : List (Str × V)}, FRs D ρ H fs gs → FRs D ρ H (putI f x fs) (putF (D.nm f) u gs)
  | _, _, .nil => .cons q .nil
  | _, _, @FRs.cons _ _ _ g y w xs us q2 r => by
    by_cases h : g = f
    · subst h
      have e1 : putI g x ((g, y) :: xs) = (g, x) :: xs := if_pos rfl
      have e2 : putF (D.nm g) u ((D.nm g, w) :: us) = (D.nm g, u) :: us := by simp [putF]
      rw [e1, e2]
      exact .cons q r
    · have h2 : D.nm g ≠ D.nm f := fun z => h (hn _ _ z)
      have e1 : putI f x ((g, y) :: xs) = (g, y) :: putI f x xs := if_neg h
      have e2 : putF (D.nm f) u ((D.nm g, w) :: us) = (D.nm g, w) :: putF (D.nm f) u us := by simp [putF, h2]
      rw [e1, e2]
      exact .cons q2 (FRs.put hn f q r)
theorem FRs.length {ρ : List Addr} {H : Hp} {fs : List (Nat × IV)} {gs : List (Str × V)} (r : FRs D ρ H fs gs) : fs.length = gs.length := by
  induction r with
  | nil => rfl
  | cons _ _ k => rw [List.length_cons, List.length_cons, k]
/-- an instance, by its number -/
theorem ins_V {ρ : List Addr} {H : Hp} {ih : IH} {y : IV} {u : V} {α : Type} {F : α → Prop} {f : Nat → Nat → List (Nat × IV) → α} {z : α} (hr : HR D ρ ih H) (r : VR D ρ H y u) (p : F (match (generalizing := false) y with
    | .ref r => match ih[r]? with
      | some (.ins c fs) => f r c fs
      | _ => z
    | _ => z)) (hz : ¬ F z) : ∃ n c fs ad dx gs, y = .ref n ∧ u = .ref ad ∧ ih[n]? = some (.ins c fs) ∧ ρ[n]? = some ad ∧ H ad = some (.ins (D.cA c) dx gs) ∧ FRs D ρ H fs gs ∧ F (f n c fs) := by
  cases r with
  | @ref n ad q =>
    replace p : F (match ih[n]? with
      | some (.ins c fs) => f n c fs
      | _ => z) := p
    cases eo : ih[n]? with
    | none => rw [eo] at p; exact (hz p).elim
    | some ob =>
      rw [eo] at p
      cases ob with
      | lst _ => exact (hz p).elim
      | dic _ => exact (hz p).elim
      | ins c fs =>
        obtain ⟨dx, gs, h1, rg⟩ := hr.ob _ _ _ eo q
        exact ⟨n, c, fs, ad, dx, gs, rfl, rfl, eo, q, h1, rg, p⟩
  | _ => exact (hz p).elim
theorem S_fset {f : Nat} (hK : X.K = D.K) (hn : ∀ f g, D.nm f = D.nm g → f = g) (hc : ∀ c f, D.sg.fd c f = true → Cls X.K (D.cA c) ∧ NoAttr X.K (D.cA c) (D.nm f)) (ho : PE X o (sE D xa m cs io W)) (ha : PE X e (sE D xa m cs ia W)) (hs : swapsWith e (some (.Attribute o (D.nm f) p0)) pos.line X.env = pure false) :
    PS X (.Assign [.Attribute o (D.nm f) p0] e pos) (sS D xa m cs (.fset io f ia) W) :=
  PSi (ps_fld ho ha hs) fun E σ H ⟨ρ, ih, s, hr, l, p⟩ => semS.of hr l p fun x ih1 ρ1 H1 u _ hr1 l1 ev vx p1 => semS.of hr1 l1 p1 fun y ih2 ρ2 H2 w _ hr2 l2 ev2 vy p2 => by
    obtain ⟨n, c, fs, ad, dx, gs, rfl, rfl, e1, q, h1, rg, p3⟩ := ins_V (F := fun r => PostS D xa ρ2 H2 r E W) (f := fun n c fs => if D.sg.fd c f = true ∧ fs.length < 900 then .nx s (ih2.set n (.ins c (putI f x fs))) else .no) (z := .no) hr2 vy p2 (fun z => z)
    obtain ⟨⟨c1, c2⟩, p4⟩ := ifp (F := fun r => PostS D xa ρ2 H2 r E W) p3 fun z => z
    obtain ⟨k1, k2⟩ := hc c f c1
    have vx2 := vx.evo hr1 ev2
    have ev3 : Ev ρ2 H2 ρ2 (upd H2 ad (.ins (D.cA c) dx (putF (D.nm f) u gs))) := Ev.put (List.mem_of_getElem? q) _
    exact ⟨ad, D.cA c, dx, gs, rfl, h1, k1, k2, by rw [← rg.length]; omega, p4 ρ2 _ σ ev3 (hr2.put q _ ⟨dx, _, upd_same, ((rg.put hn f vx2)).evo hr2 ev3⟩) (l2.evo hr2 ev3)⟩
theorem S_aug {i : Nat} {op : O2} (hN : X.N.Nodup) (hi : Sto X i x) (ha : PE X e (sE D xa m cs ia W)) : PS X (.AugAssign (.Name x p0) op.op e pos) (sS D xa m cs (.aug i op ia) W) :=
  PSi (ps_aug hN hi.1 hi.2.1 ha (fun pins s σ H x y v u Q I rx ry h => oi (D := D) op pins s σ H x y v u Q I rx ry h) hi.2.2) fun E σ H ⟨ρ, ih, s, hr, l, p⟩ => by
    have p' : PostS D xa ρ H (RS.of s (opt (getV s i) ih) fun x h => RS.of s (evE D.sg m cs ia s h) fun y h => RS.of s (ipo op x y h) fun z h => .nx (s.set i (.v z)) h) E W := p
    cases eg : getV s i with
    | none => rw [eg] at p'; exact p'.elim
    | some x =>
      rw [eg] at p'
      obtain ⟨u, h1, h2⟩ := l.val eg
      refine ⟨u, h1, semS.of hr l (show PostS D xa ρ H (RS.of s (evE D.sg m cs ia s ih) fun y h => RS.of s (ipo op x y h) fun z h => .nx (s.set i (.v z)) h) E W from p') fun y ih1 ρ1 H1 w _ hr1 l1 ev vy p1 => ?_⟩
      exact ⟨ρ1, ih1, x, y, fun c d H' => W c d σ H', hr1, h2.evo hr ev, vy, PostS.of hr1 l1 p1 fun z ih2 ρ2 H2 t _ hr2 l2 ev2 vz p2 => p2 ρ2 H2 _ .refl hr2 (l2.setV i vz)⟩
theorem S_augf {f : Nat} {op : O2} (hn : ∀ f g, D.nm f = D.nm g → f = g) (hc : ∀ c f, D.sg.fd c f = true → Cls X.K (D.cA c) ∧ NoAttr X.K (D.cA c) (D.nm f)) (ho : PE X o (sE D xa m cs io W)) (ha : PE X e (sE D xa m cs ia W)) :
    PS X (.AugAssign (.Attribute o (D.nm f) p0) op.op e pos) (sS D xa m cs (.augf io f op ia) W) :=
  PSi (ps_fldaug ho ha (oi (D := D) op)) fun E σ H ⟨ρ, ih, s, hr, l, p⟩ => semS.of hr l p fun y ih1 ρ1 H1 u _ hr1 l1 ev vy p1 => by
    obtain ⟨n, c, fs, ad, dx, gs, rfl, rfl, e1, q, h1, rg, p2⟩ := ins_V (F := fun r => PostS D xa ρ1 H1 r E W) (f := fun n c fs => if D.sg.fd c f = false then .no else RS.of s (opt (fs.lookup f) ih1) fun x h => RS.of s (evE D.sg m cs ia s h) fun z h => RS.of s (ipo op x z h) fun w h => match h[n]? with
        | some (.ins d fs) => if d = c ∧ fs.length < 900 then .nx s (h.set n (.ins d (putI f w fs))) else .no
        | _ => .no) (z := .no) hr1 vy p1 (fun z => z)
    by_cases hf : D.sg.fd c f = false
    · rw [if_pos hf] at p2; exact p2.elim
    · rw [if_neg hf] at p2
      obtain ⟨k1, k2⟩ := hc c f (by simpa using hf)
      cases el : fs.lookup f with
      | none => rw [el] at p2; exact p2.elim
      | some x =>
        rw [el] at p2
        rcases rg.lookup hn f with ⟨g1, _⟩ | ⟨x', v, g1, g2, g3⟩
        · rw [g1] at el; cases el
        · rw [g1] at el
          cases el
          refine ⟨ad, D.cA c, dx, gs, v, rfl, h1, k1, k2, g2, semS.of hr1 l1 (show PostS D xa ρ1 H1 (RS.of s (evE D.sg m cs ia s ih1) fun z h => RS.of s (ipo op x z h) fun w h => match h[n]? with
            | some (.ins d fs) => if d = c ∧ fs.length < 900 then .nx s (h.set n (.ins d (putI f w fs))) else .no
            | _ => .no) E W from p2) fun z ih2 ρ2 H2 w _ hr2 l2 ev2 vz p3 => ?_⟩
          refine ⟨ρ2, ih2, x, z, fun c d H' => W c d σ H', hr2, g3.evo hr1 ev2, vz, PostS.of hr2 l2 p3 fun t ih3 ρ3 H3 t' _ hr3 l3 ev3 vt p4 => ?_⟩
          have q3 := ev3.at_ (ev2.at_ q)
          cases eo : ih3[n]? with
          | none => rw [eo] at p4; exact p4.elim
          | some ob =>
            rw [eo] at p4
            cases ob with
            | lst _ => exact p4.elim
            | dic _ => exact p4.elim
            | ins d fs2 =>
              obtain ⟨dx2, gs2, h5, rg2⟩ := hr3.ob _ _ _ eo q3
              obtain ⟨⟨c1, c2⟩, p5⟩ := ifp (F := fun r => PostS D xa ρ3 H3 r E W) p4 fun z => z
              subst c1
              have ev4 : Ev ρ3 H3 ρ3 (upd H3 ad (.ins (D.cA d) dx2 (putF (D.nm f) t' gs2))) := Ev.put (List.mem_of_getElem? q3) _
              exact ⟨dx2, gs2, h5, by rw [← rg2.length]; omega, p5 ρ3 _ σ ev4 (hr3.put q3 _ ⟨dx2, _, upd_same, (rg2.put hn f vt).evo hr3 ev4⟩) (l3.evo hr3 ev4)⟩
/-! ### places -/
def semSet (D : Dn) : TSet := fun o i v H Q => ∃ ρ ih x y z W, HR D ρ ih H ∧ VR D ρ H x o ∧ VR D ρ H y i ∧ VR D ρ H z v ∧ Post (β := Unit) D ρ H (setIt x y z ih) (fun _ _ _ _ => True) (fun _ H' => Q H') W
theorem key_V {ρ : List Addr} {H : Hp} {y : IV} {u : V} (r : VR D ρ H y u) (h : keyB y = true) : ∃ k : Key, y = kI k ∧ u = kV k := by
  cases r with
  | int i => exact ⟨.inl i, rfl, rfl⟩
  | str z => exact ⟨.inr z, rfl, rfl⟩
  | _ => cases h
theorem set_I (hu : X.A.units + 80 < cLine) : PSet X (semSet D) := by
  intro pins s σ H o i v ov iv u Q I ro ri rv ⟨ρ, ih, x, y, z, W, hr, vx, vy, vz, p⟩
  cases vx with
  | @ref n ad q =>
    replace p : Post (β := Unit) D ρ H (match ih[n]? with
      | some (.lst xs) => (match y with
        | .int i => match nIx xs.length i with
          | some k => .ok () (ih.set n (.lst (xs.set k z)))
          | none => .no
        | _ => .no)
      | some (.dic kvs) => if keyB y = true ∧ kvs.length < LN then .ok () (ih.set n (.dic (putD y z kvs))) else .no
      | _ => .no) (fun _ _ _ _ => True) (fun _ H' => Q H') W := p
    cases eo : ih[n]? with
    | none => rw [eo] at p; exact p.elim
    | some ob =>
      rw [eo] at p
      cases ob with
      | ins _ _ => exact p.elim
      | lst xs =>
        obtain ⟨us, h1, rx⟩ := hr.ob _ _ _ eo q
        cases vy with
        | int k =>
          replace p : Post (β := Unit) D ρ H (match nIx xs.length k with
            | some k => .ok () (ih.set n (.lst (xs.set k z)))
            | none => .no) (fun _ _ _ _ => True) (fun _ H' => Q H') W := p
          cases en : nIx xs.length k with
          | none => rw [en] at p; exact p.elim
          | some j =>
            rw [en] at p
            have ev : Ev ρ H ρ (upd H ad (.lst (us.set j v))) := Ev.put (List.mem_of_getElem? q) _
            exact set_list pins s σ H _ _ v ov iv u Q I ro ri rv ⟨ad, us, k, j, rfl, rfl, h1, by rw [← rx.length]; exact en, p ρ _ () ev (hr.put q _ ⟨_, upd_same, (rx.set vz j).evo hr ev⟩) trivial⟩
        | _ => exact p.elim
      | dic kvs =>
        obtain ⟨ls, h1, rk⟩ := hr.ob _ _ _ eo q
        obtain ⟨⟨hk, hl⟩, p⟩ := ifp (F := fun r => Post (β := Unit) D ρ H r (fun _ _ _ _ => True) (fun _ H' => Q H') W) p fun z => z
        obtain ⟨k, e1, e2⟩ := key_V vy hk
        subst e1 e2
        have ev : Ev ρ H ρ (upd H ad (.dK (putK ls k v))) := Ev.put (List.mem_of_getElem? q) _
        exact set_dict (by omega) pins s σ H _ _ v ov iv u Q I ro ri rv ⟨ad, _, rfl, DPut.k h1 (by rw [← rk.length, ← ln_eq]; exact hl), p ρ _ () ev (hr.put q _ ⟨_, upd_same, (rk.put vz k).evo hr ev⟩) trivial⟩
  | _ => exact p.elim
def noslice : Expr → Bool
  | .Slice _ _ _ _ => false
  | _ => true
theorem S_iset {i : Expr} {ii : IE} (hsl : noslice i = true) (hu : X.A.units + 80 < cLine) (ho : PE X o (sE D xa m cs io W)) (hi : PE X i (sE D xa m cs ii W)) (ha : PE X e (sE D xa m cs ia W)) (hs : swapsWith e (some (.Subscript o i p0)) pos.line X.env = pure false) :
    PS X (.Assign [.Subscript o i p0] e pos) (sS D xa m cs (.iset io ii ia) W) :=
  PSi (ps_asg ha (pg_sub ho hi (set_I (D := D) hu) (by intro v; cases i <;> first | rfl | cases hsl)) hs (sw1_ok rfl) rfl) fun E σ H ⟨ρ, ih, s, hr, l, p⟩ => semS.of hr l p fun x ih1 ρ1 H1 u _ hr1 l1 ev vx p1 => semS.of hr1 l1 p1 fun y ih2 ρ2 H2 w _ hr2 l2 ev2 vy p2 => semS.of hr2 l2 p2 fun z ih3 ρ3 H3 t _ hr3 l3 ev3 vz p3 =>
    ⟨ρ3, ih3, y, z, x, fun c d H' => W c d σ H', hr3, vy.evo hr2 ev3, vz, (vx.evo hr1 ev2).evo hr2 ev3, PostS.of (β := Unit) hr3 l3 p3 fun _ ih4 ρ4 H4 _ _ hr4 l4 ev4 _ p4 => p4 ρ4 H4 σ .refl hr4 l4⟩
theorem S_iset2 {o2 i i2 : Expr} {ia2 ii ii2 : IE} {p1 pt : Pos} {kt : Nat} (hcm : m = false → X.calm = true) (hK : X.K = D.K) (hsl : noslice i = true) (hsl2 : noslice i2 = true) (hu : X.A.units + 80 < cLine) (ho : PE X o (sE D xa m cs io W)) (hi : PE X i (sE D xa m cs ii W)) (ho2 : PE X o2 (sE D xa m cs ia2 W)) (hi2 : PE X i2 (sE D xa m cs ii2 W)) (ha : PE X e (sE D xa m cs ia W))
    (hs : swapsWith e (some (.Tuple [.Subscript o i p0, .Subscript o2 i2 p1] kt pt)) pos.line X.env = pure false) (hw : swappedStores [.Tuple [.Subscript o i p0, .Subscript o2 i2 p1] kt pt] e X.env = pure none) :
    PS X (.Assign [.Tuple [.Subscript o i p0, .Subscript o2 i2 p1] kt pt] e pos) (sS D xa m cs (.iset2 io ii ia2 ii2 ia) W) := by
  cases m with
  | true => exact ⟨fun pins s σ H E I ⟨ρ, ih, sl, hr, l, p⟩ => False.elim p⟩
  | false =>
    refine PSi (ps_asg ha (pg_tup (hcm rfl) (pgs_cons (pg_sub ho hi (set_I (D := D) hu) (by intro v; cases i <;> first | rfl | cases hsl)) (pgs_cons (pg_sub ho2 hi2 (set_I (D := D) hu) (by intro v; cases i2 <;> first | rfl | cases hsl2)) pgs_nil rfl) rfl) rfl rfl) hs hw rfl) fun E σ H ⟨ρ, ih, s, hr, l, p⟩ => ?_
    have p' : PostS D xa ρ H (RS.of s (evE D.sg false cs ia s ih) fun x h => match x with
      | .tup [u, v] => RS.of s (evE D.sg false cs io s h) fun y h => RS.of s (evE D.sg false cs ii s h) fun z h => RS.of s (setIt y z u h) fun _ h =>
        RS.of s (evE D.sg false cs ia2 s h) fun y h => RS.of s (evE D.sg false cs ii2 s h) fun z h => RS.of s (setIt y z v h) fun _ h => .nx s h
      | _ => .no) E W := p
    refine semS.of hr l p' fun x ih1 ρ1 H1 u _ hr1 l1 ev vx p1 => ?_
    cases vx with
    | @tup xs us ad sq rs =>
      cases rs with
      | nil => exact p1.elim
      | @cons x1 u1 xs us r1 rs =>
        cases rs with
        | nil => exact p1.elim
        | @cons x2 u2 xs us r2 rs =>
          cases rs with
          | cons _ _ => exact p1.elim
          | nil =>
            refine ⟨ad, _, rfl, by rw [hK]; exact sq, rfl, u1, [u2], rfl, ?_⟩
            refine semS.of hr1 l1 p1 fun y ih2 ρ2 H2 w _ hr2 l2 ev2 vy p2 => semS.of hr2 l2 p2 fun z ih3 ρ3 H3 t _ hr3 l3 ev3 vz p3 =>
              ⟨ρ3, ih3, y, z, x1, fun c d H' => W c d σ H', hr3, vy.evo hr2 ev3, vz, (r1.evo hr1 ev2).evo hr2 ev3, PostS.of (β := Unit) hr3 l3 p3 fun _ ih4 ρ4 H4 _ _ hr4 l4 ev4 _ p4 => ⟨u2, [], rfl, ?_⟩⟩
            refine semS.of hr4 l4 p4 fun y ih5 ρ5 H5 w _ hr5 l5 ev5 vy p5 => semS.of hr5 l5 p5 fun z ih6 ρ6 H6 t _ hr6 l6 ev6 vz p6 =>
              ⟨ρ6, ih6, y, z, x2, fun c d H' => W c d σ H', hr6, vy.evo hr5 ev6, vz, ((((r2.evo hr1 ev2).evo hr2 ev3).evo hr3 ev4).evo hr4 ev5).evo hr5 ev6, PostS.of (β := Unit) hr6 l6 p6 fun _ ih7 ρ7 H7 _ _ hr7 l7 ev7 _ p7 => ⟨rfl, p7 ρ7 H7 σ .refl hr7 l7⟩⟩
    | _ => exact p1.elim
end
end Itp

/-! ItMa: stores of comprehensions of two, a[i] op= e, ranges with steps. -/
namespace Itp
open PySem PySem.Spec PyProof.Rows L2
section
variable {D : Dn} {X : Cx} {xa : XA} {W : WX} {m : Bool} {cs : CF} {e a b c o : Expr} {es rest : List Expr} {st : Stmt} {sts : List Stmt} {kws : List Keyword} {pos apos p0 p1 : Pos} {ia ib ic io : IE} {ies iks : IA} {x : Str} {is : IS} {bs : IB} {iq : IQ}
theorem get_I (hK : X.K = D.K) (hu : X.A.units + 80 < cLine) : PGet X (sem2 D getIt) := by
  intro pins s σ H u w v v' Q I ru rw ⟨ρ, ih, x, y, W, hr, vx, vy, p⟩
  have fin : ∀ {o : Option IV}, Post D ρ H (opt o ih) (VR D) Q W → ∃ x, o = some x ∧ ∀ u, VR D ρ H x u → Q u H := fun p => by
    obtain ⟨x, e, p⟩ := Post.opt p
    exact ⟨x, e, fun u r => p.val hr r⟩
  cases vx with
  | @ref n a q =>
    obtain rfl : v = .ref a := ru
    replace p : Post D ρ H (match ih[n]? with
      | some (.lst xs) => (match y with
        | .int i => opt (atIx xs i) ih
        | _ => .no)
      | some (.dic kvs) => if keyB y = true then opt (getK y kvs) ih else .no
      | _ => .no) (VR D) Q W := p
    cases eo : ih[n]? with
    | none => rw [eo] at p; exact p.elim
    | some o =>
      rw [eo] at p
      cases o with
      | lst xs =>
        obtain ⟨us, h1, r⟩ := hr.ob _ _ _ eo q
        cases vy with
        | int i =>
          obtain ⟨x, e, k⟩ := fin p
          obtain ⟨u, he, r1⟩ := atIx_V r e
          obtain ⟨t, rfl⟩ := rw
          obtain ⟨its, r, pl, hz⟩ := I.list (xs := us) (.inl (.inl h1))
          obtain ⟨j, h1, h2, h3, h4, h5⟩ := atI_get he
          obtain ⟨w, ew, rw'⟩ := r.get h2
          have hl := r.length
          have hn := line63
          have fin : EP X pins σ Q w s := ⟨u, H, I, rw', k _ r1⟩
          by_cases h0 : 0 ≤ i
          · have hj : i.toNat = j := by
              rw [seqIndex_of h0 h5] at h1
              exact Option.some.inj h1
            exact wpAny_getItem_list pl.isList h0 (by omega) (by rw [hj]; simpa using ew) fin
          · have hj : (i + (its.toArray.size : Int)).toNat = j := by
              rw [seqIndex_neg (by omega) h4] at h1
              rw [List.size_toArray, ← hl]
              exact Option.some.inj h1
            exact wpAny_getItem_list_neg pl.isList (by omega) (by rw [List.size_toArray] <;> omega) (by omega) (by rw [hj]; simpa using ew) fin
        | _ => exact p.elim
      | dic kvs =>
        obtain ⟨ls, h1, r⟩ := hr.ob _ _ _ eo q
        obtain ⟨c, p⟩ := ifp (c := keyB y = true) (F := fun r => Post D ρ H r (VR D) Q W) p fun z => z
        obtain ⟨k, rfl, rfl⟩ := key_of c vy
        obtain ⟨x, e, kk⟩ := fin p
        rcases r.get k with ⟨g1, g2⟩ | ⟨x', u, g1, g2, g3⟩
        · rw [g1] at e
          cases e
        · rw [g1] at e
          cases e
          have g : DGet H a (kV k) (some u) := by
            rw [← g2]
            exact .k h1
          exact d_getItem (by omega) I g rw fun w' s' I' r' => ⟨u, H, I', r', kk _ g3⟩
      | ins _ _ => exact p.elim
  | _ => exact p.elim
theorem S_augi {i : Expr} {ii : IE} {op : O2} (hK : X.K = D.K) (hsl : noslice i = true) (hu : X.A.units + 80 < cLine) (ho : PE X o (sE D xa m cs io W)) (hi : PE X i (sE D xa m cs ii W)) (ha : PE X e (sE D xa m cs ia W)) :
    PS X (.AugAssign (.Subscript o i p0) op.op e pos) (sS D xa m cs (.augi io ii op ia) W) :=
  PSi (ps_augS ho hi (get_I (D := D) hK hu) ha (oi (D := D) op) (set_I (D := D) hu) (by intro ov iv new; cases i <;> first | rfl | cases hsl)) fun E σ H ⟨ρ, ih, s, hr, l, p⟩ =>
    semS.of hr l p fun x ih1 ρ1 H1 u _ hr1 l1 ev vx p1 => semS.of hr1 l1 p1 fun y ih2 ρ2 H2 w _ hr2 l2 ev2 vy p2 => by
      have vx2 := vx.evo hr1 ev2
      refine ⟨ρ2, ih2, x, y, fun c d H' => W c d σ H', hr2, vx2, vy, PostS.of hr2 l2 p2 fun z ih3 ρ3 H3 t _ hr3 l3 ev3 vz p3 => ?_⟩
      refine semS.of hr3 l3 p3 fun q ih4 ρ4 H4 r _ hr4 l4 ev4 vq p4 => ?_
      refine ⟨ρ4, ih4, z, q, fun c d H' => W c d σ H', hr4, vz.evo hr3 ev4, vq, PostS.of hr4 l4 p4 fun v ih5 ρ5 H5 t5 _ hr5 l5 ev5 vv p5 => ?_⟩
      have ev35 := ev3.trans hr3 (ev4.trans hr4 ev5)
      exact ⟨ρ5, ih5, x, y, v, fun c d H' => W c d σ H', hr5, vx2.evo hr2 ev35, vy.evo hr2 ev35, vv, PostS.of (β := Unit) hr5 l5 p5 fun _ ih6 ρ6 H6 _ _ hr6 l6 ev6 _ p6 => p6 ρ6 H6 σ .refl hr6 l6⟩
theorem S_setLc2 {i : Nat} {y : Str} {py : Pos} {elt tg iter tg1 iter1 : Expr} {ifs ifs1 : List Expr} {scope : Scope} {own : List (Str × Nat)} {lpos : Pos} {t t1 : Tg} {it it1 : IT} {qs qs1 : IQs} (hc : m = false → X.calm = true) (hN : X.N.Nodup) (hy : X.N[i]? = some y) (hyl : X.env.scope.names.lookup y = some .local)
    (hsw : swapsWith (.ListComp elt [⟨tg, iter, ifs, 0⟩, ⟨tg1, iter1, ifs1, 0⟩] scope lpos) (some (.Name y py)) pos.line X.env = pure true) (hi : PI X tg iter (semI D xa m cs it W)) (ok : BlkOk X.N X.env.scope scope own) (ho : own.map (·.2) = t.slots ++ t1.slots)
    (hg : ∀ (s : Shared) (H : Hp) (C : Addr) (cl : List (Str × Addr)) (fp : List Addr), PG (X.blk s H scope (compEnvC scope cl C X.env) fp) tg (semG D xa t)) (ht : ∀ (s : Shared) (H : Hp) (C : Addr) (cl : List (Str × Addr)) (fp : List Addr), PTs (X.blk s H scope (compEnvC scope cl C X.env) fp) ifs (semTs D xa m cs qs WF))
    (hi1 : ∀ (s : Shared) (H : Hp) (C : Addr) (cl : List (Str × Addr)) (fp : List Addr), PI (X.blk s H scope (compEnvC scope cl C X.env) fp) tg1 iter1 (semI D xa m cs it1 WF))
    (hg1 : ∀ (s : Shared) (H : Hp) (C : Addr) (cl : List (Str × Addr)) (fp : List Addr), PG (X.blk s H scope (compEnvC scope cl C X.env) fp) tg1 (semG D xa t1)) (ht1 : ∀ (s : Shared) (H : Hp) (C : Addr) (cl : List (Str × Addr)) (fp : List Addr), PTs (X.blk s H scope (compEnvC scope cl C X.env) fp) ifs1 (semTs D xa m cs qs1 WF))
    (he : ∀ (s : Shared) (H : Hp) (C : Addr) (cl : List (Str × Addr)) (fp : List Addr), PE (X.blk s H scope (compEnvC scope cl C X.env) fp) elt (sE D xa m cs ia WF)) (hs : noset iter = true) (hs1 : noset iter1 = true) :
    PS X (.Assign [.Name y py] (.ListComp elt [⟨tg, iter, ifs, 0⟩, ⟨tg1, iter1, ifs1, 0⟩] scope lpos) pos) (sS D xa m cs (.set (.nm i) (.lc2 t it qs t1 it1 qs1 ia)) W) := by
  cases m with
  | true => exact ⟨fun pins s σ H E I ⟨ρ, ih, sl, hr, l, p⟩ => False.elim p⟩
  | false =>
    refine PSi (ps_setLc2 (hc rfl) hN hy hyl hsw hi ok (vs1 := t1.slots) (by rw [ho]; exact fun i hi => List.mem_append_right _ hi) hg ht hi1 hg1 ht1 he (fun x => noset_ok hs x) (fun env x => noset_ok hs1 x)) fun E σ H ⟨ρ, ih, s, hr, l, p⟩ => ?_
    rw [ho]
    refine lc2_sem σ H _ (semS.of hr l p fun x ih1 ρ1 H1 u _ hr1 l1 ev vx p1 => ?_)
    have p1 : PostS D xa ρ1 H1 (match asg (.nm i) x s ih1 with
      | some s1 => .nx s1 ih1
      | none => .no) E W := p1
    rw [asg] at p1
    exact p1 ρ1 H1 _ .refl hr1 (l1.setV i vx)
theorem wk_rng3 {ρ : List Addr} {H : Hp} {i c : Int} {n : Nat} : WkR D ρ H (.fix ((List.range n).map fun k : Nat => .int (i + (k : Int) * c))) (Itc i c n) := by
  intro ρ1 ih1 H1 ev hr1 j
  refine ⟨fun q => ?_, fun x q => ?_⟩
  · have q' := Option.some.inj q
    rw [List.getElem?_eq_none_iff, List.length_map, List.length_range] at q'
    exact q'
  · have q' := Option.some.inj q
    rw [List.getElem?_map] at q'
    obtain ⟨c, h1, h2⟩ := Option.map_eq_some_iff.mp q'
    subst h2
    obtain ⟨h3, h4⟩ := List.getElem?_eq_some_iff.mp h1
    rw [List.length_range] at h3
    rw [List.getElem_range] at h4
    subst h4
    exact ⟨h3, fun v H2 ⟨e, h5⟩ => by subst e h5; exact ⟨.refl, hr1, .int _⟩⟩
theorem rs_nn {i j c : Int} (hc : c ≠ 0) : 0 ≤ PySem.Builtin.Range.rangeSize i j c := by
  unfold PySem.Builtin.Range.rangeSize
  split
  · split
    · have := Int.ediv_nonneg (show 0 ≤ j - i - 1 by omega) (show 0 ≤ c by omega); omega
    · omega
  · split
    · have := Int.ediv_nonneg (show 0 ≤ i - j - 1 by omega) (show 0 ≤ -c by omega); omega
    · omega
theorem I_rng3 {tg : Expr} (g : Gl X "range") (hm : X.mg "range" = none) (ha : PA X [a, b, c] (sA D xa m cs (.cons ia (.cons ib (.cons ic .nil))) W)) (hs : nostar a = true) (hs2 : nostar b = true) (hs3 : nostar c = true) : PI X tg (.Call (.Name "range" p0) [a, b, c] [] pos) (semI D xa m cs (.rng (.cons ia (.cons ib (.cons ic .nil)))) W) :=
  PIi (pi_range3 g hm ha (star_ok hs) (by rw [star_ok hs2, star_ok hs3]; rfl)) fun σ H R ⟨ρ, ih, s, hr, l, p⟩ => semR.bind hr l (show Post D ρ H ((evA D.sg m cs (.cons ia (.cons ib (.cons ic .nil))) s ih).bind fun vs h => (opt (rng vs) h).bind fun xs h => .ok (.fix xs) h) (WkR D) R (WE W σ) from p) fun vs ih1 ρ1 H1 us e hr1 l1 ev q p1 => by
    have hl := evA_len e
    cases q with
    | nil => cases hl
    | @cons y u vs us ry rt =>
      cases rt with
      | nil => cases hl
      | @cons y2 u2 vs2 us2 ry2 rt2 =>
        cases rt2 with
        | nil => cases hl
        | @cons y3 u3 vs3 us3 ry3 rt3 =>
          cases rt3 with
          | cons _ _ => cases hl
          | nil =>
            obtain ⟨xs, e1, p2⟩ := optB p1
            cases ry with
            | int i =>
              cases ry2 with
              | int j =>
                cases ry3 with
                | int c =>
                  have e2 : (if c ≠ 0 ∧ c.natAbs < 1073741824 ∧ PySem.Builtin.Range.small i j c = true then some ((List.range (PySem.Builtin.Range.rangeSize i j c).toNat).map fun k : Nat => IV.int (i + (k : Int) * c)) else none) = some xs := e1
                  by_cases hc : c ≠ 0 ∧ c.natAbs < 1073741824 ∧ PySem.Builtin.Range.small i j c = true
                  · rw [if_pos hc] at e2
                    cases e2
                    exact ⟨i, j, c, (PySem.Builtin.Range.rangeSize i j c).toNat, rfl, ⟨hc.1, hc.2.1, hc.2.2, (Int.toNat_of_nonneg (rs_nn hc.1)).symm⟩, p2 _ _ _ .refl hr1 wk_rng3⟩
                  · rw [if_neg hc] at e2
                    cases e2
                | _ => cases e1
              | _ => cases e1
            | _ => cases e1
end
end Itp

/-! ItN: the try with its clauses, names or none. -/
namespace Itp
open PySem PySem.Spec PyProof.Rows L2
def slotAt (i : Option Nat) (p : Addr) (σ : L2.St) : L2.St := match i with
  | none => σ
  | some i => σ.set i (some (.ref p))
def goneAt (i : Option Nat) (σ : L2.St) : L2.St := match i with
  | none => σ
  | some i => σ.set i none
def endsAt (i : Option Nat) (E : Ends) : Ends := ⟨fun σ H => E.nx (goneAt i σ) H, E.rt, fun σ H => E.bk (goneAt i σ) H, fun σ H => E.ct (goneAt i σ) H⟩
abbrev HdT := Value × Option Nat × (Addr → Value → Option Addr → TS)
def wHs (K : PySem.W.Frag) (Wout : WX) (E : Ends) : List HdT → WX
  | [] => Wout
  | (c, i, ts) :: r => fun cls d σ H => ∃ k, PySem.W.exmOne K cls c = some k ∧ (k = true → ∀ p, H p = none → ts p cls d (endsAt i E) (slotAt i p σ) H) ∧ (k = false → wHs K Wout E r cls d σ H)
inductive HdK (X : Cx) : List ExceptHandler → List HdT → Prop
  | nil : HdK X [] []
  | pl {x : Str} {c : Value} {ts : Addr → Value → Option Addr → TS} {b₀ : Stmt} {suite : List Stmt} {np hp : Pos} {hds : List ExceptHandler} {l : List HdT} (hc : Names X x c)
      (hsu : ∀ (p : Addr) (o : Obj) (cls : Value) (d : Option Addr) (pn : List (Addr × Obj)), Zc cls d o → (∃ vs, o.data = .fields vs) → PSs (X.suite p ((p, o) :: pn)) (b₀ :: suite) (ts p cls d)) (r : HdK X hds l) :
      HdK X (.ExceptHandler (some (.Name x np)) none (b₀ :: suite) hp :: hds) ((c, none, ts) :: l)
  | nm {x n : Str} {i : Nat} {c : Value} {ts : Addr → Value → Option Addr → TS} {b₀ : Stmt} {suite : List Stmt} {np hp : Pos} {hds : List ExceptHandler} {l : List HdT} (hc : Names X x c) (hi : X.N[i]? = some n) (hln : X.env.kindOf n = some .local)
      (hsu : ∀ (p : Addr) (o : Obj) (cls : Value) (d : Option Addr) (pn : List (Addr × Obj)), Zc cls d o → (∃ vs, o.data = .fields vs) → PSs (X.suite p ((p, o) :: pn)) (b₀ :: suite) (ts p cls d)) (r : HdK X hds l) :
      HdK X (.ExceptHandler (some (.Name x np)) (some n) (b₀ :: suite) hp :: hds) ((c, some i, ts) :: l)
section
variable {X : Cx}
/-- a clause's class, asked for -/
theorem cls_asked {x : Str} {c : Value} {np : Pos} {p : Addr} {pn : List (Addr × Obj)} {σ : L2.St} {H : Hp} {s : Shared} {Q E : Value → Shared → Prop} (hc : Names X x c) (S : Inv (X.suite p pn) [] σ H s) (q : Q c s) :
    wpAny (model X.prog X.w) (X.A.mark (some (.ref p))) (eval (.Name x np) X.env) Q E s := by
  obtain ⟨g, dbg, hm⟩ := hc
  rcases hm with hm | ⟨hm, hv, nn⟩
  · exact ld_glob (X := X.suite p pn) S g hm q dbg
  · exact ld_blt (X := X.suite p pn) S g hm hv q nn dbg
/-- the ends of a suite without a name -/
theorem suite_end {p : Addr} {y : Addr × Obj} {pins : List (Addr × Obj)} {E : Ends} {f : Flow} {s : Shared} (ok : X.Ok) (z : SP (X.suite p (y :: (X.pn ++ pins))) [] E f s) : SP X pins E f s := by
  cases f with
  | ret u => obtain ⟨v, τ, H, S, r, q⟩ := z; exact ⟨v, τ, H, S.unsuite ok, r, q⟩
  | next => obtain ⟨τ, H, S, q⟩ := z; exact ⟨τ, H, S.unsuite ok, q⟩
  | brk => obtain ⟨τ, H, S, q⟩ := z; exact ⟨τ, H, S.unsuite ok, q⟩
  | cont => obtain ⟨τ, H, S, q⟩ := z; exact ⟨τ, H, S.unsuite ok, q⟩
theorem try_end {pins : List (Addr × Obj)} {E : Ends} {xe : Value → Shared → Prop} {f : Flow} {s : Shared} (ok : X.Ok) (z : SP (X.tr (X.pn ++ pins) xe) [] E f s) : SP X pins E f s := by
  cases f with
  | ret u => obtain ⟨v, τ, H, S, r, q⟩ := z; exact ⟨v, τ, H, S.ofTry ok, r, q⟩
  | next => obtain ⟨τ, H, S, q⟩ := z; exact ⟨τ, H, S.ofTry ok, q⟩
  | brk => obtain ⟨τ, H, S, q⟩ := z; exact ⟨τ, H, S.ofTry ok, q⟩
  | cont => obtain ⟨τ, H, S, q⟩ := z; exact ⟨τ, H, S.ofTry ok, q⟩
theorem ps_tryI {body : List Stmt} {h₀ : ExceptHandler} {hds : List ExceptHandler} {l : List HdT} {pos : Pos} {tb : WX → TS} {Wout : WX} (hs : X.stack = X.env :: X.outer) (hf : X.env.frame = some X.env.locals) (hN : X.N.Nodup) (tk : Takes X Wout)
    (hb : ∀ (W : WX) (pn : List (Addr × Obj)) (xe : Value → Shared → Prop), Takes (X.tr pn xe) W → PassesOwn (model X.prog X.w) X.A X.env xe → PSs (X.tr pn xe) body (tb W)) (hh : HdK X (h₀ :: hds) l) :
    PS X (.Try body (h₀ :: hds) [] [] pos) (fun E σ H => tb (wHs X.K Wout E l) E σ H) := by
  constructor
  intro pins s σ H E I h
  have ok := I.ok
  have frm : X.A.frames = some (X.env :: X.outer) := by rw [ok.frames, hs]
  refine wpAny_Try_except ?_
  refine wpAny_mono ((hb (wHs X.K Wout E l) (X.pn ++ pins) _ (fun u s' xx => ?_) PassesOwn.looking).run [] s σ H E (I.toTry _) h) (fun f s1 z => ?_) (fun _ _ z => z)
  · obtain ⟨p, B, sI, pins', τ, G, cls, d, rfl, J', nb, up, sky, np, os, ag, w⟩ := xx
    have J : Inv X pins τ G sI := J'.ofTry ok
    have sky1 : Sky B (X.env :: X.outer) p (Zc cls d) X.env.locals s'.heap := hs ▸ sky
    refine Sky.land Zc.steady frm hf sky1 fun hA flA upA => ?_
    -- what stands once the exception has landed
    have JA : Inv X pins τ G { s' with heap := hA } := J.landed nb flA.1 (up.trans upA) os ag
    obtain ⟨oA, vA, gA, zA, dA⟩ := flA.there
    have out : p ∉ frs (X.env :: X.outer) := fun m => by
      obtain ⟨_, o', g', no⟩ := flA.2.2.1.mem m
      rw [gA] at g'
      cases g'
      exact no _ dA
    have nL : p ≠ X.env.locals := fun z => out (List.mem_filterMap.mpr ⟨X.env, List.mem_cons_self, by rw [hf, z]⟩)
    have nF : p ∉ X.fs := fun m => by
      obtain ⟨v, hv, q⟩ := List.mem_filterMap.mp m
      exact out (List.mem_filterMap.mpr ⟨v, List.mem_cons_of_mem _ hv, q⟩)
    have SA := JA.suite gA dA np nL nF
    have typ : PySem.W.Looks (model X.prog X.w) hA (typeOf (.ref p)) cls := fun A Q E s k q => wpAny_typeOf_ref (k _ _ gA) (by rw [zA.1]; exact q)
    have go : ∀ {hs' : List ExceptHandler} {l' : List HdT}, HdK X hs' l' → wHs X.K Wout E l' cls d τ G → wpAny (model X.prog X.w) X.A (handleBy (.ref p) X.env hs') (SP X pins E) X.xe { s' with heap := hA } := by
      intro hs' l' hk
      induction hk with
      | nil =>
        intro w
        refine wpAny_handleBy_nil ?_
        obtain ⟨y1, y2, y3, oe, vs, T, oT, ts', he, hz, hd, h1, hr⟩ := id flA
        unfold PySem.passOn
        refine wpAny_bind (wpAny_field he hd h1 ?_)
        rw [if_neg (by simp)]
        have fin : wpAny (model X.prog X.w) X.A (setFlight (.ref p) X.env.frame) (fun _ s4 => wpAny (model X.prog X.w) X.A (throw (.ref p) : Sem Flow) (SP X pins E) X.xe s4) X.xe { s' with heap := hA } := by
          rw [hf]
          exact HandSPX.setFlight_upZ flA fun hB heB upB => wpAny_throw (tk _ _ ⟨p, B, sI, pins, τ, G, cls, d, rfl, J, nb, (up.trans upA).trans upB, .inr (.inr (hs.symm ▸ heB)), np, os, ag, w⟩)
        first
          | exact wpAny_bind (wpAny_pure (wpAny_bind fin))
          | exact wpAny_bind fin
      | @pl x c ts b₀ suite qp hp hds2 l2 hc hsu r ih =>
        intro w
        obtain ⟨k, hk, yes, no⟩ := w
        refine wpAny_handleBy_cons (codeAny_handlers_test (cls_asked hc SA ((PySem.W.exm_one (M := model X.prog X.w) JA.kIn typ hk).here ?_))) (by intro q; cases q)
        cases k with
        | false => exact ih (no rfl)
        | true =>
          refine codeAny_handlers_suite (HandSPX.lands_againZ flA fun hB flB upB => ?_)
          obtain ⟨oB, vB, gB, zB, dB⟩ := flB.there
          have JB : Inv X pins τ G { s' with heap := hB } := J.landed nb flB.1 ((up.trans upA).trans upB) os ag
          have SB := JB.suite gB dB np nL nF
          exact wpAny_mono ((hsu p oB cls d (X.pn ++ pins) zB ⟨_, dB⟩).run [] _ _ G _ SB (yes rfl p np)) (fun f s6 z => suite_end (E := E) ok (by cases f <;> exact z)) (fun _ _ z => False.elim z)
      | @nm x n i c ts b₀ suite qp hp hds2 l2 hc hi hln hsu r ih =>
        intro w
        obtain ⟨k, hk, yes, no⟩ := w
        refine wpAny_handleBy_cons (codeAny_handlers_test (cls_asked hc SA ((PySem.W.exm_one (M := model X.prog X.w) JA.kIn typ hk).here ?_))) (by intro q; cases q)
        cases k with
        | false => exact ih (no rfl)
        | true =>
          refine codeAny_handlers_suite_as (HandSPX.lands_againZ flA fun hB flB upB => ?_)
          obtain ⟨oB, vB, gB, zB, dB⟩ := flB.there
          have JB : Inv X pins τ G { s' with heap := hB } := J.landed nb flB.1 ((up.trans upA).trans upB) os ag
          have SB := JB.suite gB dB np nL nF
          refine store_ok (X := X.suite p ((p, oB) :: (X.pn ++ pins))) (v := .ref p) SB hN hi (.inl hln) rfl (fun s5 S5 => ?_) (.inr hln)
          refine wpAny_mono ((hsu p oB cls d (X.pn ++ pins) zB ⟨_, dB⟩).run [] s5 _ G _ S5 (yes rfl p np)) (fun f s6 z => ?_) (fun _ _ z => False.elim z)
          have off : ∀ {τ6 : L2.St} {H6 : Hp} {Q : Shared → Prop}, Inv (X.suite p ((p, oB) :: (X.pn ++ pins))) [] τ6 H6 s6 → (∀ s7, Inv X pins (τ6.set i none) H6 s7 → Q s7) →
              wpAny (model X.prog X.w) X.A (do bindName X.env n .none; unbindBehindTheSuite X.env n hp) (fun _ s7 => Q s7) X.xe s6 := fun S6 hq => gone_ok (S6.unsuite ok) hN hi hln hq
          cases f with
          | ret u => obtain ⟨v, τ6, H6, S6, r6, q⟩ := z; exact off S6 fun s7 J7 => ⟨v, _, H6, J7, r6, q⟩
          | next => obtain ⟨τ6, H6, S6, q⟩ := z; exact off S6 fun s7 J7 => ⟨_, H6, J7, q⟩
          | brk => obtain ⟨τ6, H6, S6, q⟩ := z; exact off S6 fun s7 J7 => ⟨_, H6, J7, q⟩
          | cont => obtain ⟨τ6, H6, S6, q⟩ := z; exact off S6 fun s7 J7 => ⟨_, H6, J7, q⟩
    exact go hh w
  · have z2 := try_end ok z
    cases f with
    | next => exact wpAny_execs_nil z2
    | ret u => exact z2
    | brk => exact z2
    | cont => exact z2
end
end Itp

/-! ItO: own exceptions over Exception, with one field that their __init__ lays. -/
namespace Itp
open PySem PySem.Spec PyProof.Rows L2 PySem.W PySem.Calls
abbrev exT : List Value := [.type "Exception", .type "BaseException", .type "object"]
def refsX : List Value → Bool
  | .ref _ :: r => refsX r
  | l => l == exT
theorem refsX_split : ∀ {l : List Value}, refsX l = true → ∃ cs : List Addr, l = cs.map Value.ref ++ exT
  | [], e => by cases e
  | v :: r, e => by
    cases v with
    | ref c =>
      obtain ⟨cs, h⟩ := refsX_split (l := r) e
      exact ⟨c :: cs, by rw [h]; rfl⟩
    | _ => exact ⟨[], beq_iff_eq.mp e⟩
theorem pass_X (self : Value) : ∀ cs : List Addr, refuseLoop self "__setattr__" (cs.map Value.ref ++ exT) = pure ()
  | [] => F.store_Exception.passes self
  | c :: r => by
    rw [List.map_cons, List.cons_append, refuseLoop_ref]
    exact pass_X self r
theorem has_X (Y : String) : ∀ cs : List Addr, (cs.map Value.ref ++ exT).contains (.type Y) = exT.contains (.type Y)
  | [] => rfl
  | c :: r => by
    rw [List.map_cons, List.cons_append, List.contains_cons, has_X Y r]
    rfl
/-- an own exception's class, its __init__ at fI -/
structure ExK (K : PySem.W.Frag) (C fI : Addr) : Prop where
  cls : ∃ (nm q : Str) (N : Addr) (bs : List Value) (cs : List Addr) (sn : List Str) (sub : List Value) (ab : Bool) (col : Option Bool) (dd : Option Addr) (k0 k1 k2 k3 k5 : Option Value), K.lookup C = some (excClassObj nm q C N bs (cs.map Value.ref ++ exT) true sn sub ab col dd k0 k1 k2 k3 k5 "Exception.__new__")
  sa : PySem.W.findIn K (.ref C) "__setattr__" = some (some (.builtin "object.__setattr__"))
  exC : PySem.W.subIn K (.ref C) (.type "BaseException") = some true
  tyC : PySem.W.typeIn K (.ref C) = some (.type "type")
  kC : PySem.W.keepIn K (.ref C) = true
  ini : PySem.W.findIn K (.ref C) "__init__" = some (some (.ref fI))
  tI : PySem.W.typeIn K (.ref fI) = some (.type "function")
def exK (K : PySem.W.Frag) (C fI : Addr) : Bool :=
  (match K.lookup C with
  | some ⟨.type t, _, .cls cd, sl⟩ => t == "type" && cd.hasDict && !cd.hasDel && (match cd.mro with
    | .ref D :: bm => D == C && refsX bm
    | _ => false) && (match sl.toList with
    | [_, _, _, _, some (.builtin n), _] => n == "Exception.__new__"
    | _ => false)
  | _ => false) && (decide (PySem.W.findIn K (.ref C) "__setattr__" = some (some (.builtin "object.__setattr__"))) && (decide (PySem.W.subIn K (.ref C) (.type "BaseException") = some true) && (decide (PySem.W.typeIn K (.ref C) = some (.type "type")) && (PySem.W.keepIn K (.ref C) &&
    (decide (PySem.W.findIn K (.ref C) "__init__" = some (some (.ref fI))) && decide (PySem.W.typeIn K (.ref fI) = some (.type "function")))))))
theorem exK_ok {K : PySem.W.Frag} {C fI : Addr} (h : exK K C fI = true) : ExK K C fI := by
  unfold exK at h
  simp only [Bool.and_eq_true, decide_eq_true_eq] at h
  obtain ⟨h0, h1, h2, h3, h4, h5, h6⟩ := h
  refine ⟨?_, h1, h2, h3, h4, h5, h6⟩
  split at h0
  · rename_i t dd cd sl hl
    simp only [Bool.and_eq_true] at h0
    obtain ⟨⟨⟨⟨a1, a2⟩, a3⟩, a4⟩, a5⟩ := h0
    obtain ⟨nm, bs, mro, ns, qn, hd, sn, sub, ab, col, del⟩ := cd
    simp only at a2 a3 a4
    split at a4
    · rename_i D bm
      simp only [Bool.and_eq_true, beq_iff_eq] at a4
      obtain ⟨rfl, a4⟩ := a4
      obtain ⟨cs, rfl⟩ := refsX_split a4
      split at a5
      · rename_i k0 k1 k2 k3 n k5 hs
        have a5 := beq_iff_eq.mp a5
        have a1 := beq_iff_eq.mp a1
        subst a1 a5 a2
        have a3 : del = false := by simpa using a3
        subst a3
        have hsl : sl = #[k0, k1, k2, k3, some (.builtin "Exception.__new__"), k5] := by
          obtain ⟨l⟩ := sl
          simp only at hs
          rw [hs]
        subst hsl
        exact ⟨nm, qn, ns, bs, cs, sn, sub, ab, col, dd, k0, k1, k2, k3, k5, hl⟩
      · cases a5
    · cases a4
  · cases h0
section
open Builtin Builtin.ObjectAttr
variable {prog : Program} {w : World} {A : Around} {R : Result → Shared → Prop} {hp : Heap} {g : Array GenState} {d : Drawn} {t : Nat} {os : OsState}
/-- x.name = v, x an exception that has no dict yet -/
theorem osa_X {K : PySem.W.Frag} {name : Str} {tk : Tok} {v : Value} {x C : Addr} {fv : Array Value} {cd : ClassData} {cs : List Addr} (X : K.In hp) (hx : hp.get? x = some { cls := .ref C, data := .fields fv })
    (hcd : PySem.W.clsIn K C = some cd) (hm : cd.mro = cs.map Value.ref ++ exT) (hh : cd.hasDict = true) (ha : PySem.W.findIn K (.ref C) name = some none)
    (hq : ∀ h' tk' dx, (∀ b o, b ≠ x → hp.get? b = some o → h'.get? b = some o) → hp.objs.size ≤ dx → dx ≠ x → h'.get? x = some { cls := .ref C, dict := some dx, data := .fields fv } →
      h'.Ns1 dx (fun y => if y = name then some v else none) → R (.ok (.ret .none)) ⟨h', g, d, tk', os⟩) :
    codeAny (model prog w) A (.call (.builtin "object.__setattr__") ⟨[.ref x, .str name tk, v], []⟩) R ⟨hp, g, d, t, os⟩ := by
  have SF := F.store_object
  have hnx : x ≠ hp.objs.size := fun z => absurd (Heap.lt_size hx) (by rw [z]; exact Nat.lt_irrefl _)
  have inst : PySem.W.InstAt hp x { cls := .ref C, data := .fields fv } C none := ⟨hx, rfl, rfl, trivial⟩
  have isO : PySem.W.mroIn K C (.type "object") = some true := by
    unfold PySem.W.mroIn
    rw [hcd, Option.bind_some, hm, has_X]
    cases cs <;> rfl
  have mroL : PySem.W.Looks (model prog w) hp (mroOf (.ref C)) cd.mro := (PySem.W.looks_clsIn X hcd).andThen .now
  have takL : PySem.W.Looks (model prog w) hp (storeTaker? none) none := .now
  have clsL : PySem.W.Looks (model prog w) hp (classData C) cd := PySem.W.looks_clsIn X hcd
  have subL : PySem.W.Looks (model prog w) hp (isInstance (.ref x) (.type "object")) true := inst.type.andThen (PySem.W.looks_mroIn X isO)
  refine codeAny_call_builtin SF.slot.plain SF.entry (PySem.W.check_slot (M := model prog w) (i := "object.__setattr__") (owner := "object") (n := "__setattr__") (self := .ref x) (rest := [.str name tk, v]) (kw := []) (s := ⟨hp, g, d, t, os⟩) SF.kind SF.split subL (SF.args (.ref x) (.str name tk) v) ?_)
  rw [PySem.W.osa_eq, refuse_eq]
  refine wpAny_bind (wpAny_bind (inst.type.at (wpAny_bind (mroL.at ?_))))
  rw [hm, pass_X]
  refine wpAny_pure (wpAny_bind (inst.type.at (wpAny_bind ((PySem.W.looks_findIn X ha).at (wpAny_bind (takL.at ?_))))))
  show wpAny _ _ (storeInOwnDict (.ref x) (.ref C) (.str name tk) name v false) _ _ _
  obtain ⟨nm, bs, mro, ns, qn, hd, sn, sb, ab, col, del⟩ := cd
  simp only at hh
  subst hh
  unfold storeInOwnDict ownDictForStores
  repeat (first
    | with_reducible refine HandSPX.store_in_new ?_ ?_
    | with_reducible refine wpAny_loadPart_at hx ?_
    | with_reducible refine clsL.at ?_
    | wp_step)
  · exact ⟨_, #[], _, (Heap.get?_update_ne _ _ _ _ hnx.symm).trans (Heap.get?_push_at rfl rfl), rfl, fun e he => absurd he (by simp), fun _ => rfl⟩
  · intro h' tk' ns1 same
    have hx1 : (hp.push { cls := .type "dict", data := .dict #[] }).get? x = some { cls := .ref C, data := .fields fv } := Heap.get?_push_of_some _ hx
    refine hq h' tk' hp.objs.size (fun b o nb e => ?_) (Nat.le_refl _) hnx.symm ((same.2 x hnx).trans (Heap.get?_update_self _ hx1 rfl)) ns1
    have e1 := same.2 b fun z => absurd (Heap.lt_size e) (by rw [z]; exact Nat.lt_irrefl _)
    exact e1.trans ((Heap.get?_update_ne _ _ _ _ nb).trans (Heap.get?_push_of_some _ e))
end
section
variable {X : Cx} {pins : List (Addr × Obj)} {σ : L2.St} {H : Hp} {s : Shared} {x C fI : Addr} {f : Str} {y : V} {u : Value}
theorem ExK.cl (T : ExK X.K C fI) : ∃ (cs : List Addr) (cd : ClassData), PySem.W.clsIn X.K C = some cd ∧ cd.mro = cs.map Value.ref ++ exT ∧ cd.hasDict = true := by
  obtain ⟨nm, q, N, bs, cs, sn, sub, ab, col, dd, k0, k1, k2, k3, k5, hC⟩ := T.cls
  exact ⟨C :: cs, _, by unfold PySem.W.clsIn; rw [hC] <;> rfl, rfl, rfl⟩
/-- the field of an exception that is being made -/
theorem ost_X {Q : Unit → Shared → Prop} {E : Value → Shared → Prop} {A : Around} (T : ExK X.K C fI) (I : Inv X pins σ H s) (e : H x = some (exo x C none)) (no : PySem.W.findIn X.K (.ref C) f = some none) (ry : RelV y u)
    (h : ∀ dx s', H dx = none → dx ≠ x → Inv X pins σ (upd (upd H dx (exd dx [(f, y)])) x (exo x C (some dx))) s' → Q () s') : wpAny (model X.prog X.w) A (setAttr (.ref x) f u) Q E s := by
  obtain ⟨cs, cd, hcd, hm, hh⟩ := T.cl
  obtain ⟨t1, at1⟩ := exo_at I.hok e
  obtain ⟨hp, g, d, t, os⟩ := s
  refine PySem.W.set_plain (od := none) I.kIn ⟨at1, rfl, rfl, trivial⟩ T.sa ?_
  refine osa_X I.kIn at1 hcd hm hh no fun h' tk' dx keep dn dne hx ns1 => ?_
  have nd : H dx = none := I.hok.fresh dn
  have old : ∀ {b : Addr} {o : Obj}, hp.get? b = some o → b ≠ dx := fun q z => absurd (Heap.lt_size q) (by rw [z]; exact Nat.not_lt.mpr dn)
  have notx : ∀ {b : Addr}, H b = none → b ≠ x := fun n z => by
    rw [z, e] at n
    cases n
  -- the heap behind the store, as the layer sees it
  let G : Hp := upd (upd H dx (exd dx [(f, y)])) x (exo x C (some dx))
  have gn : ∀ {b : Addr}, b ≠ x → b ≠ dx → G b = H b := fun nx ndx => (upd_ne nx).trans (upd_ne ndx)
  have un : Un X.fs [] H G hp h' :=
    { keep := fun b o q n _ _ => keep b o (notx n) q
      slot := fun b o q n _ _ => ⟨o.slots, keep b o (notx n) q⟩
      free := fun b o q n _ => (gn (notx n) (old q)).trans n
      there := fun b o q _ => (Classical.em (b = x)).elim (fun z => ⟨_, z ▸ hx⟩) fun z => ⟨o, keep b o z q⟩
      tups := fun b xs q => (gn (at_ne e q exo_tup) (ne_of_none q nd)).trans q
      frzs := fun b o v q => (gn (at_ne e q exo_frz) (ne_of_none q nd)).trans q
      tbls := fun b ps q => ⟨#[], by rw [gn (at_ne e q exo_tbl) (ne_of_none q nd), q]; simp⟩ }
  refine h dx _ nd dne (I.un (t' := tk') un fun b o q => ?_)
  by_cases hb : b = x
  · subst hb
    cases (upd_same.symm.trans q)
    exact exo_ok hx
  · by_cases hd : b = dx
    · subst hd
      cases ((upd_same.symm.trans (upd_ne hb).symm).trans q)
      exact exd_ok ns1 (relO_put (fs := []) ry fun _ => trivial)
    · have q0 : H b = some o := (gn hb hd).symm.trans q
      refine (I.hok b o q0).stay (fun c v hc z => keep c v (hc.elim (fun w => w ▸ hb) fun w => at_ne e w exo_own) z) (fun c hc => (gn (at_ne e hc exo_own) (ne_of_none hc nd)).trans hc) fun c xs hc => (gn (at_ne e hc exo_tup) (ne_of_none hc nd)).trans hc
/-- self.f = f, in an __init__ -/
def tIniX (K : PySem.W.Frag) (i j : Nat) (f : Str) : TS := fun E σ H => ∃ x C fI y, σ[i]? = some (some (.ref x)) ∧ σ[j]? = some (some y) ∧ ExK K C fI ∧ PySem.W.findIn K (.ref C) f = some none ∧ H x = some (exo x C none) ∧
  ∀ dx, H dx = none → dx ≠ x → E.nx σ (upd (upd H dx (exd dx [(f, y)])) x (exo x C (some dx)))
theorem ps_iniX {i j : Nat} {a b : Str} {p1 p2 p3 pos : Pos} (ha : X.N[i]? = some a) (va : Vis X.env.scope a) (da : (a == ("__debug__" : Str)) = false) (ca : (a == ("__classdict__" : Str)) = false)
    (hb : X.N[j]? = some b) (vb : Vis X.env.scope b) (db : (b == ("__debug__" : Str)) = false) (cb : (b == ("__classdict__" : Str)) = false) : PS X (.Assign [.Attribute (.Name a p1) f p2] (.Name b p3) pos) (tIniX X.K i j f) := by
  constructor
  intro pins s σ H E I ⟨x, C, fI, y, h1, h2, T, no, e, q⟩
  refine plainObj_wpAny_Assign_Attribute (thn ((pe_var (pos := p3) hb vb db cb).run pins s σ H (fun v H1 => v = y ∧ H1 = H) I ⟨y, h2, rfl, rfl⟩) fun u s1 ⟨v, H1, I1, r1, q1⟩ => ?_) rfl
  obtain ⟨rfl, rfl⟩ := q1
  refine thn ((pe_var (pos := p1) ha va da ca).run pins s1 σ _ (fun z H2 => z = .ref x ∧ H2 = _) I1 ⟨_, h1, rfl, rfl⟩) fun u2 s2 ⟨z, H2, I2, r2, q2⟩ => ?_
  obtain ⟨rfl, rfl⟩ := q2
  cases r2
  exact ost_X T I2 e no r1 fun dx s' n ne J => ⟨σ, _, J, q dx n ne⟩
end
def spIni (K : PySem.W.Frag) (f : Str) : Sp := fun vs H Q _ => ∃ x C fI y, vs = [.ref x, y] ∧ ExK K C fI ∧ PySem.W.findIn K (.ref C) f = some none ∧ H x = some (exo x C none) ∧ ∀ dx, H dx = none → dx ≠ x → Q .non (upd (upd H dx (exd dx [(f, y)])) x (exo x C (some dx)))
/-- an __init__ that lays its one field -/
def iniB (N : List Str) (sc : Scope) (f : Str) (body : List Stmt) : Bool := match body with
  | [.Assign [.Attribute (.Name a _) g _] (.Name b _) _] => decide (g = f) && decide (N[0]? = some a) && decide (N[1]? = some b) && decide (sc.names.lookup a = some .local) && decide (sc.names.lookup b = some .local) && !(a == ("__debug__" : Str)) && !(a == ("__classdict__" : Str)) && !(b == ("__debug__" : Str)) && !(b == ("__classdict__" : Str))
  | _ => false
section
variable {P : Program} {w : World} {K : PySem.W.Frag} {mg : Str → Option Value} {base : Heap} {k : Nat} {fa : Addr} {qual f : Str} {params : Arguments} {body : List Stmt} {scope : Scope} {N ps : List Str}
theorem fnI_ini {x : Str} {dvs : List V} {kws : List (Str × V)} {fd : FuncData} (F : FunD K x qual params body scope dvs kws fa fd) (S : FnScope N ps scope) (hp : ps.length = 2) (hN : N.length = 2) (h : iniB N scope f body = true) : FnI P w K mg base (k + 1) fa fd ps (spIni K f) := by
  refine fnI_of F S (fun vs H Q E ⟨x, C, fI, y, e, _⟩ => by rw [e, hp]; rfl) fun cdv A outer s H vs Q E hr ⟨x, C, fI, y, e, T, no, hx, q⟩ => ?_
  unfold iniB at h
  split at h
  · rename_i a p1 g p2 b p3 p4
    simp only [Bool.and_eq_true, decide_eq_true_eq, Bool.not_eq_true'] at h
    obtain ⟨⟨⟨⟨⟨⟨⟨⟨rfl, h1⟩, h2⟩, h3⟩, h4⟩, h5⟩, h6⟩, h7⟩, h8⟩ := h
    refine ⟨_, pss_one (ps_iniX (i := 0) (j := 1) h1 (.inl h3) h5 h6 h2 (.inl h4) h7 h8), ?_⟩
    subst e
    have e0 : (L2.start N [.ref x, y])[0]? = some (some (.ref x)) := rfl
    have e1 : (L2.start N [.ref x, y])[1]? = some (some y) := rfl
    exact ⟨x, C, fI, y, e0, e1, T, no, hx, q⟩
  · cases h
end
section
variable {D : Dn} {X : Cx} {W : WX} {k n : Nat} {x f : Str} {C fI : Addr} {fd : FuncData} {ps : List Str} {bs : List Bd} {es : List Expr} {t : TA} {p0 pos : Pos}
/-- what a raise's values give: the one field -/
def oneV : List V → V → Prop
  | [y], z => z = y
  | [], z => z = .non
  | _, _ => False
theorem pmk_X (hK : X.K = D.K) (T : ExK X.K C fI) (no : PySem.W.findIn X.K (.ref C) f = some none) (F1 : FnI X.prog X.w X.K X.mg X.base k fI fd ps (spIni X.K f)) (hr : RoomI (k + 1) X.A) (hx : ∀ σ, PassesAt (L2.CX X.prog X.w) X σ (WE W σ)) (hg : Gl X x) (hm : X.mg x = some (.ref C))
    (hb : BindI D fd ps (n + 1) [] bs) (hbs : (n = 1 ∧ bs = []) ∨ (n = 0 ∧ bs = [.arg 0, .dfl .non])) (ha : PA X es t) (hd : (x == ("__debug__" : Str)) = false) (hst : es.all nostar = true) (ht : es = [] → n = 0 ∧ ∀ σ H Q, t σ H Q → Q [] H) :
    PMk X (.Call (.Name x p0) es [] pos) (fun σ H Q => t σ H fun vs H1 => vs.length = n ∧ ∀ y d, oneV vs y → H1 d = none → Q (.ref C) (some d) (upd H1 d (.xd [(f, y)]))) := by
  intro pins s σ H Q I h
  obtain ⟨nm, q, N, bs', cs, sn, sub, ab, col, dd, k0, k1, k2, k3, k5, hC⟩ := T.cls
  refine wpAny_Call_Name_kw (ld_glob I hg hm ?_ hd)
  have main : ∀ us s1 vs H1, Inv X pins σ H1 s1 → Vals vs us → vs.length = n → (∀ y d, oneV vs y → H1 d = none → Q (.ref C) (some d) (upd H1 d (.xd [(f, y)]))) → wpAny (model X.prog X.w) X.A (call (.ref C) us) (MkP X pins σ Q) X.xe s1 := by
    intro us s1 vs H1 I1 rv hl q1
    obtain ⟨hp, g, dr, tk, os⟩ := s1
    have le : hp.objs.size ≤ hp.objs.size + 1 := Nat.le_succ _
    have fr : H1 (hp.objs.size + 1) = none := I1.hok.fresh le
    have lu : us.length = n := by rw [← hl, rv.length]
    have kk : ∀ b o, hp.get? b = some o → ((hp.push (PySem.W.kdv_tup us)).push (PySem.HandSPX.excO C hp.objs.size)).get? b = some o := fun b o e => Heap.get?_push_of_some _ (Heap.get?_push_of_some _ e)
    have at1 : ((hp.push (PySem.W.kdv_tup us)).push (PySem.HandSPX.excO C hp.objs.size)).get? (hp.objs.size + 1) = some (PySem.HandSPX.excO C hp.objs.size) := by heap_get
    have I2 : Inv X pins σ (upd H1 (hp.objs.size + 1) (exo (hp.objs.size + 1) C none)) ⟨(hp.push (PySem.W.kdv_tup us)).push (PySem.HandSPX.excO C hp.objs.size), g, dr, tk, os⟩ := I1.laid (t' := tk) kk le (exo_ok at1)
    obtain ⟨ws, b1, b2⟩ := hb _ (Value.ref (hp.objs.size + 1) :: us) [] (by rw [← hK]; exact I2.kIn) (congrArg Nat.succ lu) rfl
    -- the two values that __init__ takes
    obtain ⟨y, oy, rw2⟩ : ∃ y, oneV vs y ∧ Vals [.ref (hp.objs.size + 1), y] ws := by
      rcases hbs with ⟨rfl, rfl⟩ | ⟨rfl, rfl⟩
      · rcases b2 with ⟨_, rfl⟩ | ⟨z, _⟩
        · cases rv with
          | nil => cases hl
          | @cons v u vs us r rt =>
            cases rt with
            | cons _ _ => cases hl
            | nil => exact ⟨v, rfl, .cons rfl (.cons r .nil)⟩
        · exact absurd rfl z
      · rcases b2 with ⟨z, _⟩ | ⟨_, b2⟩
        · cases z
        · cases rv with
          | cons _ _ => cases hl
          | nil =>
            cases b2 with
            | arg g1 b2 =>
              cases b2 with
              | dfl g2 g3 b2 =>
                cases b2
                cases g1
                rename_i u' y'
                have g4 := g3 [] (fun _ => none)
                cases g4
                exact ⟨.non, rfl, .cons rfl (.cons g2 .nil)⟩
    refine wpAny_call (PySem.HandSPX.call_own F.excBase_Exception (fun Y => has_X Y cs) (I1.kIn _ _ hC) (PySem.W.looks_findIn I1.kIn T.ini) (fun self => PySem.W.bind_fn I1.kIn self T.tI) (by rw [lu, sizeLine_eq]; rcases hbs with ⟨z, _⟩ | ⟨z, _⟩ <;> omega)
      (codeAny_mono (F1.run _ X.stack _ _ ⟨Value.ref (hp.objs.size + 1) :: us, []⟩ ws [.ref (hp.objs.size + 1), y]
        (fun v H2 => v = .non ∧ ∃ d, H2 (hp.objs.size + 1) = some (exo (hp.objs.size + 1) C (some d)) ∧ H2 d = some (exd d [(f, y)]) ∧ H1 d = none ∧ Q (.ref C) (some d) (upd (del H2 (hp.objs.size + 1)) d (.xd [(f, y)]))) (WE W σ)
        ⟨hr.rm.make C us [], hr.gs⟩ (I2.env0.make C us []) b1 rw2 ⟨_, C, fI, y, rfl, T, no, upd_same, fun dx hdx ne => ⟨rfl, dx, upd_same, ?_, ?_, ?_⟩⟩) fun r s' z => ?_))
    · rw [upd_ne ne, upd_same]
    · rw [upd_ne ne] at hdx
      exact hdx
    · rw [upd_ne ne] at hdx
      have e : upd (del (upd (upd (upd H1 (hp.objs.size + 1) (exo (hp.objs.size + 1) C none)) dx (exd dx [(f, y)])) (hp.objs.size + 1) (exo (hp.objs.size + 1) C (some dx))) (hp.objs.size + 1)) dx (.xd [(f, y)]) = upd H1 dx (.xd [(f, y)]) := by
        funext b
        by_cases hb1 : b = dx
        · rw [hb1, upd_same, upd_same]
        · rw [upd_ne hb1, upd_ne hb1]
          by_cases hb2 : b = hp.objs.size + 1
          · rw [hb2, del_same, fr]
          · rw [del_ne hb2, upd_ne hb2, upd_ne hb1, upd_ne hb2]
      rw [e]
      exact q1 y dx oy hdx
    · cases r with
      | error er => exact hx σ pins _ _ er s' I2 z
      | ok fl =>
        cases fl with
        | ret u =>
          obtain ⟨v, H2, os2, bare2, un2, hok2, rv2, ev, d, ea, ed, hd1, q2⟩ := z
          subst ev
          obtain ⟨h2, g2, d2, t2, os'⟩ := s'
          exact ⟨rv2, mk_end (raises_own T.exC T.tyC) I1 le kk un2 hok2 os2 bare2 ea ed hd1 q2⟩
        | next => exact False.elim z
        | brk => exact False.elim z
        | cont => exact False.elim z
  cases es with
  | nil =>
    obtain ⟨rfl, q0⟩ := ht rfl
    obtain ⟨_, q1⟩ := q0 σ H _ h
    exact PySem.W.callWith_K0 (first := []) I.kIn T.kC (main [] s [] H I .nil rfl q1)
  | cons e rest =>
    have h' := Bool.and_eq_true_iff.mp hst
    exact PySem.W.callWith_K (h₀ := X.base) I.ok.mod.kin T.kC (thn (ha.run pos pins s σ H _ I h) fun us s1 ⟨vs, H1, I1, r1, hl, q1⟩ => ⟨I1.kIn, main us s1 vs H1 I1 r1 hl q1⟩) (star_ok h'.1) (plain_ok h'.2)
/-- an own exception, raised -/
theorem S_rse {xa : XA} {m : Bool} {cs : CF} {c : Nat} {ki : ClI} {fn : Nat} {ies : IA} {pos2 : Pos} (hK : X.K = D.K) (hc : m = false → X.calm = true) (tk : Takes X W) (hi : D.sg.cls[c]? = some ki) (hf : ki.exf = some fn) (hC : C = D.cA c) (T : ExK X.K C fI) (no : PySem.W.findIn X.K (.ref C) (D.nm fn) = some none)
    (F1 : FnI X.prog X.w X.K X.mg X.base k fI fd ps (spIni X.K (D.nm fn))) (hr : RoomI (k + 1) X.A) (hg : Gl X x) (hm : X.mg x = some (.ref C)) (hb : BindI D fd ps (es.length + 1) [] bs) (hbs : (es.length = 1 ∧ bs = []) ∨ (es.length = 0 ∧ bs = [.arg 0, .dfl .non]))
    (hz : es.length = ies.len) (ha : PA X es (sA D xa m cs ies W)) (hd : (x == ("__debug__" : Str)) = false) (hst : es.all nostar = true) :
    PS X (.Raise (some (.Call (.Name x p0) es [] pos)) none pos2) (sS D xa m cs (.rse c ies) W) := by
  cases m with
  | true => exact ⟨fun pins s σ H E I ⟨ρ, ih, sl, hr, l, p⟩ => False.elim p⟩
  | false =>
    subst hC
    refine PSi (ps_raise (hc rfl) tk (pmk_X hK T no F1 hr (passAt tk) hg hm hb hbs ha hd hst fun e => ?_)) fun E σ H ⟨ρ, ih, s, hR, l, p⟩ => ?_
    · subst e
      refine ⟨rfl, fun σ H Q ⟨ρ, ih, s, hR, l, p⟩ => ?_⟩
      cases ies with
      | cons _ _ => cases hz
      | nil => exact p ρ H [] .refl hR .nil
    · refine semS.of hR l (show PostS D xa ρ H (RS.of s (evA D.sg false cs ies s ih) fun vs h => match vs with
        | [v] => .ex c v s h
        | [] => .ex c .non s h
        | _ => .no) E W from p) fun vs ih1 ρ1 H1 us e hR1 l1 ev q p1 => ?_
      have hl := evA_len e
      refine ⟨by rw [← q.length, hl, hz], fun y d oy hd1 => ?_⟩
      have ev1 : Ev ρ1 H1 ρ1 (upd H1 d (.xd [(D.nm fn, y)])) := Ev.lay hd1 _
      have hR2 := hR1.lay hd1 (.xd [(D.nm fn, y)])
      cases q with
      | nil =>
        cases oy
        exact p1 ρ1 _ σ d ev1 hR2 (l1.evo hR1 ev1) ⟨ki, fn, .non, hi, hf, upd_same, .non⟩
      | @cons v u vs us r rt =>
        cases rt with
        | cons _ _ => exact p1.elim
        | nil =>
          cases oy
          exact p1 ρ1 _ σ d ev1 hR2 (l1.evo hR1 ev1) ⟨ki, fn, y, hi, hf, upd_same, r.evo hR1 ev1⟩
end
end Itp

/-! ItP: try, what a suite asks of its exception. -/
namespace Itp
open PySem PySem.Spec PyProof.Rows L2
/-- what is known of the own exceptions -/
structure ExF (D : Dn) : Prop where
  xf : ∀ c ki f, D.sg.cls[c]? = some ki → ki.exf = some f → XfC D.K (D.cA c) ∧ PySem.W.findIn D.K (.ref (D.cA c)) (D.nm f) = some none
  is : ∀ c ki, D.sg.cls[c]? = some ki → ki.exf.isSome = true → PySem.W.findIn D.K (.ref (D.cA c)) "__class__" = some (some (.builtin "object.__class__")) ∧ PySem.W.specialIn D.K (.builtin "object.__class__") "__get__" = some (some (.builtin "getset_descriptor.__get__")) ∧
    PySem.W.takesIn D.K (.builtin "object.__class__") = some true ∧ PySem.W.mroIn D.K (D.cA c) (.type "object") = some true
  oo : ∀ c ki d, D.sg.cls[c]? = some ki → ki.exf.isSome = true → d < D.sg.cls.length → PySem.W.kitOne D.K (.ref (D.cA c)) (.ref (D.cA d)) = some (ki.par.contains d)
  mt : ∀ c ki d kd, D.sg.cls[c]? = some ki → ki.exf.isSome = true → D.sg.cls[d]? = some kd → kd.exf.isSome = true → PySem.W.exmOne D.K (.ref (D.cA c)) (.ref (D.cA d)) = some (ki.par.contains d)
/-- what a suite knows -/
structure Hld (D : Dn) (cls : Value) (dx : Option Addr) (c : Nat) (d : Addr) : Prop where
  cls : cls = .ref (D.cA c)
  dx : dx = some d
section
variable {D : Dn} {X : Cx} {W : WX} {m : Bool} {cs : CF} {p d : Addr} {c : Nat} {ki : ClI} {o : Obj} {pn : List (Addr × Obj)} {x y : Str} {p0 p1 pos q0 q1 : Pos} {i f : Nat}
theorem L_exf (hK : X.K = D.K) (F : ExF D) (hz : Zc (.ref (D.cA c)) (some d) o) (hf : ∃ vs, o.data = .fields vs) (hN : X.N[i]? = some x) (hv : Vis X.env.scope x) (hd : (x == ("__debug__" : Str)) = false) (hcd : (x == ("__classdict__" : Str)) = false) :
    PE (X.suite p ((p, o) :: pn)) (.Attribute (.Name x p0) (D.nm f) pos) (sE D (some (p, D.cA c, d)) true cs (.exf i f) W) := by
  refine ⟨fun pins s σ H Q I ⟨ρ, ih, sl, hr, l, q⟩ => ?_⟩
  replace q : Post D ρ H (match sl[i]? with
    | some (.x c y) => if (D.sg.cls[c]?).bind (·.exf) = some f then .ok y ih else .no
    | _ => .no) (VR D) Q (WE W σ) := q
  cases es : sl[i]? with
  | none => rw [es] at q; exact q.elim
  | some z =>
    rw [es] at q
    cases z with
    | no => exact q.elim
    | v _ => exact q.elim
    | x c2 y2 =>
      obtain ⟨hcc, q⟩ := ifp (F := fun r => Post D ρ H r (VR D) Q (WE W σ)) q fun z => z
      obtain ⟨w, g1, a2, d2, g2, g3, k, f2, u, g4, g5, g6, g7⟩ := l.at_ i _ es
      injection g2 with g2
      injection g2 with ga g2
      injection g2 with gc gd
      subst ga gd
      rw [g4] at hcc
      have hcc : k.exf = some f := hcc
      rw [g5] at hcc
      cases hcc
      obtain ⟨k1, k2⟩ := F.xf c2 k f g4 g5
      rw [← gc] at k1 k2
      exact (pe_xf (X := X) (pos := pos) (by rw [hK]; exact k1) (by rw [hK]; exact k2) hz hf (pe_var (X := X.suite p ((p, o) :: pn)) (pos := p0) hN hv hd hcd) rfl).run pins s σ H Q I ⟨.ref p, by rw [g1, g3], rfl, rfl, d, _, u, rfl, g6, by simp [List.lookup], q ρ H u .refl hr g7⟩
theorem L_exi {dc : Nat} (hK : X.K = D.K) (F : ExF D) (hz : Zc (.ref (D.cA c)) (some d) o) (hf : ∃ vs, o.data = .fields vs) (hN : X.N[i]? = some x) (hv : Vis X.env.scope x) (hd : (x == ("__debug__" : Str)) = false) (hcd : (x == ("__classdict__" : Str)) = false)
    (hg : Gl X "isinstance") (hm : X.mg "isinstance" = none) (hdc : dc < D.sg.cls.length) (hk : ClE D X (.own dc) y) :
    PE (X.suite p ((p, o) :: pn)) (.Call (.Name "isinstance" q0) [.Name x p0, .Name y p1] [] pos) (sE D (some (p, D.cA c, d)) true cs (.exi i dc) W) := by
  refine ⟨fun pins s σ H Q I ⟨ρ, ih, sl, hr, l, q⟩ => ?_⟩
  replace q : Post D ρ H (match sl[i]? with
    | some (.x c _) => .ok (.bl (D.sg.sub c dc)) ih
    | _ => .no) (VR D) Q (WE W σ) := q
  cases es : sl[i]? with
  | none => rw [es] at q; exact q.elim
  | some z =>
    rw [es] at q
    cases z with
    | no => exact q.elim
    | v _ => exact q.elim
    | x c2 y2 =>
      obtain ⟨w, g1, a2, d2, g2, g3, k, f2, u, g4, g5, g6, g7⟩ := l.at_ i _ es
      injection g2 with g2
      injection g2 with ga g2
      injection g2 with gc gd
      subst ga gd
      obtain ⟨k1, k2⟩ := F.xf c2 k f2 g4 g5
      obtain ⟨k3, k4, k5, k6⟩ := F.is c2 k g4 (by rw [g5]; rfl)
      have k7 := F.oo c2 k dc g4 (by rw [g5]; rfl) hdc
      rw [← gc, ← hK] at k1 k2 k3 k6 k7
      rw [← hK] at k4 k5
      have hs : D.sg.sub c2 dc = k.par.contains dc := by unfold Sg.sub; rw [g4]
      have rule : CallR (X.suite p ((p, o) :: pn)) (.builtin "isinstance") (fun xs H Q => xs = [.ref p, (IC.own dc).v D] ∧ (∃ fs, H d = some (.xd fs)) ∧ Q (.bl (k.par.contains dc)) H) := by
        intro pins s σ H xs us Q I r ⟨e1, ⟨fs, e2⟩, q⟩
        subst e1
        obtain ⟨u1, u2, rfl, r1, r2⟩ := vals2 r
        cases r1
        have e3 := ((IC.own dc).cv D).eq r2
        subst e3
        obtain ⟨hget, _⟩ := I.pin (p, o) (List.mem_append_left _ List.mem_cons_self)
        obtain ⟨vs, hv⟩ := hf
        have hx : ObjOk X.prog X.w H s.heap d (.xd fs) := I.hok d _ e2
        obtain ⟨mA, hns, _⟩ := hx
        obtain ⟨od, ho, _⟩ := lookIn_ns hns
        have J : PySem.W.InstAt s.heap p o (D.cA c) (some od) := ⟨hget, hz.1, by unfold PySem.W.notCls; rw [hv] <;> rfl, by rw [hz.2]; exact ho⟩
        obtain ⟨cd, hcl, _⟩ := PySem.W.any_some k1.hdC
        exact PySem.W.kia_one (PySem.W.kitx_exc (by rw [hcl]; rfl) k1.ga k1.gg k1.exC k3 k4 k5 k6) I.kIn J k7 (fun z => nomatch z) fun tk => ⟨.bl _, H, I.kept (t' := tk) fun _ _ z => z, rfl, q⟩
      refine (pe_callB (X := X.suite p ((p, o) :: pn)) (p := q0) (pos := pos) rule hg hm rfl (pa_cons (pe_var hN hv hd hcd) (pa_cons (pe_cle (X := X.suite p ((p, o) :: pn)) hk) pa_nil rfl) rfl) (by decide) (by decide) rfl rfl).run pins s σ H Q I ?_
      refine ⟨.ref p, by rw [g1, g3], rfl, ⟨_, g6⟩, ?_⟩
      rw [← hs]
      exact q ρ H _ .refl hr (.bl _)
/-! ### the try -/
theorem LR.to {ρ : List Addr} {H : Hp} {xa xb : XA} {s : En} {σ : L2.St} (h : noX s = true) (l : LR D ρ H xa s σ) : LR D ρ H xb s σ :=
  ⟨l.len, fun i z e => by
    obtain ⟨w, g1, g2⟩ := l.at_ i z e
    have hz := List.all_eq_true.mp h z (List.mem_of_getElem? e)
    cases z with
    | no => exact ⟨w, g1, trivial⟩
    | v y => exact ⟨w, g1, g2⟩
    | x _ _ => cases hz⟩
theorem LR.noX {ρ : List Addr} {H : Hp} {s : En} {σ : L2.St} (l : LR D ρ H none s σ) : Itp.noX s = true := by
  refine List.all_eq_true.mpr fun z hz => ?_
  obtain ⟨i, hi, e⟩ := List.mem_iff_getElem.mp hz
  obtain ⟨w, g1, g2⟩ := l.at_ i z (by rw [List.getElem?_eq_getElem hi, e])
  cases z with
  | no => rfl
  | v y => rfl
  | x _ _ => obtain ⟨_, _, h, _⟩ := g2; cases h
theorem LR.gone {ρ : List Addr} {H : Hp} {xa : XA} {s : En} {σ : L2.St} (l : LR D ρ H xa s σ) (i : Option Nat) : LR D ρ H xa (goneS i s) (goneAt i σ) := by
  cases i with
  | none => exact l
  | some i => exact l.setNo i none
def tsI (D : Dn) (cs : CF) (ib : IB) : Addr → Value → Option Addr → TS := fun p cls dx E σ H => ∃ c d ki, D.sg.cls[c]? = some ki ∧ ki.exf.isSome = true ∧ cls = .ref (D.cA c) ∧ dx = some d ∧ semS D (some (p, D.cA c, d)) (evB D.sg cs true ib) WF E σ H
/-- the clauses and what stands for them -/
inductive HdJ (D : Dn) (X : Cx) (cs : CF) : IHs → List ExceptHandler → List HdT → Prop
  | nil : HdJ D X cs .nil [] []
  | cons {dc : Nat} {kd : ClI} {i : Option Nat} {x : Str} {n : Option Str} {ib : IB} {r : IHs} {b₀ : Stmt} {suite : List Stmt} {np hp : Pos} {hds : List ExceptHandler} {l : List HdT} (hd : D.sg.cls[dc]? = some kd) (hk : kd.exf.isSome = true) (hc : Names X x (.ref (D.cA dc)))
      (hi : (i = none ∧ n = none) ∨ ∃ j z, i = some j ∧ n = some z ∧ X.N[j]? = some z ∧ X.env.kindOf z = some .local)
      (hsu : ∀ (p : Addr) (o : Obj) (c : Nat) (ki : ClI) (d : Addr) (pn : List (Addr × Obj)), D.sg.cls[c]? = some ki → ki.exf.isSome = true → Zc (.ref (D.cA c)) (some d) o → (∃ vs, o.data = .fields vs) → PSs (X.suite p ((p, o) :: pn)) (b₀ :: suite) (sB D (some (p, D.cA c, d)) true cs ib WF))
      (hr : HdJ D X cs r hds l) : HdJ D X cs (.cons dc i ib r) (.ExceptHandler (some (.Name x np)) n (b₀ :: suite) hp :: hds) ((.ref (D.cA dc), i, tsI D cs ib) :: l)
theorem HdJ.k {ih : IHs} {hds : List ExceptHandler} {l : List HdT} (h : HdJ D X cs ih hds l) : HdK X hds l := by
  induction h with
  | nil => exact .nil
  | @cons dc kd i x n ib r b₀ suite np hp hds l hd hk hc hi hsu _ ih =>
    have hsu' : ∀ (p : Addr) (o : Obj) (cls : Value) (d : Option Addr) (pn : List (Addr × Obj)), Zc cls d o → (∃ vs, o.data = .fields vs) → PSs (X.suite p ((p, o) :: pn)) (b₀ :: suite) (tsI D cs ib p cls d) := fun p o cls d pn hz hv =>
      ⟨fun pins s σ H E I ⟨c, d', ki, g1, g2, g3, g4, q⟩ => by
        subst g3 g4
        exact (hsu p o c ki d' pn g1 g2 hz hv).run pins s σ H E I q⟩
    rcases hi with ⟨rfl, rfl⟩ | ⟨j, z, rfl, rfl, h1, h2⟩
    · exact .pl hc hsu' ih
    · exact .nm hc h1 h2 hsu' ih
theorem S_try {body : List Stmt} {ib : IB} {ihs : IHs} {h₀ : ExceptHandler} {hds : List ExceptHandler} {l : List HdT} (hK : X.K = D.K) (F : ExF D) (hs : X.stack = X.env :: X.outer) (hfr : X.env.frame = some X.env.locals) (hN : X.N.Nodup) (tk : Takes X W)
    (hb : m = false → ∀ (W : WX) (pn : List (Addr × Obj)) (xe : Value → Shared → Prop), Takes (X.tr pn xe) W → PassesOwn (model X.prog X.w) X.A X.env xe → PSs (X.tr pn xe) body (sB D none false cs ib W)) (hh : m = false → HdJ D X cs ihs (h₀ :: hds) l) :
    PS X (.Try body (h₀ :: hds) [] [] pos) (sS D none m cs (.try_ ib ihs) W) := by
  cases m with
  | true => exact ⟨fun pins s σ H E I ⟨ρ, ih, sl, hr, l, p⟩ => False.elim p⟩
  | false =>
    refine PSi (ps_tryI (tb := sB D none false cs ib) hs hfr hN tk (hb rfl) (hh rfl).k) fun E σ H q0 => ?_
    obtain ⟨ρ, ih, s, hr, lr, q⟩ := q0
    have q' : PostS D none ρ H (match evB D.sg cs false ib s ih with
      | .ex c v s1 h1 => evH D.sg cs c v ihs s1 h1
      | r => r) E W := q
    refine ⟨ρ, ih, s, hr, lr, ?_⟩
    cases hB : evB D.sg cs false ib s ih with
    | nx s1 h1 => rw [hB] at q'; exact q'
    | rt v h1 => rw [hB] at q'; exact q'
    | bk s1 h1 => rw [hB] at q'; exact q'
    | ct s1 h1 => rw [hB] at q'; exact q'
    | no => rw [hB] at q'; exact q'
    | ex c v s1 h1 =>
      rw [hB] at q'
      replace q' : PostS D none ρ H (evH D.sg cs c v ihs s1 h1) E W := q'
      intro ρ1 H1 σ1 d ev hr1 l1 x
      replace q' := q'.evo hr1 ev
      clear hB hb q
      have hj := hh rfl
      clear hh
      show wHs X.K W E l (.ref (D.cA c)) (some d) σ1 H1
      generalize hgen : h₀ :: hds = all at hj
      clear hgen
      induction hj with
      | nil => exact q' ρ1 H1 σ1 d .refl hr1 l1 x
      | @cons dc kd i x' n ib' r b₀ suite np hp hds' l' hd hk hc hi hsu hrest ih2 =>
        obtain ⟨k, f2, u, g4, g5, g6, g7⟩ := id x
        have hm := F.mt c k dc kd g4 (by rw [g5]; rfl) hd hk
        rw [← hK] at hm
        have hsub : D.sg.sub c dc = k.par.contains dc := by unfold Sg.sub; rw [g4]
        replace q' : PostS D none ρ1 H1 (if D.sg.sub c dc = true then RS.gone i (evB D.sg cs true ib' (setX i c v s1) h1) else evH D.sg cs c v r s1 h1) E W := q'
        refine ⟨_, hm, fun e p hp => ?_, fun e => ?_⟩
        · rw [if_pos (by rw [hsub]; exact e)] at q'
          refine ⟨c, d, k, g4, by rw [g5]; rfl, rfl, rfl, ρ1, h1, setX i c v s1, hr1, ?_, ?_⟩
          · have l2 : LR D ρ1 H1 (some (p, D.cA c, d)) s1 σ1 := l1.to l1.noX
            cases i with
            | none => exact l2
            | some i => exact l2.put (x := .x c v) i ⟨p, d, rfl, rfl, x⟩
          · cases hC : evB D.sg cs true ib' (setX i c v s1) h1 with
            | no => rw [hC] at q'; exact q'
            | ex _ _ _ _ => rw [hC] at q'; exact q'.elim
            | rt w h2 => rw [hC] at q'; exact q'
            | nx s2 h2 =>
              rw [hC] at q'
              obtain ⟨hn, q'⟩ := ifp (F := fun r => PostS D none ρ1 H1 r E W) q' fun z => z
              exact fun ρ2 H2 σ2 ev2 hr2 l3 => q' ρ2 H2 _ ev2 hr2 ((l3.gone i).to hn)
            | bk s2 h2 =>
              rw [hC] at q'
              obtain ⟨hn, q'⟩ := ifp (F := fun r => PostS D none ρ1 H1 r E W) q' fun z => z
              exact fun ρ2 H2 σ2 ev2 hr2 l3 => q' ρ2 H2 _ ev2 hr2 ((l3.gone i).to hn)
            | ct s2 h2 =>
              rw [hC] at q'
              obtain ⟨hn, q'⟩ := ifp (F := fun r => PostS D none ρ1 H1 r E W) q' fun z => z
              exact fun ρ2 H2 σ2 ev2 hr2 l3 => q' ρ2 H2 _ ev2 hr2 ((l3.gone i).to hn)
        · rw [if_neg (by rw [hsub, e]; decide)] at q'
          exact ih2 q'
end
end Itp

/-! ItQ: a text held against a program: expressions. -/
namespace Itp
open PySem PySem.Spec PyProof.Rows L2
structure Pg where
  nms : List Str
  cns : List Str
  fns : List (Option Str)
  gns : List Str
  sg : Sg
  defs : List DefI
  bds : List (Nat × Nat × List Str × List Bd)
  rbs : List (Nat × Nat × List Bd)
structure Gm where
  N : List Str
  sc : Scope
  fn : Str → Bool
/-- the names -/
def nmOf (l : List Str) (i : Nat) : Str := match l[i]? with
  | some x => x
  | none => ⟨#[0, i]⟩
structure Fx where
  D : Dn
  fA : Nat → Addr
  fD : Nat → FuncData
  fP : Nat → List Str
/-- what must be free of the module's names -/
def frees : List Str := ["len", "abs", "int", "bool", "str", "list", "tuple", "sum", "max", "min", "any", "all", "sorted", "repr", "isinstance", "range", "enumerate", "zip", "dict"]
structure PgOk (P : Pg) (F : Fx) (prog : Program) (w : World) (mg : Str → Option Value) (base : Heap) : Prop where
  nm : F.D.nm = nmOf P.nms
  inj : ∀ f g, F.D.nm f = F.D.nm g → f = g
  sg : F.D.sg = P.sg
  fre : ∀ x ∈ frees, mg x = none
  cls : ∀ (c : Nat) (x : Str), P.cns[c]? = some x → mg x = some (.ref (F.D.cA c))
  fld : ∀ c f, P.sg.fd c f = true → Cls F.D.K (F.D.cA c) ∧ NoAttr F.D.K (F.D.cA c) (F.D.nm f)
  mts : ∀ c n f, P.sg.mt c n = some f → Cls F.D.K (F.D.cA c) ∧ Meth F.D.K (F.D.cA c) (F.D.nm n) (F.fA f) ∧ f < P.defs.length
  eqs : ∀ c n f, P.sg.mt c n = some f → (∃ ki, P.sg.cls[c]? = some ki ∧ ki.exf.isNone = true) ∧ (nmOf P.nms n = "__eq__" → PySem.W.findIn F.D.K (.ref (F.D.cA c)) "__ne__" = some (some (.builtin "object.__ne__")))
  ini : ∀ (c : Nat) (ki : ClI) (f : Nat), P.sg.cls[c]? = some ki → ki.ini = some f → Mk F.D.K (F.D.cA c) (F.fA f) ∧ f < P.defs.length
  fns : ∀ (f : Nat) (x : Str), P.fns[f]? = some (some x) → mg x = some (.ref (F.fA f)) ∧ PySem.W.keepIn F.D.K (.ref (F.fA f)) = true ∧ f < P.defs.length
  bnd : ∀ f n ks bs, (f, n, ks, bs) ∈ P.bds → BindI F.D (F.fD f) (F.fP f) n ks bs
  glo : ∀ (i : Nat) (x : Str) (y : IV), P.gns[i]? = some x → P.sg.glo[i]? = some y → ∃ v u, mg x = some u ∧ RelV v u ∧ ∀ ρ H, VR F.D ρ H y v
  gtu : ∀ (i : Nat) (x : Str) (xs : List IV), P.gns[i]? = some x → P.sg.glo[i]? = some (.tup xs) → ∃ a o us, mg x = some (.ref a) ∧ F.D.K.lookup a = some o ∧ o.cls = .type "tuple" ∧ o.dict = none ∧ ∀ ρ H, SqT F.D.K H a us ∧ VRs F.D ρ H xs us
  isf : IsF F.D
  exf : ExF F.D
  rse : ∀ (c : Nat) (ki : ClI) (fn : Nat), P.sg.cls[c]? = some ki → ki.exf = some fn → ∃ fI fd ps, ExK F.D.K (F.D.cA c) fI ∧ (∀ k, FnI prog w F.D.K mg base (k + 1) fI fd ps (spIni F.D.K (F.D.nm fn))) ∧ ∀ n bs, (c, n, bs) ∈ P.rbs → BindI F.D fd ps (n + 1) [] bs
structure XOk (P : Pg) (F : Fx) (k : Nat) (cs : CF) (m : Bool) (xa : XA) (Γ : Gm) (W : WX) (X : Cx) : Prop where
  pg : PgOk P F X.prog X.w X.mg X.base
  fc : ∀ (f : Nat) (d : DefI), P.defs[f]? = some d → FnC F.D X k cs f (F.fA f) (F.fD f) (F.fP f)
  K : X.K = F.D.K
  N : X.N = Γ.N
  nd : X.N.Nodup
  sc : X.env.scope = Γ.sc
  kind : Γ.sc.kind = .function
  fn : ∀ x, Γ.fn x = true → X.fn x = true
  u : X.A.units + 80 < cLine
  g : X.A.guards = some []
  rm : m = false → RoomI (k + 1) X.A
  k1 : 1 ≤ k
  tk : Takes X W
  calm : m = false → X.calm = true
  xan : m = false → xa = none
  su : m = true → ∃ X0 p o pn c d, X = Cx.suite X0 p ((p, o) :: pn) ∧ xa = some (p, F.D.cA c, d) ∧ Zc (.ref (F.D.cA c)) (some d) o ∧ ∃ vs, o.data = .fields vs
/-! ### conditions -/
def okN (x : Str) : Bool := !(x == ("__debug__" : Str)) && !(x == ("__classdict__" : Str))
def visB (sc : Scope) (x : Str) : Bool := match sc.names.lookup x with
  | some .local => true
  | some .cell => true
  | some .free => true
  | _ => false
def glB (sc : Scope) (x : Str) : Bool := decide (sc.names.lookup x = some .globalImplicit) && !(x == ("__debug__" : Str))
theorem okN_ok {x : Str} (h : okN x = true) : (x == ("__debug__" : Str)) = false ∧ (x == ("__classdict__" : Str)) = false := by
  unfold okN at h
  simpa using h
theorem visB_ok {sc : Scope} {x : Str} (h : visB sc x = true) : Vis sc x := by
  unfold visB at h
  split at h
  · rename_i e; exact .inl e
  · rename_i e; exact .inr (.inl e)
  · rename_i e; exact .inr (.inr e)
  · cases h
section
variable {P : Pg} {F : Fx} {k : Nat} {cs : CF} {m : Bool} {xa : XA} {Γ : Gm} {W : WX} {X : Cx}
theorem XOk.gl (o : XOk P F k cs m xa Γ W X) {x : Str} (h : glB Γ.sc x = true) : Gl X x ∧ (x == ("__debug__" : Str)) = false := by
  unfold glB at h
  simp only [Bool.and_eq_true, decide_eq_true_eq, Bool.not_eq_true'] at h
  refine ⟨?_, h.2⟩
  show X.env.scope.names.lookup x = _
  rw [o.sc]
  exact h.1
theorem XOk.vis (o : XOk P F k cs m xa Γ W X) {x : Str} (h : visB Γ.sc x = true) : Vis X.env.scope x := by rw [o.sc]; exact visB_ok h
end
def litB : IV → Const → Bool
  | .int i, .int j => decide (i = j)
  | .bl i, .bool j => decide (i = j)
  | .non, .none => true
  | .str i, .str j => decide (i = j)
  | _, _ => false
def ivEq : IV → IV → Bool
  | .non, .non => true
  | .bl i, .bl j => decide (i = j)
  | .int i, .int j => decide (i = j)
  | .str i, .str j => decide (i = j)
  | .tup [], .tup [] => true
  | _, _ => false
theorem ivEq_ok {a b : IV} (h : ivEq a b = true) : a = b := by
  unfold ivEq at h
  split at h <;> first | rfl | (rw [of_decide_eq_true h]) | cases h
def bdEq : List Bd → List Bd → Bool
  | [], [] => true
  | .arg i :: a, .arg j :: b => decide (i = j) && bdEq a b
  | .dfl i :: a, .dfl j :: b => ivEq i j && bdEq a b
  | _, _ => false
theorem bdEq_ok : ∀ {a b : List Bd}, bdEq a b = true → a = b
  | [], [], _ => rfl
  | .arg i :: a, .arg j :: b, h => by
    obtain ⟨h1, h2⟩ := Bool.and_eq_true_iff.mp (show (decide (i = j) && bdEq a b) = true from h)
    rw [of_decide_eq_true h1, bdEq_ok h2]
  | .dfl i :: a, .dfl j :: b, h => by
    obtain ⟨h1, h2⟩ := Bool.and_eq_true_iff.mp (show (ivEq i j && bdEq a b) = true from h)
    rw [ivEq_ok h1, bdEq_ok h2]
  | [], .arg _ :: _, h => by cases h
  | [], .dfl _ :: _, h => by cases h
  | .arg _ :: _, [], h => by cases h
  | .dfl _ :: _, [], h => by cases h
  | .arg _ :: _, .dfl _ :: _, h => by cases h
  | .dfl _ :: _, .arg _ :: _, h => by cases h
def hasB (l : List (Nat × Nat × List Str × List Bd)) (f n : Nat) (ks : List Str) (bs : List Bd) : Bool := l.any fun q => decide (q.1 = f) && decide (q.2.1 = n) && decide (q.2.2.1 = ks) && bdEq q.2.2.2 bs
theorem hasB_ok {l : List (Nat × Nat × List Str × List Bd)} {f n : Nat} {ks : List Str} {bs : List Bd} (h : hasB l f n ks bs = true) : (f, n, ks, bs) ∈ l := by
  obtain ⟨⟨a, b, c, d⟩, hm, h2⟩ := List.any_eq_true.mp h
  simp only [Bool.and_eq_true, decide_eq_true_eq] at h2
  obtain ⟨⟨⟨h3, h4⟩, h5⟩, h6⟩ := h2
  rw [← h3, ← h4, ← h5, ← bdEq_ok h6]
  exact hm
def hasR (l : List (Nat × Nat × List Bd)) (c n : Nat) (bs : List Bd) : Bool := l.any fun q => decide (q.1 = c) && decide (q.2.1 = n) && bdEq q.2.2 bs
theorem hasR_ok {l : List (Nat × Nat × List Bd)} {c n : Nat} {bs : List Bd} (h : hasR l c n bs = true) : (c, n, bs) ∈ l := by
  obtain ⟨⟨a, b, d⟩, hm, h2⟩ := List.any_eq_true.mp h
  simp only [Bool.and_eq_true, decide_eq_true_eq] at h2
  obtain ⟨⟨h3, h4⟩, h6⟩ := h2
  rw [← h3, ← h4, ← bdEq_ok h6]
  exact hm
def clB (P : Pg) (Γ : Gm) (c : IC) (x : Str) : Bool := glB Γ.sc x && match c with
  | .own d => decide (P.cns[d]? = some x) && decide (d < P.sg.cls.length)
  | c => decide (x = c.nm fun _ => "") && decide (x ∈ frees)
def clsB (P : Pg) (Γ : Gm) : List IC → List Expr → Bool
  | [], [] => true
  | c :: cs, .Name x _ :: es => clB P Γ c x && clsB P Γ cs es
  | _, _ => false
/-- a place's form -/
theorem plainIx_ok {e : Expr} (h : noslice e = true) : PlainIx e := by
  cases e <;> first | (intro o i; rfl) | cases h
def plainT : Expr → Bool
  | .UnaryOp .Not _ _ => false
  | .BoolOp _ _ _ => false
  | .IfExp _ _ _ _ => false
  | .Compare _ _ _ _ => false
  | _ => true
theorem plainT_ok {a : Expr} {env : Env} (h : plainT a = true) (whole : Sem Value) : isTrue a env whole = (do let v ← whole; standAt a.pos; holding [v] (truthy v)) := by
  cases a with
  | UnaryOp o _ _ => cases o <;> first | rfl | cases h
  | _ => first | rfl | cases h
def stoB (Γ : Gm) (i : Nat) (x : Str) : Bool := decide (Γ.N[i]? = some x) && (decide (Γ.sc.names.lookup x = some .local) || (decide (Γ.sc.names.lookup x = some .cell) && Γ.fn x))
def stosB (Γ : Gm) : List Nat → List Expr → Bool
  | [], [] => true
  | i :: is, .Name x _ :: es => stoB Γ i x && stosB Γ is es
  | _, _ => false
mutual
def tgB (Γ : Gm) : Tg → Expr → Bool
  | .nm i, e => match e with
    | .Name x _ => stoB Γ i x
    | _ => false
  | .tp is, e => match e with
    | .Tuple es _ _ => stosB Γ is es
    | _ => false
  | .ns ts, e => match e with
    | .Tuple es _ _ => tgsB Γ ts es
    | _ => false
def tgsB (Γ : Gm) : Tgs → List Expr → Bool
  | .nil, es => es.isEmpty
  | .cons t ts, es => match es with
    | e :: es => tgB Γ t e && tgsB Γ ts es
    | [] => false
end
mutual
def ownL : Tg → Expr → List (Str × Nat)
  | .nm i, e => match e with
    | .Name x _ => [(x, i)]
    | _ => []
  | .tp is, e => match e with
    | .Tuple es _ _ => (es.filterMap fun | .Name x _ => some x | _ => none).zip is
    | _ => []
  | .ns ts, e => match e with
    | .Tuple es _ _ => ownLs ts es
    | _ => []
def ownLs : Tgs → List Expr → List (Str × Nat)
  | .nil, _ => []
  | .cons t ts, es => match es with
    | e :: es => ownL t e ++ ownLs ts es
    | [] => []
end
def Gm.blk (Γ : Gm) (scope : Scope) : Gm := ⟨Γ.N, relS scope Γ.sc, fun x => scope.names.lookup x == some .cell⟩
section
variable {P : Pg} {F : Fx} {k : Nat} {cs : CF} {m : Bool} {xa : XA} {Γ : Gm} {W : WX} {X : Cx}
theorem XOk.sto (o : XOk P F k cs m xa Γ W X) {i : Nat} {x : Str} (h : stoB Γ i x = true) : Sto X i x := by
  unfold stoB at h
  simp only [Bool.and_eq_true, Bool.or_eq_true, decide_eq_true_eq] at h
  refine ⟨by rw [o.N]; exact h.1, ?_, ?_⟩
  · rw [o.sc]
    exact h.2.elim .inl fun z => .inr z.1
  · rw [o.sc]
    exact h.2.elim .inr fun z => .inl (o.fn x z.2)
theorem XOk.stos (o : XOk P F k cs m xa Γ W X) : ∀ {is : List Nat} {es : List Expr}, stosB Γ is es = true → Stos X is es
  | [], [], _ => .nil
  | i :: is, .Name x _ :: es, h => by
    obtain ⟨h1, h2⟩ := Bool.and_eq_true_iff.mp (show (stoB Γ i x && stosB Γ is es) = true from h)
    exact .cons (o.sto h1) (o.stos h2)
  | [], _ :: _, h => by cases h
  | _ :: _, [], h => by cases h
  | _ :: _, e :: _, h => by
    cases e with
    | Name x p =>
      obtain ⟨h1, h2⟩ := Bool.and_eq_true_iff.mp (show (stoB Γ _ x && stosB Γ _ _) = true from h)
      exact .cons (o.sto h1) (o.stos h2)
    | _ => cases h
mutual
theorem XOk.sto1 (o : XOk P F k cs m xa Γ W X) : ∀ {tg : Tg} {e : Expr}, tgB Γ tg e = true → Sto1 X tg e
  | .nm i, e, h => by
    cases e with
    | Name x p => exact .nm (o.sto (by simpa [tgB] using h))
    | _ => simp [tgB] at h
  | .tp is, e, h => by
    cases e with
    | Tuple es n p => exact .tp (o.stos (by simpa [tgB] using h))
    | _ => simp [tgB] at h
  | .ns ts, e, h => by
    cases e with
    | Tuple es n p => exact .ns (XOk.sto1s o (by simpa [tgB] using h))
    | _ => simp [tgB] at h
theorem XOk.sto1s (o : XOk P F k cs m xa Γ W X) : ∀ {ts : Tgs} {es : List Expr}, tgsB Γ ts es = true → Sto1s X ts es
  | .nil, [], _ => .nil
  | .nil, _ :: _, h => by simp [tgsB] at h
  | .cons t ts, [], h => by simp [tgsB] at h
  | .cons t ts, e :: es, h => by
    rw [tgsB] at h
    obtain ⟨h1, h2⟩ := Bool.and_eq_true_iff.mp h
    exact .cons (XOk.sto1 o h1) (XOk.sto1s o h2)
end
theorem XOk.tg (o : XOk P F k cs m xa Γ W X) (mf : m = false) {tg : Tg} {e : Expr} (h : tgB Γ tg e = true) : PG X e (semG F.D xa tg) := G_1 o.K (o.calm mf) o.nd (o.sto1 h)
theorem XOk.cl (o : XOk P F k cs m xa Γ W X) {c : IC} {x : Str} (h : clB P Γ c x = true) : ClE F.D X c x ∧ c.ok F.D := by
  unfold clB at h
  obtain ⟨h1, h2⟩ := Bool.and_eq_true_iff.mp h
  obtain ⟨g1, g2⟩ := o.gl h1
  cases c with
  | own d =>
    simp only [Bool.and_eq_true, decide_eq_true_eq] at h2
    exact ⟨⟨g1, g2, .inr (o.pg.cls d x h2.1)⟩, by show d < F.D.sg.cls.length; rw [o.pg.sg]; exact h2.2⟩
  | _ =>
    simp only [Bool.and_eq_true, decide_eq_true_eq] at h2
    obtain ⟨rfl, h3⟩ := h2
    exact ⟨⟨g1, g2, .inl ⟨by decide, o.pg.fre _ h3, rfl⟩⟩, trivial⟩
theorem XOk.cls (o : XOk P F k cs m xa Γ W X) : ∀ {ks : List IC} {es : List Expr}, clsB P Γ ks es = true → ClEs F.D X ks es ∧ ∀ c ∈ ks, c.ok F.D
  | [], [], _ => ⟨.nil, fun c z => by cases z⟩
  | [], _ :: _, h => by cases h
  | _ :: _, [], h => by cases h
  | c :: ks, e :: es, h => by
    cases e with
    | Name x p =>
      obtain ⟨h1, h2⟩ := Bool.and_eq_true_iff.mp (show (clB P Γ c x && clsB P Γ ks es) = true from h)
      obtain ⟨g1, g2⟩ := o.cl h1
      obtain ⟨g3, g4⟩ := o.cls h2
      exact ⟨.cons g1 g3, fun d hd => by
        rcases List.mem_cons.mp hd with z | z
        · rw [z]; exact g2
        · exact g4 d z⟩
    | _ => cases h
theorem XOk.blk (o : XOk P F k cs m xa Γ W X) (mf : m = false) {scope : Scope} (hk : scope.kind = .function) (s : Shared) (H : Hp) (C : Addr) (cl : List (Str × Addr)) (fp : List Addr) : XOk P F k cs m xa (Γ.blk scope) WF (X.blk s H scope (compEnvC scope cl C X.env) fp) where
  pg := o.pg
  fc := fun f d h => ⟨(o.fc f d h).ok, (o.fc f d h).no⟩
  K := o.K
  N := o.N
  nd := o.nd
  sc := by
    show relS scope X.env.scope = relS scope Γ.sc
    rw [o.sc]
  kind := hk
  fn := fun x h => h
  u := o.u
  g := o.g
  rm := o.rm
  k1 := o.k1
  tk := fun _ _ ⟨_, _, _, _, _, _, _, _, _, _, _, _, _, _, _, _, w⟩ => w.elim
  calm := o.calm
  xan := o.xan
  su := fun z => by rw [mf] at z; cases z
end
end Itp

/-! ItR: the checker of expressions is right. -/
namespace Itp
open PySem PySem.Spec PyProof.Rows L2
def kwB (P : Pg) (f n : Nat) (l : Nat) (bs : List Bd) (kws : List Keyword) : Bool := match kwn kws with
  | some ns => decide (l = ns.length) && hasB P.bds f n ns bs
  | none => false
def mtB (P : Pg) (n k l : Nat) (bs : List Bd) (kws : List Keyword) : Bool := match kwn kws with
  | some ns => decide (l = ns.length) && decide (k + ns.length < 29) && P.sg.cls.all fun c => match c.mts.lookup n with
    | none => true
    | some f => hasB P.bds f (k + 1) ns bs
  | none => false
def eqB (P : Pg) (n : Nat) : Bool := P.sg.cls.all fun c => match c.mts.lookup n with
  | none => true
  | some f => hasB P.bds f 2 [] []
def isTup : Option IV → Bool
  | some (.tup _) => true
  | _ => false
def isiF : List Expr → Option (Expr × (Str ⊕ List Expr))
  | [x, .Name c _] => some (x, .inl c)
  | [x, .Tuple l _ _] => some (x, .inr l)
  | _ => none
theorem isiF_ok {as : List Expr} {x : Expr} {y : Str ⊕ List Expr} (h : isiF as = some (x, y)) : (∃ c p, y = .inl c ∧ as = [x, .Name c p]) ∨ ∃ l n p, y = .inr l ∧ as = [x, .Tuple l n p] := by
  unfold isiF at h
  split at h
  · cases h; exact .inl ⟨_, _, rfl, rfl⟩
  · cases h; exact .inr ⟨_, _, _, rfl, rfl⟩
  · cases h
def isiC (P : Pg) (Γ : Gm) (cs : List IC) : Str ⊕ List Expr → Bool
  | .inl c => (match cs with
    | [k] => clB P Γ k c
    | _ => false)
  | .inr l => clsB P Γ cs l && !cs.isEmpty && decide (cs.length ≤ 1000)
mutual
def chkE (P : Pg) : IE → Gm → Expr → Bool
  | .var i, Γ, e => match e with
    | .Name x _ => decide (Γ.N[i]? = some x) && visB Γ.sc x && okN x
    | _ => false
  | .lit v, Γ, e => match e with
    | .Constant c _ _ => litB v c
    | _ => false
  | .glo i, Γ, e => match e with
    | .Name x _ => decide (P.gns[i]? = some x) && glB Γ.sc x && decide (i < P.sg.glo.length)
    | _ => false
  | .bin o a b, Γ, e => match e with
    | .BinOp x op y _ => decide (op = o.op) && chkE P a Γ x && chkE P b Γ y
    | _ => false
  | .neg a, Γ, e => match e with
    | .UnaryOp .USub x _ => chkE P a Γ x
    | _ => false
  | .inv a, Γ, e => match e with
    | .UnaryOp .Invert x _ => chkE P a Γ x
    | _ => false
  | .not a, Γ, e => match e with
    | .UnaryOp .Not x _ => chkE P a Γ x
    | _ => false
  | .cmp o a b, Γ, e => match e with
    | .Compare x [op] [y] _ => decide (op = o.op) && !behindInMarks op y && chkE P a Γ x && chkE P b Γ y
    | _ => false
  | .chn o o' a b c, Γ, e => match e with
    | .Compare x [op, op'] [y, z] _ => decide (op = o.op) && decide (op' = o'.op) && !lastMarks [op, op'] [y, z] && chkE P a Γ x && chkE P b Γ y && chkE P c Γ z
    | _ => false
  | .and es, Γ, e => match e with
    | .BoolOp .And l _ => chkA P es Γ l && !l.isEmpty
    | _ => false
  | .or es, Γ, e => match e with
    | .BoolOp .Or l _ => chkA P es Γ l && !l.isEmpty
    | _ => false
  | .ife t a b, Γ, e => match e with
    | .IfExp c x y _ => chkQ P t Γ c && chkE P a Γ x && chkE P b Γ y
    | _ => false
  | .tup es, Γ, e => match e with
    | .Tuple l _ _ => chkA P es Γ l
    | _ => false
  | .lst es, Γ, e => match e with
    | .List l _ => chkA P es Γ l
    | _ => false
  | .dic .nil .nil, Γ, e => match e with
    | .Dict [] [] _ => true
    | _ => false
  | .dic kvs .nil, Γ, e => match e with
    | .Dict ks vs _ => chkD P kvs Γ ks vs && decide (ks.length ≤ 15)
    | _ => false
  | .dic _ _, _, _ => false
  | .idx a b, Γ, e => match e with
    | .Subscript x y _ => noslice y && chkE P a Γ x && chkE P b Γ y
    | _ => false
  | .sl a lo hi, Γ, e => match e with
    | .Subscript x (.Slice l h none _) _ => chkE P a Γ x && chkO P lo Γ l && chkO P hi Γ h
    | _ => false
  | .fld a f, Γ, e => match e with
    | .Attribute x n _ => decide (n = nmOf P.nms f) && nosup x && chkE P a Γ x
    | _ => false
  | .call f es ks bs, Γ, e => match e with
    | .Call (.Name x _) as kws _ => decide (P.fns[f]? = some (some x)) && glB Γ.sc x && kwB P f es.len ks.len bs kws && chkA P es Γ as && chkK P ks Γ kws
    | _ => false
  | .meth n o es ks bs, Γ, e => match e with
    | .Call (.Attribute x nm ap) as kws p => decide (nm = nmOf P.nms n) && nosup x && (ap.endLine == p.line) && mtB P n es.len ks.len bs kws && chkE P o Γ x && chkA P es Γ as && chkK P ks Γ kws
    | _ => false
  | .new c es ks bs, Γ, e => match e with
    | .Call (.Name x _) as kws _ => decide (P.cns[c]? = some x) && glB Γ.sc x && (match (P.sg.cls[c]?).bind (·.ini) with
      | some f => kwB P f (es.len + 1) ks.len bs kws
      | none => false) && chkA P es Γ as && chkK P ks Γ kws
    | _ => false
  | .bi b es, Γ, e => match e with
    | .Call (.Name x _) (a :: as) [] _ => decide (x = b.nm) && glB Γ.sc x && chkA P es Γ (a :: as)
    | _ => false
  | .bm b o es, Γ, e => match e with
    | .Call (.Attribute x nm ap) as [] p => decide (nm = b.nm) && nosup x && (ap.endLine == p.line) && decide (es.len < 30) && chkE P o Γ x && chkA P es Γ as
    | _ => false
  | .isi a cs, Γ, e => match e with
    | .Call (.Name f _) as [] _ => (match isiF as with
      | some (x, y) => decide (f = "isinstance") && glB Γ.sc f && nostar x && chkE P a Γ x && isiC P Γ cs y
      | none => false)
    | _ => false
  | .lc tg it qs el, Γ, e => match e with
    | .ListComp x [⟨t, iter, ifs, 0⟩] scope _ => noset iter && blkC Γ.N Γ.sc scope (ownL tg t) && decide ((ownL tg t).map (·.2) = tg.slots) && tgB (Γ.blk scope) tg t && chkI P it Γ t iter && chkQs P qs (Γ.blk scope) ifs && chkE P el (Γ.blk scope) x
    | _ => false
  | .lrg tup es, Γ, e => match e with
    | .Call (.Name f _) [.Call (.Name r _) as [] _] [] _ => decide (f = if tup = true then ("tuple" : Str) else ("list" : Str)) && glB Γ.sc f && decide (r = "range") && glB Γ.sc r && chkA P es Γ as && (decide (es.len = 1) || decide (es.len = 2))
    | _ => false
  | .lc2 tg it qs tg1 it1 qs1 el, Γ, e => match e with
    | .ListComp x [⟨t, iter, ifs, 0⟩, ⟨t1, iter1, ifs1, 0⟩] scope _ => noset iter && noset iter1 && blkC Γ.N Γ.sc scope (ownL tg t ++ ownL tg1 t1) && decide ((ownL tg t ++ ownL tg1 t1).map (·.2) = tg.slots ++ tg1.slots) && tgB (Γ.blk scope) tg t && tgB (Γ.blk scope) tg1 t1 && chkI P it Γ t iter && chkI P it1 (Γ.blk scope) t1 iter1 && chkQs P qs (Γ.blk scope) ifs && chkQs P qs1 (Γ.blk scope) ifs1 && chkE P el (Γ.blk scope) x
    | _ => false
  | .dsp tup es, Γ, e => match e with
    | .List l _ => !tup && chkDs P es Γ l
    | .Tuple l _ _ => tup && chkDs P es Γ l
    | _ => false
  | .exf i f, Γ, e => match e with
    | .Attribute (.Name x _) n _ => decide (n = nmOf P.nms f) && decide (Γ.N[i]? = some x) && visB Γ.sc x && okN x
    | _ => false
  | .exi i c, Γ, e => match e with
    | .Call (.Name f _) [.Name x _, .Name y _] [] _ => decide (f = "isinstance") && glB Γ.sc f && decide (Γ.N[i]? = some x) && visB Γ.sc x && okN x && clB P Γ (.own c) y
    | _ => false
  | .rev a, Γ, e => match e with
    | .Subscript x (.Slice none none (some (.UnaryOp .USub (.Constant (.int 1) _ _) _)) _) _ => chkE P a Γ x
    | _ => false
  | .bits a, Γ, e => match e with
    | .Call (.Attribute x nm ap) [] [] p => decide (nm = "bit_length") && nosup x && (ap.endLine == p.line) && chkE P a Γ x
    | _ => false
  | .ocm ne n a b, Γ, e => match e with
    | .Compare x [op] [y] _ => decide (op = if ne = true then .NotEq else .Eq) && !behindInMarks op y && decide (nmOf P.nms n = "__eq__") && eqB P n && chkE P a Γ x && chkE P b Γ y
    | _ => false
  | .gix i a, Γ, e => match e with
    | .Call (.Attribute (.Name x _) n ap) [y] [] p => decide (n = "index") && decide (P.gns[i]? = some x) && glB Γ.sc x && isTup P.sg.glo[i]? && nostar y && (ap.endLine == p.line) && chkE P a Γ y
    | _ => false
def chkA (P : Pg) : IA → Gm → List Expr → Bool
  | .nil, _, l => l.isEmpty
  | .cons i is, Γ, l => match l with
    | e :: es => nostar e && chkE P i Γ e && chkA P is Γ es
    | [] => false
def chkDs (P : Pg) : ID → Gm → List Expr → Bool
  | .nil, _, l => l.isEmpty
  | .cons i is, Γ, l => match l with
    | e :: es => nostar e && chkE P i Γ e && chkDs P is Γ es
    | [] => false
  | .star i is, Γ, l => match l with
    | .Starred e _ :: es => chkE P i Γ e && chkDs P is Γ es
    | _ => false
def chkD (P : Pg) : IA → Gm → List (Option Expr) → List Expr → Bool
  | .nil, _, ks, vs => ks.isEmpty && vs.isEmpty
  | .cons i (.cons j is), Γ, ks, vs => match ks, vs with
    | some k :: ks, v :: vs => chkE P i Γ k && chkE P j Γ v && chkD P is Γ ks vs
    | _, _ => false
  | .cons _ .nil, _, _, _ => false
def chkK (P : Pg) : IA → Gm → List Keyword → Bool
  | .nil, _, l => l.isEmpty
  | .cons i is, Γ, l => match l with
    | ⟨_, e, _⟩ :: es => chkE P i Γ e && chkK P is Γ es
    | [] => false
def chkO (P : Pg) : IOp → Gm → Option Expr → Bool
  | .no, _, o => o.isNone
  | .so i, Γ, o => match o with
    | some e => chkE P i Γ e
    | none => false
def chkQ (P : Pg) : IQ → Gm → Expr → Bool
  | .val i, Γ, e => plainT e && chkE P i Γ e
  | .cmp o a b, Γ, e => match e with
    | .Compare x [op] [y] _ => decide (op = o.op) && !behindInMarks op y && chkE P a Γ x && chkE P b Γ y
    | _ => false
  | .chn o o' a b c, Γ, e => match e with
    | .Compare x [op, op'] [y, z] _ => decide (op = o.op) && decide (op' = o'.op) && !lastMarks [op, op'] [y, z] && chkE P a Γ x && chkE P b Γ y && chkE P c Γ z
    | _ => false
  | .ocm ne n a b, Γ, e => match e with
    | .Compare x [op] [y] _ => decide (op = if ne = true then .NotEq else .Eq) && !behindInMarks op y && decide (nmOf P.nms n = "__eq__") && eqB P n && chkE P a Γ x && chkE P b Γ y
    | _ => false
  | .ch3 o o' o'' a b c d, Γ, e => match e with
    | .Compare x [op, op', op''] [y, z, w] _ => decide (op = o.op) && decide (op' = o'.op) && decide (op'' = o''.op) && !lastMarks [op, op', op''] [y, z, w] && chkE P a Γ x && chkE P b Γ y && chkE P c Γ z && chkE P d Γ w
    | _ => false
  | .and qs, Γ, e => match e with
    | .BoolOp .And l _ => chkQl P qs Γ l && !l.isEmpty
    | _ => false
  | .or qs, Γ, e => match e with
    | .BoolOp .Or l _ => chkQl P qs Γ l && !l.isEmpty
    | _ => false
  | .not q, Γ, e => match e with
    | .UnaryOp .Not x _ => chkQ P q Γ x
    | _ => false
def chkQl (P : Pg) : IQs → Gm → List Expr → Bool
  | .nil, _, l => l.isEmpty
  | .cons i is, Γ, l => match l with
    | e :: es => chkQ P i Γ e && chkQl P is Γ es
    | [] => false
def chkQs (P : Pg) : IQs → Gm → List Expr → Bool
  | .nil, _, l => l.isEmpty
  | .cons i is, Γ, l => match is with
    | .nil => (match l with
      | [e] => chkQ P i Γ e
      | _ => false)
    | .cons _ _ => false
def chkI (P : Pg) : IT → Gm → Expr → Expr → Bool
  | .val i, Γ, _, e => chkE P i Γ e
  | .rng es, Γ, _, e => match e with
    | .Call (.Name x _) as [] _ => decide (x = "range") && glB Γ.sc x && chkA P es Γ as && (decide (es.len = 1) || decide (es.len = 2) || decide (es.len = 3))
    | _ => false
  | .enm i, Γ, t, e => match t, e with
    | .Tuple _ _ _, .Call (.Name x _) [a] [] _ => decide (x = "enumerate") && glB Γ.sc x && nostar a && chkE P i Γ a
    | _, _ => false
  | .zip i j, Γ, t, e => match t, e with
    | .Tuple _ _ _, .Call (.Name x _) [a, b] [] _ => decide (x = "zip") && glB Γ.sc x && nostar a && nostar b && chkE P i Γ a && chkE P j Γ b
    | _, _ => false
end
section
variable {P : Pg} {F : Fx} {k : Nat} {cs : CF} {m : Bool}
theorem chkA_len : ∀ {es : IA} {Γ : Gm} {l : List Expr}, chkA P es Γ l = true → l.length = es.len ∧ l.all nostar = true
  | .nil, Γ, l, h => by
    cases l with
    | nil => exact ⟨rfl, rfl⟩
    | cons _ _ => cases h
  | .cons i is, Γ, l, h => by
    cases l with
    | nil => cases h
    | cons e es =>
      have h' : (nostar e && chkE P i Γ e && chkA P is Γ es) = true := h
      simp only [Bool.and_eq_true] at h'
      obtain ⟨⟨h1, _⟩, h3⟩ := h'
      obtain ⟨g1, g2⟩ := chkA_len h3
      exact ⟨congrArg Nat.succ g1, by rw [List.all_cons, h1, g2]; rfl⟩
theorem vac {xa : XA} {W : WX} {X : Cx} {i : IE} {e : Expr} (h : ∀ s h, evE F.D.sg m cs i s h = .no) : PE X e (sE F.D xa m cs i W) := ⟨fun pins s σ H Q I ⟨ρ, ih, sl, hr, l, p⟩ => by
  rw [h] at p
  exact p.elim⟩
end
end Itp

/-! ItS: what the checker of expressions passes is so. -/
namespace Itp
open PySem PySem.Spec PyProof.Rows L2
section
variable {P : Pg} {F : Fx} {k : Nat} {cs : CF} {m : Bool}
theorem XOk.nmE {xa : XA} {Γ : Gm} {W : WX} {X : Cx} (o : XOk P F k cs m xa Γ W X) (f : Nat) : nmOf P.nms f = F.D.nm f := by rw [o.pg.nm]
theorem XOk.injE {xa : XA} {Γ : Gm} {W : WX} {X : Cx} (o : XOk P F k cs m xa Γ W X) : ∀ f g, F.D.nm f = F.D.nm g → f = g := o.pg.inj
theorem XOk.fldE {xa : XA} {Γ : Gm} {W : WX} {X : Cx} (o : XOk P F k cs m xa Γ W X) : ∀ c f, F.D.sg.fd c f = true → Cls X.K (F.D.cA c) ∧ NoAttr X.K (F.D.cA c) (F.D.nm f) := fun c f h => by
  rw [o.K]
  exact o.pg.fld c f (by rw [← o.pg.sg]; exact h)
theorem XOk.defE {xa : XA} {Γ : Gm} {W : WX} {X : Cx} (o : XOk P F k cs m xa Γ W X) {f : Nat} (h : f < P.defs.length) : FnC F.D X k cs f (F.fA f) (F.fD f) (F.fP f) := o.fc f _ (List.getElem?_eq_getElem h)
theorem rm1 {k : Nat} {A : Around} (r : RoomI (k + 1) A) : RoomI k A := r.mono (Nat.le_succ k)
theorem held_no {xa : XA} {W : WX} {X : Cx} {i : IE} {e : Expr} (hx : xa = none) (h : ∀ (s : En) (ih : IH), (∀ (j c : Nat) (y : IV), s[j]? ≠ some (Sl.x c y)) → evE F.D.sg m cs i s ih = .no) : PE X e (sE F.D xa m cs i W) := ⟨fun pins s σ H Q I ⟨ρ, ih, sl, hr, l, p⟩ => by
  subst hx
  have e : evE F.D.sg m cs i sl ih = .no := h sl ih fun j c y z => by
    obtain ⟨w, _, g⟩ := l.at_ j _ z
    obtain ⟨_, _, g, _⟩ := g
    cases g
  rw [e] at p
  exact p.elim⟩
theorem exi_form {as : List Expr} {kws : List Keyword} {f : Str} {p2 p : Pos} {Γ : Gm} {i dc : Nat} (h : chkE P (.exi i dc) Γ (.Call (.Name f p2) as kws p) = true) : ∃ x p3 y p4, as = [.Name x p3, .Name y p4] ∧ kws = [] := by
  have h' : (match Expr.Call (.Name f p2) as kws p with
    | .Call (.Name f _) [.Name x _, .Name y _] [] _ => decide (f = "isinstance") && glB Γ.sc f && decide (Γ.N[i]? = some x) && visB Γ.sc x && okN x && clB P Γ (.own dc) y
    | _ => false) = true := h
  split at h'
  · rename_i e
    cases e
    exact ⟨_, _, _, _, rfl, rfl⟩
  · cases h'
theorem lc_form {tg : Tg} {it : IT} {qs : IQs} {el : IE} {x : Expr} {gens : List Comprehension} {scope : Scope} {p : Pos} {Γ : Gm} (h : chkE P (.lc tg it qs el) Γ (.ListComp x gens scope p) = true) : ∃ t iter ifs, gens = [⟨t, iter, ifs, 0⟩] := by
  have h' : (match Expr.ListComp x gens scope p with
    | .ListComp x [⟨t, iter, ifs, 0⟩] scope _ => noset iter && blkC Γ.N Γ.sc scope (ownL tg t) && decide ((ownL tg t).map (·.2) = tg.slots) && tgB (Γ.blk scope) tg t && chkI P it Γ t iter && chkQs P qs (Γ.blk scope) ifs && chkE P el (Γ.blk scope) x
    | _ => false) = true := h
  split at h'
  · rename_i e
    cases e
    exact ⟨_, _, _, rfl⟩
  · cases h'
theorem lc2_form {tg tg1 : Tg} {it it1 : IT} {qs qs1 : IQs} {el : IE} {x : Expr} {gens : List Comprehension} {scope : Scope} {p : Pos} {Γ : Gm} (h : chkE P (.lc2 tg it qs tg1 it1 qs1 el) Γ (.ListComp x gens scope p) = true) : ∃ t iter ifs t1 iter1 ifs1, gens = [⟨t, iter, ifs, 0⟩, ⟨t1, iter1, ifs1, 0⟩] ∧
    (noset iter && noset iter1 && blkC Γ.N Γ.sc scope (ownL tg t ++ ownL tg1 t1) && decide ((ownL tg t ++ ownL tg1 t1).map (·.2) = tg.slots ++ tg1.slots) && tgB (Γ.blk scope) tg t && tgB (Γ.blk scope) tg1 t1 && chkI P it Γ t iter && chkI P it1 (Γ.blk scope) t1 iter1 && chkQs P qs (Γ.blk scope) ifs && chkQs P qs1 (Γ.blk scope) ifs1 && chkE P el (Γ.blk scope) x) = true := by
  unfold chkE at h
  split at h
  · rename_i e
    cases e
    exact ⟨_, _, _, _, _, _, rfl, h⟩
  · cases h
theorem lc2_list {tg tg1 : Tg} {it it1 : IT} {qs qs1 : IQs} {el : IE} {e : Expr} {Γ : Gm} (h : chkE P (.lc2 tg it qs tg1 it1 qs1 el) Γ e = true) : ∃ x gens scope p, e = .ListComp x gens scope p := by
  unfold chkE at h
  split at h
  · exact ⟨_, _, _, _, rfl⟩
  · cases h
theorem lrg_form {tup : Bool} {es : IA} {Γ : Gm} {e : Expr} (h : chkE P (.lrg tup es) Γ e = true) : ∃ f p1 r p2 as p3 p, e = .Call (.Name f p1) [.Call (.Name r p2) as [] p3] [] p ∧ (decide (f = if tup = true then ("tuple" : Str) else ("list" : Str)) && glB Γ.sc f && decide (r = "range") && glB Γ.sc r && chkA P es Γ as && (decide (es.len = 1) || decide (es.len = 2))) = true := by
  unfold chkE at h
  split at h
  · exact ⟨_, _, _, _, _, _, _, rfl, h⟩
  · cases h
theorem dsp_form {tup : Bool} {es : ID} {Γ : Gm} {e : Expr} (h : chkE P (.dsp tup es) Γ e = true) : (∃ l p, e = .List l p ∧ tup = false ∧ chkDs P es Γ l = true) ∨ ∃ l n p, e = .Tuple l n p ∧ tup = true ∧ chkDs P es Γ l = true := by
  unfold chkE at h
  split at h
  · simp only [Bool.and_eq_true, Bool.not_eq_true'] at h
    exact .inl ⟨_, _, rfl, h.1, h.2⟩
  · simp only [Bool.and_eq_true] at h
    exact .inr ⟨_, _, _, rfl, h.1, h.2⟩
  · cases h
theorem rev_form {a : IE} {Γ : Gm} {e : Expr} (h : chkE P (.rev a) Γ e = true) : ∃ x k p1 p2 p3 p, e = .Subscript x (.Slice none none (some (.UnaryOp .USub (.Constant (.int 1) k p1) p2)) p3) p ∧ chkE P a Γ x = true := by
  unfold chkE at h
  split at h
  · exact ⟨_, _, _, _, _, _, rfl, h⟩
  · cases h
theorem bits_form {a : IE} {Γ : Gm} {e : Expr} (h : chkE P (.bits a) Γ e = true) : ∃ x nm ap p, e = .Call (.Attribute x nm ap) [] [] p ∧ (decide (nm = "bit_length") && nosup x && (ap.endLine == p.line) && chkE P a Γ x) = true := by
  unfold chkE at h
  split at h
  · exact ⟨_, _, _, _, rfl, h⟩
  · cases h
theorem ch3_form {o o' o'' : C2} {a b c d : IE} {Γ : Gm} {e : Expr} (h : chkQ P (.ch3 o o' o'' a b c d) Γ e = true) : ∃ x op op' op'' y z w p, e = .Compare x [op, op', op''] [y, z, w] p ∧ (decide (op = o.op) && decide (op' = o'.op) && decide (op'' = o''.op) && !lastMarks [op, op', op''] [y, z, w] && chkE P a Γ x && chkE P b Γ y && chkE P c Γ z && chkE P d Γ w) = true := by
  unfold chkQ at h
  split at h
  · exact ⟨_, _, _, _, _, _, _, _, rfl, h⟩
  · cases h
mutual
theorem sndE : ∀ (i : IE) {e : Expr} {xa : XA} {Γ : Gm} {W : WX} {X : Cx}, XOk P F k cs m xa Γ W X → chkE P i Γ e = true → PE X e (sE F.D xa m cs i W)
  | .var i, e, xa, Γ, W, X, o, h => by
    cases e with
    | Name x p =>
      have h' : (decide (Γ.N[i]? = some x) && visB Γ.sc x && okN x) = true := h
      simp only [Bool.and_eq_true, decide_eq_true_eq] at h'
      obtain ⟨⟨h1, h2⟩, h3⟩ := h'
      exact L_var (by rw [o.N]; exact h1) (o.vis h2) (okN_ok h3).1 (okN_ok h3).2
    | _ => cases h
  | .lit v, e, xa, Γ, W, X, o, h => by
    cases e with
    | Constant c j p =>
      have h' : litB v c = true := h
      unfold litB at h'
      split at h'
      · rw [of_decide_eq_true h']; exact L_int
      · rw [of_decide_eq_true h']; exact L_bl
      · exact L_non
      · rw [of_decide_eq_true h']; exact L_str
      · cases h'
    | _ => cases h
  | .glo i, e, xa, Γ, W, X, o, h => by
    cases e with
    | Name x p =>
      have h' : (decide (P.gns[i]? = some x) && glB Γ.sc x && decide (i < P.sg.glo.length)) = true := h
      simp only [Bool.and_eq_true, decide_eq_true_eq] at h'
      obtain ⟨⟨h1, h2⟩, _⟩ := h'
      obtain ⟨g1, g2⟩ := o.gl h2
      exact L_glo g1 (fun y hy => o.pg.glo i x y h1 (by rw [← o.pg.sg]; exact hy)) g2
    | _ => cases h
  | .bin op a b, e, xa, Γ, W, X, o, h => by
    cases e with
    | BinOp x op' y p =>
      have h' : (decide (op' = op.op) && chkE P a Γ x && chkE P b Γ y) = true := h
      simp only [Bool.and_eq_true, decide_eq_true_eq] at h'
      obtain ⟨⟨rfl, h1⟩, h2⟩ := h'
      exact L_bin o.K op (sndE a o h1) (sndE b o h2)
    | _ => cases h
  | .neg a, e, xa, Γ, W, X, o, h => by
    cases e with
    | UnaryOp op x p =>
      cases op with
      | USub => exact L_neg (sndE a o h)
      | _ => cases h
    | _ => cases h
  | .inv a, e, xa, Γ, W, X, o, h => by
    cases e with
    | UnaryOp op x p =>
      cases op with
      | Invert => exact L_inv (sndE a o h)
      | _ => cases h
    | _ => cases h
  | .not a, e, xa, Γ, W, X, o, h => by
    cases e with
    | UnaryOp op x p =>
      cases op with
      | Not => exact L_not o.K (sndE a o h)
      | _ => cases h
    | _ => cases h
  | .cmp op a b, e, xa, Γ, W, X, o, h => by
    cases e with
    | Compare x ops ys p =>
      match ops, ys, h with
      | [op'], [y], h =>
        have h' : (decide (op' = op.op) && !behindInMarks op' y && chkE P a Γ x && chkE P b Γ y) = true := h
        simp only [Bool.and_eq_true, decide_eq_true_eq, Bool.not_eq_true'] at h'
        obtain ⟨⟨⟨rfl, h0⟩, h1⟩, h2⟩ := h'
        exact L_cmp o.K o.u op (sndE a o h1) (sndE b o h2) h0
      | [], _, h => cases h
      | [_], [], h => cases h
      | [_], _ :: _ :: _, h => cases h
      | _ :: _ :: _, _, h => cases h
    | _ => cases h
  | .chn op op2 a b c, e, xa, Γ, W, X, o, h => by
    cases e with
    | Compare x ops ys p =>
      match ops, ys, h with
      | [o1, o2], [y, z], h =>
        have h' : (decide (o1 = op.op) && decide (o2 = op2.op) && !lastMarks [o1, o2] [y, z] && chkE P a Γ x && chkE P b Γ y && chkE P c Γ z) = true := h
        simp only [Bool.and_eq_true, decide_eq_true_eq, Bool.not_eq_true'] at h'
        obtain ⟨⟨⟨⟨⟨rfl, rfl⟩, h0⟩, h1⟩, h2⟩, h3⟩ := h'
        exact L_chn o.K o.u op op2 (sndE a o h1) (sndE b o h2) (sndE c o h3) h0
      | [], _, h => cases h
      | [_], _, h => cases h
      | [_, _], [], h => cases h
      | [_, _], [_], h => cases h
      | [_, _], _ :: _ :: _ :: _, h => cases h
      | _ :: _ :: _ :: _, _, h => cases h
    | _ => cases h
  | .and es, e, xa, Γ, W, X, o, h => by
    cases e with
    | BoolOp op l p =>
      cases op with
      | And =>
        obtain ⟨h1, h2⟩ := Bool.and_eq_true_iff.mp (show (chkA P es Γ l && !l.isEmpty) = true from h)
        exact sndAnd es o h1 (by simpa using h2)
      | Or => cases h
    | _ => cases h
  | .or es, e, xa, Γ, W, X, o, h => by
    cases e with
    | BoolOp op l p =>
      cases op with
      | Or =>
        obtain ⟨h1, h2⟩ := Bool.and_eq_true_iff.mp (show (chkA P es Γ l && !l.isEmpty) = true from h)
        exact sndOr es o h1 (by simpa using h2)
      | And => cases h
    | _ => cases h
  | .ife t a b, e, xa, Γ, W, X, o, h => by
    cases e with
    | IfExp c x y p =>
      have h' : (chkQ P t Γ c && chkE P a Γ x && chkE P b Γ y) = true := h
      simp only [Bool.and_eq_true] at h'
      obtain ⟨⟨h0, h1⟩, h2⟩ := h'
      exact L_ife (sndQ t o h0) (sndE a o h1) (sndE b o h2)
    | _ => cases h
  | .tup es, e, xa, Γ, W, X, o, h => by
    cases e with
    | Tuple l n p => exact L_tup (sndA es o h)
    | _ => cases h
  | .lst es, e, xa, Γ, W, X, o, h => by
    cases e with
    | List l p => exact L_lst (sndA es o h)
    | _ => cases h
  | .dic (.cons i .nil) b, e, xa, Γ, W, X, o, h => by
    cases b with
    | cons _ _ => cases h
    | nil =>
      cases e with
      | Dict ks vs p =>
        have h' : (false && decide (ks.length ≤ 15)) = true := h
        cases h'
      | _ => cases h
  | .dic (.cons i (.cons j is)) b, e, xa, Γ, W, X, o, h => by
    cases b with
    | cons _ _ => cases h
    | nil =>
      cases e with
      | Dict ks vs p =>
        have h' : (chkD P (.cons i (.cons j is)) Γ ks vs && decide (ks.length ≤ 15)) = true := h
        simp only [Bool.and_eq_true, decide_eq_true_eq] at h'
        obtain ⟨h1, h2⟩ := h'
        match ks, vs, h1, h2 with
        | some k :: ks, v :: vs, h1, h2 =>
          have h3 : (chkE P i Γ k && chkE P j Γ v && chkD P is Γ ks vs) = true := h1
          simp only [Bool.and_eq_true] at h3
          obtain ⟨⟨g1, g2⟩, g3⟩ := h3
          obtain ⟨ts, g4⟩ := sndD is o g3
          exact L_dic (.cons (sndE i o g1) (sndE j o g2) g4) h2
        | none :: _, _, h1, _ => cases h1
        | [], _, h1, _ => cases h1
        | some _ :: _, [], h1, _ => cases h1
      | _ => cases h
  | .dic .nil b, e, xa, Γ, W, X, o, h => by
    cases b with
    | cons _ _ => cases h
    | nil =>
      cases e with
      | Dict ks vs p =>
        match ks, vs, h with
        | [], [], _ => exact L_dic0
        | [], _ :: _, h => cases h
        | _ :: _, _, h => cases h
      | _ => cases h
  | .idx a b, e, xa, Γ, W, X, o, h => by
    cases e with
    | Subscript x y p =>
      have h' : (noslice y && chkE P a Γ x && chkE P b Γ y) = true := h
      simp only [Bool.and_eq_true] at h'
      obtain ⟨⟨h0, h1⟩, h2⟩ := h'
      exact L_idx o.K o.u (sndE a o h1) (sndE b o h2) (plainIx_ok h0)
    | _ => cases h
  | .sl a lo hi, e, xa, Γ, W, X, o, h => by
    cases e with
    | Subscript x y p =>
      cases y with
      | Slice l u st p2 =>
        cases st with
        | none =>
          have h' : (chkE P a Γ x && chkO P lo Γ l && chkO P hi Γ u) = true := h
          simp only [Bool.and_eq_true] at h'
          obtain ⟨⟨h0, h1⟩, h2⟩ := h'
          exact L_sl o.K (sndE a o h0) (sndO lo o h1) (sndO hi o h2)
        | some _ => cases h
      | _ => cases h
    | _ => cases h
  | .fld a f, e, xa, Γ, W, X, o, h => by
    cases e with
    | Attribute x n p =>
      have h' : (decide (n = nmOf P.nms f) && nosup x && chkE P a Γ x) = true := h
      simp only [Bool.and_eq_true, decide_eq_true_eq] at h'
      obtain ⟨⟨rfl, h1⟩, h2⟩ := h'
      rw [o.nmE]
      exact L_fld o.injE o.fldE (sndE a o h2) (base_ok h1)
    | _ => cases h
  | .call f es ks bs, e, xa, Γ, W, X, o, h => by
    by_cases hm : m = true
    · exact vac fun s h => if_pos hm
    have mf : m = false := by simpa using hm
    cases e with
    | Call fe as kws p =>
      cases fe with
      | Name x p2 =>
        have h' : (decide (P.fns[f]? = some (some x)) && glB Γ.sc x && kwB P f es.len ks.len bs kws && chkA P es Γ as && chkK P ks Γ kws) = true := h
        simp only [Bool.and_eq_true, decide_eq_true_eq] at h'
        obtain ⟨⟨⟨⟨h1, h2⟩, h3⟩, h4⟩, h5⟩ := h'
        obtain ⟨g1, g2⟩ := o.gl h2
        obtain ⟨f1, f2, f3⟩ := o.pg.fns f x h1
        obtain ⟨a1, a2⟩ := chkA_len h4
        unfold kwB at h3
        split at h3
        · rename_i ns hn
          simp only [Bool.and_eq_true, decide_eq_true_eq] at h3
          exact L_call o.K o.tk (rm1 (o.rm mf)) (o.defE f3) (o.pg.bnd f _ _ _ (hasB_ok h3.2)) g1 f1 (by rw [o.K]; exact f2) a1 (sndA es o h4) (sndK ks o h5) a2 hn h3.1 g2
        · cases h3
      | _ => cases h
    | _ => cases h
  | .lrg tup es, e, xa, Γ, W, X, o, h => by
    obtain ⟨f, p1, r, p2, as, p3, p, rfl, h'⟩ := lrg_form h
    clear h
    simp only [Bool.and_eq_true, Bool.or_eq_true, decide_eq_true_eq] at h'
    obtain ⟨⟨⟨⟨⟨rfl, h1⟩, rfl⟩, h2⟩, h3⟩, h4⟩ := h'
    obtain ⟨a1, a2⟩ := chkA_len h3
    have g1 := (o.gl h1).1
    have g2 := (o.gl h2).1
    have m1 : X.mg (if tup = true then "tuple" else "list") = none := by
      cases tup
      · exact o.pg.fre "list" (by decide)
      · exact o.pg.fre "tuple" (by decide)
    have m2 := o.pg.fre "range" (by decide)
    cases es with
    | nil => rcases h4 with z | z <;> cases z
    | cons i1 is =>
      cases as with
      | nil => cases a1
      | cons e1 es1 =>
        have h3' : (nostar e1 && chkE P i1 Γ e1 && chkA P is Γ es1) = true := h3
        simp only [Bool.and_eq_true] at h3'
        cases is with
        | nil =>
          cases es1 with
          | cons _ _ => cases a1
          | nil => exact L_lrg1 o.calm g1 m1 g2 m2 (sndE i1 o h3'.1.2) h3'.1.1
        | cons i2 is =>
          cases is with
          | cons _ _ => rcases h4 with z | z <;> cases z
          | nil =>
            cases es1 with
            | nil => cases a1
            | cons e2 es2 =>
              have h3'' : (nostar e2 && chkE P i2 Γ e2 && chkA P .nil Γ es2) = true := h3'.2
              simp only [Bool.and_eq_true] at h3''
              cases es2 with
              | cons _ _ => cases a1
              | nil => exact L_lrg2 o.calm g1 m1 g2 m2 (sndE i1 o h3'.1.2) (sndE i2 o h3''.1.2) h3'.1.1 h3''.1.1
  | .lc2 tg it qs tg1 it1 qs1 el, e, xa, Γ, W, X, o, h => by
    by_cases hm : m = true
    · exact vac fun s h => if_pos hm
    have mf : m = false := by simpa using hm
    obtain ⟨x, gens, scope, p, rfl⟩ := lc2_list h
    obtain ⟨t, iter, ifs, t1, iter1, ifs1, rfl, h'⟩ := lc2_form h
    clear h
    simp only [Bool.and_eq_true, decide_eq_true_eq] at h'
    obtain ⟨⟨⟨⟨⟨⟨⟨⟨⟨⟨h1, h2⟩, h3⟩, h4⟩, h5⟩, h6⟩, h7⟩, h8⟩, h9⟩, h10⟩, h11⟩ := h'
    have ok : BlkOk X.N X.env.scope scope (ownL tg t ++ ownL tg1 t1) := by
      rw [o.N, o.sc]
      exact blkOk_by h3
    exact L_lc2 o.calm o.nd (sndI it o h7) ok h4 (fun s H C cl fp => (o.blk mf ok.kind s H C cl fp).tg mf h5) (fun s H C cl fp => sndQs qs (o.blk mf ok.kind s H C cl fp) h9) (fun s H C cl fp => sndI it1 (o.blk mf ok.kind s H C cl fp) h8) (fun s H C cl fp => (o.blk mf ok.kind s H C cl fp).tg mf h6) (fun s H C cl fp => sndQs qs1 (o.blk mf ok.kind s H C cl fp) h10) (fun s H C cl fp => sndE el (o.blk mf ok.kind s H C cl fp) h11) h1 h2
  | .dsp tup es, e, xa, Γ, W, X, o, h => by
    rcases dsp_form h with ⟨l, p, rfl, rfl, h1⟩ | ⟨l, n, p, rfl, rfl, h1⟩
    · exact L_dspL (sndDs es o h1)
    · exact L_dspT (sndDs es o h1)
  | .rev a, e, xa, Γ, W, X, o, h => by
    obtain ⟨x, k, p1, p2, p3, p, rfl, h1⟩ := rev_form h
    exact L_rev o.K (sndE a o h1)
  | .bits a, e, xa, Γ, W, X, o, h => by
    obtain ⟨x, nm, ap, p, rfl, h1⟩ := bits_form h
    simp only [Bool.and_eq_true, decide_eq_true_eq] at h1
    obtain ⟨⟨⟨rfl, h2⟩, h3⟩, h4⟩ := h1
    exact L_bits (sndE a o h4) h2 h3
  | .ocm ne n a b, e, xa, Γ, W, X, o, h => by
    cases e with
    | Compare x ops ys p =>
      match ops, ys, h with
      | [op'], [y], h =>
        have h' : (decide (op' = if ne = true then .NotEq else .Eq) && !behindInMarks op' y && decide (nmOf P.nms n = "__eq__") && eqB P n && chkE P a Γ x && chkE P b Γ y) = true := h
        simp only [Bool.and_eq_true, decide_eq_true_eq, Bool.not_eq_true'] at h'
        obtain ⟨⟨⟨⟨⟨rfl, h2⟩, h3⟩, h4⟩, h5⟩, h6⟩ := h'
        refine L_ocm o.K o.pg.isf o.rm o.u (fun mf c f hm => ?_) (fun _ c f hm => ?_) (sndE a o h5) (sndE b o h6) h2
        · rw [o.pg.sg] at hm
          obtain ⟨g1, g2, g3⟩ := o.pg.mts c n f hm
          obtain ⟨g4, _⟩ := o.pg.eqs c n f hm
          have g2' : Meth F.D.K (F.D.cA c) "__eq__" (F.fA f) := by
            rw [o.pg.nm, h3] at g2
            exact g2
          unfold Sg.mt at hm
          cases hc : P.sg.cls[c]? with
          | none => rw [hc] at hm; cases hm
          | some ki =>
            rw [hc] at hm
            have h10 := List.all_eq_true.mp h4 ki (List.mem_of_getElem? hc)
            have hm : ki.mts.lookup n = some f := hm
            rw [hm] at h10
            exact ⟨F.fA f, F.fD f, F.fP f, by rw [o.K]; exact g2', o.defE g3, o.pg.bnd f _ _ _ (hasB_ok h10), by rw [o.pg.sg]; exact g4⟩
        · rw [o.pg.sg] at hm
          rw [o.K]
          exact (o.pg.eqs c n f hm).2 h3
      | [], _, h => cases h
      | [_], [], h => cases h
      | [_], _ :: _ :: _, h => cases h
      | _ :: _ :: _, _, h => cases h
    | _ => cases h
  | .meth n ob es ks bs, e, xa, Γ, W, X, o, h => by
    by_cases hm : m = true
    · exact vac fun s h => if_pos hm
    have mf : m = false := by simpa using hm
    cases e with
    | Call fe as kws p =>
      cases fe with
      | Attribute x nm ap =>
        have h' : (decide (nm = nmOf P.nms n) && nosup x && (ap.endLine == p.line) && mtB P n es.len ks.len bs kws && chkE P ob Γ x && chkA P es Γ as && chkK P ks Γ kws) = true := h
        simp only [Bool.and_eq_true, decide_eq_true_eq] at h'
        obtain ⟨⟨⟨⟨⟨⟨rfl, h1⟩, h2⟩, h3⟩, h4⟩, h5⟩, h6⟩ := h'
        obtain ⟨a1, a2⟩ := chkA_len h5
        rw [o.nmE]
        unfold mtB at h3
        split at h3
        · rename_i ns hn
          simp only [Bool.and_eq_true, decide_eq_true_eq] at h3
          obtain ⟨⟨h7, h8⟩, h9⟩ := h3
          refine L_meth o.injE o.K o.tk (rm1 (o.rm mf)) (fun c f hm => ?_) (sndE ob o h4) h1 a1 (sndA es o h5) (sndK ks o h6) a2 hn h7 (by rw [a1]; exact h8) h2
          rw [o.pg.sg] at hm
          obtain ⟨g1, g2, g3⟩ := o.pg.mts c n f hm
          unfold Sg.mt at hm
          cases hc : P.sg.cls[c]? with
          | none => rw [hc] at hm; cases hm
          | some ki =>
            rw [hc] at hm
            have h10 := List.all_eq_true.mp h9 ki (List.mem_of_getElem? hc)
            have hm : ki.mts.lookup n = some f := hm
            rw [hm] at h10
            exact ⟨F.fA f, F.fD f, F.fP f, by rw [o.K]; exact g1, by rw [o.K]; exact g2, o.defE g3, o.pg.bnd f _ _ _ (hasB_ok h10)⟩
        · cases h3
      | _ => cases h
    | _ => cases h
  | .new c es ks bs, e, xa, Γ, W, X, o, h => by
    by_cases hm : m = true
    · exact vac fun s h => if_pos hm
    have mf : m = false := by simpa using hm
    cases e with
    | Call fe as kws p =>
      cases fe with
      | Name x p2 =>
        have h' : (decide (P.cns[c]? = some x) && glB Γ.sc x && (match (P.sg.cls[c]?).bind (·.ini) with
          | some f => kwB P f (es.len + 1) ks.len bs kws
          | none => false) && chkA P es Γ as && chkK P ks Γ kws) = true := h
        simp only [Bool.and_eq_true, decide_eq_true_eq] at h'
        obtain ⟨⟨⟨⟨h1, h2⟩, h3⟩, h4⟩, h5⟩ := h'
        obtain ⟨g1, g2⟩ := o.gl h2
        obtain ⟨a1, a2⟩ := chkA_len h4
        split at h3
        · rename_i f hi
          obtain ⟨ki, hc, hf⟩ := Option.bind_eq_some_iff.mp hi
          obtain ⟨f1, f2⟩ := o.pg.ini c ki f hc hf
          unfold kwB at h3
          split at h3
          · rename_i ns hn
            simp only [Bool.and_eq_true, decide_eq_true_eq] at h3
            exact L_new (f := f) o.K o.tk (o.rm mf) (by rw [o.pg.sg]; exact hi) rfl (by rw [o.K]; exact f1) (o.defE f2) (o.pg.bnd f _ _ _ (hasB_ok h3.2)) g1 (o.pg.cls c x h1) a1 (sndA es o h4) (sndK ks o h5) a2 hn h3.1 g2
          · cases h3
        · cases h3
      | _ => cases h
    | _ => cases h
  | .bi b es, e, xa, Γ, W, X, o, h => by
    cases e with
    | Call fe as kws p =>
      cases fe with
      | Name x p2 =>
        match as, kws, h with
        | a :: as, [], h =>
          have h' : (decide (x = b.nm) && glB Γ.sc x && chkA P es Γ (a :: as)) = true := h
          simp only [Bool.and_eq_true, decide_eq_true_eq] at h'
          obtain ⟨⟨rfl, h2⟩, h3⟩ := h'
          exact L_bi o.K o.u o.g o.calm b (o.gl h2).1 (o.pg.fre _ (by cases b <;> decide)) (sndA es o h3) (chkA_len h3).2
        | [], _, h => cases h
        | _ :: _, _ :: _, h => cases h
      | _ => cases h
    | _ => cases h
  | .bm b ob es, e, xa, Γ, W, X, o, h => by
    cases e with
    | Call fe as kws p =>
      cases fe with
      | Attribute x nm ap =>
        match kws, h with
        | [], h =>
          have h' : (decide (nm = b.nm) && nosup x && (ap.endLine == p.line) && decide (es.len < 30) && chkE P ob Γ x && chkA P es Γ as) = true := h
          simp only [Bool.and_eq_true, decide_eq_true_eq] at h'
          obtain ⟨⟨⟨⟨⟨rfl, h1⟩, h2⟩, h3⟩, h4⟩, h5⟩ := h'
          obtain ⟨a1, a2⟩ := chkA_len h5
          cases as with
          | nil =>
            cases es with
            | nil => exact L_bm0 o.K b (sndE ob o h4) h1 h2
            | cons _ _ => cases a1
          | cons a as => exact L_bm o.K b (sndE ob o h4) h1 (sndA es o h5) a2 (by rw [a1]; exact h3) h2
        | _ :: _, h => cases h
      | _ => cases h
    | _ => cases h
  | .isi a ks, e, xa, Γ, W, X, o, h => by
    cases e with
    | Call fe as kws p =>
      cases fe with
      | Name f p2 =>
        cases kws with
        | cons _ _ => cases h
        | nil =>
          have h' : (match isiF as with
            | some (x, y) => decide (f = "isinstance") && glB Γ.sc f && nostar x && chkE P a Γ x && isiC P Γ ks y
            | none => false) = true := h
          clear h
          split at h'
          · rename_i x y hf
            simp only [Bool.and_eq_true, decide_eq_true_eq] at h'
            obtain ⟨⟨⟨⟨rfl, h1⟩, h2⟩, h3⟩, h4⟩ := h'
            rcases isiF_ok hf with ⟨c, p3, rfl, rfl⟩ | ⟨l, n, p3, rfl, rfl⟩
            · unfold isiC at h4
              simp only at h4
              split at h4
              · rename_i kk
                obtain ⟨g1, g2⟩ := o.cl h4
                exact L_isi1 o.pg.isf o.K (o.gl h1).1 (o.pg.fre _ (by decide)) (sndE a o h3) h2 g1 g2
              · cases h4
            · unfold isiC at h4
              simp only [Bool.and_eq_true, decide_eq_true_eq] at h4
              obtain ⟨⟨h4, h5⟩, h6⟩ := h4
              obtain ⟨g1, g2⟩ := o.cls h4
              exact L_isiN o.pg.isf o.K (by simpa using h5) (o.gl h1).1 (o.pg.fre _ (by decide)) (sndE a o h3) h2 g1 g2 (by rw [sizeLine_eq]; omega)
          · cases h'
      | _ => cases h
    | _ => cases h
  | .lc tg it qs el, e, xa, Γ, W, X, o, h => by
    cases e with
    | ListComp x gens scope p =>
      by_cases hm : m = true
      · exact vac fun s h => if_pos hm
      · have mf : m = false := by simpa using hm
        obtain ⟨t, iter, ifs, rfl⟩ := lc_form h
        have h' : (noset iter && blkC Γ.N Γ.sc scope (ownL tg t) && decide ((ownL tg t).map (·.2) = tg.slots) && tgB (Γ.blk scope) tg t && chkI P it Γ t iter && chkQs P qs (Γ.blk scope) ifs && chkE P el (Γ.blk scope) x) = true := h
        simp only [Bool.and_eq_true, decide_eq_true_eq] at h'
        obtain ⟨⟨⟨⟨⟨⟨h1, h2⟩, h3⟩, h4⟩, h5⟩, h6⟩, h7⟩ := h'
        have ok : BlkOk X.N X.env.scope scope (ownL tg t) := by
          rw [o.N, o.sc]
          exact blkOk_by h2
        exact L_lc o.calm o.nd (sndI it o h5) ok h3 (fun s H C cl fp => (o.blk mf ok.kind s H C cl fp).tg mf h4) (fun s H C cl fp => sndQs qs (o.blk mf ok.kind s H C cl fp) h6) (fun s H C cl fp => sndE el (o.blk mf ok.kind s H C cl fp) h7) h1
    | _ => cases h
  | .exf i f, e, xa, Γ, W, X, o, h => by
    cases e with
    | Attribute fe n p =>
      cases fe with
      | Name x p2 =>
        have h' : (decide (n = nmOf P.nms f) && decide (Γ.N[i]? = some x) && visB Γ.sc x && okN x) = true := h
        simp only [Bool.and_eq_true, decide_eq_true_eq] at h'
        obtain ⟨⟨⟨rfl, h1⟩, h2⟩, h3⟩ := h'
        rw [o.nmE]
        have hv := o.vis h2
        have hN : X.N[i]? = some x := by rw [o.N]; exact h1
        cases m with
        | false =>
          refine held_no (o.xan rfl) fun s ih hs => ?_
          show (match s[i]? with
            | some (.x c y) => if (F.D.sg.cls[c]?).bind (·.exf) = some f then .ok y ih else .no
            | _ => .no) = R.no
          split
          · rename_i c y e
            exact absurd e (hs i c y)
          · rfl
        | true =>
          obtain ⟨X0, q, ob, pn, c, d, rfl, rfl, hz, hf⟩ := o.su rfl
          exact L_exf (X := X0) o.K o.pg.exf hz hf hN hv (okN_ok h3).1 (okN_ok h3).2
      | _ => cases h
    | _ => cases h
  | .exi i dc, e, xa, Γ, W, X, o, h => by
    cases e with
    | Call fe as kws p =>
      cases fe with
      | Name f p2 =>
        obtain ⟨x, p3, y, p4, rfl, rfl⟩ := exi_form h
        have h' : (decide (f = "isinstance") && glB Γ.sc f && decide (Γ.N[i]? = some x) && visB Γ.sc x && okN x && clB P Γ (.own dc) y) = true := h
        simp only [Bool.and_eq_true, decide_eq_true_eq] at h'
        obtain ⟨⟨⟨⟨⟨rfl, h0⟩, h1⟩, h2⟩, h3⟩, h4⟩ := h'
        have hv := o.vis h2
        have hN : X.N[i]? = some x := by rw [o.N]; exact h1
        obtain ⟨g1, g2⟩ := o.cl h4
        have g0 := (o.gl h0).1
        have hfr := o.pg.fre "isinstance" (by decide)
        cases m with
        | false =>
          refine held_no (o.xan rfl) fun s ih hs => ?_
          show (match s[i]? with
            | some (.x c _) => R.ok (IV.bl (F.D.sg.sub c dc)) ih
            | _ => R.no) = R.no
          split
          · rename_i c y e
            exact absurd e (hs i c y)
          · rfl
        | true =>
          obtain ⟨X0, q, ob, pn, c, d, rfl, rfl, hz, hf⟩ := o.su rfl
          exact L_exi (X := X0) o.K o.pg.exf hz hf hN hv (okN_ok h3).1 (okN_ok h3).2 g0 hfr g2 g1
      | _ => cases h
    | _ => cases h
  | .gix i a, e, xa, Γ, W, X, o, h => by
    cases e with
    | Call fe as kws p =>
      cases fe with
      | Attribute fo n ap =>
        cases fo with
        | Name x p2 =>
          match as, kws, h with
          | [y], [], h =>
            have h' : (decide (n = "index") && decide (P.gns[i]? = some x) && glB Γ.sc x && isTup P.sg.glo[i]? && nostar y && (ap.endLine == p.line) && chkE P a Γ y) = true := h
            simp only [Bool.and_eq_true, decide_eq_true_eq] at h'
            obtain ⟨⟨⟨⟨⟨⟨rfl, h1⟩, h2⟩, h3⟩, h4⟩, h5⟩, h6⟩ := h'
            obtain ⟨g1, g2⟩ := o.gl h2
            obtain ⟨xs, hx⟩ : ∃ xs, P.sg.glo[i]? = some (.tup xs) := by
              unfold isTup at h3
              split at h3
              · rename_i xs hx; exact ⟨xs, hx⟩
              · cases h3
            obtain ⟨ad, ob, us, k1, k2, k3, k4, k5⟩ := o.pg.gtu i x xs h1 hx
            exact L_gix o.K g1 (by rw [o.pg.sg]; exact hx) k1 k2 k3 k4 k5 (sndE a o h6) h4 g2 h5
          | [], _, h => cases h
          | [_], _ :: _, h => cases h
          | _ :: _ :: _, _, h => cases h
        | _ => cases h
      | _ => cases h
    | _ => cases h
theorem sndAnd : ∀ (i : IA) {l : List Expr} {xa : XA} {Γ : Gm} {W : WX} {X : Cx} {pos : Pos}, XOk P F k cs m xa Γ W X → chkA P i Γ l = true → l ≠ [] → PE X (.BoolOp .And l pos) (semE F.D xa (evAnd F.D.sg m cs i) W)
  | .nil, l, xa, Γ, W, X, pos, o, h, hl => by
    cases l with
    | nil => exact absurd rfl hl
    | cons _ _ => cases h
  | .cons i is, l, xa, Γ, W, X, pos, o, h, hl => by
    cases l with
    | nil => cases h
    | cons e es =>
      have h' : (nostar e && chkE P i Γ e && chkA P is Γ es) = true := h
      simp only [Bool.and_eq_true] at h'
      obtain ⟨⟨h1, h2⟩, h3⟩ := h'
      cases is with
      | nil =>
        cases es with
        | nil => exact L_and1 (sndE i o h2)
        | cons _ _ => cases h3
      | cons j js =>
        cases es with
        | nil => cases h3
        | cons e2 es => exact L_and o.K (sndE i o h2) (sndAnd (.cons j js) o h3 (by simp))
theorem sndOr : ∀ (i : IA) {l : List Expr} {xa : XA} {Γ : Gm} {W : WX} {X : Cx} {pos : Pos}, XOk P F k cs m xa Γ W X → chkA P i Γ l = true → l ≠ [] → PE X (.BoolOp .Or l pos) (semE F.D xa (evOr F.D.sg m cs i) W)
  | .nil, l, xa, Γ, W, X, pos, o, h, hl => by
    cases l with
    | nil => exact absurd rfl hl
    | cons _ _ => cases h
  | .cons i is, l, xa, Γ, W, X, pos, o, h, hl => by
    cases l with
    | nil => cases h
    | cons e es =>
      have h' : (nostar e && chkE P i Γ e && chkA P is Γ es) = true := h
      simp only [Bool.and_eq_true] at h'
      obtain ⟨⟨h1, h2⟩, h3⟩ := h'
      cases is with
      | nil =>
        cases es with
        | nil => exact L_or1 (sndE i o h2)
        | cons _ _ => cases h3
      | cons j js =>
        cases es with
        | nil => cases h3
        | cons e2 es => exact L_or o.K (sndE i o h2) (sndOr (.cons j js) o h3 (by simp))
theorem sndDs : ∀ (i : ID) {l : List Expr} {xa : XA} {Γ : Gm} {W : WX} {X : Cx}, XOk P F k cs m xa Γ W X → chkDs P i Γ l = true → PA X l (sDs F.D xa m cs i W)
  | .nil, l, xa, Γ, W, X, o, h => by
    cases l with
    | nil => exact D_nil
    | cons _ _ => cases h
  | .cons i is, l, xa, Γ, W, X, o, h => by
    cases l with
    | nil => cases h
    | cons e es =>
      have h' : (nostar e && chkE P i Γ e && chkDs P is Γ es) = true := h
      simp only [Bool.and_eq_true] at h'
      exact D_cons (sndE i o h'.1.2) (sndDs is o h'.2) (star_ok h'.1.1)
  | .star i is, l, xa, Γ, W, X, o, h => by
    cases l with
    | nil => cases h
    | cons e es =>
      cases e with
      | Starred e p =>
        have h' : (chkE P i Γ e && chkDs P is Γ es) = true := h
        simp only [Bool.and_eq_true] at h'
        exact D_star o.K (sndE i o h'.1) (sndDs is o h'.2)
      | _ => cases h
theorem sndA : ∀ (i : IA) {l : List Expr} {xa : XA} {Γ : Gm} {W : WX} {X : Cx}, XOk P F k cs m xa Γ W X → chkA P i Γ l = true → PA X l (sA F.D xa m cs i W)
  | .nil, l, xa, Γ, W, X, o, h => by
    cases l with
    | nil => exact A_nil
    | cons _ _ => cases h
  | .cons i is, l, xa, Γ, W, X, o, h => by
    cases l with
    | nil => cases h
    | cons e es =>
      have h' : (nostar e && chkE P i Γ e && chkA P is Γ es) = true := h
      simp only [Bool.and_eq_true] at h'
      obtain ⟨⟨h1, h2⟩, h3⟩ := h'
      exact A_cons (sndE i o h2) (sndA is o h3) (star_ok h1)
theorem sndD : ∀ (i : IA) {ks : List (Option Expr)} {vs : List Expr} {xa : XA} {Γ : Gm} {W : WX} {X : Cx}, XOk P F k cs m xa Γ W X → chkD P i Γ ks vs = true → ∃ ts, PrE F.D X xa m cs W i ks vs ts
  | .nil, ks, vs, xa, Γ, W, X, o, h => by
    match ks, vs, h with
    | [], [], _ => exact ⟨[], .nil⟩
    | [], _ :: _, h => cases h
    | _ :: _, _, h => cases h
  | .cons _ .nil, ks, vs, xa, Γ, W, X, o, h => by cases h
  | .cons i (.cons j is), ks, vs, xa, Γ, W, X, o, h => by
    match ks, vs, h with
    | some k :: ks, v :: vs, h =>
      have h3 : (chkE P i Γ k && chkE P j Γ v && chkD P is Γ ks vs) = true := h
      simp only [Bool.and_eq_true] at h3
      obtain ⟨⟨g1, g2⟩, g3⟩ := h3
      obtain ⟨ts, g4⟩ := sndD is o g3
      exact ⟨_, .cons (sndE i o g1) (sndE j o g2) g4⟩
    | none :: _, _, h => cases h
    | [], _, h => cases h
    | some _ :: _, [], h => cases h
theorem sndK : ∀ (i : IA) {l : List Keyword} {xa : XA} {Γ : Gm} {W : WX} {X : Cx}, XOk P F k cs m xa Γ W X → chkK P i Γ l = true → PK X l (sA F.D xa m cs i W)
  | .nil, l, xa, Γ, W, X, o, h => by
    cases l with
    | nil => exact K_nil
    | cons _ _ => cases h
  | .cons i is, l, xa, Γ, W, X, o, h => by
    cases l with
    | nil => cases h
    | cons e es =>
      obtain ⟨n, e, p⟩ := e
      obtain ⟨h1, h2⟩ := Bool.and_eq_true_iff.mp (show (chkE P i Γ e && chkK P is Γ es) = true from h)
      exact K_cons (sndE i o h1) (sndK is o h2)
theorem sndO : ∀ (i : IOp) {l : Option Expr} {xa : XA} {Γ : Gm} {W : WX} {X : Cx}, XOk P F k cs m xa Γ W X → chkO P i Γ l = true → PO X l (sO F.D xa m cs i W)
  | .no, l, xa, Γ, W, X, o, h => by
    cases l with
    | none => exact O_none
    | some _ => cases h
  | .so i, l, xa, Γ, W, X, o, h => by
    cases l with
    | none => cases h
    | some e => exact O_some (sndE i o h)
theorem sndQ : ∀ (i : IQ) {e : Expr} {xa : XA} {Γ : Gm} {W : WX} {X : Cx}, XOk P F k cs m xa Γ W X → chkQ P i Γ e = true → PT X e (sT F.D xa m cs i W)
  | .val i, e, xa, Γ, W, X, o, h => by
    obtain ⟨h1, h2⟩ := Bool.and_eq_true_iff.mp (show (plainT e && chkE P i Γ e) = true from h)
    exact T_val o.K (sndE i o h2) (plainT_ok h1)
  | .cmp op a b, e, xa, Γ, W, X, o, h => by
    cases e with
    | Compare x ops ys p =>
      match ops, ys, h with
      | [op'], [y], h =>
        have h' : (decide (op' = op.op) && !behindInMarks op' y && chkE P a Γ x && chkE P b Γ y) = true := h
        simp only [Bool.and_eq_true, decide_eq_true_eq, Bool.not_eq_true'] at h'
        obtain ⟨⟨⟨rfl, h0⟩, h1⟩, h2⟩ := h'
        exact T_cmp o.K o.u op (sndE a o h1) (sndE b o h2) h0
      | [], _, h => cases h
      | [_], [], h => cases h
      | [_], _ :: _ :: _, h => cases h
      | _ :: _ :: _, _, h => cases h
    | _ => cases h
  | .ocm ne n a b, e, xa, Γ, W, X, o, h => by
    cases e with
    | Compare x ops ys p =>
      match ops, ys, h with
      | [op'], [y], h =>
        have h' : (decide (op' = if ne = true then .NotEq else .Eq) && !behindInMarks op' y && decide (nmOf P.nms n = "__eq__") && eqB P n && chkE P a Γ x && chkE P b Γ y) = true := h
        simp only [Bool.and_eq_true, decide_eq_true_eq, Bool.not_eq_true'] at h'
        obtain ⟨⟨⟨⟨⟨rfl, h2⟩, h3⟩, h4⟩, h5⟩, h6⟩ := h'
        refine T_ocm o.K o.pg.isf o.rm o.u (fun mf c f hm => ?_) (fun _ c f hm => ?_) (sndE a o h5) (sndE b o h6) h2
        · rw [o.pg.sg] at hm
          obtain ⟨g1, g2, g3⟩ := o.pg.mts c n f hm
          obtain ⟨g4, _⟩ := o.pg.eqs c n f hm
          have g2' : Meth F.D.K (F.D.cA c) "__eq__" (F.fA f) := by
            rw [o.pg.nm, h3] at g2
            exact g2
          unfold Sg.mt at hm
          cases hc : P.sg.cls[c]? with
          | none => rw [hc] at hm; cases hm
          | some ki =>
            rw [hc] at hm
            have h10 := List.all_eq_true.mp h4 ki (List.mem_of_getElem? hc)
            have hm : ki.mts.lookup n = some f := hm
            rw [hm] at h10
            exact ⟨F.fA f, F.fD f, F.fP f, by rw [o.K]; exact g2', o.defE g3, o.pg.bnd f _ _ _ (hasB_ok h10), by rw [o.pg.sg]; exact g4⟩
        · rw [o.pg.sg] at hm
          rw [o.K]
          exact (o.pg.eqs c n f hm).2 h3
      | [], _, h => cases h
      | [_], [], h => cases h
      | [_], _ :: _ :: _, h => cases h
      | _ :: _ :: _, _, h => cases h
    | _ => cases h
  | .ch3 op op2 op3 a b c d, e, xa, Γ, W, X, o, h => by
    obtain ⟨x, o1, o2, o3, y, z, w, p, rfl, h1⟩ := ch3_form h
    simp only [Bool.and_eq_true, decide_eq_true_eq, Bool.not_eq_true'] at h1
    obtain ⟨⟨⟨⟨⟨⟨⟨rfl, rfl⟩, rfl⟩, h0⟩, h1⟩, h2⟩, h3⟩, h4⟩ := h1
    exact T_ch3 o.K o.u op op2 op3 (sndE a o h1) (sndE b o h2) (sndE c o h3) (sndE d o h4) h0
  | .chn op op2 a b c, e, xa, Γ, W, X, o, h => by
    cases e with
    | Compare x ops ys p =>
      match ops, ys, h with
      | [o1, o2], [y, z], h =>
        have h' : (decide (o1 = op.op) && decide (o2 = op2.op) && !lastMarks [o1, o2] [y, z] && chkE P a Γ x && chkE P b Γ y && chkE P c Γ z) = true := h
        simp only [Bool.and_eq_true, decide_eq_true_eq, Bool.not_eq_true'] at h'
        obtain ⟨⟨⟨⟨⟨rfl, rfl⟩, h0⟩, h1⟩, h2⟩, h3⟩ := h'
        exact T_chn o.K o.u op op2 (sndE a o h1) (sndE b o h2) (sndE c o h3) h0
      | [], _, h => cases h
      | [_], _, h => cases h
      | [_, _], [], h => cases h
      | [_, _], [_], h => cases h
      | [_, _], _ :: _ :: _ :: _, h => cases h
      | _ :: _ :: _ :: _, _, h => cases h
    | _ => cases h
  | .and qs, e, xa, Γ, W, X, o, h => by
    cases e with
    | BoolOp op l p =>
      cases op with
      | And =>
        obtain ⟨h1, h2⟩ := Bool.and_eq_true_iff.mp (show (chkQl P qs Γ l && !l.isEmpty) = true from h)
        exact (sndAll qs o h1 (by simpa using h2)).pt
      | Or => cases h
    | _ => cases h
  | .or qs, e, xa, Γ, W, X, o, h => by
    cases e with
    | BoolOp op l p =>
      cases op with
      | Or =>
        obtain ⟨h1, h2⟩ := Bool.and_eq_true_iff.mp (show (chkQl P qs Γ l && !l.isEmpty) = true from h)
        exact (sndAny qs o h1 (by simpa using h2)).pt
      | And => cases h
    | _ => cases h
  | .not q, e, xa, Γ, W, X, o, h => by
    cases e with
    | UnaryOp op x p =>
      cases op with
      | Not => exact T_not (sndQ q o h)
      | _ => cases h
    | _ => cases h
theorem sndAll : ∀ (i : IQs) {l : List Expr} {xa : XA} {Γ : Gm} {W : WX} {X : Cx} {pos : Pos}, XOk P F k cs m xa Γ W X → chkQl P i Γ l = true → l ≠ [] → PW X (.BoolOp .And l pos) (semT F.D xa (evAll F.D.sg m cs i) W)
  | .nil, l, xa, Γ, W, X, pos, o, h, hl => by
    cases l with
    | nil => exact absurd rfl hl
    | cons _ _ => cases h
  | .cons i is, l, xa, Γ, W, X, pos, o, h, hl => by
    cases l with
    | nil => cases h
    | cons e es =>
      obtain ⟨h1, h2⟩ := Bool.and_eq_true_iff.mp (show (chkQ P i Γ e && chkQl P is Γ es) = true from h)
      cases is with
      | nil =>
        cases es with
        | nil => exact T_all1 (sndQ i o h1)
        | cons _ _ => cases h2
      | cons j js =>
        cases es with
        | nil => cases h2
        | cons e2 es => exact T_all (sndQ i o h1) (sndAll (.cons j js) o h2 (by simp))
theorem sndAny : ∀ (i : IQs) {l : List Expr} {xa : XA} {Γ : Gm} {W : WX} {X : Cx} {pos : Pos}, XOk P F k cs m xa Γ W X → chkQl P i Γ l = true → l ≠ [] → PW X (.BoolOp .Or l pos) (semT F.D xa (evAny F.D.sg m cs i) W)
  | .nil, l, xa, Γ, W, X, pos, o, h, hl => by
    cases l with
    | nil => exact absurd rfl hl
    | cons _ _ => cases h
  | .cons i is, l, xa, Γ, W, X, pos, o, h, hl => by
    cases l with
    | nil => cases h
    | cons e es =>
      obtain ⟨h1, h2⟩ := Bool.and_eq_true_iff.mp (show (chkQ P i Γ e && chkQl P is Γ es) = true from h)
      cases is with
      | nil =>
        cases es with
        | nil => exact T_any1 (sndQ i o h1)
        | cons _ _ => cases h2
      | cons j js =>
        cases es with
        | nil => cases h2
        | cons e2 es => exact T_any (sndQ i o h1) (sndAny (.cons j js) o h2 (by simp))
theorem sndQs : ∀ (i : IQs) {l : List Expr} {xa : XA} {Γ : Gm} {W : WX} {X : Cx}, XOk P F k cs m xa Γ W X → chkQs P i Γ l = true → PTs X l (semTs F.D xa m cs i W)
  | .nil, l, xa, Γ, W, X, o, h => by
    cases l with
    | nil => exact ⟨fun pins s σ H Q I ⟨ρ, ih, sl, hr, l, p⟩ => pts_nil.run pins s σ H Q I (p _ _ _ .refl hr rfl)⟩
    | cons _ _ => cases h
  | .cons i is, l, xa, Γ, W, X, o, h => by
    cases is with
    | cons _ _ => cases h
    | nil =>
      match l, h with
      | [e], h => exact ⟨fun pins s σ H Q I ⟨ρ, ih, sl, hr, l, p⟩ => (pts_one (sndQ i o h)).run pins s σ H Q I (semR.bind hr l (show Post F.D ρ H ((evT F.D.sg m cs i sl ih).bind fun k h => if k = true then .ok true h else .ok false h) (fun _ _ a b => a = b) Q (WE W σ) from p) fun x ih1 ρ1 H1 u e hr1 l1 ev vx p1 => by
          subst vx
          cases x with
          | true => exact p1 _ _ _ .refl hr1 rfl
          | false => exact p1 _ _ _ .refl hr1 rfl)⟩
      | [], h => cases h
      | _ :: _ :: _, h => cases h
theorem sndI : ∀ (i : IT) {t e : Expr} {xa : XA} {Γ : Gm} {W : WX} {X : Cx}, XOk P F k cs m xa Γ W X → chkI P i Γ t e = true → PI X t e (semI F.D xa m cs i W)
  | .val i, t, e, xa, Γ, W, X, o, h => I_val o.K (sndE i o h)
  | .rng es, t, e, xa, Γ, W, X, o, h => by
    cases e with
    | Call fe as kws p =>
      cases fe with
      | Name x p2 =>
        cases kws with
        | cons _ _ => cases h
        | nil =>
          have h' : (decide (x = "range") && glB Γ.sc x && chkA P es Γ as && (decide (es.len = 1) || decide (es.len = 2) || decide (es.len = 3))) = true := h
          simp only [Bool.and_eq_true, Bool.or_eq_true, decide_eq_true_eq] at h'
          obtain ⟨⟨⟨rfl, h1⟩, h2⟩, h3⟩ := h'
          have A := sndA es o h2
          obtain ⟨a1, a2⟩ := chkA_len h2
          have g := (o.gl h1).1
          have hm := o.pg.fre "range" (by decide)
          clear h
          cases es with
          | nil => rcases h3 with (z | z) | z <;> cases z
          | cons i1 is =>
            cases as with
            | nil => cases a1
            | cons e1 es1 =>
              cases is with
              | nil =>
                cases es1 with
                | cons _ _ => cases a1
                | nil => exact I_rng1 g hm A (Bool.and_eq_true_iff.mp a2).1
              | cons i2 is =>
                cases is with
                | cons i3 is =>
                  cases is with
                  | cons _ _ => rcases h3 with (z | z) | z <;> cases z
                  | nil =>
                    cases es1 with
                    | nil => cases a1
                    | cons e2 es2 =>
                      cases es2 with
                      | nil => cases a1
                      | cons e3 es3 =>
                        cases es3 with
                        | cons _ _ => cases a1
                        | nil =>
                          have b1 := Bool.and_eq_true_iff.mp a2
                          have b2 := Bool.and_eq_true_iff.mp b1.2
                          exact I_rng3 g hm A b1.1 b2.1 (Bool.and_eq_true_iff.mp b2.2).1
                | nil =>
                  cases es1 with
                  | nil => cases a1
                  | cons e2 es2 =>
                    cases es2 with
                    | cons _ _ => cases a1
                    | nil => exact I_rng2 g hm A (Bool.and_eq_true_iff.mp a2).1 (Bool.and_eq_true_iff.mp (Bool.and_eq_true_iff.mp a2).2).1
      | _ => cases h
    | _ => cases h
  | .enm i, t, e, xa, Γ, W, X, o, h => by
    cases t with
    | Tuple ts n tp =>
      cases e with
      | Call fe as kws p =>
        cases fe with
        | Name x p2 =>
          match as, kws, h with
          | [a], [], h =>
            have h' : (decide (x = "enumerate") && glB Γ.sc x && nostar a && chkE P i Γ a) = true := h
            simp only [Bool.and_eq_true, decide_eq_true_eq] at h'
            obtain ⟨⟨⟨rfl, h1⟩, h2⟩, h3⟩ := h'
            exact I_enm2 o.K (o.gl h1).1 (o.pg.fre _ (by decide)) (sndE i o h3) h2
          | [], _, h => cases h
          | [_], _ :: _, h => cases h
          | _ :: _ :: _, _, h => cases h
        | _ => cases h
      | _ => cases h
    | _ => cases e <;> cases h
  | .zip i j, t, e, xa, Γ, W, X, o, h => by
    cases t with
    | Tuple ts n tp =>
      cases e with
      | Call fe as kws p =>
        cases fe with
        | Name x p2 =>
          match as, kws, h with
          | [a, b], [], h =>
            have h' : (decide (x = "zip") && glB Γ.sc x && nostar a && nostar b && chkE P i Γ a && chkE P j Γ b) = true := h
            simp only [Bool.and_eq_true, decide_eq_true_eq] at h'
            obtain ⟨⟨⟨⟨⟨rfl, h1⟩, h2⟩, h3⟩, h4⟩, h5⟩ := h'
            exact I_zip o.K (o.gl h1).1 (o.pg.fre _ (by decide)) (sndE i o h4) (sndE j o h5) h2 h3
          | [], _, h => cases h
          | [_], _, h => cases h
          | [_, _], _ :: _, h => cases h
          | _ :: _ :: _ :: _, _, h => cases h
        | _ => cases h
      | _ => cases h
    | _ => cases e <;> cases h
end
end
end Itp

/-! ItT: statements, held against a program. -/
namespace Itp
open PySem PySem.Spec PyProof.Rows L2
structure XOkS (P : Pg) (F : Fx) (k : Nat) (cs : CF) (m : Bool) (xa : XA) (Γ : Gm) (W : WX) (X : Cx) : Prop where
  e : XOk P F k cs m xa Γ W X
  pas : PassesOwn (model X.prog X.w) X.A X.env X.xe
  stk : X.stack = X.env :: X.outer
  frm : X.env.frame = some X.env.locals
section
variable {P : Pg} {F : Fx} {k : Nat} {cs : CF} {Γ : Gm} {W : WX} {X : Cx}
theorem XOkS.tr (o : XOkS P F k cs false none Γ W X) {W' : WX} {pn : List (Addr × Obj)} {xe : Value → Shared → Prop} (tk : Takes (X.tr pn xe) W') (hp : PassesOwn (model X.prog X.w) X.A X.env xe) : XOkS P F k cs false none Γ W' (X.tr pn xe) where
  e := { pg := o.e.pg, fc := fun f d h => ⟨(o.e.fc f d h).ok, (o.e.fc f d h).no⟩, K := o.e.K, N := o.e.N, nd := o.e.nd, sc := o.e.sc, kind := o.e.kind, fn := o.e.fn, u := o.e.u, g := o.e.g, rm := o.e.rm, k1 := o.e.k1, tk := tk, calm := o.e.calm, xan := o.e.xan, su := fun z => (by cases z) }
  pas := hp
  stk := o.stk
  frm := o.frm
theorem XOkS.suite (o : XOkS P F k cs false none Γ W X) {p : Addr} {ob : Obj} {c : Nat} {d : Addr} {pn : List (Addr × Obj)} (hz : Zc (.ref (F.D.cA c)) (some d) ob) (hf : ∃ vs, ob.data = .fields vs) : XOkS P F k cs true (some (p, F.D.cA c, d)) Γ WF (X.suite p ((p, ob) :: pn)) where
  e := { pg := o.e.pg, fc := fun f d h => ⟨(o.e.fc f d h).ok, (o.e.fc f d h).no⟩, K := o.e.K, N := o.e.N, nd := o.e.nd, sc := o.e.sc, kind := o.e.kind, fn := o.e.fn, u := o.e.u, g := o.e.g, rm := fun z => (by cases z), k1 := o.e.k1,
         tk := fun _ _ ⟨_, _, _, _, _, _, _, _, _, _, _, _, _, _, _, _, w⟩ => w.elim, calm := fun z => (by cases z), xan := fun z => (by cases z), su := fun _ => ⟨X, p, ob, pn, c, d, rfl, rfl, hz, hf⟩ }
  pas := PassesOwn.never
  stk := o.stk
  frm := o.frm
end
theorem swAt {e o : Expr} {f : Str} {p : Pos} {n : Nat} {env : Env} : swapsWith e (some (.Attribute o f p)) n env = pure false := by
  cases e <;> rfl
theorem swSub {e o i : Expr} {p : Pos} {n : Nat} {env : Env} : swapsWith e (some (.Subscript o i p)) n env = pure false := by
  cases e <;> rfl
def isLc : Expr → Bool
  | .ListComp _ _ _ _ => true
  | _ => false
def nmT : Tg → Expr → Bool
  | .nm _, .Name _ _ => true
  | _, _ => false
def setB (Γ : Gm) (t x : Expr) : Bool := nolc x && (notup t || notup x || (match t, x with
  | .Tuple ts _ _, .Tuple vs _ _ => decide (swc Γ.sc ts vs = some none)
  | _, _ => false))
def parB (Γ : Gm) : List Nat → List Expr → List Expr → Bool
  | [i, j], [.Name x p, .Name y q], [a, b] => decide (Γ.N[i]? = some x) && decide (Γ.N[j]? = some y) && decide (i ≠ j) && decide (Γ.sc.names.lookup x = some .local) && decide (Γ.sc.names.lookup y = some .local) && decide (swc Γ.sc [.Name x p, .Name y q] [a, b] = some (some [x, y]))
  | [i, j, l], [.Name x p, .Name y q, .Name z r], [a, b, c] => decide (Γ.N[i]? = some x) && decide (Γ.N[j]? = some y) && decide (Γ.N[l]? = some z) && decide (i ≠ j) && decide (i ≠ l) && decide (j ≠ l) && decide (Γ.sc.names.lookup x = some .local) && decide (Γ.sc.names.lookup y = some .local) && decide (Γ.sc.names.lookup z = some .local) &&
      decide (swc Γ.sc [.Name x p, .Name y q, .Name z r] [a, b, c] = some (some [x, y, z]))
  | _, _, _ => false
def nmB (Γ : Gm) : Option Nat → Option Str → Bool
  | none, none => true
  | some j, some z => decide (Γ.N[j]? = some z) && decide (Γ.sc.names.lookup z = some .local)
  | _, _ => false
def setsB (Γ : Gm) : List Nat → Str → Str → Bool
  | [i, j], x, y => stoB Γ i x && stoB Γ j y
  | _, _, _ => false
def exB (P : Pg) (d : Nat) : Bool := match P.sg.cls[d]? with
  | some k => k.exf.isSome
  | none => false
mutual
def chkS (P : Pg) : IS → Gm → Stmt → Bool
  | .expr e, Γ, st => match st with
    | .Expr x _ => nolc x && chkE P e Γ x
    | _ => false
  | .set tg e, Γ, st => match st with
    | .Assign [t] x _ => tgB Γ tg t && nostar t && chkE P e Γ x && (setB Γ t x || (isLc x && nmT tg t))
    | _ => false
  | .sets is e, Γ, st => match st with
    | .Assign [.Name x _, .Name y _] v _ => setsB Γ is x y && chkE P e Γ v
    | _ => false
  | .par is es, Γ, st => match st with
    | .Assign [.Tuple ts _ _] (.Tuple vs _ _) _ => parB Γ is ts vs && chkA P es Γ vs
    | _ => false
  | .fset o f e, Γ, st => match st with
    | .Assign [.Attribute x n _] v _ => decide (n = nmOf P.nms f) && chkE P o Γ x && chkE P e Γ v
    | _ => false
  | .iset a i e, Γ, st => match st with
    | .Assign [.Subscript x y _] v _ => noslice y && chkE P a Γ x && chkE P i Γ y && chkE P e Γ v
    | _ => false
  | .iset2 a i b j e, Γ, st => match st with
    | .Assign [.Tuple [.Subscript x y p1, .Subscript x2 y2 p2] kt pt] v _ => noslice y && noslice y2 && setB Γ (.Tuple [.Subscript x y p1, .Subscript x2 y2 p2] kt pt) v && chkE P a Γ x && chkE P i Γ y && chkE P b Γ x2 && chkE P j Γ y2 && chkE P e Γ v
    | _ => false
  | .augi a i o e, Γ, st => match st with
    | .AugAssign (.Subscript x y _) op v _ => decide (op = o.op) && noslice y && chkE P a Γ x && chkE P i Γ y && chkE P e Γ v
    | _ => false
  | .aug i o e, Γ, st => match st with
    | .AugAssign (.Name x _) op v _ => decide (op = o.op) && stoB Γ i x && chkE P e Γ v
    | _ => false
  | .augf a f o e, Γ, st => match st with
    | .AugAssign (.Attribute x n _) op v _ => decide (op = o.op) && decide (n = nmOf P.nms f) && chkE P a Γ x && chkE P e Γ v
    | _ => false
  | .ret e, Γ, st => match st with
    | .Return (some x) _ => chkE P e Γ x
    | _ => false
  | .retn, _, st => match st with
    | .Return none _ => true
    | _ => false
  | .if_ t a b, Γ, st => match st with
    | .If c x y _ => chkQ P t Γ c && chkB P a Γ x && chkB P b Γ y
    | _ => false
  | .whl t b, Γ, st => match st with
    | .While c x [] _ => chkQ P t Γ c && chkB P b Γ x
    | _ => false
  | .for_ tg it b, Γ, st => match st with
    | .For t i x [] _ => tgB Γ tg t && noset i && chkI P it Γ t i && chkB P b Γ x
    | _ => false
  | .brk, _, st => match st with
    | .Break _ => true
    | _ => false
  | .cnt, _, st => match st with
    | .Continue _ => true
    | _ => false
  | .pas, _, st => match st with
    | .Pass _ => true
    | .Expr (.Constant (.str _) _ _) _ => true
    | _ => false
  | .rse c es, Γ, st => match st with
    | .Raise (some (.Call (.Name x _) as [] _)) none _ => decide (P.cns[c]? = some x) && glB Γ.sc x && exB P c && chkA P es Γ as && ((decide (es.len = 1) && hasR P.rbs c 1 []) || (decide (es.len = 0) && hasR P.rbs c 0 [.arg 0, .dfl .non]))
    | _ => false
  | .try_ b hs, Γ, st => match st with
    | .Try body (h :: hds) [] [] _ => chkB P b Γ body && chkH P hs Γ (h :: hds)
    | _ => false
def chkB (P : Pg) : IB → Gm → List Stmt → Bool
  | .nil, _, l => l.isEmpty
  | .cons i is, Γ, l => match l with
    | st :: r => chkS P i Γ st && chkB P is Γ r
    | [] => false
def chkH (P : Pg) : IHs → Gm → List ExceptHandler → Bool
  | .nil, _, l => l.isEmpty
  | .cons d i b r, Γ, l => match l with
    | .ExceptHandler (some (.Name x _)) n (s0 :: ss) _ :: hds => decide (P.cns[d]? = some x) && glB Γ.sc x && exB P d && nmB Γ i n && chkB P b Γ (s0 :: ss) && chkH P r Γ hds
    | _ => false
end
section
variable {P : Pg} {F : Fx} {k : Nat} {cs : CF}
/-- a run that can't be -/
theorem vacS {m : Bool} {xa : XA} {W : WX} {X : Cx} {i : IS} {st : Stmt} (h : ∀ s h, evS F.D.sg cs m i s h = .no) : PS X st (sS F.D xa m cs i W) := ⟨fun pins s σ H E I ⟨ρ, ih, sl, hr, l, p⟩ => by
  rw [h] at p
  exact p.elim⟩
theorem nolc_or {x : Expr} (h : isLc x = true) : ∃ el gens scope p, x = .ListComp el gens scope p := by
  cases x with
  | ListComp a b c d => exact ⟨a, b, c, d, rfl⟩
  | _ => cases h
theorem swc_set {Γ : Gm} {t x : Expr} {env : Env} (hk : env.scope.kind = .function) (hsc : env.scope = Γ.sc) (h : setB Γ t x = true) : nolc x = true ∧ swappedStores [t] x env = pure none := by
  unfold setB at h
  simp only [Bool.and_eq_true, Bool.or_eq_true] at h
  obtain ⟨h1, h2⟩ := h
  refine ⟨h1, ?_⟩
  rcases h2 with (h2 | h2) | h2
  · exact sw1_ok h2
  · exact sw2_ok h2
  · split at h2
    · rename_i ts k p vs k2 p2
      refine swc_ok hk ?_
      rw [hsc]
      exact of_decide_eq_true h2
    · cases h2
theorem iset2_form {a i b j e : IE} {Γ : Gm} {st : Stmt} (h : chkS P (.iset2 a i b j e) Γ st = true) : ∃ x y p1 x2 y2 p2 kt pt v p, st = .Assign [.Tuple [.Subscript x y p1, .Subscript x2 y2 p2] kt pt] v p ∧ (noslice y && noslice y2 && setB Γ (.Tuple [.Subscript x y p1, .Subscript x2 y2 p2] kt pt) v && chkE P a Γ x && chkE P i Γ y && chkE P b Γ x2 && chkE P j Γ y2 && chkE P e Γ v) = true := by
  unfold chkS at h
  split at h
  · exact ⟨_, _, _, _, _, _, _, _, _, _, rfl, h⟩
  · cases h
theorem sets_form {is : List Nat} {e : IE} {Γ : Gm} {ts : List Expr} {v : Expr} {p : Pos} (h : chkS P (.sets is e) Γ (.Assign ts v p) = true) : ∃ x p2 y p3, ts = [.Name x p2, .Name y p3] := by
  have h' : (match Stmt.Assign ts v p with
    | .Assign [.Name x _, .Name y _] v _ => setsB Γ is x y && chkE P e Γ v
    | _ => false) = true := h
  split at h'
  · rename_i e
    cases e
    exact ⟨_, _, _, _, rfl⟩
  · cases h'
theorem par_form {is : List Nat} {es : IA} {Γ : Gm} {ts : List Expr} {v : Expr} {p : Pos} (h : chkS P (.par is es) Γ (.Assign ts v p) = true) : ∃ tl n p2 vs n2 p3, ts = [.Tuple tl n p2] ∧ v = .Tuple vs n2 p3 := by
  have h' : (match Stmt.Assign ts v p with
    | .Assign [.Tuple ts _ _] (.Tuple vs _ _) _ => parB Γ is ts vs && chkA P es Γ vs
    | _ => false) = true := h
  split at h'
  · rename_i e
    cases e
    exact ⟨_, _, _, _, _, _, rfl, rfl⟩
  · cases h'
theorem rse_form {c : Nat} {es : IA} {Γ : Gm} {v w : Option Expr} {p : Pos} (h : chkS P (.rse c es) Γ (.Raise v w p) = true) : ∃ x p2 as p3, v = some (.Call (.Name x p2) as [] p3) ∧ w = none := by
  have h' : (match Stmt.Raise v w p with
    | .Raise (some (.Call (.Name x _) as [] _)) none _ => decide (P.cns[c]? = some x) && glB Γ.sc x && exB P c && chkA P es Γ as && ((decide (es.len = 1) && hasR P.rbs c 1 []) || (decide (es.len = 0) && hasR P.rbs c 0 [.arg 0, .dfl .non]))
    | _ => false) = true := h
  split at h'
  · rename_i e
    cases e
    exact ⟨_, _, _, _, rfl, rfl⟩
  · cases h'
theorem hd_form {d : Nat} {i : Option Nat} {b : IB} {r : IHs} {Γ : Gm} {h0 : ExceptHandler} {hds : List ExceptHandler} (h : chkH P (.cons d i b r) Γ (h0 :: hds) = true) : ∃ x p n s0 ss p2, h0 = .ExceptHandler (some (.Name x p)) n (s0 :: ss) p2 := by
  have h' : (match h0 :: hds with
    | .ExceptHandler (some (.Name x _)) n (s0 :: ss) _ :: hds => decide (P.cns[d]? = some x) && glB Γ.sc x && exB P d && nmB Γ i n && chkB P b Γ (s0 :: ss) && chkH P r Γ hds
    | _ => false) = true := h
  split at h'
  · rename_i e
    cases e
    exact ⟨_, _, _, _, _, _, rfl⟩
  · cases h'
theorem lcset {i : Nat} {y : Str} {e : IE} {m : Bool} {xa : XA} {Γ : Gm} {W : WX} {X : Cx} {el : Expr} {gens : List Comprehension} {scope : Scope} {lp p p2 : Pos} (h1 : stoB Γ i y = true) (h3 : chkE P e Γ (.ListComp el gens scope lp) = true) (hw : swl X.env scope lp y p2 = true) (o : XOkS P F k cs m xa Γ W X) (hk : X.env.scope.kind = .function) :
    PS X (.Assign [.Name y p2] (.ListComp el gens scope lp) p) (sS F.D xa m cs (.set (.nm i) e) W) := by
  have hs := swl_ok (elt := el) (gs := gens) (scope := scope) (pos := lp) (py := p2) (t := y) (n := p.line) hk
  rw [hw] at hs
  have hl : X.env.scope.names.lookup y = some .local := by
    unfold swl at hw
    simp only [Bool.and_eq_true, beq_iff_eq] at hw
    exact hw.1.1
  cases e with
  | lc tg it qs ie =>
    obtain ⟨t, iter, ifs, rfl⟩ := lc_form h3
    by_cases hm : m = true
    · subst hm
      exact ⟨fun pins s σ H E I ⟨ρ, ih, sl, hr, l, p⟩ => False.elim p⟩
    have mf : m = false := by simpa using hm
    have h' : (noset iter && blkC Γ.N Γ.sc scope (ownL tg t) && decide ((ownL tg t).map (·.2) = tg.slots) && tgB (Γ.blk scope) tg t && chkI P it Γ t iter && chkQs P qs (Γ.blk scope) ifs && chkE P ie (Γ.blk scope) el) = true := h3
    simp only [Bool.and_eq_true, decide_eq_true_eq] at h'
    obtain ⟨⟨⟨⟨⟨⟨h1', h2⟩, h3⟩, h4⟩, h5⟩, h6⟩, h7⟩ := h'
    have ok : BlkOk X.N X.env.scope scope (ownL tg t) := by
      rw [o.e.N, o.e.sc]
      exact blkOk_by h2
    exact S_setLc o.e.calm o.e.nd (o.e.sto h1).1 hl hs (sndI it o.e h5) ok h3 (fun s H C cl fp => (o.e.blk mf ok.kind s H C cl fp).tg mf h4) (fun s H C cl fp => sndQs qs (o.e.blk mf ok.kind s H C cl fp) h6) (fun s H C cl fp => sndE ie (o.e.blk mf ok.kind s H C cl fp) h7) h1'
  | lc2 tg it qs tg1 it1 qs1 ie =>
    obtain ⟨t, iter, ifs, t1, iter1, ifs1, rfl, h'⟩ := lc2_form h3
    by_cases hm : m = true
    · subst hm
      exact ⟨fun pins s σ H E I ⟨ρ, ih, sl, hr, l, p⟩ => False.elim p⟩
    have mf : m = false := by simpa using hm
    simp only [Bool.and_eq_true, decide_eq_true_eq] at h'
    obtain ⟨⟨⟨⟨⟨⟨⟨⟨⟨⟨g1, g2⟩, g3⟩, g4⟩, g5⟩, g6⟩, g7⟩, g8⟩, g9⟩, g10⟩, g11⟩ := h'
    have ok : BlkOk X.N X.env.scope scope (ownL tg t ++ ownL tg1 t1) := by
      rw [o.e.N, o.e.sc]
      exact blkOk_by g3
    exact S_setLc2 o.e.calm o.e.nd (o.e.sto h1).1 hl hs (sndI it o.e g7) ok g4 (fun s H C cl fp => (o.e.blk mf ok.kind s H C cl fp).tg mf g5) (fun s H C cl fp => sndQs qs (o.e.blk mf ok.kind s H C cl fp) g9) (fun s H C cl fp => sndI it1 (o.e.blk mf ok.kind s H C cl fp) g8) (fun s H C cl fp => (o.e.blk mf ok.kind s H C cl fp).tg mf g6) (fun s H C cl fp => sndQs qs1 (o.e.blk mf ok.kind s H C cl fp) g10) (fun s H C cl fp => sndE ie (o.e.blk mf ok.kind s H C cl fp) g11) g1 g2
  | dic a b => cases a <;> cases b <;> cases h3
  | _ => cases h3
/-- a tuple's store in a suite: not done -/
theorem tup_hot {tg : Tg} {e : IE} {m : Bool} {xa : XA} {Γ : Gm} {W : WX} {X : Cx} {t x : Expr} {p : Pos} (hm : m = true) (hT : tg.isT = true) (o : XOkS P F k cs m xa Γ W X) (E : PE X x (sE F.D xa m cs e W)) (hs : swapsWith x (some t) p.line X.env = pure false) (hw : swappedStores [t] x X.env = pure none) (hn : nostar t = true) :
    PS X (.Assign [t] x p) (sS F.D xa m cs (.set tg e) W) := by
  exact vacS fun s h => if_pos ⟨hT, hm⟩
mutual
theorem sndS : ∀ (i : IS) {st : Stmt} {m : Bool} {xa : XA} {Γ : Gm} {W : WX} {X : Cx}, XOkS P F k cs m xa Γ W X → chkS P i Γ st = true → PS X st (sS F.D xa m cs i W)
  | .expr e, st, m, xa, Γ, W, X, o, h => by
    cases st with
    | Expr x p =>
      obtain ⟨h1, h2⟩ := Bool.and_eq_true_iff.mp (show (nolc x && chkE P e Γ x) = true from h)
      exact S_expr (sndE e o.e h2) h1
    | _ => cases h
  | .set tg e, st, m, xa, Γ, W, X, o, h => by
    cases st with
    | Assign ts x p =>
      cases ts with
      | nil => cases h
      | cons t r =>
        cases r with
        | cons _ _ => cases h
        | nil =>
          have h' : (tgB Γ tg t && nostar t && chkE P e Γ x && (setB Γ t x || (isLc x && nmT tg t))) = true := h
          simp only [Bool.and_eq_true, Bool.or_eq_true] at h'
          obtain ⟨⟨⟨h1, h2⟩, h3⟩, h4⟩ := h'
          have hk : X.env.scope.kind = .function := by rw [o.e.sc]; exact o.e.kind
          have E := sndE e o.e h3
          rcases h4 with h4 | ⟨h4, h5⟩
          · obtain ⟨g1, g2⟩ := swc_set hk o.e.sc h4
            cases tg with
            | nm i =>
              cases t with
              | Name y p2 => exact S_setA E (G_nm o.e.nd (o.e.sto h1)) (sw_ok g1) g2 h2
              | _ => cases h1
            | tp is =>
              by_cases hm : m = true
              · exact tup_hot hm rfl o (sndE e o.e h3) (sw_ok g1) g2 h2
              · have mf : m = false := by simpa using hm
                exact S_setA E (o.e.tg mf h1) (sw_ok g1) g2 h2
            | ns ts =>
              by_cases hm : m = true
              · exact tup_hot hm rfl o (sndE e o.e h3) (sw_ok g1) g2 h2
              · have mf : m = false := by simpa using hm
                exact S_setA E (o.e.tg mf h1) (sw_ok g1) g2 h2
          · obtain ⟨el, gens, scope, lp, rfl⟩ := nolc_or h4
            cases tg with
            | tp is => cases t <;> cases h5
            | ns ts => cases t <;> cases h5
            | nm i =>
              cases t with
              | Name y p2 =>
                have hG := G_nm (D := F.D) (xa := xa) (pos := p2) o.e.nd (o.e.sto h1)
                by_cases hw : swl X.env scope lp y p2 = true
                · exact lcset h1 h3 hw o hk
                · exact S_setA E hG (by rw [swl_ok hk, Bool.eq_false_iff.mpr hw]) (sw1_ok rfl) h2
              | _ => cases h5
    | _ => cases h
  | .sets is e, st, m, xa, Γ, W, X, o, h => by
    cases st with
    | Assign ts v p =>
      obtain ⟨x, p2, y, p3, rfl⟩ := sets_form h
      obtain ⟨h1, h2⟩ := Bool.and_eq_true_iff.mp (show (setsB Γ is x y && chkE P e Γ v) = true from h)
      clear h
      unfold setsB at h1
      split at h1
      · obtain ⟨h3, h4⟩ := Bool.and_eq_true_iff.mp h1
        exact S_sets2 (sndE e o.e h2) (G_nm o.e.nd (o.e.sto h3)) (G_nm o.e.nd (o.e.sto h4))
      · cases h1
    | _ => cases h
  | .par is es, st, m, xa, Γ, W, X, o, h => by
    cases st with
    | Assign ts v p =>
      obtain ⟨tl, n, p2, vs, n2, p3, rfl, rfl⟩ := par_form h
      obtain ⟨h1, h2⟩ := Bool.and_eq_true_iff.mp (show (parB Γ is tl vs && chkA P es Γ vs) = true from h)
      have hk : X.env.scope.kind = .function := by rw [o.e.sc]; exact o.e.kind
      have A := sndA es o.e h2
      clear h h2
      unfold parB at h1
      split at h1
      · simp only [Bool.and_eq_true, decide_eq_true_eq] at h1
        obtain ⟨⟨⟨⟨⟨h1, h2⟩, h3⟩, h4⟩, h5⟩, h6⟩ := h1
        rw [← o.e.N] at h1 h2
        rw [← o.e.sc] at h4 h5 h6
        exact S_par2 o.e.calm o.e.nd hk h1 h2 h3 h4 h5 A h6
      · simp only [Bool.and_eq_true, decide_eq_true_eq] at h1
        obtain ⟨⟨⟨⟨⟨⟨⟨⟨⟨h1, h2⟩, h3⟩, h4⟩, h5⟩, h6⟩, h7⟩, h8⟩, h9⟩, h10⟩ := h1
        rw [← o.e.N] at h1 h2 h3
        rw [← o.e.sc] at h7 h8 h9 h10
        exact S_par3 o.e.calm o.e.nd hk h1 h2 h3 h4 h5 h6 h7 h8 h9 A h10
      · cases h1
    | _ => cases h
  | .fset ob f e, st, m, xa, Γ, W, X, o, h => by
    cases st with
    | Assign ts v p =>
      cases ts with
      | nil => cases h
      | cons t r =>
        cases t with
        | Attribute x n p2 =>
          cases r with
          | cons _ _ => cases h
          | nil =>
            have h' : (decide (n = nmOf P.nms f) && chkE P ob Γ x && chkE P e Γ v) = true := h
            simp only [Bool.and_eq_true, decide_eq_true_eq] at h'
            obtain ⟨⟨rfl, h1⟩, h2⟩ := h'
            rw [o.e.nmE]
            exact S_fset o.e.K o.e.injE o.e.fldE (sndE ob o.e h1) (sndE e o.e h2) swAt
        | _ => cases r <;> cases h
    | _ => cases h
  | .iset2 a i b j e, st, m, xa, Γ, W, X, o, h => by
    obtain ⟨x, y, p1, x2, y2, p2, kt, pt, v, p, rfl, h'⟩ := iset2_form h
    simp only [Bool.and_eq_true] at h'
    obtain ⟨⟨⟨⟨⟨⟨⟨h1, h2⟩, h3⟩, h4⟩, h5⟩, h6⟩, h7⟩, h8⟩ := h'
    have hk : X.env.scope.kind = .function := by rw [o.e.sc]; exact o.e.kind
    obtain ⟨g1, g2⟩ := swc_set hk o.e.sc h3
    exact S_iset2 o.e.calm o.e.K h1 h2 o.e.u (sndE a o.e h4) (sndE i o.e h5) (sndE b o.e h6) (sndE j o.e h7) (sndE e o.e h8) (sw_ok g1) g2
  | .iset a i e, st, m, xa, Γ, W, X, o, h => by
    cases st with
    | Assign ts v p =>
      cases ts with
      | nil => cases h
      | cons t r =>
        cases t with
        | Subscript x y p2 =>
          cases r with
          | cons _ _ => cases h
          | nil =>
            have h' : (noslice y && chkE P a Γ x && chkE P i Γ y && chkE P e Γ v) = true := h
            simp only [Bool.and_eq_true, decide_eq_true_eq] at h'
            obtain ⟨⟨⟨h0, h1⟩, h2⟩, h3⟩ := h'
            exact S_iset h0 o.e.u (sndE a o.e h1) (sndE i o.e h2) (sndE e o.e h3) swSub
        | _ => cases r <;> cases h
    | _ => cases h
  | .augi a i op e, st, m, xa, Γ, W, X, o, h => by
    cases st with
    | AugAssign t op' v p =>
      cases t with
      | Subscript x y p2 =>
        have h' : (decide (op' = op.op) && noslice y && chkE P a Γ x && chkE P i Γ y && chkE P e Γ v) = true := h
        simp only [Bool.and_eq_true, decide_eq_true_eq] at h'
        obtain ⟨⟨⟨⟨rfl, h0⟩, h1⟩, h2⟩, h3⟩ := h'
        exact S_augi o.e.K h0 o.e.u (sndE a o.e h1) (sndE i o.e h2) (sndE e o.e h3)
      | _ => cases h
    | _ => cases h
  | .aug i op e, st, m, xa, Γ, W, X, o, h => by
    cases st with
    | AugAssign t op' v p =>
      cases t with
      | Name x p2 =>
        have h' : (decide (op' = op.op) && stoB Γ i x && chkE P e Γ v) = true := h
        simp only [Bool.and_eq_true, decide_eq_true_eq] at h'
        obtain ⟨⟨rfl, h1⟩, h2⟩ := h'
        exact S_aug o.e.nd (o.e.sto h1) (sndE e o.e h2)
      | _ => cases h
    | _ => cases h
  | .augf a f op e, st, m, xa, Γ, W, X, o, h => by
    cases st with
    | AugAssign t op' v p =>
      cases t with
      | Attribute x n p2 =>
        have h' : (decide (op' = op.op) && decide (n = nmOf P.nms f) && chkE P a Γ x && chkE P e Γ v) = true := h
        simp only [Bool.and_eq_true, decide_eq_true_eq] at h'
        obtain ⟨⟨⟨rfl, rfl⟩, h1⟩, h2⟩ := h'
        rw [o.e.nmE]
        exact S_augf o.e.injE o.e.fldE (sndE a o.e h1) (sndE e o.e h2)
      | _ => cases h
    | _ => cases h
  | .ret e, st, m, xa, Γ, W, X, o, h => by
    cases st with
    | Return x p =>
      cases x with
      | none => cases h
      | some x => exact S_ret (sndE e o.e h)
    | _ => cases h
  | .retn, st, m, xa, Γ, W, X, o, h => by
    cases st with
    | Return x p =>
      cases x with
      | none => exact S_retn
      | some x => cases h
    | _ => cases h
  | .if_ t a b, st, m, xa, Γ, W, X, o, h => by
    cases st with
    | If c x y p =>
      have h' : (chkQ P t Γ c && chkB P a Γ x && chkB P b Γ y) = true := h
      simp only [Bool.and_eq_true] at h'
      obtain ⟨⟨h0, h1⟩, h2⟩ := h'
      exact S_if (sndQ t o.e h0) (sndB a o h1) (sndB b o h2)
    | _ => cases h
  | .whl t b, st, m, xa, Γ, W, X, o, h => by
    cases st with
    | While c x e p =>
      cases e with
      | cons _ _ => cases h
      | nil =>
        obtain ⟨h0, h1⟩ := Bool.and_eq_true_iff.mp (show (chkQ P t Γ c && chkB P b Γ x) = true from h)
        exact S_whl o.pas (sndQ t o.e h0) (sndB b o h1)
    | _ => cases h
  | .for_ tg it b, st, m, xa, Γ, W, X, o, h => by
    cases st with
    | For t i x e p =>
      cases e with
      | cons _ _ => cases h
      | nil =>
        have h' : (tgB Γ tg t && noset i && chkI P it Γ t i && chkB P b Γ x) = true := h
        simp only [Bool.and_eq_true] at h'
        obtain ⟨⟨⟨h0, h1⟩, h2⟩, h3⟩ := h'
        by_cases hm : m = true
        · exact vacS fun s h => if_pos hm
        · have mf : m = false := by simpa using hm
          exact S_for o.pas o.e.calm (sndI it o.e h2) (o.e.tg mf h0) (sndB b o h3) h1
    | _ => cases h
  | .brk, st, m, xa, Γ, W, X, o, h => by
    cases st with
    | Break p => exact S_brk
    | _ => cases h
  | .cnt, st, m, xa, Γ, W, X, o, h => by
    cases st with
    | Continue p => exact S_cnt
    | _ => cases h
  | .pas, st, m, xa, Γ, W, X, o, h => by
    cases st with
    | Pass p => exact S_pas
    | Expr e p =>
      cases e with
      | Constant c j p2 =>
        cases c with
        | str z => exact S_doc
        | _ => cases h
      | _ => cases h
    | _ => cases h
  | .rse c es, st, m, xa, Γ, W, X, o, h => by
    cases st with
    | Raise v w p =>
      obtain ⟨x, p2, as, p3, rfl, rfl⟩ := rse_form h
      have h' : (decide (P.cns[c]? = some x) && glB Γ.sc x && exB P c && chkA P es Γ as && ((decide (es.len = 1) && hasR P.rbs c 1 []) || (decide (es.len = 0) && hasR P.rbs c 0 [.arg 0, .dfl .non]))) = true := h
      simp only [Bool.and_eq_true, Bool.or_eq_true, decide_eq_true_eq] at h'
      obtain ⟨⟨⟨⟨h1, h2⟩, h3⟩, h4⟩, h5⟩ := h'
      by_cases hm : m = true
      · exact vacS fun s h => if_pos hm
      have mf : m = false := by simpa using hm
      obtain ⟨a1, a2⟩ := chkA_len h4
      unfold exB at h3
      split at h3
      · rename_i ki hc
        obtain ⟨fn, hf⟩ := Option.isSome_iff_exists.mp h3
        obtain ⟨fI, fd, ps, T, hF, hB⟩ := o.e.pg.rse c ki fn hc hf
        obtain ⟨k', rfl⟩ : ∃ k', k = k' + 1 := ⟨k - 1, by have := o.e.k1; omega⟩
        have no := (o.e.pg.exf.xf c ki fn (by rw [o.e.pg.sg]; exact hc) hf).2
        have A := sndA es o.e h4
        obtain ⟨g1, g2⟩ := o.e.gl h2
        have F1 := hF k'
        rw [← o.e.K] at T no F1
        have Sg : F.D.sg.cls[c]? = some ki := by rw [o.e.pg.sg]; exact hc
        rcases h5 with ⟨h5, h6⟩ | ⟨h5, h6⟩
        · have b := hB 1 [] (hasR_ok h6)
          have b : BindI F.D fd ps (as.length + 1) [] [] := by rw [a1, h5]; exact b
          exact S_rse o.e.K o.e.calm o.e.tk Sg hf rfl T no F1 (o.e.rm mf) g1 (o.e.pg.cls c x h1) b (.inl ⟨a1.trans h5, rfl⟩) a1 A g2 a2
        · have b := hB 0 [.arg 0, .dfl .non] (hasR_ok h6)
          have b : BindI F.D fd ps (as.length + 1) [] [.arg 0, .dfl .non] := by rw [a1, h5]; exact b
          exact S_rse o.e.K o.e.calm o.e.tk Sg hf rfl T no F1 (o.e.rm mf) g1 (o.e.pg.cls c x h1) b (.inr ⟨a1.trans h5, rfl⟩) a1 A g2 a2
      · cases h3
    | _ => cases h
  | .try_ b hs, st, m, xa, Γ, W, X, o, h => by
    cases st with
    | Try body hds oe fb p =>
      by_cases hm : m = true
      · exact vacS fun s h => if_pos hm
      have mf : m = false := by simpa using hm
      subst mf
      have hx := o.e.xan rfl
      subst hx
      cases hds with
      | nil => cases h
      | cons h0 hds =>
        cases oe with
        | cons _ _ => cases h
        | nil =>
          cases fb with
          | cons _ _ => cases h
          | nil =>
            obtain ⟨h1, h2⟩ := Bool.and_eq_true_iff.mp (show (chkB P b Γ body && chkH P hs Γ (h0 :: hds)) = true from h)
            obtain ⟨q, J⟩ := sndH hs o h2
            exact S_try o.e.K o.e.pg.exf o.stk o.frm o.e.nd o.e.tk (fun _ W' pn xe tk hp => sndB b (o.tr tk hp) h1) (fun _ => J)
    | _ => cases h
theorem sndB : ∀ (i : IB) {l : List Stmt} {m : Bool} {xa : XA} {Γ : Gm} {W : WX} {X : Cx}, XOkS P F k cs m xa Γ W X → chkB P i Γ l = true → PSs X l (sB F.D xa m cs i W)
  | .nil, l, m, xa, Γ, W, X, o, h => by
    cases l with
    | nil => exact B_nil
    | cons _ _ => cases h
  | .cons i is, l, m, xa, Γ, W, X, o, h => by
    cases l with
    | nil => cases h
    | cons st r =>
      obtain ⟨h1, h2⟩ := Bool.and_eq_true_iff.mp (show (chkS P i Γ st && chkB P is Γ r) = true from h)
      exact B_cons (sndS i o h1) (sndB is o h2)
theorem sndH : ∀ (i : IHs) {l : List ExceptHandler} {Γ : Gm} {W : WX} {X : Cx}, XOkS P F k cs false none Γ W X → chkH P i Γ l = true → ∃ q, HdJ F.D X cs i l q
  | .nil, l, Γ, W, X, o, h => by
    cases l with
    | nil => exact ⟨[], .nil⟩
    | cons _ _ => cases h
  | .cons d i b r, l, Γ, W, X, o, h => by
    cases l with
    | nil => cases h
    | cons h0 hds =>
      obtain ⟨x, p, n, s0, ss, p2, rfl⟩ := hd_form h
      have h' : (decide (P.cns[d]? = some x) && glB Γ.sc x && exB P d && nmB Γ i n && chkB P b Γ (s0 :: ss) && chkH P r Γ hds) = true := h
      simp only [Bool.and_eq_true, decide_eq_true_eq] at h'
      obtain ⟨⟨⟨⟨⟨h1, h2⟩, h3⟩, h4⟩, h5⟩, h6⟩ := h'
      obtain ⟨q, J⟩ := sndH r o h6
      obtain ⟨g1, g2⟩ := o.e.gl h2
      unfold exB at h3
      split at h3
      · rename_i kd hc
        refine ⟨_, .cons (kd := kd) (by rw [o.e.pg.sg]; exact hc) h3 ⟨g1, g2, .inl (o.e.pg.cls d x h1)⟩ ?_ (fun p ob c ki d' pn _ _ hz hf => sndB b (o.suite hz hf) h5) J⟩
        unfold nmB at h4
        split at h4
        · exact .inl ⟨rfl, rfl⟩
        · rename_i j z
          simp only [Bool.and_eq_true, decide_eq_true_eq] at h4
          refine .inr ⟨j, z, rfl, rfl, by rw [o.e.N]; exact h4.1, ?_⟩
          show X.env.scope.names.lookup z = _
          rw [o.e.sc]
          exact h4.2
        · cases h4
      · cases h3
end
end
end Itp

/-! ItU: the whole program, by its runs. -/
namespace Itp
open PySem PySem.Spec PyProof.Rows L2
/-- a def stands as the text says -/
def DfOk (P : Pg) (F : Fx) (f : Nat) (d : DefI) : Prop := ∃ (x qual : Str) (params : Arguments) (body : List Stmt) (scope : Scope) (dvs : List V) (kws : List (Str × V)) (N : List Str), FunD F.D.K x qual params body scope dvs kws (F.fA f) (F.fD f) ∧ FnScope N (F.fP f) scope ∧ (F.fP f).length = d.np ∧ N.length = d.nl ∧
  chkB P d.body ⟨N, scope, fun _ => true⟩ body = true
theorem lr_start {D : Dn} {ρ : List Addr} {H : Hp} {N : List Str} {xs : List IV} {vs : List V} (r : VRs D ρ H xs vs) : LR D ρ H none (start N.length xs) (L2.start N vs) := by
  have hl := r.length
  refine ⟨by unfold start L2.start; simp [hl], fun i z e => ?_⟩
  unfold start at e
  unfold L2.start
  by_cases hi : i < xs.length
  · rw [List.getElem?_append_left (by rw [List.length_map]; exact hi), List.getElem?_map] at e
    obtain ⟨y, h1, h2⟩ := Option.map_eq_some_iff.mp e
    obtain ⟨u, g1, g2⟩ := r.get h1
    subst h2
    exact ⟨some u, by rw [List.getElem?_append_left (by rw [List.length_map, ← hl]; exact hi), List.getElem?_map, g1]; rfl, u, rfl, g2⟩
  · rw [List.getElem?_append_right (by rw [List.length_map]; omega), List.length_map] at e
    obtain ⟨g1, g2⟩ := List.getElem?_eq_some_iff.mp e
    rw [List.getElem_replicate] at g2
    subst g2
    rw [List.length_replicate] at g1
    refine ⟨none, ?_, trivial⟩
    rw [List.getElem?_append_right (by rw [List.length_map, ← hl]; omega), List.length_map, ← hl, List.getElem?_replicate, if_pos (by omega)]
theorem post_fin {D : Dn} {ρ : List Addr} {H : Hp} {r : RS} {Q : VK} {E : XK} (p : Post D ρ H (fin r) (VR D) Q E) : PostS D none ρ H r { nx := fun _ H' => Q .non H', rt := Q } (fun c d _ H' => E c d H') := by
  cases r with
  | nx s h => exact fun ρ1 H1 σ1 ev hr l => p ρ1 H1 .non ev hr .non
  | rt v h => exact fun ρ1 H1 u ev hr q => p ρ1 H1 u ev hr q
  | ex c v s h => exact fun ρ1 H1 σ1 d ev hr l x => p ρ1 H1 d ev hr x
  | bk s h => exact p.elim
  | ct s h => exact p.elim
  | no => exact p.elim
section
variable {P : Pg} {F : Fx} {prog : Program} {w : World} {mg : Str → Option Value} {base : Heap}
def prOf (P : Pg) : Pr := ⟨P.sg, P.defs⟩
theorem master (pg : PgOk P F prog w mg base) (df : ∀ (f : Nat) (d : DefI), P.defs[f]? = some d → DfOk P F f d) : ∀ (n : Nat) (f : Nat) (d : DefI), P.defs[f]? = some d →
    FnI prog w F.D.K mg base (2 * n + 1) (F.fA f) (F.fD f) (F.fP f) (spI F.D (F.fP f).length (callI (prOf P) false n f)) ∧ ∀ ws h, ws.length ≠ (F.fP f).length → callI (prOf P) false n f ws h = .no
  | 0, f, d, hd => ⟨⟨fun vs H Q E z => z.1, fun A outer s H ar us vs Q E _ _ _ _ ⟨_, ρ, ih, xs, _, _, p⟩ => p.elim⟩, fun _ _ _ => rfl⟩
  | n + 1, f, d, hd => by
    obtain ⟨x, qual, params, body, scope, dvs, kws, N, FD, S, hp, hN, hc⟩ := df f d hd
    have call : ∀ vs h, callI (prOf P) false (n + 1) f vs h = if vs.length = d.np then fin (evB P.sg (callI (prOf P) false n) false d.body (start d.nl vs) h) else .no := fun vs h => by
      show (match P.defs[f]? with
        | some d => if vs.length = d.np then fin (evB P.sg (callI (prOf P) false n) false d.body (start d.nl vs) h) else .no
        | none => .no) = _
      rw [hd]
    refine ⟨?_, fun ws h hw => by rw [call, if_neg (by rw [← hp]; exact hw)]⟩
    refine fnI_of (k := 2 * n + 2) FD S (fun vs H Q E z => z.1) fun cdv A outer s H vs Q E hr ⟨hl, ρ, ih, xs, hR, rv, p⟩ => ?_
    let X := cxOf (L2.CX prog w) prog w F.D.K mg base N qual scope (F.fA f) cdv A outer s H E
    have o : XOkS P F (2 * n + 1) (callI (prOf P) false n) false none ⟨N, scope, fun _ => true⟩ (fun cls d _ H => E cls d H) X := {
      e := {
        pg := pg
        fc := fun g dg hg => ⟨(master pg df n g dg hg).1, (master pg df n g dg hg).2⟩
        K := rfl
        N := rfl
        nd := S.nd
        sc := rfl
        kind := S.kind
        fn := fun _ _ => rfl
        u := by have := hr.rm.un; show (A.deeper _).units + 80 < cLine; omega
        g := hr.gs
        rm := fun _ => hr
        k1 := by omega
        tk := takes_of rfl rfl rfl rfl
        calm := fun _ => rfl
        xan := fun _ => rfl
        su := fun z => by cases z }
      pas := passes_of rfl
      stk := rfl
      frm := rfl }
    refine ⟨_, sndB d.body o hc, ρ, ih, start d.nl xs, hR, by rw [← hN]; exact lr_start rv, ?_⟩
    rw [call] at p
    obtain ⟨_, p⟩ := ifp (F := fun r => Post F.D ρ H r (VR F.D) Q E) p fun z => z
    rw [pg.sg]
    exact post_fin p
end
end Itp

/-! ItV: the law's call, from the program's runs. -/
namespace Itp
open PySem PySem.Spec PyProof.Rows L2
/-- the law, called behind the top: a promise over the heaps in which the script may be held, nothing else -/
theorem law_I {P : Program} {w : World} {K : PySem.W.Frag} {mg mb : Str → Option Value} {k : Nat} {fa a : Addr} {fd : FuncData} {x : Str} {sp : Sp} {t : Shared} {us : List Value} {ns : List Int}
    (kin : K.In t.heap) (nsG : t.heap.Ns mainGlobals mg) (nsB : t.heap.Ns builtinsNs mb) (blt : ∀ x : Str, x ≠ "__name__" → mb x = bootBuiltins x) (lim : t.heap.NoLimit) (gens : t.gens = #[]) (at_ : t.heap.get? a = some { cls := .type "list", data := .seq us.toArray }) (hints : IntsAre us ns) (len : ns.length ≤ sizeLine)
    (room : RoomI k callerA) (F : ∀ base : Heap, K.In base → base.Ns mainGlobals mg → FnI P w K mg base k fa fd [x] sp) (bind : ∀ (s : Shared) (u : Value), BindsTo s fd ⟨[u], []⟩ [(x, u)])
    (law : ∀ H : Hp, SqF K H a (ns.map V.int) → sp [.ref a] H (fun v _ => v = .bl true) fun _ _ _ => False) :
    codeAny (model P w) callerA (.call (.ref fa) ⟨[.ref a], []⟩) (fun r s' => r = .ok (.ret (.bool true)) ∧ OldK t.heap s'.heap ∧ s'.os = t.os ∧ AllBare s'.gens) t := by
  have vals := vals_ints hints
  -- H holds the script at most
  have go : ∀ H : Hp, SqF K H a (ns.map V.int) → HOk P w H t.heap → (∀ b u, H b = some u → b = a ∧ K.lookup a = none ∧ ∃ o ys, u = .frz o (.lst ys)) →
      codeAny (model P w) callerA (.call (.ref fa) ⟨[.ref a], []⟩) (fun r s' => r = .ok (.ret (.bool true)) ∧ OldK t.heap s'.heap ∧ s'.os = t.os ∧ AllBare s'.gens) t := by
    intro H sq hok hO
    have free : ∀ {b : Addr} {o : Obj}, t.heap.get? b = some o → (∀ ys, o.data ≠ .seq ys 0) ∨ b ≠ a ∨ True := fun _ => .inr (.inr trivial)
    have dictFree : ∀ {b : Addr} {o : Obj} {es : Array DictEntry} {ep : Nat}, t.heap.get? b = some o → o.data = .dict es ep → H b = none := fun {b o es ep} e d => by
      cases q : H b with
      | none => rfl
      | some u =>
        obtain ⟨rfl, _⟩ := hO b u q
        rw [at_] at e
        cases e
        cases (show Data.seq us.toArray _ = Data.dict es ep from d)
    have modFree : ∀ {b : Addr} {o : Obj}, K.lookup b = some o → H b = none := fun {b o} e => by
      cases q : H b with
      | none => rfl
      | some u =>
        obtain ⟨rfl, z, _⟩ := hO b u q
        rw [z] at e
        cases e
    have nsK : ∀ {b : Addr} {m : Str → Option Value}, t.heap.Ns b m → (hidT t.heap H).Ns b m := fun ⟨o, es, ep, e, d, r⟩ => ⟨o, es, ep, hidT_get e (dictFree e d), d, r⟩
    have kb : K.In (hidT t.heap H) := fun b o e => hidT_get (kin b o e) (modFree e)
    obtain ⟨mc, l1, l2⟩ := lim
    have e0 : Env0 P w K mg (hidT t.heap H) callerA [] t H := ⟨rfl, ⟨kb, nsK nsG, ⟨mb, nsK nsB, blt⟩, ⟨mc, nsK l1, l2⟩⟩, fun b o e => of_hidT e, Nat.le_of_eq (hidT_size _ _), trivial, fun b z => (by cases z), hok, .of_eq gens⟩
    refine codeAny_mono ((F _ kb (nsK nsG)).run callerA [] t H ⟨[.ref a], []⟩ [.ref a] [.ref a] _ _ room e0 (bind t (.ref a)) (.cons rfl .nil) (law H sq)) fun r s' z => ?_
    cases r with
    | error e =>
      obtain ⟨_, _, _, _, _, _, _, _, _, _, _, _, no⟩ := z
      exact no.elim
    | ok fl =>
      cases fl with
      | next => exact z.elim
      | brk => exact z.elim
      | cont => exact z.elim
      | ret u =>
        obtain ⟨v, H', os, bare, un, hok', rv, rfl⟩ := z
        cases rv
        refine ⟨rfl, OldK.of_keep fun b o e => ?_, os, bare⟩
        cases q : H b with
        | none => exact un.keep b o e q (by simp [frs]) (by simp)
        | some u =>
          obtain ⟨_, _, ob, ys, rfl⟩ := hO b u q
          have g1 := (hok b _ q).1
          have g2 := (hok' b _ (un.frzs b ob _ q)).1
          rw [e] at g1
          cases g1
          exact g2
  cases hk : K.lookup a with
  | some o =>
    have e := kin a o hk
    rw [at_] at e
    cases e
    exact go (fun _ => none) (.inr ⟨_, us.toArray, _, hk, rfl, rfl, rfl, by rw [List.size_toArray, hints.length]; exact len, by simpa using vals⟩) (fun b u z => by cases z) (fun b u z => by cases z)
  | none =>
    let H : Hp := fun b => if b = a then some (.frz { cls := .type "list", data := .seq us.toArray } (.lst (ns.map V.int))) else none
    have inv : ∀ b u, H b = some u → b = a ∧ u = .frz { cls := .type "list", data := .seq us.toArray } (.lst (ns.map V.int)) := fun b u z => by
      by_cases hb : b = a
      · exact ⟨hb, (Option.some.inj ((if_pos hb).symm.trans z)).symm⟩
      · cases (if_neg hb).symm.trans z
    refine go H (.inl ⟨{ cls := .type "list", data := .seq us.toArray }, if_pos rfl⟩) (fun b u z => ?_) (fun b u z => ?_)
    · obtain ⟨rfl, rfl⟩ := inv b u z
      exact ⟨at_, by rw [List.length_map]; exact len, us, _, vals, at_⟩
    · obtain ⟨rfl, rfl⟩ := inv b u z
      exact ⟨rfl, hk, _, _, rfl⟩
/-- the head's goal, from a law in plain terms -/
theorem walk_I {l : PySem.W.OpenLaw} {m n : Nat} {q : Program} {loose : List Str} {XP : (Str → Option Value) → Heap → Prop} {YP : World → Heap → Prop} {d : DefRec} {P : Pg} {li : Nat} {dl : DefI} {x : Str}
    (hn : l.most = some m) (hm : m ≤ sizeLine) (hdf : d.params.defaults = []) (room : RoomI (2 * n + 1) callerA) (hl : P.defs[li]? = some dl)
    (law : ∀ ns : List Int, ns.length ≤ m → (∀ k ∈ ns, Builtin.Int.intBits k ≤ 1048576) → ∃ h, callI (prOf P) false n li [.frz (ns.map IV.int)] [] = .ok (.bl true) h)
    (facts : ∀ (w : World) (mg : Str → Option Value) (fa : Addr) (h : Heap), YP w h → h.Ns mainGlobals mg → mg d.name = some (.ref fa) →
      ∃ (F : Fx), F.D.K.In h ∧ fa = F.fA li ∧ F.fP li = [x] ∧ (∀ (s : Shared) (u : Value), BindsTo s (F.fD li) ⟨[u], []⟩ [(x, u)]) ∧ (∀ base : Heap, F.D.K.In base → base.Ns mainGlobals mg → PgOk P F l.prog w mg base) ∧ ∀ (f : Nat) (d : DefI), P.defs[f]? = some d → DfOk P F f d) :
    PySem.W.WalkO q loose XP YP l.row.toRowW d [] (fun f vs => PySem.call f vs) := by
  refine Att.attach_callB hn hdf fun w s₀ s₁ mg mb fa o pm cd doc a vs ns G Y ho hd hcd hmg hobj hints hlen hbits hg => ?_
  obtain ⟨F, kin, rfl, hP, hb, hpg, hdf⟩ := facts w mg fa _ Y G.T.g hmg
  obtain ⟨h, e⟩ := law ns hlen hbits
  refine law_I (sp := spI F.D 1 (callI (prOf P) false n li)) kin G.T.g G.T.b G.T.builtins G.T.nolimit hg hobj hints (Nat.le_trans hlen hm) room (fun base k1 k2 => ?_) hb fun H sq => ⟨rfl, [], [], [.frz (ns.map IV.int)], ⟨rfl, by simp, fun n o a z => by simp at z⟩, .cons (.frz sq (by
    clear hlen hbits hobj hints sq e
    induction ns with
    | nil => exact .nil
    | cons i r ih => exact .cons (.int i) ih)) .nil, ?_⟩
  · have M := (master (hpg base k1 k2) hdf n li dl hl).1
    rw [hP] at M
    exact M
  · rw [e]
    intro ρ' H' b _ _ r
    cases r
    rfl
end Itp

/-! ItW: the facts of a program, by one look. -/
namespace Itp
open PySem PySem.Spec PyProof.Rows L2
/-- a constant of the module -/
inductive Gd where
  | int (i : Int) | str (x : Str) | tup (xs : List He.Dv) | lst (xs : List He.Dv)
structure Dsc where
  P : Pg
  fn : List He.DefD
  prm : List (List Str)
  Ns : List (List Str)
  /-- an exception's class, its __init__ among fn -/
  ini : List (Nat × Nat)
  gd : List Gd
section
variable (c : Dsc) (K : PySem.W.Frag)
def Dsc.cA (i : Nat) : Addr := match c.P.cns[i]? with
  | some x => He.ga K x
  | none => 0
def Dsc.fA (f : Nat) : Addr := match c.fn[f]? with
  | some d => He.fAd K d.at_
  | none => 0
def Dsc.fx : Fx := ⟨⟨K, nmOf c.P.nms, c.cA K, c.P.sg⟩, c.fA K, fun f => match K.lookup (c.fA K f) with
  | some ⟨_, _, .func fd, _⟩ => fd
  | _ => default, fun f => (c.prm[f]?).getD []⟩
def all2 {α β : Type} (f : Nat → α → Bool) (n : Nat) : List α → Bool
  | [] => true
  | x :: r => f n x && all2 (β := β) f (n + 1) r
theorem all2_ok {α β : Type} {f : Nat → α → Bool} : ∀ {l : List α} {n i : Nat} {x : α}, all2 (β := β) f n l = true → l[i]? = some x → f (n + i) x = true
  | [], _, i, _, _, e => by simp at e
  | y :: r, n, 0, x, h, e => by
    simp at e
    subst e
    exact (Bool.and_eq_true_iff.mp h).1
  | y :: r, n, i + 1, x, h, e => by
    have := all2_ok (l := r) (n := n + 1) (i := i) (Bool.and_eq_true_iff.mp h).2 (by simpa using e)
    rwa [Nat.add_assoc, Nat.add_comm 1 i] at this
/-- the facts of one class -/
def Dsc.isB (C : Addr) : Bool := He.eqO (PySem.W.findIn K (.ref C) "__class__") (some (some (.builtin "object.__class__"))) && He.eqO (PySem.W.specialIn K (.builtin "object.__class__") "__get__") (some (some (.builtin "getset_descriptor.__get__"))) && decide (PySem.W.takesIn K (.builtin "object.__class__") = some true) && decide (PySem.W.mroIn K C (.type "object") = some true)
def Dsc.ooB (k : Nat) (ki : ClI) : Bool := (List.range c.P.sg.cls.length).all fun d => decide (PySem.W.kitOne K (.ref (c.cA K k)) (.ref (c.cA K d)) = some (ki.par.contains d))
def Dsc.mtB (C : Addr) (q : Nat × Nat) : Bool := He.eqO (PySem.W.findIn K (.ref C) (nmOf c.P.nms q.1)) (some (some (.ref (c.fA K q.2)))) && PySem.W.isFn K (.ref (c.fA K q.2)) && PySem.W.keepIn K (.ref (c.fA K q.2)) && decide (q.2 < c.P.defs.length) && (!(nmOf c.P.nms q.1 == ("__eq__" : Str)) || He.eqO (PySem.W.findIn K (.ref C) "__ne__") (some (some (.builtin "object.__ne__"))))
def Dsc.inB (C : Addr) (f : Nat) : Bool := PySem.W.makesIn K C && He.eqO (PySem.W.findIn K (.ref C) "__init__") (some (some (.ref (c.fA K f)))) && PySem.W.isFn K (.ref (c.fA K f)) && PySem.W.keepIn K (.ref C) && decide (f < c.P.defs.length)
def Dsc.exB (k : Nat) (ki : ClI) (f : Nat) : Bool := ki.flds.isEmpty && ki.mts.isEmpty && ki.ini.isNone && xfB K (c.cA K k) && He.eqO (PySem.W.findIn K (.ref (c.cA K k)) (nmOf c.P.nms f)) (some none) && Dsc.isB K (c.cA K k) && c.ooB K k ki &&
  (all2 (β := Unit) (fun d kd => kd.exf.isNone || decide (PySem.W.exmOne K (.ref (c.cA K k)) (.ref (c.cA K d)) = some (ki.par.contains d))) 0 c.P.sg.cls) && (match c.ini.lookup k with
  | some g => exK K (c.cA K k) (c.fA K g)
  | none => false)
def Dsc.plB (k : Nat) (ki : ClI) : Bool := (He.Fa.ok K (.cls ((c.P.cns[k]?).getD ""))) && ki.flds.all (fun f => He.eqO (PySem.W.findIn K (.ref (c.cA K k)) (nmOf c.P.nms f)) (some none)) && ki.mts.all (c.mtB K (c.cA K k)) && (match ki.ini with
  | some f => c.inB K (c.cA K k) f
  | none => true) && Dsc.isB K (c.cA K k) && c.ooB K k ki && tyNs.all fun t => decide (PySem.W.kitOne K (.ref (c.cA K k)) (.type t) = some false)
def Dsc.clB (k : Nat) (ki : ClI) : Bool := (match ki.exf with
  | some f => c.exB K k ki f
  | none => c.plB K k ki) && tyNs.all fun t => decide (PySem.W.kitOne K (.type t) (.ref (c.cA K k)) = some false)
def Dsc.fnB (f : Nat) (o : Option Str) : Bool := match o with
  | some x => (match c.fn[f]? with
    | some d => decide (d.at_ = (x, none))
    | none => false) && He.Fa.ok K (.glo x) && He.Fa.ok K (.keep x) && decide (f < c.P.defs.length)
  | none => true
def dvIV : He.Dv → Option IV
  | .non => some .non
  | .bl b => some (.bl b)
  | .int i => some (.int i)
  | .str x => some (.str x)
  | _ => none
def dvsB : List He.Dv → List IV → Bool
  | [], [] => true
  | d :: ds, x :: xs => (match dvIV d with
    | some y => ivEq y x
    | none => false) && dvsB ds xs
  | _, _ => false
def noDict (x : Str) : Bool := match K.lookup (He.ga K x) with
  | some ⟨_, none, _, _⟩ => true
  | _ => false
def Dsc.gdB (x : Str) (g : Gd) (y : IV) : Bool := match g, y with
  | .int i, .int j => He.Fa.ok K (.int x i) && decide (i = j)
  | .str i, .str j => He.Fa.ok K (.str x i) && decide (i = j)
  | .tup ds, .tup ys => He.Fa.ok K (.glo x) && He.tupB K x ds && dvsB ds ys && noDict K x
  | .lst ds, .frz ys => He.Fa.ok K (.glo x) && He.lstB K x ds && dvsB ds ys
  | _, _ => false
def Dsc.glB : Bool := all2 (β := Unit) (fun i x => match c.gd[i]?, c.P.sg.glo[i]? with
  | some g, some y => Dsc.gdB K x g y
  | _, _ => false) 0 c.P.gns
/-- the one look -/
def Dsc.ex : Bool := (frees.all fun x => He.Fa.ok K (.free x)) && (c.P.cns.all fun x => He.Fa.ok K (.glo x)) && all2 (β := Unit) (c.clB K) 0 c.P.sg.cls && all2 (β := Unit) (c.fnB K) 0 c.P.fns && c.glB K
end
/-- what needs no look -/
def nmsB (l : List Str) : Bool := decide l.Nodup && l.all fun x => match x.cps.toList with
  | [a, _] => decide (a ≠ 0)
  | _ => true
theorem nm_inj {l : List Str} (h : nmsB l = true) {f g : Nat} (e : nmOf l f = nmOf l g) : f = g := by
  unfold nmsB at h
  simp only [Bool.and_eq_true, decide_eq_true_eq] at h
  obtain ⟨nd, h2⟩ := h
  have out : ∀ {i : Nat} {x : Str}, l[i]? = some x → x ≠ (⟨#[0, g]⟩ : Str) ∧ x ≠ (⟨#[0, f]⟩ : Str) := fun {i x} hx => by
    have := List.all_eq_true.mp h2 x (List.mem_of_getElem? hx)
    refine ⟨fun z => ?_, fun z => ?_⟩ <;> (subst z; simp at this)
  unfold nmOf at e
  cases hf : l[f]? with
  | none =>
    cases hg : l[g]? with
    | none =>
      rw [hf, hg] at e
      injection e with e
      simpa using e
    | some y =>
      rw [hf, hg] at e
      exact absurd e.symm (out hg).2
  | some x =>
    cases hg : l[g]? with
    | none =>
      rw [hf, hg] at e
      exact absurd e (out hf).1
    | some y =>
      rw [hf, hg] at e
      subst e
      exact nd_inj nd hf hg
def fnScB (N ps : List Str) (sc : Scope) : Bool := (match sc.kind with
  | .function => true
  | _ => false) && !sc.isCoroutine && !sc.isGenerator && decide N.Nodup && decide (N.take ps.length = ps) && (ps.all fun x => decide (sc.names.lookup x = some .local) || decide (sc.names.lookup x = some .cell)) && sc.names.all fun y => decide (y.2 ≠ .free)
theorem fnScB_ok {N ps : List Str} {sc : Scope} (h : fnScB N ps sc = true) : FnScope N ps sc := by
  unfold fnScB at h
  simp only [Bool.and_eq_true, decide_eq_true_eq, Bool.not_eq_true'] at h
  obtain ⟨⟨⟨⟨⟨⟨h1, h2⟩, h3⟩, h4⟩, h5⟩, h6⟩, h7⟩ := h
  refine ⟨?_, h2, h3, h4, h5, fun x hx => ?_, fun y hy => ?_⟩
  · split at h1
    · assumption
    · cases h1
  · have := List.all_eq_true.mp h6 x hx
    simpa using this
  · have := List.all_eq_true.mp h7 y hy
    simpa using this
/-- the text held against the program -/
def Dsc.dfB (c : Dsc) (f : Nat) (d : DefI) : Bool := match c.fn[f]?, c.prm[f]?, c.Ns[f]? with
  | some q, some ps, some N => fnScB N ps q.scope && decide (ps.length = d.np) && decide (N.length = d.nl) && chkB c.P d.body ⟨N, q.scope, fun _ => true⟩ q.body
  | _, _, _ => false
def Dsc.inB2 (c : Dsc) (q : Nat × Nat) : Bool := match c.fn[q.2]?, c.prm[q.2]?, c.Ns[q.2]?, (c.P.sg.cls[q.1]?).bind (·.exf) with
  | some d, some ps, some N, some f => fnScB N ps d.scope && decide (ps.length = 2) && decide (N.length = 2) && iniB N d.scope (nmOf c.P.nms f) d.body
  | _, _, _, _ => false
def Dsc.sta (c : Dsc) : Bool := nmsB c.P.nms && decide (c.P.cns.length = c.P.sg.cls.length) && all2 (β := Unit) c.dfB 0 c.P.defs && c.ini.all c.inB2
end Itp

/-! ItX: what the look gives. -/
namespace Itp
open PySem PySem.Spec PyProof.Rows L2
abbrev FunOf (K : PySem.W.Frag) (d : He.DefD) (fd : FuncData) : Prop := FunD K d.name d.qual d.params d.body d.scope (d.dvs K) (d.kws K) (He.fAd K d.at_) fd
/-- a call's binding, of the i-th def -/
def BOk (c : Dsc) (f n : Nat) (ks : List Str) (bs : List Bd) : Prop := ∀ (K : PySem.W.Frag) (d : He.DefD) (fd : FuncData) (D : Dn), c.fn[f]? = some d → FunOf K d fd → D.K = K → BindI D fd ((c.prm[f]?).getD []) n ks bs
theorem lk_mem {β : Type} : ∀ {l : List (Nat × β)} {k : Nat} {v : β}, l.lookup k = some v → (k, v) ∈ l
  | [], _, _, h => by cases h
  | (a, b) :: r, k, v, h => by
    by_cases e : k = a
    · subst e
      simp [List.lookup] at h
      rw [h]
      exact List.mem_cons_self
    · have : (k == a) = false := by simpa using e
      simp [List.lookup, this] at h
      exact List.mem_cons_of_mem _ (lk_mem h)
section
variable {c : Dsc} {K : PySem.W.Frag}
theorem Dsc.fD_eq {f : Nat} {d : He.DefD} {fd : FuncData} (h : c.fn[f]? = some d) (F : FunOf K d fd) : (c.fx K).fD f = fd := by
  obtain ⟨oc, od, dV, kV, doc, pm, an, cdv, ct, osl, e, lk, _⟩ := F.ex
  show (match K.lookup (c.fA K f) with
  | some ⟨_, _, .func fd, _⟩ => fd
  | _ => default) = fd
  have : c.fA K f = He.fAd K d.at_ := by unfold Dsc.fA; rw [h]
  rw [this, lk]
theorem dvs_V : ∀ {ds : List He.Dv} {xs : List IV} {ρ : List Addr} {H : Hp}, dvsB ds xs = true → VRs (c.fx K).D ρ H xs (ds.map (He.Dv.v K))
  | [], [], _, _, _ => .nil
  | [], _ :: _, _, _, h => by cases h
  | _ :: _, [], _, _, h => by cases h
  | d :: ds, x :: xs, ρ, H, h => by
    obtain ⟨h1, h2⟩ := Bool.and_eq_true_iff.mp (show ((match dvIV d with
      | some y => ivEq y x
      | none => false) && dvsB ds xs) = true from h)
    refine .cons ?_ (dvs_V h2)
    cases d with
    | non => rw [← ivEq_ok h1]; exact .non
    | bl b => rw [← ivEq_ok h1]; exact .bl b
    | int i => rw [← ivEq_ok h1]; exact .int i
    | str z => rw [← ivEq_ok h1]; exact .str z
    | _ => cases h1
theorem lst_F {x : Str} {ds : List He.Dv} (h : He.lstB K x ds = true) (H : Hp) : SqF K H (He.ga K x) (ds.map (He.Dv.v K)) := by
  rcases He.lstB_ok h (fun _ => none) with z | z
  · rcases z with z | ⟨o, z⟩ <;> cases z
  · exact .inr z
theorem tup_at {x : Str} {ds : List He.Dv} (h : He.tupB K x ds = true) (h2 : noDict K x = true) : ∃ ob, K.lookup (He.ga K x) = some ob ∧ ob.cls = .type "tuple" ∧ ob.dict = none := by
  rcases He.tupB_ok h (fun _ => none) with z | ⟨o, its, n, z1, z2, _⟩
  · rcases z with z | ⟨o, z⟩ <;> cases z
  · refine ⟨o, z1, z2, ?_⟩
    unfold noDict at h2
    rw [z1] at h2
    obtain ⟨oc, od, dt, sl⟩ := o
    cases od with
    | none => rfl
    | some _ => cases h2
theorem bAnd {a b : Bool} (h : (a && b) = true) : a = true ∧ b = true := Bool.and_eq_true_iff.mp h
theorem pg_of {prog : Program} {w : World} {mg : Str → Option Value} {base : Heap} (kin : K.In base) (G : base.Ns mainGlobals mg) (sta : c.sta = true) (ex : c.ex K = true) (fns : ∀ (f : Nat) (d : He.DefD), c.fn[f]? = some d → ∃ fd, FunOf K d fd)
    (bds : ∀ q ∈ c.P.bds, BOk c q.1 q.2.1 q.2.2.1 q.2.2.2) (rbs : ∀ q ∈ c.P.rbs, ∀ g, c.ini.lookup q.1 = some g → BOk c g (q.2.1 + 1) [] q.2.2) (dn : c.P.bds.all (fun q => decide (q.1 < c.fn.length)) = true) : PgOk c.P (c.fx K) prog w mg base := by
  unfold Dsc.ex at ex
  obtain ⟨ex, e5⟩ := bAnd ex
  obtain ⟨ex, e4⟩ := bAnd ex
  obtain ⟨ex, e3⟩ := bAnd ex
  obtain ⟨e1, e2⟩ := bAnd ex
  unfold Dsc.sta at sta
  obtain ⟨sta, s4⟩ := bAnd sta
  obtain ⟨sta, s3⟩ := bAnd sta
  obtain ⟨s1, s2⟩ := bAnd sta
  have s2 := of_decide_eq_true s2
  -- a class
  have cl : ∀ (k : Nat) (ki : ClI), c.P.sg.cls[k]? = some ki → c.clB K k ki = true := fun k ki h => by
    have := all2_ok e3 h
    rwa [Nat.zero_add] at this
  have clN : ∀ (k : Nat) (ki : ClI), c.P.sg.cls[k]? = some ki → ∃ x, c.P.cns[k]? = some x ∧ c.cA K k = He.ga K x := fun k ki h => by
    have hk : k < c.P.cns.length := by rw [s2]; exact (List.getElem?_eq_some_iff.mp h).1
    exact ⟨_, List.getElem?_eq_getElem hk, by unfold Dsc.cA; rw [List.getElem?_eq_getElem hk]⟩
  have pl : ∀ (k : Nat) (ki : ClI), c.P.sg.cls[k]? = some ki → ki.exf.isNone = true → c.plB K k ki = true := fun k ki h hx => by
    have z := (bAnd (cl k ki h)).1
    cases e : ki.exf with
    | none => rw [e] at z; exact z
    | some f => rw [e] at hx; cases hx
  have exx : ∀ (k : Nat) (ki : ClI) (f : Nat), c.P.sg.cls[k]? = some ki → ki.exf = some f → c.exB K k ki f = true := fun k ki f h hx => by
    have z := (bAnd (cl k ki h)).1
    rw [hx] at z
    exact z
  have isOf : ∀ {C : Addr}, Dsc.isB K C = true → PySem.W.findIn K (.ref C) "__class__" = some (some (.builtin "object.__class__")) ∧ PySem.W.specialIn K (.builtin "object.__class__") "__get__" = some (some (.builtin "getset_descriptor.__get__")) ∧ PySem.W.takesIn K (.builtin "object.__class__") = some true ∧ PySem.W.mroIn K C (.type "object") = some true := fun {C} h => by
    unfold Dsc.isB at h
    obtain ⟨h, h4⟩ := bAnd h
    obtain ⟨h, h3⟩ := bAnd h
    obtain ⟨h1, h2⟩ := bAnd h
    exact ⟨He.eqO_ok h1, He.eqO_ok h2, of_decide_eq_true h3, of_decide_eq_true h4⟩
  have ooOf : ∀ {k : Nat} {ki : ClI}, c.ooB K k ki = true → ∀ d, d < c.P.sg.cls.length → PySem.W.kitOne K (.ref (c.cA K k)) (.ref (c.cA K d)) = some (ki.par.contains d) := fun {k ki} h d hd => of_decide_eq_true (List.all_eq_true.mp h d (List.mem_range.mpr hd))
  -- the facts of a plain class
  have plF : ∀ (k : Nat) (ki : ClI), c.P.sg.cls[k]? = some ki → ki.exf.isNone = true → Cls K (c.cA K k) ∧ (∀ f ∈ ki.flds, NoAttr K (c.cA K k) (nmOf c.P.nms f)) ∧ (∀ q ∈ ki.mts, Meth K (c.cA K k) (nmOf c.P.nms q.1) (c.fA K q.2) ∧ q.2 < c.P.defs.length ∧ (nmOf c.P.nms q.1 = "__eq__" → PySem.W.findIn K (.ref (c.cA K k)) "__ne__" = some (some (.builtin "object.__ne__")))) ∧ (∀ f, ki.ini = some f → Mk K (c.cA K k) (c.fA K f) ∧ f < c.P.defs.length) ∧
      Dsc.isB K (c.cA K k) = true ∧ c.ooB K k ki = true ∧ ∀ t ∈ tyNs, PySem.W.kitOne K (.ref (c.cA K k)) (.type t) = some false := fun k ki h hx => by
    have z := pl k ki h hx
    obtain ⟨x, hx1, hx2⟩ := clN k ki h
    unfold Dsc.plB at z
    obtain ⟨z, z7⟩ := bAnd z
    obtain ⟨z, z6⟩ := bAnd z
    obtain ⟨z, z5⟩ := bAnd z
    obtain ⟨z, z4⟩ := bAnd z
    obtain ⟨z, z3⟩ := bAnd z
    obtain ⟨z1, z2⟩ := bAnd z
    rw [hx1] at z1
    refine ⟨by rw [hx2]; exact He.cls_ok z1, fun f hf => He.eqO_ok (List.all_eq_true.mp z2 f hf), fun q hq => ?_, fun f hf => ?_, z5, z6, fun t ht => of_decide_eq_true (List.all_eq_true.mp z7 t ht)⟩
    · have y := List.all_eq_true.mp z3 q hq
      unfold Dsc.mtB at y
      obtain ⟨y, y5⟩ := bAnd y
      obtain ⟨y, y4⟩ := bAnd y
      obtain ⟨y, y3⟩ := bAnd y
      obtain ⟨y1, y2⟩ := bAnd y
      refine ⟨⟨He.eqO_ok y1, y2, y3⟩, of_decide_eq_true y4, fun e => ?_⟩
      rw [e] at y5
      rcases Bool.or_eq_true_iff.mp y5 with z | z
      · simp at z
      · exact He.eqO_ok z
    · rw [hf] at z4
      have y : c.inB K (c.cA K k) f = true := z4
      unfold Dsc.inB at y
      obtain ⟨y, y5⟩ := bAnd y
      obtain ⟨y, y4⟩ := bAnd y
      obtain ⟨y, y3⟩ := bAnd y
      obtain ⟨y1, y2⟩ := bAnd y
      exact ⟨⟨y1, He.eqO_ok y2, y3, y4⟩, of_decide_eq_true y5⟩
  -- the facts of an exception's class
  have exF : ∀ (k : Nat) (ki : ClI) (f : Nat), c.P.sg.cls[k]? = some ki → ki.exf = some f → ki.flds = [] ∧ ki.mts = [] ∧ ki.ini = none ∧ XfC K (c.cA K k) ∧ PySem.W.findIn K (.ref (c.cA K k)) (nmOf c.P.nms f) = some none ∧ Dsc.isB K (c.cA K k) = true ∧ c.ooB K k ki = true ∧
      (∀ (d : Nat) (kd : ClI), c.P.sg.cls[d]? = some kd → kd.exf.isSome = true → PySem.W.exmOne K (.ref (c.cA K k)) (.ref (c.cA K d)) = some (ki.par.contains d)) ∧ ∃ g, c.ini.lookup k = some g ∧ ExK K (c.cA K k) (c.fA K g) := fun k ki f h hx => by
    have z := exx k ki f h hx
    unfold Dsc.exB at z
    obtain ⟨z, z9⟩ := bAnd z
    obtain ⟨z, z8⟩ := bAnd z
    obtain ⟨z, z7⟩ := bAnd z
    obtain ⟨z, z6⟩ := bAnd z
    obtain ⟨z, z5⟩ := bAnd z
    obtain ⟨z, z4⟩ := bAnd z
    obtain ⟨z, z3⟩ := bAnd z
    obtain ⟨z1, z2⟩ := bAnd z
    refine ⟨by simpa using z1, by simpa using z2, by simpa using z3, xfB_ok z4, He.eqO_ok z5, z6, z7, fun d kd hd hk => ?_, ?_⟩
    · have y := all2_ok z8 hd
      rw [Nat.zero_add] at y
      rcases Bool.or_eq_true_iff.mp y with y | y
      · cases e : kd.exf with
        | none => rw [e] at hk; cases hk
        | some _ => rw [e] at y; cases y
      · exact of_decide_eq_true y
    · split at z9
      · rename_i g hg
        exact ⟨g, hg, exK_ok z9⟩
      · cases z9
  have bo : ∀ t d, t ∈ tyNs → d < c.P.sg.cls.length → PySem.W.kitOne K (.type t) (.ref (c.cA K d)) = some false := fun t d ht hd => of_decide_eq_true (List.all_eq_true.mp (bAnd (cl d _ (List.getElem?_eq_getElem hd))).2 t ht)
  have fdPl : ∀ {k : Nat} {ki : ClI}, c.P.sg.cls[k]? = some ki → (ki.flds ≠ [] ∨ ki.mts ≠ [] ∨ ki.ini ≠ none) → ki.exf.isNone = true := fun {k ki} h hh => by
    cases e : ki.exf with
    | none => rfl
    | some f =>
      obtain ⟨g1, g2, g3, _⟩ := exF k ki f h e
      rcases hh with z | z | z
      · exact absurd g1 z
      · exact absurd g2 z
      · exact absurd g3 z
  exact {
    nm := rfl
    inj := fun f g e => nm_inj s1 e
    sg := rfl
    fre := fun x hx => He.free_ok kin G (List.all_eq_true.mp e1 x hx)
    cls := fun k x h => by
      have y := He.glo_ok kin G (List.all_eq_true.mp e2 x (List.mem_of_getElem? h))
      rw [y]
      show _ = some (Value.ref (c.cA K k))
      unfold Dsc.cA
      rw [h]
    fld := fun k f h => by
      unfold Sg.fd at h
      split at h
      · rename_i ki hk
        have hm : f ∈ ki.flds := by simpa using h
        obtain ⟨g1, g2, _⟩ := plF k ki hk (fdPl hk (.inl fun z => by rw [z] at hm; cases hm))
        exact ⟨g1, g2 f hm⟩
      · cases h
    mts := fun k n f h => by
      unfold Sg.mt at h
      split at h
      · rename_i ki hk
        have hm := lk_mem h
        obtain ⟨g1, _, g3, _⟩ := plF k ki hk (fdPl hk (.inr (.inl fun z => by rw [z] at hm; cases hm)))
        exact ⟨g1, (g3 _ hm).1, (g3 _ hm).2.1⟩
      · cases h
    eqs := fun k n f h => by
      unfold Sg.mt at h
      split at h
      · rename_i ki hk
        have hm := lk_mem h
        have hx := fdPl hk (.inr (.inl fun z => by rw [z] at hm; cases hm))
        obtain ⟨g1, _, g3, _⟩ := plF k ki hk hx
        exact ⟨⟨ki, hk, hx⟩, (g3 _ hm).2.2⟩
      · cases h
    ini := fun k ki f h hi => (plF k ki h (fdPl h (.inr (.inr fun z => by rw [z] at hi; cases hi)))).2.2.2.1 f hi
    fns := fun f x h => by
      have y := all2_ok e4 h
      rw [Nat.zero_add] at y
      unfold Dsc.fnB at y
      simp only at y
      obtain ⟨y, y4⟩ := bAnd y
      obtain ⟨y, y3⟩ := bAnd y
      obtain ⟨y1, y2⟩ := bAnd y
      have hA : c.fA K f = He.ga K x := by
        split at y1
        · rename_i d hd
          have ha := of_decide_eq_true y1
          unfold Dsc.fA
          rw [hd]
          show He.fAd K d.at_ = _
          rw [ha]
          rfl
        · cases y1
      refine ⟨?_, ?_, of_decide_eq_true y4⟩
      · rw [He.glo_ok kin G y2]
        show _ = some (Value.ref (c.fA K f))
        rw [hA]
      · show PySem.W.keepIn K (.ref (c.fA K f)) = true
        rw [hA]
        exact He.keep_ok y3
    bnd := fun f n ks bs h => by
      have b := bds _ h
      intro s us zs k1 h1 h2
      have hf : ∃ d, c.fn[f]? = some d := ⟨_, List.getElem?_eq_getElem (of_decide_eq_true (List.all_eq_true.mp dn _ h))⟩
      obtain ⟨d, hd⟩ := hf
      obtain ⟨fd, F⟩ := fns f d hd
      rw [Dsc.fD_eq hd F]
      exact b K d fd (c.fx K).D hd F rfl s us zs k1 h1 h2
    glo := fun i x y h1 h2 => by
      have z := all2_ok (show all2 (β := Unit) _ 0 c.P.gns = true from e5) h1
      rw [Nat.zero_add, h2] at z
      cases hg : c.gd[i]? with
      | none => rw [hg] at z; cases z
      | some g =>
        rw [hg] at z
        replace z : Dsc.gdB K x g y = true := z
        unfold Dsc.gdB at z
        split at z
        · rename_i i j
          obtain ⟨z1, z2⟩ := bAnd z
          obtain ⟨t, ht⟩ := He.int_ok kin G z1
          rw [← of_decide_eq_true z2]
          exact ⟨.int i, _, ht, ⟨t, rfl⟩, fun _ _ => .int i⟩
        · rename_i i j
          obtain ⟨z1, z2⟩ := bAnd z
          obtain ⟨t, ht⟩ := He.str_ok kin G z1
          rw [← of_decide_eq_true z2]
          exact ⟨.str i, _, ht, ⟨t, rfl⟩, fun _ _ => .str i⟩
        · rename_i ds ys
          obtain ⟨z, _⟩ := bAnd z
          obtain ⟨z, z3⟩ := bAnd z
          obtain ⟨z1, z2⟩ := bAnd z
          exact ⟨.ref (He.ga K x), _, He.glo_ok kin G z1, rfl, fun ρ H => .tup (He.tupB_ok z2 H) (dvs_V z3)⟩
        · rename_i ds ys
          obtain ⟨z, z3⟩ := bAnd z
          obtain ⟨z1, z2⟩ := bAnd z
          exact ⟨.ref (He.ga K x), _, He.glo_ok kin G z1, rfl, fun ρ H => .frz (lst_F z2 H) (dvs_V z3)⟩
        · cases z
    gtu := fun i x xs h1 h2 => by
      have z := all2_ok (show all2 (β := Unit) _ 0 c.P.gns = true from e5) h1
      rw [Nat.zero_add, h2] at z
      cases hg : c.gd[i]? with
      | none => rw [hg] at z; cases z
      | some g =>
        rw [hg] at z
        replace z : Dsc.gdB K x g (.tup xs) = true := z
        cases g with
        | tup ds =>
          obtain ⟨z, z4⟩ := bAnd (show (He.Fa.ok K (.glo x) && He.tupB K x ds && dvsB ds xs && noDict K x) = true from z)
          obtain ⟨z, z3⟩ := bAnd z
          obtain ⟨z1, z2⟩ := bAnd z
          obtain ⟨ob, k1, k2, k3⟩ := tup_at z2 z4
          exact ⟨He.ga K x, ob, _, He.glo_ok kin G z1, k1, k2, k3, fun ρ H => ⟨He.tupB_ok z2 H, dvs_V z3⟩⟩
        | _ => cases z
    isf := {
      own := fun k ki h hx => by
        obtain ⟨g1, _, _, _, g5, _⟩ := plF k ki h hx
        exact ⟨g1, isOf g5⟩
      oo := fun k ki d h hx hd => ooOf (plF k ki h hx).2.2.2.2.2.1 d hd
      ob := fun k ki t h hx ht => (plF k ki h hx).2.2.2.2.2.2 t ht
      bo := bo }
    exf := {
      xf := fun k ki f h hx => ⟨(exF k ki f h hx).2.2.2.1, (exF k ki f h hx).2.2.2.2.1⟩
      is := fun k ki h hx => by
        obtain ⟨f, hf⟩ := Option.isSome_iff_exists.mp hx
        exact isOf (exF k ki f h hf).2.2.2.2.2.1
      oo := fun k ki d h hx hd => by
        obtain ⟨f, hf⟩ := Option.isSome_iff_exists.mp hx
        exact ooOf (exF k ki f h hf).2.2.2.2.2.2.1 d hd
      mt := fun k ki d kd h hx hd hk => by
        obtain ⟨f, hf⟩ := Option.isSome_iff_exists.mp hx
        exact (exF k ki f h hf).2.2.2.2.2.2.2.1 d kd hd hk }
    rse := fun k ki fn h hx => by
      obtain ⟨g, hg, T⟩ := (exF k ki fn h hx).2.2.2.2.2.2.2.2
      have q := List.all_eq_true.mp s4 (k, g) (lk_mem hg)
      unfold Dsc.inB2 at q
      split at q
      · rename_i d ps N f hd hp hN hf
        obtain ⟨q, q4⟩ := bAnd q
        obtain ⟨q, q3⟩ := bAnd q
        obtain ⟨q1, q2⟩ := bAnd q
        obtain ⟨fd, F⟩ := fns g d hd
        have ef : f = fn := by
          have hf : (c.P.sg.cls[k]?).bind (·.exf) = some f := hf
          rw [h] at hf
          have hf : ki.exf = some f := hf
          rw [hx] at hf
          cases hf
          rfl
        subst ef
        have hfa : c.fA K g = He.fAd K d.at_ := by unfold Dsc.fA; rw [hd]
        refine ⟨c.fA K g, fd, ps, T, fun k' => ?_, fun n bs hm => ?_⟩
        · rw [hfa]
          exact fnI_ini F (fnScB_ok q1) (of_decide_eq_true q2) (of_decide_eq_true q3) q4
        · have b := rbs _ hm g hg K d fd (c.fx K).D hd F rfl
          have hp' : c.prm[g]? = some ps := hp
          rw [hp'] at b
          exact b
      · cases q }
theorem df_of (sta : c.sta = true) (fns : ∀ (f : Nat) (d : He.DefD), c.fn[f]? = some d → ∃ fd, FunOf K d fd) (f : Nat) (d : DefI) (h : c.P.defs[f]? = some d) : DfOk c.P (c.fx K) f d := by
  unfold Dsc.sta at sta
  have s3 := (bAnd (bAnd sta).1).2
  have y := all2_ok s3 h
  rw [Nat.zero_add] at y
  unfold Dsc.dfB at y
  split at y
  · rename_i q ps N hq hp hN
    obtain ⟨y, y4⟩ := bAnd y
    obtain ⟨y, y3⟩ := bAnd y
    obtain ⟨y1, y2⟩ := bAnd y
    obtain ⟨fd, F⟩ := fns f q hq
    have hP : (c.fx K).fP f = ps := by
      show (c.prm[f]?).getD [] = ps
      rw [hp]
      rfl
    have hA : (c.fx K).fA f = He.fAd K q.at_ := by
      show c.fA K f = _
      unfold Dsc.fA
      rw [hq]
    exact ⟨q.name, q.qual, q.params, q.body, q.scope, q.dvs K, q.kws K, N, by rw [hA, Dsc.fD_eq hq F]; exact F, by rw [hP]; exact fnScB_ok y1, by rw [hP]; exact of_decide_eq_true y2, of_decide_eq_true y3, y4⟩
  · cases y
end
/-! ### the look at the heap -/
abbrev AlI : Type := He.AlD × Bool
def obsI (n : Nat) (c : Dsc) (g : Addr → Option Obj) : AlI := (He.obsD [] c.fn (He.frG g (He.asD g n)), c.ex (He.frG g (He.asD g n)))
def hookI (n : Nat) (c : Dsc) : PySem.W.Hook where
  α := AlI
  obs := fun s => obsI n c s.heap.get?
  val := fun _ => (He.valD c.fn, true)
  says := fun _ h => ∃ K : PySem.W.Frag, K.In h ∧ He.SaysD [] c.fn K ∧ c.ex K = true
  of := fun _ _ e => ⟨_, He.frG_in, congrArg (fun z : AlI => z.1) e, congrArg (fun z : AlI => z.2) e⟩
  keeps := fun _ _ _ ⟨K, hK, a, b⟩ k => ⟨K, PySem.W.Frag.In.keeps hK k, a, b⟩
theorem obsI_eq {n : Nat} {c : Dsc} {g : Addr → Option Obj} {s : Shared} (h : ∀ a, g a = s.heap.get? a) : obsI n c g = (hookI n c).obs s := by
  have e : g = s.heap.get? := funext h
  rw [e] <;> rfl
/-- the end: a law by its plain law -/
theorem done_I {l : PySem.W.OpenLaw} {m n k : Nat} {q : Program} {loose : List Str} {XP : (Str → Option Value) → Heap → Prop} {c : Dsc} {li : Nat} {d : DefRec} {dl : DefI} {x : Str} {dd : He.DefD}
    (hn : l.most = some m) (hm : m ≤ sizeLine) (hdf : d.params.defaults = []) (room : RoomI (2 * n + 1) callerA) (hl : c.P.defs[li]? = some dl) (hd : c.fn[li]? = some dd) (hname : dd.at_ = (d.name, none)) (hfl : c.P.fns[li]? = some (some d.name)) (hp : c.prm[li]? = some [x]) (sta : c.sta = true)
    (bds : ∀ q ∈ c.P.bds, BOk c q.1 q.2.1 q.2.2.1 q.2.2.2) (rbs : ∀ q ∈ c.P.rbs, ∀ g, c.ini.lookup q.1 = some g → BOk c g (q.2.1 + 1) [] q.2.2) (dn : c.P.bds.all (fun q => decide (q.1 < c.fn.length)) = true)
    (hbind : ∀ (K : PySem.W.Frag) (fd : FuncData), FunOf K dd fd → ∀ (s : Shared) (u : Value), BindsTo s fd ⟨[u], []⟩ [(x, u)])
    (law : ∀ ns : List Int, ns.length ≤ m → (∀ k ∈ ns, Builtin.Int.intBits k ≤ 1048576) → ∃ h, callI (prOf c.P) false n li [.frz (ns.map IV.int)] [] = .ok (.bl true) h) :
    PySem.W.WalkO q loose XP (fun w h => (hookI k c).says w h) l.row.toRowW d [] (fun f vs => PySem.call f vs) := by
  refine walk_I (P := c.P) (x := x) hn hm hdf room hl law fun w mg fa h Y G hmg => ?_
  obtain ⟨K, kin, says, ex⟩ := Y
  have fns : ∀ (f : Nat) (d : He.DefD), c.fn[f]? = some d → ∃ fd, FunOf K d fd := fun f d h => He.SaysD.def_ says f h
  obtain ⟨fd, F⟩ := fns li dd hd
  have hA : (c.fx K).fA li = He.ga K d.name := by
    show c.fA K li = _
    unfold Dsc.fA
    rw [hd]
    show He.fAd K dd.at_ = _
    rw [hname]
    rfl
  refine ⟨c.fx K, kin, ?_, ?_, ?_, fun base k1 k2 => pg_of k1 k2 sta ex fns bds rbs dn, df_of sta fns⟩
  · have y := pg_of (w := w) (prog := l.prog) kin G sta ex fns bds rbs dn
    have z := (y.fns li d.name hfl).1
    rw [hmg] at z
    cases z
    rfl
  · show (c.prm[li]?).getD [] = [x]
    rw [hp]
    rfl
  · rw [Dsc.fD_eq hd F]
    exact hbind K fd F
end Itp

/-! ItY: bindings of calls, by the defs' parameters. -/
namespace Itp
open PySem PySem.Spec PyProof.Rows L2
section
variable {K : PySem.W.Frag} {D : Dn} {x qual : Str} {params : Arguments} {body : List Stmt} {scope : Scope} {kws : List (Str × V)} {fa : Addr} {fd : FuncData} {ps ks : List Str} {bs : List Bd} {n : Nat}
theorem bind_p (F : FunD K x qual params body scope [] kws fa fd) (hK : D.K = K)
    (h : ∀ (kV doc pm : Value) (an : Option Addr) (cdv ct : Value) (us zs : List Value), us.length = n → zs.length = ks.length → ∃ ws, bindArgs (PySem.W.fnOf x qual params body scope .none kV doc pm an cdv ct) ⟨us, ks.zip zs⟩ = pure (ps.zip ws) ∧ BdA D bs (us ++ zs) ws) : BindI D fd ps n ks bs := by
  obtain ⟨oc, od, dV, kV, doc, pm, an, cdv, ct, osl, rfl, lk, hcd, hD, _⟩ := F.ex
  intro s us zs kin h1 h2
  rcases hD with ⟨_, rfl⟩ | ⟨e, _⟩
  · obtain ⟨ws, e, b⟩ := h kV doc pm an cdv ct us zs h1 h2
    exact ⟨ws, .of_eq e, b⟩
  · exact absurd rfl e
theorem bind_d {v : V} {vs : List V} (F : FunD K x qual params body scope (v :: vs) kws fa fd) (hK : D.K = K)
    (h : ∀ (T : Addr) (kV doc pm : Value) (an : Option Addr) (cdv ct : Value) (us its zs : List Value), us.length = n → zs.length = ks.length → Vals (v :: vs) its → ∃ k ws, bindArgs (PySem.W.fnOf x qual params body scope (.ref T) kV doc pm an cdv ct) ⟨us, ks.zip zs⟩ = seqItems? (.ref T) >>= k ∧ k (some its.toArray) = pure (ps.zip ws) ∧ BdA D bs (us ++ zs) ws) : BindI D fd ps n ks bs := by
  obtain ⟨oc, od, dV, kV, doc, pm, an, cdv, ct, osl, rfl, lk, hcd, hD, _⟩ := F.ex
  intro s us zs kin h1 h2
  rcases hD with ⟨e, _⟩ | ⟨_, T, o, its, m, rfl, lT, oT, rT⟩
  · cases e
  · obtain ⟨k, ws, e1, e2, b⟩ := h T kV doc pm an cdv ct us its zs h1 h2 rT
    rw [hK] at kin
    exact ⟨ws, BindsTo.of_defaults rfl (kin _ _ lT) oT e1 e2, b⟩
theorem bind_law {p : Str} (F : FunD K x qual params body scope [] kws fa fd) (h : ∀ (kV doc pm : Value) (an : Option Addr) (cdv ct u : Value), bindArgs (PySem.W.fnOf x qual params body scope .none kV doc pm an cdv ct) ⟨[u], []⟩ = pure [(p, u)]) (s : Shared) (u : Value) : BindsTo s fd ⟨[u], []⟩ [(p, u)] := by
  obtain ⟨oc, od, dV, kV, doc, pm, an, cdv, ct, osl, rfl, lk, hcd, hD, _⟩ := F.ex
  rcases hD with ⟨_, rfl⟩ | ⟨e, _⟩
  · exact .of_eq (h kV doc pm an cdv ct u)
  · exact absurd rfl e
end
/-- a class's rows -/
def kBody (s : Stmt) : List Stmt := match s with
  | .ClassDef (body := b) .. => b
  | _ => []
def AllM {α : Type} (f : α → Prop) : List α → Prop
  | [] => True
  | x :: r => f x ∧ AllM f r
theorem allM {α : Type} {l : List α} {f : α → Prop} (h : AllM f l) : ∀ q ∈ l, f q := by
  induction l with
  | nil => intro q hq; cases hq
  | cons x r ih =>
    intro q hq
    rcases List.mem_cons.mp hq with e | e
    · rw [e]; exact h.1
    · exact ih h.2 q e
end Itp

/-! ItZ: runs, reckoned by simp. -/
namespace Itp
open PySem (Str PyData)
/-! ### only the head is looked at: what comes behind stands where simp does not look -/
class Hid (T : Type) where
  f : T
def R.bd {α β : Type} (r : R α) [k : Hid (α → IH → R β)] : R β := r.bind k.f
def RS.ofd {α : Type} (s : En) (r : R α) [k : Hid (α → IH → RS)] : RS := RS.of s r k.f
def RS.sqd (r : RS) [k : Hid (En → IH → RS)] : RS := RS.seq r k.f
def tryF (b : RS) [k : Hid (Nat → IV → En → IH → RS)] : RS := match b with
    | .ex c v s1 h1 => k.f c v s1 h1
    | r => r
def cnd {α : Type} (b : Bool) [x : Hid α] [y : Hid α] : α := if b = true then x.f else y.f
section
variable {α β : Type} {s : En} {h : IH}
theorem bd_ok {a : α} {f : α → IH → R β} : @R.bd α β (.ok a h) ⟨f⟩ = f a h := rfl
theorem bd_ex {c : Nat} {v : IV} {f : α → IH → R β} : @R.bd α β (.ex c v h) ⟨f⟩ = .ex c v h := rfl
theorem bd_no {f : α → IH → R β} : @R.bd α β .no ⟨f⟩ = .no := rfl
theorem of_ok {a : α} {f : α → IH → RS} : @RS.ofd α s (.ok a h) ⟨f⟩ = f a h := rfl
theorem of_ex {c : Nat} {v : IV} {f : α → IH → RS} : @RS.ofd α s (.ex c v h) ⟨f⟩ = .ex c v s h := rfl
theorem seq_nx {f : En → IH → RS} : @RS.sqd (.nx s h) ⟨f⟩ = f s h := rfl
theorem seq_rt {v : IV} {f : En → IH → RS} : @RS.sqd (.rt v h) ⟨f⟩ = .rt v h := rfl
theorem seq_ex {c : Nat} {v : IV} {f : En → IH → RS} : @RS.sqd (.ex c v s h) ⟨f⟩ = .ex c v s h := rfl
theorem seq_bk {f : En → IH → RS} : @RS.sqd (.bk s h) ⟨f⟩ = .bk s h := rfl
theorem seq_ct {f : En → IH → RS} : @RS.sqd (.ct s h) ⟨f⟩ = .ct s h := rfl
theorem try_nx {f : Nat → IV → En → IH → RS} : @tryF (.nx s h) ⟨f⟩ = .nx s h := rfl
theorem try_rt {v : IV} {f : Nat → IV → En → IH → RS} : @tryF (.rt v h) ⟨f⟩ = .rt v h := rfl
theorem try_bk {f : Nat → IV → En → IH → RS} : @tryF (.bk s h) ⟨f⟩ = .bk s h := rfl
theorem try_ct {f : Nat → IV → En → IH → RS} : @tryF (.ct s h) ⟨f⟩ = .ct s h := rfl
theorem try_ex {c : Nat} {v : IV} {f : Nat → IV → En → IH → RS} : @tryF (.ex c v s h) ⟨f⟩ = f c v s h := rfl
theorem cnd_t {x y : α} : @cnd α true ⟨x⟩ ⟨y⟩ = x := rfl
theorem cnd_f {x y : α} : @cnd α false ⟨x⟩ ⟨y⟩ = y := rfl
theorem cnd_d {p : Prop} [Decidable p] {x y : α} (q : p) : @cnd α (decide p) ⟨x⟩ ⟨y⟩ = x := by rw [decide_eq_true q]; rfl
theorem cnd_nd {p : Prop} [Decidable p] {x y : α} (q : ¬ p) : @cnd α (decide p) ⟨x⟩ ⟨y⟩ = y := by rw [decide_eq_false q]; rfl
end
section
variable {G : Sg} {m : Bool} {cs : CF} {s : En} {h : IH}
theorem opt_some {α : Type} (a : α) (h : IH) : opt (some a) h = .ok a h := rfl
theorem boo_some (b : Bool) (h : IH) : boo (some b) h = .ok (.bl b) h := rfl
theorem fin_nx (s : En) (h : IH) : fin (.nx s h) = .ok .non h := rfl
theorem fin_rt (v : IV) (h : IH) : fin (.rt v h) = .ok v h := rfl
theorem fin_ex (c : Nat) (v : IV) (s : En) (h : IH) : fin (.ex c v s h) = .ex c v h := rfl
theorem e_var {i : Nat} : evE G m cs (.var i) s h = opt (getV s i) h := rfl
theorem e_lit {v : IV} : evE G m cs (.lit v) s h = .ok v h := rfl
theorem e_glo {i : Nat} : evE G m cs (.glo i) s h = opt G.glo[i]? h := rfl
theorem e_bin {o : O2} {a b : IE} : evE G m cs (.bin o a b) s h = (evE G m cs a s h).bd (k := ⟨fun x h => (evE G m cs b s h).bd (k := ⟨fun y h => bin o x y h⟩)⟩) := rfl
theorem e_neg {a : IE} : evE G m cs (.neg a) s h = (evE G m cs a s h).bd (k := ⟨fun x h => match x with
    | .int i => .ok (.int (-i)) h
    | _ => .no⟩) := rfl
theorem e_cmp {o : C2} {a b : IE} : evE G m cs (.cmp o a b) s h = (evE G m cs a s h).bd (k := ⟨fun x h => (evE G m cs b s h).bd (k := ⟨fun y h => cmp o x y h⟩)⟩) := rfl
theorem e_chn {o p : C2} {a b c : IE} : evE G m cs (.chn o p a b c) s h = (evE G m cs a s h).bd (k := ⟨fun x h => (evE G m cs b s h).bd (k := ⟨fun y h => (cmp o x y h).bd (k := ⟨fun k h => match k with
    | .bl true => (evE G m cs c s h).bd (k := ⟨fun z h => cmp p y z h⟩)
    | .bl false => .ok (.bl false) h
    | _ => .no⟩)⟩)⟩) := rfl
theorem e_idx {a b : IE} : evE G m cs (.idx a b) s h = (evE G m cs a s h).bd (k := ⟨fun x h => (evE G m cs b s h).bd (k := ⟨fun y h => index x y h⟩)⟩) := rfl
theorem e_sl {a : IE} {lo hi : IOp} : evE G m cs (.sl a lo hi) s h = (evE G m cs a s h).bd (k := ⟨fun x h => (evO G m cs lo s h).bd (k := ⟨fun l h => (evO G m cs hi s h).bd (k := ⟨fun u h => slice x l u h⟩)⟩)⟩) := rfl
theorem o_no : evO G m cs .no s h = .ok none h := rfl
theorem o_so {e : IE} : evO G m cs (.so e) s h = (evE G m cs e s h).bd (k := ⟨fun x h => match x with
    | .int i => .ok (some i) h
    | _ => .no⟩) := rfl
theorem e_and {es : IA} : evE G m cs (.and es) s h = evAnd G m cs es s h := rfl
theorem e_or {es : IA} : evE G m cs (.or es) s h = evOr G m cs es s h := rfl
theorem e_and1 {e : IE} : evAnd G m cs (.cons e .nil) s h = evE G m cs e s h := rfl
theorem e_and2 {e d : IE} {es : IA} : evAnd G m cs (.cons e (.cons d es)) s h = (evE G m cs e s h).bd (k := ⟨fun x h => (opt (tru x h) h).bd (k := ⟨fun k h => cnd k (x := ⟨evAnd G m cs (.cons d es) s h⟩) (y := ⟨.ok x h⟩)⟩)⟩) := rfl
theorem e_or1 {e : IE} : evOr G m cs (.cons e .nil) s h = evE G m cs e s h := rfl
theorem e_or2 {e d : IE} {es : IA} : evOr G m cs (.cons e (.cons d es)) s h = (evE G m cs e s h).bd (k := ⟨fun x h => (opt (tru x h) h).bd (k := ⟨fun k h => cnd k (x := ⟨.ok x h⟩) (y := ⟨evOr G m cs (.cons d es) s h⟩)⟩)⟩) := rfl
theorem e_not {a : IE} : evE G m cs (.not a) s h = (evE G m cs a s h).bd (k := ⟨fun x h => (opt (tru x h) h).bd (k := ⟨fun k h => .ok (.bl (!k)) h⟩)⟩) := rfl
theorem e_tup {es : IA} : evE G m cs (.tup es) s h = (evA G m cs es s h).bd (k := ⟨fun vs h => if vs.length ≤ LN then .ok (.tup vs) h else .no⟩) := rfl
theorem e_lst {es : IA} : evE G m cs (.lst es) s h = (evA G m cs es s h).bd (k := ⟨fun vs h => if vs.length ≤ LN then .ok (.ref h.length) (h ++ [.lst vs]) else .no⟩) := rfl
theorem e_dic : evE G m cs (.dic .nil .nil) s h = .ok (.ref h.length) (h ++ [.dic []]) := rfl
theorem e_dic2 {k : IE} {r : IA} : evE G m cs (.dic (.cons k r) .nil) s h = (evA G m cs (.cons k r) s (h ++ [.dic []])).bd (k := ⟨fun xs h' => match h'[h.length]?, prs xs with
      | some (.dic []), some ps => if ps.length ≤ 15 ∧ (ps.all fun p => keyB p.1) = true then .ok (.ref h.length) (h'.set h.length (.dic (mrg ps))) else .no
      | _, _ => .no⟩) := rfl
theorem e_call {f : Nat} {es ks : IA} {bs : List Bd} : evE G false cs (.call f es ks bs) s h = (evA G false cs es s h).bd (k := ⟨fun vs h => (evA G false cs ks s h).bd (k := ⟨fun zs h => match args (vs ++ zs) bs with
    | some ws => cs f ws h
    | none => .no⟩)⟩) := rfl
theorem e_fld {a : IE} {f : Nat} : evE G m cs (.fld a f) s h = (evE G m cs a s h).bd (k := ⟨fun x h => match x with
    | .ref r => match h[r]? with
      | some (.ins c fs) => if G.fd c f = true then opt (fs.lookup f) h else .no
      | _ => .no
    | _ => .no⟩) := rfl
theorem e_meth {n : Nat} {o : IE} {es ks : IA} {bs : List Bd} : evE G false cs (.meth n o es ks bs) s h = (evE G false cs o s h).bd (k := ⟨fun x h => match x with
    | .ref r => match h[r]? with
      | some (.ins c fs) => match G.mt c n, fs.lookup n with
        | some f, none => (evA G false cs es s h).bd (k := ⟨fun vs h => (evA G false cs ks s h).bd (k := ⟨fun zs h => match args (.ref r :: (vs ++ zs)) bs with
          | some ws => cs f ws h
          | none => .no⟩)⟩)
        | _, _ => .no
      | _ => .no
    | _ => .no⟩) := rfl
theorem e_new {c : Nat} {es ks : IA} {bs : List Bd} : evE G false cs (.new c es ks bs) s h = (evA G false cs es s h).bd (k := ⟨fun vs h => (evA G false cs ks s h).bd (k := ⟨fun zs h => match (G.cls[c]?).bind (·.ini), args (.ref h.length :: (vs ++ zs)) bs with
    | some f, some ws => (cs f ws (h ++ [.ins c []])).bd (k := ⟨fun v h' => match v with
      | .non => .ok (.ref h.length) h'
      | _ => .no⟩)
    | _, _ => .no⟩)⟩) := rfl
theorem e_bi {b : Bi} {es : IA} : evE G false cs (.bi b es) s h = (evA G false cs es s h).bd (k := ⟨fun vs h => biF b vs h⟩) := rfl
theorem e_biT {b : Bi} {es : IA} (hb : b.hot = true) : evE G true cs (.bi b es) s h = (evA G true cs es s h).bd (k := ⟨fun vs h => biF b vs h⟩) := by
  show (if true = true ∧ b.hot = false then R.no else _) = _
  rw [hb, if_neg (by simp)]
  rfl
theorem e_hot1 {es : IA} : evE G true cs (.bi .repr es) s h = (evA G true cs es s h).bd (k := ⟨fun vs h => biF .repr vs h⟩) := e_biT rfl
theorem e_hot2 {es : IA} : evE G true cs (.bi .len es) s h = (evA G true cs es s h).bd (k := ⟨fun vs h => biF .len vs h⟩) := e_biT rfl
theorem e_hot3 {es : IA} : evE G true cs (.bi .int es) s h = (evA G true cs es s h).bd (k := ⟨fun vs h => biF .int vs h⟩) := e_biT rfl
theorem e_hot4 {es : IA} : evE G true cs (.bi .str es) s h = (evA G true cs es s h).bd (k := ⟨fun vs h => biF .str vs h⟩) := e_biT rfl
theorem e_hot5 {es : IA} : evE G true cs (.bi .bool es) s h = (evA G true cs es s h).bd (k := ⟨fun vs h => biF .bool vs h⟩) := e_biT rfl
theorem e_hot6 {es : IA} : evE G true cs (.bi .list es) s h = (evA G true cs es s h).bd (k := ⟨fun vs h => biF .list vs h⟩) := e_biT rfl
theorem e_hot7 {es : IA} : evE G true cs (.bi .tuple es) s h = (evA G true cs es s h).bd (k := ⟨fun vs h => biF .tuple vs h⟩) := e_biT rfl
theorem e_bm {k : Bm} {o : IE} {es : IA} : evE G m cs (.bm k o es) s h = (evE G m cs o s h).bd (k := ⟨fun x h => if isL x h = true then (evA G m cs es s h).bd (k := ⟨fun vs h => bmF k x vs h⟩) else .no⟩) := rfl
theorem e_isi {a : IE} {ks : List IC} : evE G m cs (.isi a ks) s h = (evE G m cs a s h).bd (k := ⟨fun x h => boo (isAny G x h ks) h⟩) := rfl
theorem e_lc {tg : Tg} {it : IT} {ifs : IQs} {elt : IE} : evE G false cs (.lc tg it ifs elt) s h = (evI G false cs it s h).bd (k := ⟨fun w h =>
      (colle w tg (wipe s tg.slots) (evAll G false cs ifs) (evE G false cs elt) h.length FU 0 (h ++ [.lst []])).bd (k := ⟨fun _ h' => .ok (.ref h.length) h'⟩)⟩) := rfl
theorem e_exf {i f : Nat} : evE G m cs (.exf i f) s h = (match s[i]? with
    | some (.x c y) => if (G.cls[c]?).bind (·.exf) = some f then .ok y h else .no
    | _ => .no) := rfl
theorem e_exi {i d : Nat} : evE G m cs (.exi i d) s h = (match s[i]? with
    | some (.x c _) => .ok (.bl (G.sub c d)) h
    | _ => .no) := rfl
theorem e_gix {i : Nat} {e : IE} : evE G m cs (.gix i e) s h = (evE G m cs e s h).bd (k := ⟨fun y h => tixF G.glo[i]? y h⟩) := rfl
theorem e_lrg {tup : Bool} {es : IA} : evE G false cs (.lrg tup es) s h = (evA G false cs es s h).bd (k := ⟨fun vs h => (opt (lrgV vs) h).bd (k := ⟨fun xs h => newL tup xs h⟩)⟩) := rfl
theorem e_lc2 {tg tg1 : Tg} {it it1 : IT} {ifs ifs1 : IQs} {elt : IE} : evE G false cs (.lc2 tg it ifs tg1 it1 ifs1 elt) s h = (evI G false cs it s h).bd (k := ⟨fun w h =>
      (colle2 w tg (wipe s (tg.slots ++ tg1.slots)) (evAll G false cs ifs) (evI G false cs it1) tg1 (evAll G false cs ifs1) (evE G false cs elt) h.length FU 0 (h ++ [.lst []])).bd (k := ⟨fun _ h' => .ok (.ref h.length) h'⟩)⟩) := rfl
theorem e_dsp {tup : Bool} {es : ID} : evE G m cs (.dsp tup es) s h = (evD G m cs es s h).bd (k := ⟨fun xs h => newL tup xs h⟩) := rfl
theorem d_nil : evD G m cs .nil s h = .ok [] h := rfl
theorem d_cons {e : IE} {es : ID} : evD G m cs (.cons e es) s h = (evE G m cs e s h).bd (k := ⟨fun x h => (evD G m cs es s h).bd (k := ⟨fun xs h => .ok (x :: xs) h⟩)⟩) := rfl
theorem d_star {e : IE} {es : ID} : evD G m cs (.star e es) s h = (evE G m cs e s h).bd (k := ⟨fun x h => (opt (items x h) h).bd (k := ⟨fun xs h => (evD G m cs es s h).bd (k := ⟨fun ys h => .ok (xs ++ ys) h⟩)⟩)⟩) := rfl
theorem newL_t {xs : List IV} : newL true xs h = if xs.length ≤ LN then .ok (.tup xs) h else .no := rfl
theorem newL_f {xs : List IV} : newL false xs h = if xs.length ≤ LN then .ok (.ref h.length) (h ++ [.lst xs]) else .no := rfl
theorem lrgV1 {j : Int} (h0 : 0 ≤ j) (h1 : j ≤ 16777216) : lrgV [.int j] = some ((List.range j.toNat).map fun k : Nat => .int k) := by
  rw [lrgV, if_pos ⟨h0, h1⟩]; simp
theorem lrgV2 {i j : Int} (h0 : 0 ≤ i) (h1 : i ≤ 16777216) (h2 : 0 ≤ j) (h3 : j ≤ 16777216) : lrgV [.int i, .int j] = some ((List.range (j - i).toNat).map fun k : Nat => .int (i + k)) := by
  rw [lrgV, if_pos ⟨h0, h1, h2, h3⟩]
theorem it_tup {xs : List IV} : items (.tup xs) h = some xs := rfl
theorem it_frz {xs : List IV} : items (.frz xs) h = some xs := rfl
theorem it_rf {r : Nat} : items (.ref r) h = (match h[r]? with
    | some (.lst xs) => some xs
    | _ => none) := rfl
theorem gt_ref {r : Nat} {y : IV} : getIt (.ref r) y h = index (.ref r) y h := rfl
theorem m_sumT {xs : List IV} : biF .sum [.tup xs] h = (match intsOf xs with
      | some ns => .ok (.int ns.sum) h
      | none => .no) := rfl
theorem m_maxR {r : Nat} {xs : List IV} {n : Int} {ns : List Int} (e : h[r]? = some (.lst xs)) (e2 : intsOf xs = some (n :: ns)) : biF .max [.ref r] h = .ok (.int (ns.foldl max n)) h := by
  simp [biF, items, e, e2]
theorem m_maxT {xs : List IV} {n : Int} {ns : List Int} (e2 : intsOf xs = some (n :: ns)) : biF .max [.tup xs] h = .ok (.int (ns.foldl max n)) h := by
  simp [biF, items, e2]
theorem m_minR {r : Nat} {xs : List IV} {n : Int} {ns : List Int} (e : h[r]? = some (.lst xs)) (e2 : intsOf xs = some (n :: ns)) : biF .min [.ref r] h = .ok (.int (ns.foldl min n)) h := by
  simp [biF, items, e, e2]
theorem m_minT {xs : List IV} {n : Int} {ns : List Int} (e2 : intsOf xs = some (n :: ns)) : biF .min [.tup xs] h = .ok (.int (ns.foldl min n)) h := by
  simp [biF, items, e2]
theorem e_rev {a : IE} : evE G m cs (.rev a) s h = (evE G m cs a s h).bd (k := ⟨fun x h => revF x h⟩) := rfl
theorem e_bits {a : IE} : evE G m cs (.bits a) s h = (evE G m cs a s h).bd (k := ⟨fun x h => match x with
    | .int i => .ok (.int (PySem.Builtin.Int.intBits i : Nat)) h
    | _ => .no⟩) := rfl
theorem e_ocm {ne : Bool} {n : Nat} {a b : IE} : evE G false cs (.ocm ne n a b) s h = (evE G false cs a s h).bd (k := ⟨fun x h => (evE G false cs b s h).bd (k := ⟨fun y h => ocmF G cs ne n x y h⟩)⟩) := rfl
theorem t_ocm {ne : Bool} {n : Nat} {a b : IE} : evT G false cs (.ocm ne n a b) s h = (evE G false cs a s h).bd (k := ⟨fun x h => (evE G false cs b s h).bd (k := ⟨fun y h => (ocmF G cs ne n x y h).bd (k := ⟨fun z h => opt (tru z h) h⟩)⟩)⟩) := rfl
theorem t_ch3 {o p q : C2} {a b c d : IE} : evT G m cs (.ch3 o p q a b c d) s h = (evE G m cs a s h).bd (k := ⟨fun x h => (evE G m cs b s h).bd (k := ⟨fun y h => (cmp o x y h).bd (k := ⟨fun k h => match k with
    | .bl true => (evE G m cs c s h).bd (k := ⟨fun z h => (cmp p y z h).bd (k := ⟨fun k h => match k with
      | .bl true => (evE G m cs d s h).bd (k := ⟨fun w h => (cmp q z w h).bd (k := ⟨fun z h => opt (tru z h) h⟩)⟩)
      | .bl false => .ok false h
      | _ => .no⟩)⟩)
    | .bl false => .ok false h
    | _ => .no⟩)⟩)⟩) := rfl
theorem m_revF {xs : List IV} : revF (.frz xs) h = .ok (.ref h.length) (h ++ [.lst xs.reverse]) := rfl
theorem m_revR {r : Nat} {xs : List IV} (e : h[r]? = some (.lst xs)) : revF (.ref r) h = .ok (.ref h.length) (h ++ [.lst xs.reverse]) := by
  rw [revF, e]
theorem m_srtF {xs : List IV} {ns : List Int} (e : intsOf xs = some ns) : biF .sorted [.frz xs] h = .ok (.ref h.length) (h ++ [.lst ((sortI ns).map IV.int)]) := by
  simp [biF, items, e]
theorem m_srtR {r : Nat} {xs : List IV} {ns : List Int} (e : h[r]? = some (.lst xs)) (e2 : intsOf xs = some ns) : biF .sorted [.ref r] h = .ok (.ref h.length) (h ++ [.lst ((sortI ns).map IV.int)]) := by
  simp [biF, items, e, e2]
theorem e_ife {t : IQ} {a b : IE} : evE G m cs (.ife t a b) s h = (evT G m cs t s h).bd (k := ⟨fun k h => cnd k (x := ⟨evE G m cs a s h⟩) (y := ⟨evE G m cs b s h⟩)⟩) := rfl
theorem a_nil : evA G m cs .nil s h = .ok [] h := rfl
theorem a_cons {e : IE} {es : IA} : evA G m cs (.cons e es) s h = (evE G m cs e s h).bd (k := ⟨fun x h => (evA G m cs es s h).bd (k := ⟨fun xs h => .ok (x :: xs) h⟩)⟩) := rfl
theorem t_val {e : IE} : evT G m cs (.val e) s h = (evE G m cs e s h).bd (k := ⟨fun x h => opt (tru x h) h⟩) := rfl
theorem t_not {q : IQ} : evT G m cs (.not q) s h = (evT G m cs q s h).bd (k := ⟨fun k h => .ok (!k) h⟩) := rfl
theorem t_and {qs : IQs} : evT G m cs (.and qs) s h = evAll G m cs qs s h := rfl
theorem t_or {qs : IQs} : evT G m cs (.or qs) s h = evAny G m cs qs s h := rfl
theorem t_cmp {o : C2} {a b : IE} : evT G m cs (.cmp o a b) s h = (evE G m cs a s h).bd (k := ⟨fun x h => (evE G m cs b s h).bd (k := ⟨fun y h => (cmp o x y h).bd (k := ⟨fun z h => opt (tru z h) h⟩)⟩)⟩) := rfl
theorem t_chn {o p : C2} {a b c : IE} : evT G m cs (.chn o p a b c) s h = (evE G m cs a s h).bd (k := ⟨fun x h => (evE G m cs b s h).bd (k := ⟨fun y h => (cmp o x y h).bd (k := ⟨fun k h => match k with
    | .bl true => (evE G m cs c s h).bd (k := ⟨fun z h => (cmp p y z h).bd (k := ⟨fun z h => opt (tru z h) h⟩)⟩)
    | .bl false => .ok false h
    | _ => .no⟩)⟩)⟩) := rfl
theorem t_all0 : evAll G m cs .nil s h = .ok true h := rfl
theorem t_all {q : IQ} {qs : IQs} : evAll G m cs (.cons q qs) s h = (evT G m cs q s h).bd (k := ⟨fun k h => cnd k (x := ⟨evAll G m cs qs s h⟩) (y := ⟨.ok false h⟩)⟩) := rfl
theorem t_any0 : evAny G m cs .nil s h = .ok false h := rfl
theorem t_any {q : IQ} {qs : IQs} : evAny G m cs (.cons q qs) s h = (evT G m cs q s h).bd (k := ⟨fun k h => cnd k (x := ⟨.ok true h⟩) (y := ⟨evAny G m cs qs s h⟩)⟩) := rfl
theorem s_expr {e : IE} : evS G cs m (.expr e) s h = RS.ofd s (evE G m cs e s h) (k := ⟨fun _ h => .nx s h⟩) := rfl
theorem s_set {i : Nat} {e : IE} : evS G cs m (.set (.nm i) e) s h = RS.ofd s (evE G m cs e s h) (k := ⟨fun x h => .nx (s.set i (.v x)) h⟩) := by
  cases m <;> rfl
theorem s_setT {is : List Nat} {e : IE} : evS G cs false (.set (.tp is) e) s h = RS.ofd s (evE G false cs e s h) (k := ⟨fun x h => match asg (.tp is) x s h with
    | some s1 => .nx s1 h
    | none => .no⟩) := rfl
theorem s_setN {ts : Tgs} {e : IE} : evS G cs false (.set (.ns ts) e) s h = RS.ofd s (evE G false cs e s h) (k := ⟨fun x h => match asg (.ns ts) x s h with
    | some s1 => .nx s1 h
    | none => .no⟩) := rfl
theorem s_sets {is : List Nat} {e : IE} : evS G cs m (.sets is e) s h = RS.ofd s (evE G m cs e s h) (k := ⟨fun x h => .nx (setsF is x s) h⟩) := rfl
theorem s_par {is : List Nat} {es : IA} : evS G cs false (.par is es) s h = RS.ofd s (evA G false cs es s h) (k := ⟨fun vs h => match setAll is vs s with
    | some s1 => .nx s1 h
    | none => .no⟩) := rfl
theorem s_fset {o e : IE} {f : Nat} : evS G cs m (.fset o f e) s h = RS.ofd s (evE G m cs e s h) (k := ⟨fun x h => RS.ofd s (evE G m cs o s h) (k := ⟨fun y h => match y with
    | .ref r => match h[r]? with
      | some (.ins c fs) => if G.fd c f = true ∧ fs.length < 900 then .nx s (h.set r (.ins c (putI f x fs))) else .no
      | _ => .no
    | _ => .no⟩)⟩) := rfl
theorem s_iset {a i e : IE} : evS G cs m (.iset a i e) s h = RS.ofd s (evE G m cs e s h) (k := ⟨fun x h => RS.ofd s (evE G m cs a s h) (k := ⟨fun y h => RS.ofd s (evE G m cs i s h) (k := ⟨fun z h =>
      RS.ofd s (setIt y z x h) (k := ⟨fun _ h => .nx s h⟩)⟩)⟩)⟩) := rfl
theorem s_iset2 {a i b j e : IE} : evS G cs false (.iset2 a i b j e) s h = RS.ofd s (evE G false cs e s h) (k := ⟨fun x h => match x with
    | .tup [u, v] => RS.ofd s (evE G false cs a s h) (k := ⟨fun y h => RS.ofd s (evE G false cs i s h) (k := ⟨fun z h => RS.ofd s (setIt y z u h) (k := ⟨fun _ h =>
      RS.ofd s (evE G false cs b s h) (k := ⟨fun y h => RS.ofd s (evE G false cs j s h) (k := ⟨fun z h => RS.ofd s (setIt y z v h) (k := ⟨fun _ h => .nx s h⟩)⟩)⟩)⟩)⟩)⟩)
    | _ => .no⟩) := rfl
theorem s_augf {a e : IE} {f : Nat} {o : O2} : evS G cs m (.augf a f o e) s h = RS.ofd s (evE G m cs a s h) (k := ⟨fun y h => match y with
    | .ref r => match h[r]? with
      | some (.ins c fs) => if G.fd c f = false then .no else RS.ofd s (opt (fs.lookup f) h) (k := ⟨fun x h => RS.ofd s (evE G m cs e s h) (k := ⟨fun z h => RS.ofd s (ipo o x z h) (k := ⟨fun w h => match h[r]? with
        | some (.ins d fs) => if d = c ∧ fs.length < 900 then .nx s (h.set r (.ins d (putI f w fs))) else .no
        | _ => .no⟩)⟩)⟩)
      | _ => .no
    | _ => .no⟩) := rfl
theorem s_augi {a i : IE} {o : O2} {e : IE} : evS G cs m (.augi a i o e) s h = RS.ofd s (evE G m cs a s h) (k := ⟨fun x h => RS.ofd s (evE G m cs i s h) (k := ⟨fun y h => RS.ofd s (getIt x y h) (k := ⟨fun z h => RS.ofd s (evE G m cs e s h) (k := ⟨fun w h => RS.ofd s (ipo o z w h) (k := ⟨fun v h => RS.ofd s (setIt x y v h) (k := ⟨fun _ h => .nx s h⟩)⟩)⟩)⟩)⟩)⟩) := rfl
theorem s_aug {i : Nat} {o : O2} {e : IE} : evS G cs m (.aug i o e) s h = RS.ofd s (opt (getV s i) h) (k := ⟨fun x h => RS.ofd s (evE G m cs e s h) (k := ⟨fun y h => RS.ofd s (ipo o x y h) (k := ⟨fun z h => .nx (s.set i (.v z)) h⟩)⟩)⟩) := rfl
theorem s_ret {e : IE} : evS G cs m (.ret e) s h = RS.ofd s (evE G m cs e s h) (k := ⟨fun x h => .rt x h⟩) := rfl
theorem s_retn : evS G cs m .retn s h = .rt .non h := rfl
theorem s_if {t : IQ} {a b : IB} : evS G cs m (.if_ t a b) s h = RS.ofd s (evT G m cs t s h) (k := ⟨fun k h => cnd k (x := ⟨evB G cs m a s h⟩) (y := ⟨evB G cs m b s h⟩)⟩) := rfl
theorem s_for {tg : Tg} {it : IT} {b : IB} : evS G cs false (.for_ tg it b) s h = RS.ofd s (evI G false cs it s h) (k := ⟨fun w h => walk w tg (evB G cs false b) FU 0 s h⟩) := rfl
theorem s_whl {t : IQ} {b : IB} : evS G cs m (.whl t b) s h = loopW (evT G m cs t) (evB G cs m b) FU s h := rfl
theorem s_brk : evS G cs m .brk s h = .bk s h := rfl
theorem s_cnt : evS G cs m .cnt s h = .ct s h := rfl
theorem s_pas : evS G cs m .pas s h = .nx s h := rfl
theorem s_rse {c : Nat} {es : IA} : evS G cs false (.rse c es) s h = RS.ofd s (evA G false cs es s h) (k := ⟨fun vs h => match vs with
    | [v] => .ex c v s h
    | [] => .ex c .non s h
    | _ => .no⟩) := rfl
theorem s_try {b : IB} {hs : IHs} : evS G cs false (.try_ b hs) s h = tryF (evB G cs false b s h) (k := ⟨fun c v s1 h1 => evH G cs c v hs s1 h1⟩) := rfl
theorem h_nil {c : Nat} {v : IV} : evH G cs c v .nil s h = .ex c v s h := rfl
theorem h_cons {c d : Nat} {v : IV} {i : Option Nat} {b : IB} {r : IHs} : evH G cs c v (.cons d i b r) s h = if G.sub c d = true then RS.gone i (evB G cs true b (setX i c v s) h) else evH G cs c v r s h := rfl
theorem gone_rt {i : Option Nat} (v : IV) (h : IH) : RS.gone i (.rt v h) = .rt v h := rfl
theorem gone_nx {i : Option Nat} (h : IH) : RS.gone i (.nx s h) = if noX (goneS i s) = true then .nx (goneS i s) h else .no := rfl
theorem b_nil : evB G cs m .nil s h = .nx s h := rfl
theorem b_cons {st : IS} {b : IB} : evB G cs m (.cons st b) s h = RS.sqd (evS G cs m st s h) (k := ⟨fun s h => evB G cs m b s h⟩) := rfl
theorem i_val {e : IE} : evI G m cs (.val e) s h = (evE G m cs e s h).bd (k := ⟨fun x h => match x with
    | .tup xs => .ok (.fix xs) h
    | .frz xs => .ok (.fix xs) h
    | .ref r => match h[r]? with
      | some (.lst _) => .ok (.lst r) h
      | _ => .no
    | .str z => .ok (.fix (z.cps.toList.map fun c => .str ⟨#[c]⟩)) h
    | _ => .no⟩) := rfl
theorem i_rng {es : IA} : evI G m cs (.rng es) s h = (evA G m cs es s h).bd (k := ⟨fun vs h => (opt (rng vs) h).bd (k := ⟨fun xs h => .ok (.fix xs) h⟩)⟩) := rfl
theorem i_enm {e : IE} : evI G m cs (.enm e) s h = (evE G m cs e s h).bd (k := ⟨fun x h => match lstI x h with
    | some _ => .ok (.enm x) h
    | none => match x with
      | .tup xs => .ok (.fix (enmT 0 xs)) h
      | _ => .no⟩) := rfl
theorem lst_tup {xs : List IV} : lstI (.tup xs) h = none := rfl
theorem lst_frz {xs : List IV} : lstI (.frz xs) h = some xs := rfl
theorem i_zip {a b : IE} : evI G m cs (.zip a b) s h = (evE G m cs a s h).bd (k := ⟨fun x h => (evE G m cs b s h).bd (k := ⟨fun y h => match lstI x h, lstI y h with
    | some _, some _ => .ok (.zip x y) h
    | _, _ => match x, y with
      | .tup xs, .tup ys => .ok (.fix (zipT xs ys)) h
      | _, _ => .no⟩)⟩) := rfl
theorem getV_0 {x : IV} {s : En} : getV (.v x :: s) 0 = some x := rfl
theorem getV_s {x : Sl} {s : En} {n : Nat} : getV (x :: s) (n + 1) = getV s n := rfl
theorem asg_nm {i : Nat} {x : IV} : asg (.nm i) x s h = some (s.set i (.v x)) := by rw [asg]
theorem asg_tp {is : List Nat} {xs : List IV} : asg (.tp is) (.tup xs) s h = setAll is xs s := by simp only [asg, items]
theorem asg_tr {is : List Nat} {r : Nat} : asg (.tp is) (.ref r) s h = (match h[r]? with
    | some (.lst xs) => setAll is xs s
    | _ => none) := by
  simp only [asg, items]
  cases h[r]? with
  | none => rfl
  | some o => cases o <;> rfl
theorem asg_ns {ts : Tgs} {xs : List IV} : asg (.ns ts) (.tup xs) s h = asgs ts xs s h := by simp only [asg, items]
theorem asgs_0 : asgs .nil [] s h = some s := by simp only [asgs]
theorem asgs_c {t : Tg} {ts : Tgs} {x : IV} {xs : List IV} : asgs (.cons t ts) (x :: xs) s h = (match asg t x s h with
    | some s1 => asgs ts xs s1 h
    | none => none) := by first | (rw [asgs]; rfl) | rw [asgs]
theorem setAll_0 : setAll [] [] s = some s := rfl
theorem setAll_c {i : Nat} {is : List Nat} {x : IV} {xs : List IV} : setAll (i :: is) (x :: xs) s = setAll is xs (s.set i (.v x)) := rfl
theorem setsF_0 {x : IV} : setsF [] x s = s := rfl
theorem setsF_c {i : Nat} {is : List Nat} {x : IV} : setsF (i :: is) x s = setsF is x (s.set i (.v x)) := rfl
theorem args_0 {vs : List IV} : args vs [] = some vs := rfl
theorem args_c {vs : List IV} {b : Bd} {bs : List Bd} : args vs (b :: bs) = bnd vs (b :: bs) := rfl
theorem bnd_0 {vs : List IV} : bnd vs [] = some [] := rfl
theorem bnd_a {vs : List IV} {i : Nat} {r : List Bd} : bnd vs (.arg i :: r) = (match vs[i]? with
    | some v => (bnd vs r).map (v :: ·)
    | none => none) := rfl
theorem bnd_d {vs : List IV} {v : IV} {r : List Bd} : bnd vs (.dfl v :: r) = (bnd vs r).map (v :: ·) := rfl
/-! operators -/
theorem b_add {i j : Int} : bin .add (.int i) (.int j) h = .ok (.int (i + j)) h := rfl
theorem b_sub {i j : Int} : bin .sub (.int i) (.int j) h = .ok (.int (i - j)) h := rfl
theorem b_mulL {i j : Int} (h1 : -18446744073709551616 < i) (h2 : i < 18446744073709551616) : bin .mul (.int i) (.int j) h = .ok (.int (i * j)) h := if_pos (Or.inl ⟨h1, h2⟩)
theorem b_mulR {i j : Int} (h1 : -18446744073709551616 < j) (h2 : j < 18446744073709551616) : bin .mul (.int i) (.int j) h = .ok (.int (i * j)) h := if_pos (Or.inr ⟨h1, h2⟩)
theorem b_mulS {i : Str} {k : Int} : bin .mul (.str i) (.int k) h = if 0 ≤ k ∧ k ≤ 1000000 ∧ i.length * k.toNat ≤ LN then .ok (.str (PySem.Txt.mul i k)) h else .no := rfl
theorem b_addT {xs ys : List IV} : bin .add (.tup xs) (.tup ys) h = if xs.length + ys.length ≤ LN then .ok (.tup (xs ++ ys)) h else .no := rfl
theorem b_addS {i j : Str} : bin .add (.str i) (.str j) h = if i.length + j.length ≤ LN then .ok (.str (i ++ j)) h else .no := rfl
theorem ip_add {i j : Int} : ipo .add (.int i) (.int j) h = .ok (.int (i + j)) h := rfl
theorem ip_sub {i j : Int} : ipo .sub (.int i) (.int j) h = .ok (.int (i - j)) h := rfl
theorem ofS_inj (a b : String) : (Str.ofString a = Str.ofString b) = (a = b) := propext ⟨fun e => by
  rw [PySem.Str.ofString_eq_toList, PySem.Str.ofString_eq_toList] at e
  have e1 : (a.toList.map Char.toNat).toArray = (b.toList.map Char.toNat).toArray := by injection e
  have e2 : a.toList.map Char.toNat = b.toList.map Char.toNat := by simpa using e1
  have inj : ∀ x y : Char, x.toNat = y.toNat → x = y := fun x y q => Char.ext (UInt32.toNat_inj.1 q)
  have e3 : a.toList = b.toList := by
    generalize a.toList = l at e2
    generalize b.toList = l2 at e2
    induction l generalizing l2 with
    | nil => cases l2 with
      | nil => rfl
      | cons _ _ => simp at e2
    | cons x l ih => cases l2 with
      | nil => simp at e2
      | cons y l2 =>
        simp only [List.map_cons, List.cons.injEq] at e2
        rw [inj x y e2.1, ih l2 e2.2]
  exact String.toList_inj.1 e3, fun e => e ▸ rfl⟩
theorem ofS_ok (a : String) : PyData.strOk (Str.ofString a) = true := by
  rw [PySem.Str.ofString_eq_toList, PyData.strOk]
  rw [Array.all_eq_true']
  intro x hx
  simp only [List.mem_toArray, List.mem_map] at hx
  obtain ⟨c, _, rfl⟩ := hx
  rw [decide_eq_true_eq]
  have := c.valid
  simp only [UInt32.isValidChar, Nat.isValidChar] at this
  show c.val.toNat < _
  omega
theorem ofS_len (a : String) : (Str.ofString a).length = a.length := by
  rw [PySem.Str.ofString_eq_toList]
  show (a.toList.map Char.toNat).toArray.size = _
  simp [String.length_toList]
theorem b_div {i j : Int} (h1 : 0 < j) (h2 : j < 18446744073709551616) : bin .fdiv (.int i) (.int j) h = .ok (.int (i / j)) h := if_pos ⟨h1, h2⟩
theorem b_mod {i j : Int} (h1 : 0 < j) : bin .mod (.int i) (.int j) h = .ok (.int (i % j)) h := if_pos h1
theorem b_pow {i j : Int} (h1 : 0 ≤ j) (h2 : j ≤ 1000000) (h3 : -18446744073709551616 < i) (h4 : i < 18446744073709551616) : bin .pow (.int i) (.int j) h = .ok (.int (i ^ j.toNat)) h := if_pos ⟨h1, h2, h3, h4⟩
theorem b_and {i j : Int} : bin .band (.int i) (.int j) h = .ok (.int (PySem.Builtin.bitAnd i j)) h := rfl
theorem b_or {i j : Int} : bin .bor (.int i) (.int j) h = .ok (.int (PySem.Builtin.bitOr i j)) h := rfl
theorem b_xor {i j : Int} : bin .bxor (.int i) (.int j) h = .ok (.int (PySem.Builtin.bitXor i j)) h := rfl
theorem b_shl {i j : Int} (h1 : 0 ≤ j) (h2 : j ≤ 1000000) (h3 : -18446744073709551616 < i) (h4 : i < 18446744073709551616) : bin .shl (.int i) (.int j) h = .ok (.int (i * 2 ^ j.toNat)) h := if_pos ⟨h1, h2, h3, h4⟩
theorem b_shr {i j : Int} (h1 : 0 ≤ j) : bin .shr (.int i) (.int j) h = .ok (.int (i / 2 ^ j.toNat)) h := if_pos h1
theorem eqI_of {x y : IV} {d e : PyData} (hx : dat h DP x = some d) (hy : dat h DP y = some e) (sx : PySem.SeqAt.shaped d = true) (sy : PySem.SeqAt.shaped e = true) : eqI x y h = some (PyData.eqv d e) := by
  unfold eqI
  rw [hx, hy]
  exact if_pos ⟨sx, sy⟩
theorem sh_int (i : Int) : PySem.SeqAt.shaped (.int i) = true := by simp [PySem.SeqAt.shaped, PyData.canLay0, PyData.depth]
theorem sh_bool (i : Bool) : PySem.SeqAt.shaped (.bool i) = true := by simp [PySem.SeqAt.shaped, PyData.canLay0, PyData.depth]
theorem sh_none : PySem.SeqAt.shaped .none = true := by simp [PySem.SeqAt.shaped, PyData.canLay0, PyData.depth]
theorem sh_str (x : Str) (e : PyData.strOk x = true) : PySem.SeqAt.shaped (.str x) = true := by simp [PySem.SeqAt.shaped, PyData.canLay0, PyData.depth, e]
theorem eq_ii {i j : Int} : eqI (.int i) (.int j) h = some (decide (i = j)) := by
  rw [eqI_of rfl rfl (sh_int _) (sh_int _), PyData.eqv, Bool.beq_eq_decide_eq]
theorem eq_bb {i j : Bool} : eqI (.bl i) (.bl j) h = some (decide (i = j)) := by
  rw [eqI_of rfl rfl (sh_bool _) (sh_bool _), PyData.eqv, Bool.beq_eq_decide_eq]
theorem eq_nn : eqI .non .non h = some true := by
  rw [eqI_of rfl rfl sh_none sh_none, PyData.eqv]
theorem eq_ss {i j : Str} (hi : PyData.strOk i = true) (hj : PyData.strOk j = true) : eqI (.str i) (.str j) h = some (decide (i = j)) := by
  rw [eqI_of rfl rfl (sh_str _ hi) (sh_str _ hj), PyData.eqv, Bool.beq_eq_decide_eq]
theorem eq_ni {i : Int} : eqI .non (.int i) h = some false := by
  rw [eqI_of rfl rfl sh_none (sh_int _)]
  simp [PyData.eqv]
theorem eq_in {i : Int} : eqI (.int i) .non h = some false := by
  rw [eqI_of rfl rfl (sh_int _) sh_none]
  simp [PyData.eqv]
theorem eq_ns {i : Str} (hi : PyData.strOk i = true) : eqI .non (.str i) h = some false := by
  rw [eqI_of rfl rfl sh_none (sh_str _ hi)]
  simp [PyData.eqv]
theorem eq_sn {i : Str} (hi : PyData.strOk i = true) : eqI (.str i) .non h = some false := by
  rw [eqI_of rfl rfl (sh_str _ hi) sh_none]
  simp [PyData.eqv]
theorem c_eq {x y : IV} : cmp .eq x y h = boo (eqI x y h) h := rfl
theorem c_ne {x y : IV} : cmp .ne x y h = boo ((eqI x y h).map (!·)) h := rfl
theorem c_lt {x y : IV} : cmp .lt x y h = boo (ltI x y) h := rfl
theorem c_le {x y : IV} : cmp .le x y h = boo (leI x y) h := rfl
theorem c_gt {x y : IV} : cmp .gt x y h = boo (gtI x y) h := rfl
theorem c_ge {x y : IV} : cmp .ge x y h = boo (leI y x) h := rfl
theorem c_is {x y : IV} : cmp .is_ x y h = boo (same x y) h := rfl
theorem c_isn {x y : IV} : cmp .isn x y h = boo ((same x y).map (!·)) h := rfl
theorem c_in {x y : IV} : cmp .in_ x y h = boo (inI x y h) h := rfl
theorem c_nin {x y : IV} : cmp .nin x y h = boo ((inI x y h).map (!·)) h := rfl
theorem l_lt {i j : Int} : ltI (.int i) (.int j) = some (decide (i < j)) := rfl
theorem l_le {i j : Int} : leI (.int i) (.int j) = some (decide (i ≤ j)) := rfl
theorem l_gt {i j : Int} : gtI (.int i) (.int j) = some (decide (j < i)) := rfl
theorem tr_non : tru .non h = some false := rfl
theorem tr_bl {b : Bool} : tru (.bl b) h = some b := rfl
theorem tr_int {i : Int} : tru (.int i) h = some (i != 0) := rfl
theorem tr_tup {xs : List IV} : tru (.tup xs) h = some (!xs.isEmpty) := rfl
theorem tr_frz {xs : List IV} : tru (.frz xs) h = some (!xs.isEmpty) := rfl
theorem tr_ref {r : Nat} : tru (.ref r) h = (match h[r]? with
    | some (.lst xs) => some (!xs.isEmpty)
    | some (.dic kvs) => some (!kvs.isEmpty)
    | _ => none) := rfl
theorem x_tup {xs : List IV} {i : Int} : index (.tup xs) (.int i) h = opt (atIx xs i) h := rfl
theorem x_frz {xs : List IV} {i : Int} : index (.frz xs) (.int i) h = opt (atIx xs i) h := rfl
theorem x_ref {r : Nat} {y : IV} : index (.ref r) y h = (match h[r]? with
    | some (.lst xs) => (match y with
      | .int i => opt (atIx xs i) h
      | _ => .no)
    | some (.dic kvs) => if keyB y = true then opt (getK y kvs) h else .no
    | _ => .no) := rfl
theorem nIx_p {n : Nat} {i : Int} (h0 : 0 ≤ i) (h1 : i < n) : nIx n i = some i.toNat := by rw [nIx, if_pos h0, if_pos h1]
theorem nIx_m {n : Nat} {i : Int} (h0 : i < 0) (h1 : -(n : Int) ≤ i) : nIx n i = some (i + n).toNat := by rw [nIx, if_neg (by omega), if_pos h1]
theorem atIx_d {α : Type} {xs : List α} {i : Int} : atIx xs i = (nIx xs.length i).bind fun j => xs[j]? := rfl
theorem set_ref {r : Nat} {y v : IV} : setIt (.ref r) y v h = (match h[r]? with
    | some (.lst xs) => (match y with
      | .int i => match nIx xs.length i with
        | some k => .ok () (h.set r (.lst (xs.set k v)))
        | none => .no
      | _ => .no)
    | some (.dic kvs) => if keyB y = true ∧ kvs.length < LN then .ok () (h.set r (.dic (putD y v kvs))) else .no
    | _ => .no) := rfl
theorem f_max {i j : Int} : biF .max [.int i, .int j] h = .ok (.int (if j > i then j else i)) h := rfl
theorem f_min {i j : Int} : biF .min [.int i, .int j] h = .ok (.int (if j < i then j else i)) h := rfl
theorem f_abs {i : Int} : biF .abs [.int i] h = .ok (.int (if i < 0 then -i else i)) h := rfl
theorem f_int {i : Int} : biF .int [.int i] h = .ok (.int i) h := rfl
theorem f_intb {b : Bool} : biF .int [.bl b] h = .ok (.int (if b then 1 else 0)) h := rfl
theorem f_lenT {xs : List IV} : biF .len [.tup xs] h = .ok (.int xs.length) h := rfl
theorem f_lenF {xs : List IV} : biF .len [.frz xs] h = .ok (.int xs.length) h := rfl
theorem f_lenR {r : Nat} {xs : List IV} (e : h[r]? = some (.lst xs)) : biF .len [.ref r] h = .ok (.int xs.length) h := by
  simp [biF, items, e]
theorem f_lenS {z : Str} (l : z.length ≤ 16777216) : biF .len [.str z] h = .ok (.int z.length) h := if_pos l
theorem f_listT {xs : List IV} : biF .list [.tup xs] h = .ok (.ref h.length) (h ++ [.lst xs]) := rfl
theorem f_tupF {xs : List IV} : biF .tuple [.frz xs] h = .ok (.tup xs) h := rfl
theorem f_tupR {r : Nat} {xs : List IV} (e : h[r]? = some (.lst xs)) : biF .tuple [.ref r] h = .ok (.tup xs) h := by
  simp [biF, items, e]
theorem f_listR {r : Nat} {xs : List IV} (e : h[r]? = some (.lst xs)) : biF .list [.ref r] h = .ok (.ref h.length) (h ++ [.lst xs]) := by
  simp [biF, items, e]
theorem if_no {α : Type} {c : Prop} [Decidable c] {a : R α} (q : c) : (if c then a else R.no) = a := if_pos q
theorem if_noS {c : Prop} [Decidable c] {a : RS} (q : c) : (if c then a else RS.no) = a := if_pos q
/-! heaps -/
theorem LN_eq : LN = 16777216 := rfl
theorem lt_of {h : IH} {r : Nat} {o : IO} (e : h[r]? = some o) : r < h.length := by
  rcases Nat.lt_or_ge r h.length with l | l
  · exact l
  · rw [List.getElem?_eq_none l] at e; exact nomatch e
theorem g_app {h t : IH} {r : Nat} (l : r < h.length) : (h ++ t)[r]? = h[r]? := List.getElem?_append_left l
theorem g_new {h : IH} {o : IO} : (h ++ [o])[h.length]? = some o := by simp
theorem g_set {h : IH} {r : Nat} {o : IO} (l : r < h.length) : (h.set r o)[r]? = some o := by simp [l]
theorem set_new {h : IH} {o o' : IO} : (h ++ [o]).set h.length o' = h ++ [o'] := by simp
theorem g_setn {h : IH} {r q : Nat} {o : IO} (l : q ≠ r) : (h.set q o)[r]? = h[r]? := by simp [List.getElem?_set, l]
end
end Itp

/-! ItZa: loops. -/
namespace Itp
open PySem (Str PyData)
/-- what stays: things walked over -/
def Wk.has (w : Wk) (xs : List IV) (h : IH) : Prop := ∀ i, w.nxt i h = some xs[i]?
theorem has_fix (xs : List IV) (h : IH) : Wk.has (.fix xs) xs h := fun _ => rfl
theorem has_lst {r : Nat} {xs : List IV} {h : IH} (e : h[r]? = some (.lst xs)) : Wk.has (.lst r) xs h := fun i => by
  show (match h[r]? with
    | some (.lst xs) => some xs[i]?
    | _ => none) = _
  rw [e]
theorem has_zip {x y : IV} {xs ys : List IV} {h : IH} (e : lstI x h = some xs) (f : lstI y h = some ys) : Wk.has (.zip x y) (zipT xs ys) h := fun i => by
  show (match lstI x h, lstI y h with
    | some xs, some ys => some (match xs[i]?, ys[i]? with
      | some x, some y => some (IV.tup [x, y])
      | _, _ => none)
    | _, _ => none) = _
  rw [e, f]
  clear e f
  show some _ = some _
  congr 1
  induction xs generalizing ys i with
  | nil => simp [zipT]
  | cons a xs ih =>
    cases ys with
    | nil => cases i <;> simp [zipT] <;> (split <;> simp_all)
    | cons b ys =>
      cases i with
      | zero => simp [zipT]
      | succ i => simpa [zipT] using ih i
/-- a loop that is not left early: I k s h holds before the k-th turn -/
theorem walk_inv (I : Nat → En → IH → Prop) {w : Wk} {tg : Tg} {body : En → IH → RS} {xs : List IV}
    (hw : ∀ k s h, I k s h → w.has xs h)
    (st : ∀ k x s h, xs[k]? = some x → I k s h → ∃ s1, asg tg x s h = some s1 ∧ ((∃ s2 h2, body s1 h = .nx s2 h2 ∧ I (k + 1) s2 h2) ∨ (∃ s2 h2, body s1 h = .ct s2 h2 ∧ I (k + 1) s2 h2)))
    (n : Nat) : ∀ k s h, I k s h → k ≤ xs.length → xs.length < k + n → ∃ s' h', walk w tg body n k s h = .nx s' h' ∧ I xs.length s' h' := by
  induction n with
  | zero => intro k s h _ a b; omega
  | succ n ih =>
    intro k s h i a b
    rcases Nat.lt_or_ge k xs.length with l | l
    · obtain ⟨s1, e1, o⟩ := st k _ s h (List.getElem?_eq_getElem l) i
      rcases o with ⟨s2, h2, e2, i2⟩ | ⟨s2, h2, e2, i2⟩ <;>
      · obtain ⟨s', h', e', i'⟩ := ih (k + 1) s2 h2 i2 (by omega) (by omega)
        refine ⟨s', h', ?_, i'⟩
        rw [walk, hw k s h i k, List.getElem?_eq_getElem l]
        simp only [e1, e2]
        exact e'
    · have : k = xs.length := by omega
      subst this
      refine ⟨s, h, ?_, i⟩
      rw [walk, hw _ s h i _, List.getElem?_eq_none (Nat.le_refl _)]
/-- a loop that may return -/
theorem walk_ret (I : Nat → En → IH → Prop) (Q : IV → IH → Prop) {w : Wk} {tg : Tg} {body : En → IH → RS} {xs : List IV}
    (hw : ∀ k s h, I k s h → w.has xs h)
    (st : ∀ k x s h, xs[k]? = some x → I k s h → ∃ s1, asg tg x s h = some s1 ∧ ((∃ s2 h2, body s1 h = .nx s2 h2 ∧ I (k + 1) s2 h2) ∨ (∃ s2 h2, body s1 h = .ct s2 h2 ∧ I (k + 1) s2 h2) ∨ (∃ v h2, body s1 h = .rt v h2 ∧ Q v h2)))
    (n : Nat) : ∀ k s h, I k s h → k ≤ xs.length → xs.length < k + n → (∃ s' h', walk w tg body n k s h = .nx s' h' ∧ I xs.length s' h') ∨ (∃ v h', walk w tg body n k s h = .rt v h' ∧ Q v h') := by
  induction n with
  | zero => intro k s h _ a b; omega
  | succ n ih =>
    intro k s h i a b
    rcases Nat.lt_or_ge k xs.length with l | l
    · obtain ⟨s1, e1, o⟩ := st k _ s h (List.getElem?_eq_getElem l) i
      rcases o with ⟨s2, h2, e2, i2⟩ | ⟨s2, h2, e2, i2⟩ | ⟨v, h2, e2, q⟩
      · rcases ih (k + 1) s2 h2 i2 (by omega) (by omega) with ⟨s', h', e', i'⟩ | ⟨v, h', e', q⟩
        · refine Or.inl ⟨s', h', ?_, i'⟩
          rw [walk, hw k s h i k, List.getElem?_eq_getElem l]
          simp only [e1, e2]
          exact e'
        · refine Or.inr ⟨v, h', ?_, q⟩
          rw [walk, hw k s h i k, List.getElem?_eq_getElem l]
          simp only [e1, e2]
          exact e'
      · rcases ih (k + 1) s2 h2 i2 (by omega) (by omega) with ⟨s', h', e', i'⟩ | ⟨v, h', e', q⟩
        · refine Or.inl ⟨s', h', ?_, i'⟩
          rw [walk, hw k s h i k, List.getElem?_eq_getElem l]
          simp only [e1, e2]
          exact e'
        · refine Or.inr ⟨v, h', ?_, q⟩
          rw [walk, hw k s h i k, List.getElem?_eq_getElem l]
          simp only [e1, e2]
          exact e'
      · refine Or.inr ⟨v, h2, ?_, q⟩
        rw [walk, hw k s h i k, List.getElem?_eq_getElem l]
        simp only [e1, e2]
    · have : k = xs.length := by omega
      subst this
      refine Or.inl ⟨s, h, ?_, i⟩
      rw [walk, hw _ s h i _, List.getElem?_eq_none (Nat.le_refl _)]
/-- a comprehension: I k acc h holds before the k-th turn -/
theorem colle_inv (I : Nat → List IV → IH → Prop) {w : Wk} {tg : Tg} {s : En} {test : En → IH → R Bool} {elt : En → IH → R IV} {r : Nat} {xs : List IV} (hl : xs.length < 16777216)
    (hw : ∀ k acc h, I k acc h → w.has xs h)
    (st : ∀ k x acc h, xs[k]? = some x → I k acc h → ∃ s1, asg tg x s h = some s1 ∧ ∃ b h1, test s1 h = .ok b h1 ∧ (b = false → I (k + 1) acc h1) ∧ (b = true → ∃ y h2, elt s1 h1 = .ok y h2 ∧ h2[r]? = some (.lst acc) ∧ I (k + 1) (acc ++ [y]) (h2.set r (.lst (acc ++ [y])))))
    (n : Nat) : ∀ k acc h, I k acc h → acc.length ≤ k → k ≤ xs.length → xs.length < k + n → ∃ acc' h', colle w tg s test elt r n k h = .ok () h' ∧ I xs.length acc' h' := by
  induction n with
  | zero => intro k acc h _ _ a b; omega
  | succ n ih =>
    intro k acc h i c a b
    rcases Nat.lt_or_ge k xs.length with l | l
    · obtain ⟨s1, e1, t, h1, e2, o1, o2⟩ := st k _ acc h (List.getElem?_eq_getElem l) i
      cases t with
      | false =>
        obtain ⟨acc', h', e', i'⟩ := ih (k + 1) acc h1 (o1 rfl) (by omega) (by omega) (by omega)
        refine ⟨acc', h', ?_, i'⟩
        rw [colle, hw k acc h i k, List.getElem?_eq_getElem l]
        simp only [e1, e2]
        exact e'
      | true =>
        obtain ⟨y, h2, e3, e4, i2⟩ := o2 rfl
        obtain ⟨acc', h', e', i'⟩ := ih (k + 1) (acc ++ [y]) _ i2 (by simp; omega) (by omega) (by omega)
        refine ⟨acc', h', ?_, i'⟩
        rw [colle, hw k acc h i k, List.getElem?_eq_getElem l]
        simp only [e1, e2, e3, e4]
        rw [if_pos (show acc.length < LN by show acc.length < 16777216; omega)]
        exact e'
    · have : k = xs.length := by omega
      subst this
      refine ⟨acc, h, ?_, i⟩
      rw [colle, hw _ acc h i _, List.getElem?_eq_none (Nat.le_refl _)]
end Itp

/-! ItZb: what holds behind a run. -/
namespace Itp
open PySem (Str PyData)
inductive Wi {α : Type} : R α → (α → IH → Prop) → Prop
  | ok {a : α} {h : IH} {Q : α → IH → Prop} : Q a h → Wi (.ok a h) Q
def Wh {α : Type} (r : R α) [Q : Hid (α → IH → Prop)] : Prop := Wi r Q.f
/-- the run ends well, and this holds behind it -/
@[reducible] def W {α : Type} (r : R α) (Q : α → IH → Prop) : Prop := @Wh α r ⟨Q⟩
inductive WSi : RS → (RS → Prop) → Prop
  | nx {s : En} {h : IH} {Q : RS → Prop} : Q (.nx s h) → WSi (.nx s h) Q
  | rt {v : IV} {h : IH} {Q : RS → Prop} : Q (.rt v h) → WSi (.rt v h) Q
  | bk {s : En} {h : IH} {Q : RS → Prop} : Q (.bk s h) → WSi (.bk s h) Q
  | ct {s : En} {h : IH} {Q : RS → Prop} : Q (.ct s h) → WSi (.ct s h) Q
def WSh (r : RS) [Q : Hid (RS → Prop)] : Prop := WSi r Q.f
@[reducible] def WS (r : RS) (Q : RS → Prop) : Prop := @WSh r ⟨Q⟩
/-- behind a statement the rest -/
def thn (f : En → IH → RS) (Q : RS → Prop) (r : RS) : Prop := match r with
  | .nx s h => WS (f s h) Q
  | r => Q r
/-- behind a def's body -/
def fnQ (Q : IV → IH → Prop) (r : RS) : Prop := match r with
  | .nx _ h => Q .non h
  | .rt v h => Q v h
  | _ => False
/-- behind a turn of a loop -/
def lpQ (I E : En → IH → Prop) (T : IV → IH → Prop) (r : RS) : Prop := match r with
  | .nx s h => I s h
  | .ct s h => I s h
  | .bk s h => E s h
  | .rt v h => T v h
  | _ => False
theorem W_ok {α : Type} {a : α} {h : IH} {Q : α → IH → Prop} : @Wh α (.ok a h) ⟨Q⟩ = Q a h := propext ⟨fun w => by cases w; assumption, .ok⟩
theorem W_ex {α : Type} {c : Nat} {v : IV} {h : IH} {Q : α → IH → Prop} : @Wh α (.ex c v h) ⟨Q⟩ = False := propext ⟨fun w => (by cases w), False.elim⟩
theorem W_no {α : Type} {Q : α → IH → Prop} : @Wh α .no ⟨Q⟩ = False := propext ⟨fun w => (by cases w), False.elim⟩
theorem S_nx {s : En} {h : IH} {Q : RS → Prop} : @WSh (.nx s h) ⟨Q⟩ = Q (.nx s h) := propext ⟨fun w => by cases w; assumption, .nx⟩
theorem S_rt {v : IV} {h : IH} {Q : RS → Prop} : @WSh (.rt v h) ⟨Q⟩ = Q (.rt v h) := propext ⟨fun w => by cases w; assumption, .rt⟩
theorem S_bk {s : En} {h : IH} {Q : RS → Prop} : @WSh (.bk s h) ⟨Q⟩ = Q (.bk s h) := propext ⟨fun w => by cases w; assumption, .bk⟩
theorem S_ct {s : En} {h : IH} {Q : RS → Prop} : @WSh (.ct s h) ⟨Q⟩ = Q (.ct s h) := propext ⟨fun w => by cases w; assumption, .ct⟩
theorem S_ex {c : Nat} {v : IV} {s : En} {h : IH} {Q : RS → Prop} : @WSh (.ex c v s h) ⟨Q⟩ = False := propext ⟨fun w => (by cases w), False.elim⟩
theorem S_no {Q : RS → Prop} : @WSh .no ⟨Q⟩ = False := propext ⟨fun w => (by cases w), False.elim⟩
theorem W_bind {α β : Type} {r : R α} {f : α → IH → R β} {Q : β → IH → Prop} : @Wh β (@R.bd α β r ⟨f⟩) ⟨Q⟩ = @Wh α r ⟨fun a h => @Wh β (f a h) ⟨Q⟩⟩ := by
  cases r with
  | ok a h => exact (W_ok (Q := fun a h => @Wh β (f a h) ⟨Q⟩)).symm
  | ex c v h => exact (W_ex (α := β)).trans (W_ex (α := α)).symm
  | no => exact (W_no (α := β)).trans (W_no (α := α)).symm
theorem W_of {α : Type} {s : En} {r : R α} {f : α → IH → RS} {Q : RS → Prop} : @WSh (@RS.ofd α s r ⟨f⟩) ⟨Q⟩ = @Wh α r ⟨fun a h => @WSh (f a h) ⟨Q⟩⟩ := by
  cases r with
  | ok a h => exact (W_ok (Q := fun a h => @WSh (f a h) ⟨Q⟩)).symm
  | ex c v h => exact S_ex.trans (W_ex (α := α)).symm
  | no => exact S_no.trans (W_no (α := α)).symm
theorem W_seq {r : RS} {f : En → IH → RS} {Q : RS → Prop} : @WSh (@RS.sqd r ⟨f⟩) ⟨Q⟩ = @WSh r ⟨thn f Q⟩ := by
  cases r with
  | nx s h => exact (S_nx (Q := thn f Q)).symm
  | rt v h => exact S_rt.trans (S_rt (Q := thn f Q)).symm
  | bk s h => exact S_bk.trans (S_bk (Q := thn f Q)).symm
  | ct s h => exact S_ct.trans (S_ct (Q := thn f Q)).symm
  | ex c v s h => exact S_ex.trans (S_ex (Q := thn f Q)).symm
  | no => exact S_no.trans (S_no (Q := thn f Q)).symm
theorem W_fin {r : RS} {Q : IV → IH → Prop} : @Wh IV (fin r) ⟨Q⟩ = @WSh r ⟨fnQ Q⟩ := by
  cases r with
  | nx s h => exact W_ok.trans (S_nx (Q := fnQ Q)).symm
  | rt v h => exact W_ok.trans (S_rt (Q := fnQ Q)).symm
  | bk s h => exact (W_no (α := IV)).trans (S_bk (Q := fnQ Q)).symm
  | ct s h => exact (W_no (α := IV)).trans (S_ct (Q := fnQ Q)).symm
  | ex c v s h => exact (W_ex (α := IV)).trans (S_ex (Q := fnQ Q)).symm
  | no => exact (W_no (α := IV)).trans (S_no (Q := fnQ Q)).symm
theorem n_nx {f : En → IH → RS} {s : En} {h : IH} {Q : RS → Prop} : thn f Q (.nx s h) = @WSh (f s h) ⟨Q⟩ := rfl
theorem n_rt {f : En → IH → RS} {v : IV} {h : IH} {Q : RS → Prop} : thn f Q (.rt v h) = Q (.rt v h) := rfl
theorem n_bk {f : En → IH → RS} {s : En} {h : IH} {Q : RS → Prop} : thn f Q (.bk s h) = Q (.bk s h) := rfl
theorem n_ct {f : En → IH → RS} {s : En} {h : IH} {Q : RS → Prop} : thn f Q (.ct s h) = Q (.ct s h) := rfl
theorem q_nx {s : En} {h : IH} {Q : IV → IH → Prop} : fnQ Q (.nx s h) = Q .non h := rfl
theorem q_rt {v : IV} {h : IH} {Q : IV → IH → Prop} : fnQ Q (.rt v h) = Q v h := rfl
theorem l_nx {I E : En → IH → Prop} {T : IV → IH → Prop} {s : En} {h : IH} : lpQ I E T (.nx s h) = I s h := rfl
theorem l_ct {I E : En → IH → Prop} {T : IV → IH → Prop} {s : En} {h : IH} : lpQ I E T (.ct s h) = I s h := rfl
theorem l_bk {I E : En → IH → Prop} {T : IV → IH → Prop} {s : En} {h : IH} : lpQ I E T (.bk s h) = E s h := rfl
theorem l_rt {I E : En → IH → Prop} {T : IV → IH → Prop} {v : IV} {h : IH} : lpQ I E T (.rt v h) = T v h := rfl
theorem W.ex {α : Type} {r : R α} {Q : α → IH → Prop} (w : W r Q) : ∃ a h, r = .ok a h ∧ Q a h := by
  cases w with
  | ok q => exact ⟨_, _, rfl, q⟩
theorem W.mk {α : Type} {r : R α} {Q : α → IH → Prop} (w : ∃ a h, r = .ok a h ∧ Q a h) : W r Q := by
  obtain ⟨a, h, e, q⟩ := w
  rw [e]; exact .ok q
theorem W.of {α : Type} {r : R α} {a : α} {h : IH} {Q : α → IH → Prop} (e : r = .ok a h) (q : Q a h) : W r Q := by rw [e]; exact .ok q
/-- one run, then the rest -/
theorem W.th {α : Type} {r : R α} {P Q : α → IH → Prop} (w : W r P) (k : ∀ a h, P a h → Q a h) : W r Q := by
  obtain ⟨a, h, rfl, p⟩ := w.ex
  exact .ok (k a h p)
theorem WS.th {r : RS} {P Q : RS → Prop} (w : WS r P) (k : ∀ r, P r → Q r) : WS r Q := by
  cases w with
  | nx q => exact .nx (k _ q)
  | rt q => exact .rt (k _ q)
  | bk q => exact .bk (k _ q)
  | ct q => exact .ct (k _ q)
theorem WS.try {b : RS} {f : Nat → IV → En → IH → RS} {Q : RS → Prop} (w : WS b Q) : WS (@tryF b ⟨f⟩) Q := by
  cases w with
  | nx q => exact .nx q
  | rt q => exact .rt q
  | bk q => exact .bk q
  | ct q => exact .ct q
theorem W.cnd {α : Type} {c : Prop} [Decidable c] {x y : R α} {Q : α → IH → Prop} (t : c → W x Q) (f : ¬ c → W y Q) : W (@Itp.cnd (R α) (decide c) ⟨x⟩ ⟨y⟩) Q := by
  by_cases q : c
  · rw [cnd_d q]; exact t q
  · rw [cnd_nd q]; exact f q
theorem WS.cnd {c : Prop} [Decidable c] {x y : RS} {Q : RS → Prop} (t : c → WS x Q) (f : ¬ c → WS y Q) : WS (@Itp.cnd RS (decide c) ⟨x⟩ ⟨y⟩) Q := by
  by_cases q : c
  · rw [cnd_d q]; exact t q
  · rw [cnd_nd q]; exact f q
/-- a loop -/
theorem walkW (I : Nat → En → IH → Prop) (E : En → IH → Prop) (T : IV → IH → Prop) {w : Wk} {tg : Tg} {body : En → IH → RS} {xs : List IV} {Q : RS → Prop} {s : En} {h : IH}
    (hl : xs.length < 16777217) (hw : ∀ k s h, I k s h → w.has xs h) (i0 : I 0 s h)
    (st : ∀ k x s h, xs[k]? = some x → I k s h → ∃ s1, asg tg x s h = some s1 ∧ WS (body s1 h) (lpQ (I (k + 1)) E T))
    (dn : ∀ s h, I xs.length s h → Q (.nx s h)) (db : ∀ s h, E s h → Q (.nx s h)) (dr : ∀ v h, T v h → Q (.rt v h)) : WS (walk w tg body FU 0 s h) Q := by
  have go : ∀ n k s h, I k s h → k ≤ xs.length → xs.length < k + n → WS (walk w tg body n k s h) Q := by
    intro n
    induction n with
    | zero => intro k s h _ a b; omega
    | succ n ih =>
      intro k s h i a b
      rcases Nat.lt_or_ge k xs.length with l | l
      · obtain ⟨s1, e1, o⟩ := st k _ s h (List.getElem?_eq_getElem l) i
        rw [walk, hw k s h i k, List.getElem?_eq_getElem l]
        simp only [e1]
        generalize body s1 h = r at o
        cases o with
        | nx o => exact ih _ _ _ o (by omega) (by omega)
        | ct o => exact ih _ _ _ o (by omega) (by omega)
        | bk o => exact .nx (db _ _ o)
        | rt o => exact .rt (dr _ _ o)
      · have : k = xs.length := by omega
        subst this
        rw [walk, hw _ s h i _, List.getElem?_eq_none (Nat.le_refl _)]
        exact .nx (dn _ _ i)
  exact go FU 0 s h i0 (by omega) (by show _ < 0 + 17000000; omega)
/-- a comprehension -/
theorem colleW (I : Nat → List IV → IH → Prop) {w : Wk} {tg : Tg} {s : En} {test : En → IH → R Bool} {elt : En → IH → R IV} {r : Nat} {xs : List IV} {Q : Unit → IH → Prop} {h : IH}
    (hl : xs.length < 16777216) (hw : ∀ k acc h, I k acc h → w.has xs h) (i0 : I 0 [] h)
    (st : ∀ k x acc h, xs[k]? = some x → I k acc h → ∃ s1, asg tg x s h = some s1 ∧ W (test s1 h) fun b h1 =>
      (b = false → I (k + 1) acc h1) ∧ (b = true → W (elt s1 h1) fun y h2 => h2[r]? = some (.lst acc) ∧ I (k + 1) (acc ++ [y]) (h2.set r (.lst (acc ++ [y])))))
    (dn : ∀ acc h, I xs.length acc h → Q () h) : W (colle w tg s test elt r FU 0 h) Q := by
  have go : ∀ n k acc h, I k acc h → acc.length ≤ k → k ≤ xs.length → xs.length < k + n → W (colle w tg s test elt r n k h) Q := by
    intro n
    induction n with
    | zero => intro k acc h _ _ a b; omega
    | succ n ih =>
      intro k acc h i c a b
      rcases Nat.lt_or_ge k xs.length with l | l
      · obtain ⟨s1, e1, o⟩ := st k _ acc h (List.getElem?_eq_getElem l) i
        obtain ⟨t, h1, e2, o1, o2⟩ := o.ex
        rw [colle, hw k acc h i k, List.getElem?_eq_getElem l]
        cases t with
        | false =>
          simp only [e1, e2]
          exact ih _ acc h1 (o1 rfl) (by omega) (by omega) (by omega)
        | true =>
          obtain ⟨y, h2, e3, e4, i2⟩ := (o2 rfl).ex
          simp only [e1, e2, e3, e4]
          rw [if_pos (show acc.length < LN by show acc.length < 16777216; omega)]
          exact ih _ _ _ i2 (by simp; omega) (by omega) (by omega)
      · have : k = xs.length := by omega
        subst this
        rw [colle, hw _ acc h i _, List.getElem?_eq_none (Nat.le_refl _)]
        exact .ok (dn _ _ i)
  exact go FU 0 [] h i0 (by simp) (by omega) (by show _ < 0 + 17000000; omega)
/-- one that goes on with a list -/
theorem colleV (I : Nat → List IV → IH → Prop) {w : Wk} {tg : Tg} {s : En} {test : En → IH → R Bool} {elt : En → IH → R IV} {r : Nat} {xs : List IV} {Q : Unit → IH → Prop} {h : IH} (acc0 : List IV)
    (hl : acc0.length + xs.length < 16777216) (hw : ∀ k acc h, I k acc h → w.has xs h) (i0 : I 0 acc0 h)
    (st : ∀ k x acc h, xs[k]? = some x → I k acc h → ∃ s1, asg tg x s h = some s1 ∧ W (test s1 h) fun b h1 =>
      (b = false → I (k + 1) acc h1) ∧ (b = true → W (elt s1 h1) fun y h2 => h2[r]? = some (.lst acc) ∧ I (k + 1) (acc ++ [y]) (h2.set r (.lst (acc ++ [y])))))
    (dn : ∀ acc h, I xs.length acc h → Q () h) : W (colle w tg s test elt r FU 0 h) Q := by
  have go : ∀ n k acc h, I k acc h → acc.length ≤ acc0.length + k → k ≤ xs.length → xs.length < k + n → W (colle w tg s test elt r n k h) Q := by
    intro n
    induction n with
    | zero => intro k acc h _ _ a b; omega
    | succ n ih =>
      intro k acc h i c a b
      rcases Nat.lt_or_ge k xs.length with l | l
      · obtain ⟨s1, e1, o⟩ := st k _ acc h (List.getElem?_eq_getElem l) i
        obtain ⟨t, h1, e2, o1, o2⟩ := o.ex
        rw [colle, hw k acc h i k, List.getElem?_eq_getElem l]
        cases t with
        | false =>
          simp only [e1, e2]
          exact ih _ acc h1 (o1 rfl) (by omega) (by omega) (by omega)
        | true =>
          obtain ⟨y, h2, e3, e4, i2⟩ := (o2 rfl).ex
          simp only [e1, e2, e3, e4]
          rw [if_pos (show acc.length < LN by show acc.length < 16777216; omega)]
          exact ih _ _ _ i2 (by simp; omega) (by omega) (by omega)
      · have : k = xs.length := by omega
        subst this
        rw [colle, hw _ acc h i _, List.getElem?_eq_none (Nat.le_refl _)]
        exact .ok (dn _ _ i)
  exact go FU 0 acc0 h i0 (by omega) (by omega) (by show _ < 0 + 17000000; omega)
/-- a comprehension of two: what one turn of the outer one does -/
theorem colle2W (I : Nat → List IV → IH → Prop) {w : Wk} {tg tg1 : Tg} {s : En} {test test1 : En → IH → R Bool} {iter : En → IH → R Wk} {elt : En → IH → R IV} {r : Nat} {xs : List IV} {Q : Unit → IH → Prop} {h : IH}
    (hl : xs.length < 16777216) (hw : ∀ k acc h, I k acc h → w.has xs h) (i0 : I 0 [] h)
    (st : ∀ k x acc h, xs[k]? = some x → I k acc h → ∃ s1, asg tg x s h = some s1 ∧ W (test s1 h) fun b h1 =>
      (b = false → I (k + 1) acc h1) ∧ (b = true → W (iter s1 h1) fun w1 h2 => W (colle w1 tg1 (wipe s1 tg1.slots) test1 elt r FU 0 h2) fun _ h3 => ∃ acc', I (k + 1) acc' h3))
    (dn : ∀ acc h, I xs.length acc h → Q () h) : W (colle2 w tg s test iter tg1 test1 elt r FU 0 h) Q := by
  have go : ∀ n k acc h, I k acc h → k ≤ xs.length → xs.length < k + n → W (colle2 w tg s test iter tg1 test1 elt r n k h) Q := by
    intro n
    induction n with
    | zero => intro k acc h _ a b; omega
    | succ n ih =>
      intro k acc h i a b
      rcases Nat.lt_or_ge k xs.length with l | l
      · obtain ⟨s1, e1, o⟩ := st k _ acc h (List.getElem?_eq_getElem l) i
        obtain ⟨t, h1, e2, o1, o2⟩ := o.ex
        rw [colle2, hw k acc h i k, List.getElem?_eq_getElem l]
        cases t with
        | false =>
          simp only [e1, e2]
          exact ih _ acc h1 (o1 rfl) (by omega) (by omega)
        | true =>
          obtain ⟨w1, h2, e3, o3⟩ := (o2 rfl).ex
          obtain ⟨_, h3, e4, acc', i3⟩ := o3.ex
          simp only [e1, e2, e3, e4]
          exact ih _ acc' h3 i3 (by omega) (by omega)
      · have : k = xs.length := by omega
        subst this
        rw [colle2, hw _ acc h i _, List.getElem?_eq_none (Nat.le_refl _)]
        exact .ok (dn _ _ i)
  exact go FU 0 [] h i0 (by omega) (by show _ < 0 + 17000000; omega)
/-- a comprehension that asks of its items alone -/
theorem collePure {w : Wk} {tg : Tg} {s : En} {test : En → IH → R Bool} {elt : En → IH → R IV} {xs : List IV} {h : IH} (p : IV → Bool) (g : IV → IV)
    (hl : xs.length < 16777216) (hw : ∀ t : IH, w.has xs (h ++ t))
    (st : ∀ x, x ∈ xs → ∀ t : IH, ∃ s1, asg tg x s (h ++ t) = some s1 ∧ test s1 (h ++ t) = .ok (p x) (h ++ t) ∧ (p x = true → elt s1 (h ++ t) = .ok (g x) (h ++ t))) :
    colle w tg s test elt h.length FU 0 (h ++ [.lst []]) = .ok () (h ++ [.lst ((xs.filter p).map g)]) := by
  have := colleW (w := w) (tg := tg) (s := s) (test := test) (elt := elt) (r := h.length) (xs := xs) (h := h ++ [.lst []])
    (Q := fun _ h' => h' = h ++ [.lst ((xs.filter p).map g)])
    (fun k acc h' => acc = ((xs.take k).filter p).map g ∧ h' = h ++ [.lst acc]) hl
    (fun k acc h' i => i.2 ▸ hw _) ⟨by simp, rfl⟩
    (by
      rintro k x acc h' e ⟨rfl, rfl⟩
      obtain ⟨s1, e1, e2, e3⟩ := st x (List.mem_of_getElem? e) [.lst (((xs.take k).filter p).map g)]
      refine ⟨s1, e1, W.of e2 ⟨fun b => ?_, fun b => W.of (e3 b) ?_⟩⟩
      · rw [List.take_succ, e]
        simp [b]
      · refine ⟨by simp, ?_, by simp⟩
        rw [List.take_succ, e]
        simp [b])
    (by
      rintro acc h' ⟨rfl, rfl⟩
      rw [List.take_length])
  obtain ⟨_, _, e, rfl⟩ := this.ex
  exact e
/-! ### heaps that grow -/
/-- all that was there is as it was -/
def Gr (h h' : IH) : Prop := ∃ t, h' = h ++ t
theorem Gr.rfl {h : IH} : Gr h h := ⟨[], (List.append_nil h).symm⟩
theorem Gr.app {h t : IH} : Gr h (h ++ t) := ⟨t, Eq.refl _⟩
theorem Gr.tr {a b c : IH} (x : Gr a b) (y : Gr b c) : Gr a c := by
  obtain ⟨t, rfl⟩ := x
  obtain ⟨u, rfl⟩ := y
  exact ⟨t ++ u, List.append_assoc _ _ _⟩
theorem Gr.at {h h' : IH} (x : Gr h h') {r : Nat} {o : IO} (e : h[r]? = some o) : h'[r]? = some o := by
  obtain ⟨t, rfl⟩ := x
  rw [g_app (lt_of e), e]
theorem Gr.le {h h' : IH} (x : Gr h h') : h.length ≤ h'.length := by
  obtain ⟨t, rfl⟩ := x
  simp
theorem Gr.set {h h' : IH} {r : Nat} {o : IO} (x : Gr h h') (l : h.length ≤ r) : Gr h (h'.set r o) := by
  obtain ⟨t, rfl⟩ := x
  exact ⟨t.set (r - h.length) o, List.set_append_right _ _ l⟩
/-- a comprehension over what is made of plain things -/
theorem colleM {α : Type} {w : Wk} {tg : Tg} {s : En} {test : En → IH → R Bool} {elt : En → IH → R IV} {l : List α} {F : α → IV} {h : IH} (p : α → Bool) (g : α → IV)
    (hl : l.length < 16777216) (hw : ∀ t : IH, w.has (l.map F) (h ++ t))
    (st : ∀ a, a ∈ l → ∀ t : IH, ∃ s1, asg tg (F a) s (h ++ t) = some s1 ∧ test s1 (h ++ t) = .ok (p a) (h ++ t) ∧ (p a = true → elt s1 (h ++ t) = .ok (g a) (h ++ t))) :
    W (colle w tg s test elt h.length FU 0 (h ++ [.lst []])) fun _ h' => h'[h.length]? = some (.lst ((l.filter p).map g)) ∧ Gr h h' ∧ h'.length = h.length + 1 := by
  refine colleW (xs := l.map F) (fun k acc h' => acc = ((l.take k).filter p).map g ∧ h' = h ++ [.lst acc]) (by simpa using hl) (fun k acc h' i => i.2 ▸ hw _) ⟨by simp, rfl⟩ ?_ ?_
  · rintro k x acc h' e ⟨rfl, rfl⟩
    rw [List.getElem?_map] at e
    cases q : l[k]? with
    | none => rw [q] at e; exact nomatch e
    | some a =>
      rw [q] at e
      obtain rfl : F a = x := by simpa using e
      obtain ⟨s1, e1, e2, e3⟩ := st a (List.mem_of_getElem? q) [.lst (((l.take k).filter p).map g)]
      refine ⟨s1, e1, W.of e2 ⟨fun b => ?_, fun b => W.of (e3 b) ?_⟩⟩
      · rw [List.take_succ, q]
        simp [b]
      · refine ⟨by simp, ?_, by simp⟩
        rw [List.take_succ, q]
        simp [b]
  · rintro acc h' ⟨rfl, rfl⟩
    rw [List.length_map, List.take_length]
    exact ⟨by simp, .app, by simp⟩
/-- one without tests -/
theorem colleA {α : Type} {w : Wk} {tg : Tg} {s : En} {test : En → IH → R Bool} {elt : En → IH → R IV} {l : List α} {F : α → IV} {h : IH} (g : α → IV)
    (hl : l.length < 16777216) (hw : ∀ t : IH, w.has (l.map F) (h ++ t))
    (st : ∀ a, a ∈ l → ∀ t : IH, ∃ s1, asg tg (F a) s (h ++ t) = some s1 ∧ test s1 (h ++ t) = .ok true (h ++ t) ∧ elt s1 (h ++ t) = .ok (g a) (h ++ t)) :
    W (colle w tg s test elt h.length FU 0 (h ++ [.lst []])) fun _ h' => h'[h.length]? = some (.lst (l.map g)) ∧ Gr h h' ∧ h'.length = h.length + 1 := by
  have := colleM (fun _ => true) g hl hw (fun a m t => by
    obtain ⟨s1, e1, e2, e3⟩ := st a m t
    exact ⟨s1, e1, e2, fun _ => e3⟩)
  rw [show l.filter (fun _ => true) = l from List.filter_eq_self.2 (by simp)] at this
  exact this
theorem colM {α : Type} {w : Wk} {tg : Tg} {s : En} {test : En → IH → R Bool} {elt : En → IH → R IV} {l : List α} {F : α → IV} {h : IH} {Q : Unit → IH → Prop} (p : α → Bool) (g : α → IV)
    (hl : l.length < 16777216) (hw : ∀ t : IH, w.has (l.map F) (h ++ t))
    (st : ∀ a, a ∈ l → ∀ t : IH, ∃ s1, asg tg (F a) s (h ++ t) = some s1 ∧ test s1 (h ++ t) = .ok (p a) (h ++ t) ∧ (p a = true → elt s1 (h ++ t) = .ok (g a) (h ++ t)))
    (k : ∀ h' : IH, h'[h.length]? = some (.lst ((l.filter p).map g)) → Gr h h' → h'.length = h.length + 1 → Q () h') :
    W (colle w tg s test elt h.length FU 0 (h ++ [.lst []])) Q := (colleM p g hl hw st).th fun _ h' e => k h' e.1 e.2.1 e.2.2
theorem colA {α : Type} {w : Wk} {tg : Tg} {s : En} {test : En → IH → R Bool} {elt : En → IH → R IV} {l : List α} {F : α → IV} {h : IH} {Q : Unit → IH → Prop} (g : α → IV)
    (hl : l.length < 16777216) (hw : ∀ t : IH, w.has (l.map F) (h ++ t))
    (st : ∀ a, a ∈ l → ∀ t : IH, ∃ s1, asg tg (F a) s (h ++ t) = some s1 ∧ test s1 (h ++ t) = .ok true (h ++ t) ∧ elt s1 (h ++ t) = .ok (g a) (h ++ t))
    (k : ∀ h' : IH, h'[h.length]? = some (.lst (l.map g)) → Gr h h' → h'.length = h.length + 1 → Q () h') :
    W (colle w tg s test elt h.length FU 0 (h ++ [.lst []])) Q := (colleA g hl hw st).th fun _ h' e => k h' e.1 e.2.1 e.2.2
theorem lst_ref {r : Nat} {h : IH} : lstI (.ref r) h = (match h[r]? with
    | some (.lst xs) => some xs
    | _ => none) := rfl
theorem zipT_map {α : Type} (f g : α → IV) (l : List α) : zipT (l.map f) (l.map g) = l.map fun k => .tup [f k, g k] := by
  induction l with
  | nil => rfl
  | cons x l ih => simp [zipT, ih]
theorem lst_at {r : Nat} {xs : List IV} {h : IH} (e : h[r]? = some (.lst xs)) : lstI (.ref r) h = some xs := by simp [lstI, e]
theorem has_zipM {α : Type} {x y : IV} {f g : α → IV} {l : List α} {h : IH} (e1 : lstI x h = some (l.map f)) (e2 : lstI y h = some (l.map g)) : Wk.has (.zip x y) (l.map fun k => .tup [f k, g k]) h := by
  rw [← zipT_map]; exact has_zip e1 e2
theorem enmT_map {α : Type} (f : α → IV) : ∀ (l : List α) (k : Nat), enmT k (l.map f) = (l.zipIdx k).map fun p => .tup [.int (p.2 : Nat), f p.1]
  | [], _ => rfl
  | x :: xs, k => by simp [enmT, enmT_map f xs (k + 1), List.zipIdx_cons]
theorem enmT_ix : ∀ {xs : List IV} {k i : Nat}, (enmT k xs)[i]? = (xs[i]?).map fun x => IV.tup [.int ((k + i : Nat) : Int), x]
  | [], _, _ => by simp [enmT]
  | x :: xs, k, 0 => by simp [enmT]
  | x :: xs, k, i + 1 => by
    rw [enmT, List.getElem?_cons_succ, List.getElem?_cons_succ, enmT_ix, show k + 1 + i = k + (i + 1) by omega]
theorem enmT_len : ∀ {xs : List IV} {k : Nat}, (enmT k xs).length = xs.length
  | [], _ => rfl
  | x :: xs, k => by simp [enmT, enmT_len]
theorem has_enm {x : IV} {xs : List IV} {h : IH} (e : lstI x h = some xs) : Wk.has (.enm x) (enmT 0 xs) h := fun i => by
  show (lstI x h).map _ = _
  rw [e, enmT_ix]
  simp
theorem has_lstG {r : Nat} {xs : List IV} {h t : IH} (e : h[r]? = some (.lst xs)) : Wk.has (.lst r) xs (h ++ t) := has_lst ((g_app (lt_of e)).trans e)
theorem lst_atG {r : Nat} {xs : List IV} {h t : IH} (e : h[r]? = some (.lst xs)) : lstI (.ref r) (h ++ t) = some xs := lst_at ((g_app (lt_of e)).trans e)
theorem rng1 {j : Int} (h0 : 0 ≤ j) (h1 : j < 4611686018427387904) : rng [.int j] = some ((List.range j.toNat).map fun k : Nat => .int k) := by
  rw [rng, if_pos (by omega)]; simp
theorem rng2 {i j : Int} (h0 : -4611686018427387904 ≤ i) (h1 : i < 4611686018427387904) (h2 : -4611686018427387904 ≤ j) (h3 : j < 4611686018427387904) : rng [.int i, .int j] = some ((List.range (j - i).toNat).map fun k : Nat => .int (i + k)) := by
  rw [rng, if_pos (by omega)]
/-- a box from which numbers are drawn -/
def Bx (N : Nat) (h : IH) (b : Nat) : Prop := ∃ (x : Int) (k : Bool) (m c : Int), h[b]? = some (.lst [.int x, .bl k, .int m, .int c]) ∧ 0 ≤ x ∧ 0 ≤ m ∧ m < 2147483647 ∧ 0 ≤ c ∧ c ≤ N
theorem Bx.mono {N M : Nat} {h : IH} {b : Nat} (x : Bx N h b) (l : N ≤ M) : Bx M h b := by
  obtain ⟨x, k, m, c, e, h1, h2, h3, h4, h5⟩ := x
  exact ⟨x, k, m, c, e, h1, h2, h3, h4, by omega⟩
/-- but for the box b, from which at most k numbers are drawn, all that was there is as it was -/
structure Fr (b k : Nat) (h h' : IH) : Prop where
  le : h.length ≤ h'.length
  old : ∀ r, r < h.length → r ≠ b → h'[r]? = h[r]?
  box : ∀ N, Bx N h b → Bx (N + k) h' b
theorem Fr.at {b k : Nat} {h h' : IH} (f : Fr b k h h') {r : Nat} {o : IO} (e : h[r]? = some o) (n : r ≠ b) : h'[r]? = some o := by
  rw [f.old r (lt_of e) n, e]
theorem Bx.lt {N : Nat} {h : IH} {b : Nat} (x : Bx N h b) : b < h.length := by
  obtain ⟨_, _, _, _, e, _⟩ := x
  exact lt_of e
theorem Fr.refl {b : Nat} {h : IH} : Fr b 0 h h := ⟨Nat.le_refl _, fun _ _ _ => rfl, fun _ x => x⟩
theorem Fr.tr {b k j : Nat} {h h1 h2 : IH} (x : Fr b k h h1) (y : Fr b j h1 h2) : Fr b (k + j) h h2 :=
  ⟨Nat.le_trans x.le y.le, fun r l n => (y.old r (Nat.lt_of_lt_of_le l x.le) n).trans (x.old r l n), fun N z => Nat.add_assoc N k j ▸ y.box _ (x.box _ z)⟩
theorem Fr.mono {b k j : Nat} {h h1 : IH} (x : Fr b k h h1) (l : k ≤ j) : Fr b j h h1 := ⟨x.le, x.old, fun N z => (x.box N z).mono (by omega)⟩
theorem Bx.app {N : Nat} {h t : IH} {b : Nat} (x : Bx N h b) : Bx N (h ++ t) b := by
  obtain ⟨x, k, m, c, e, r⟩ := x
  exact ⟨x, k, m, c, (g_app (lt_of e)).trans e, r⟩
theorem Bx.setn {N : Nat} {h : IH} {b r : Nat} {o : IO} (x : Bx N h b) (n : r ≠ b) : Bx N (h.set r o) b := by
  obtain ⟨x, k, m, c, e, r⟩ := x
  exact ⟨x, k, m, c, (g_setn n).trans e, r⟩
theorem Bx.gr {N : Nat} {h h' : IH} {b : Nat} (x : Bx N h b) (g : Gr h h') : Bx N h' b := by
  obtain ⟨t, rfl⟩ := g
  exact x.app
theorem Gr.fr {b : Nat} {h h' : IH} (g : Gr h h') : Fr b 0 h h' := ⟨g.le, fun r l n => by
  obtain ⟨t, rfl⟩ := g
  exact g_app l, fun N x => x.gr g⟩
theorem Fr.app {b k : Nat} {h h' t : IH} (f : Fr b k h h') : Fr b k h (h' ++ t) := f.tr (Gr.fr Gr.app)
/-- what is new may change -/
theorem Fr.set {b k r : Nat} {h h' : IH} {o : IO} (f : Fr b k h h') (l : h.length ≤ r) (n : r ≠ b) : Fr b k h (h'.set r o) :=
  ⟨by simpa using f.le, fun q lq nq => by rw [g_setn (show r ≠ q by omega)]; exact f.old q lq nq, fun N z => (f.box N z).setn n⟩
theorem intsOf_map (ns : List Int) : intsOf (ns.map IV.int) = some ns := by
  induction ns with
  | nil => rfl
  | cons n ns ih => simp [intsOf, ih]
section
variable {h : IH}
theorem sl_frz {xs : List IV} {lo hi : Option Int} : slice (.frz xs) lo hi h = .ok (.ref h.length) (h ++ [.lst (cut xs lo hi)]) := rfl
theorem sl_tup {xs : List IV} {lo hi : Option Int} : slice (.tup xs) lo hi h = .ok (.tup (cut xs lo hi)) h := rfl
theorem sl_ref {r : Nat} {lo hi : Option Int} : slice (.ref r) lo hi h = (match h[r]? with
    | some (.lst xs) => .ok (.ref h.length) (h ++ [.lst (cut xs lo hi)])
    | _ => .no) := rfl
theorem m_sum {r : Nat} : biF .sum [.ref r] h = (match (match h[r]? with
    | some (.lst xs) => some xs
    | _ => none : Option (List IV)).bind intsOf with
      | some ns => .ok (.int ns.sum) h
      | none => .no) := rfl
theorem m_len {r : Nat} : biF .len [.ref r] h = (match h[r]? with
    | some (.lst xs) => .ok (.int xs.length) h
    | some (.dic kvs) => .ok (.int kvs.length) h
    | _ => .no) := by
  simp only [biF, items]
  cases h[r]? with
  | none => rfl
  | some o => cases o <;> rfl
theorem m_tup {r : Nat} : biF .tuple [.ref r] h = (match h[r]? with
    | some (.lst xs) => .ok (.tup xs) h
    | _ => .no) := by
  simp only [biF, items]
  cases h[r]? with
  | none => rfl
  | some o => cases o <;> rfl
theorem m_list {r : Nat} : biF .list [.ref r] h = (match h[r]? with
    | some (.lst xs) => .ok (.ref h.length) (h ++ [.lst xs])
    | _ => .no) := by
  simp only [biF, items]
  cases h[r]? with
  | none => rfl
  | some o => cases o <;> rfl
theorem m_any {r : Nat} : biF .any [.ref r] h = (match (match h[r]? with
    | some (.lst xs) => some xs
    | _ => none : Option (List IV)).bind bools with
      | some bs => .ok (.bl (bs.any id)) h
      | none => .no) := rfl
theorem m_all {r : Nat} : biF .all [.ref r] h = (match (match h[r]? with
    | some (.lst xs) => some xs
    | _ => none : Option (List IV)).bind bools with
      | some bs => .ok (.bl (bs.all id)) h
      | none => .no) := rfl
theorem m_repr {x : IV} : biF .repr [x] h = (match dat h DP x with
    | some d => if d.showable = true ∧ d.shown.length ≤ LN ∧ d.depth ≤ 64 ∧ noD d = true then .ok (.str d.shown) h else .no
    | none => .no) := by
  cases x <;> rfl
theorem bm_app {r : Nat} {y : IV} : bmF .append (.ref r) [y] h = (match h[r]? with
    | some (.lst xs) => if xs.length < LN then .ok .non (h.set r (.lst (xs ++ [y]))) else .no
    | _ => .no) := by
  simp only [bmF]
  cases h[r]? with
  | none => rfl
  | some o => cases o <;> rfl
theorem isL_ref {r : Nat} : isL (.ref r) h = (match h[r]? with
    | some (.lst _) => true
    | _ => false) := rfl
theorem add_rr {a b : Nat} : bin .add (.ref a) (.ref b) h = (match h[a]?, h[b]? with
    | some (.lst xs), some (.lst ys) => if xs.length + ys.length ≤ LN then .ok (.ref h.length) (h ++ [.lst (xs ++ ys)]) else .no
    | _, _ => .no) := rfl
theorem mul_rk {a : Nat} {k : Int} : bin .mul (.ref a) (.int k) h = (match h[a]? with
    | some (.lst xs) => if -4611686018427387904 ≤ k ∧ k < 4611686018427387904 ∧ xs.length * k.toNat ≤ LN then .ok (.ref h.length) (h ++ [.lst (List.replicate k.toNat xs).flatten]) else .no
    | _ => .no) := rfl
theorem cut_map {α β : Type} (f : α → β) (xs : List α) (lo hi : Option Int) : cut (xs.map f) lo hi = (cut xs lo hi).map f := by
  simp [cut, List.map_take, List.map_drop]
end
theorem len_app {α : Type} {xs ys : List α} : (xs ++ ys).length = xs.length + ys.length := List.length_append
theorem len_set {α : Type} {xs : List α} {i : Nat} {x : α} : (xs.set i x).length = xs.length := List.length_set
end Itp

/-! ItZc: cells, boxes, drawn numbers. -/
namespace Itp
--MAC<
local macro_rules
  | `(tactic| simp_arith) => `(tactic| simp_arith [id_eq])
  | `(tactic| simp_arith [$ls,*]) => `(tactic| simp (maxSteps := 1000000) (implicitDefEqProofs := false) (disch := first | assumption | omega | exact Itp.lt_of (by assumption) | exact Itp.ofS_ok _ | (simp only [List.length_append, List.length_set, List.length_cons, List.length_nil, List.length_map]; omega)) only [bd_ok, bd_ex, bd_no, cnd_t, cnd_f, if_no, if_noS, opt_some, boo_some, of_ok, of_ex, seq_nx, seq_rt, seq_ex, seq_bk, seq_ct, fin_nx, fin_rt, fin_ex, ↓e_var, ↓e_lit, ↓e_glo, ↓e_bin, ↓e_neg, ↓e_cmp, ↓e_chn, ↓e_idx, ↓e_sl, ↓o_no, ↓o_so, ↓e_and, ↓e_or, ↓e_and1, ↓e_and2, ↓e_or1, ↓e_or2, ↓e_not, ↓e_tup, ↓e_lst, ↓e_dic, ↓e_dic2, ↓e_call, ↓e_fld, ↓e_meth, ↓e_new, ↓e_bi, ↓e_hot1, ↓e_hot2, ↓e_hot3, ↓e_hot4, ↓e_hot5, ↓e_hot6, ↓e_hot7, ↓e_bm, ↓e_isi, ↓e_lc, ↓e_exf, ↓e_exi, ↓e_gix, ↓e_lrg, ↓e_lc2, ↓e_dsp, ↓d_nil, ↓d_cons, ↓d_star, newL_t, newL_f, lst_tup, lst_frz, lrgV1, lrgV2, it_tup, it_frz, it_rf, gt_ref, m_sumT, ↓s_augi, ↓e_rev, ↓e_bits, ↓e_ocm, ↓t_ocm, ↓t_ch3, m_revF, ↓e_ife, ↓a_nil, ↓a_cons, ↓t_val, ↓t_not, ↓t_and, ↓t_or, ↓t_cmp, ↓t_chn, ↓t_all0, ↓t_all, ↓t_any0, ↓t_any, ↓s_expr, ↓s_set, ↓s_setT, ↓s_setN, ↓s_sets, ↓s_par, ↓s_fset, ↓s_iset, ↓s_aug, ↓s_augf, ↓s_iset2, ↓s_ret, ↓s_retn, ↓s_if, ↓s_for, ↓s_whl, ↓s_brk, ↓s_cnt, ↓s_pas, ↓s_rse, ↓s_try, ↓try_nx, ↓try_rt, ↓try_ex, try_bk, try_ct, ↓h_nil, ↓h_cons, ↓gone_rt, ↓gone_nx, ↓b_nil, ↓b_cons, ↓i_val, ↓i_rng, ↓i_enm, ↓i_zip, getV_0, getV_s, asg_nm, asg_tp, asg_tr, asg_ns, asgs_0, asgs_c, setAll_0, setAll_c, setsF_0, setsF_c, args_0, args_c, bnd_0, bnd_a, bnd_d, b_add, b_sub, b_mulL, b_mulR, b_mulS, b_addT, b_addS, ip_add, ip_sub, ofS_inj, ofS_len, String.reduceEq, prs, mrg, putD, keyB, getK, keyEq, List.foldl_cons, List.foldl_nil, List.any_cons, List.any_nil, List.all_cons, List.all_nil, List.map_cons, List.map_nil, Bool.or_false, Bool.false_or, Bool.true_or, Bool.or_true, b_div, b_mod, b_pow, b_and, b_or, b_xor, b_shl, b_shr, eq_ii, eq_bb, eq_nn, eq_ss, eq_ni, eq_in, eq_ns, eq_sn, Nat.reduceEqDiff, putI, c_eq, c_ne, c_lt, c_le, c_gt, c_ge, c_is, c_isn, c_in, c_nin, l_lt, l_le, l_gt, same, isAny, isC, tr_non, tr_bl, tr_int, tr_tup, tr_frz, tr_ref, x_tup, x_frz, x_ref, nIx_p, nIx_m, atIx_d, set_ref, f_max, f_min, f_abs, f_int, f_intb, f_lenT, f_lenF, f_listT, f_tupF, g_app, g_new, g_set, g_setn, List.set_set, set_new, List.getElem?_cons_zero, List.getElem?_cons_succ, List.set_cons_zero, List.set_cons_succ, List.length_cons, List.length_nil, List.cons_append, List.nil_append, List.append_nil, Option.map_some, Option.map_none, Option.bind_some, Option.bind_none, decide_eq_true_eq, Bool.not_eq_true', decide_eq_false_iff_not, Bool.not_true, Bool.not_false, reduceIte, if_true, if_false, Bool.false_eq_true, Bool.true_eq_false, List.isEmpty_cons, List.isEmpty_nil, Int.toNat_zero, Int.toNat_one, Int.reduceToNat, Int.toNat_natCast, LN_eq, Nat.reduceAdd, Nat.reduceLeDiff, Nat.reduceLT, Nat.reduceGT, Int.reduceLT, Int.reduceLE, Int.reduceGT, Int.reduceGE, Int.reduceEq, Int.reduceNe, Int.reduceBNe, Int.reduceAdd, Int.reduceSub, Int.reduceMul, Int.reduceNeg, Int.reduceMod, Int.reduceDiv, Int.cast_ofNat_Int, Int.natCast_zero, Int.natCast_one, Nat.reduceMul, Int.reducePow, decide_true, decide_false, and_self, and_true, true_and, and_false, false_and, eq_self, not_true_eq_false, not_false_eq_true, Bool.true_and, Bool.and_true, Bool.false_and, Bool.and_false, Option.getD_some, W_ok, ↓W_bind, ↓W_of, ↓W_seq, ↓W_fin, S_nx, S_rt, S_bk, S_ct, ↓n_nx, ↓n_rt, ↓n_bk, ↓n_ct, ↓q_nx, ↓q_rt, ↓l_nx, ↓l_ct, ↓l_bk, ↓l_rt, intsOf_map, sl_frz, sl_tup, sl_ref, m_sum, m_len, m_tup, m_list, m_any, m_all, bm_app, isL_ref, add_rr, mul_rk, wipe, Tg.slots, rng1, lst_ref, List.length_map, $ls,*])
--MAC>
open PySem (Str PyData)
def intE (u : Bool) (e : IE) : IE := if u then .bi .int (.cons e .nil) else e
def takeB (u w : Bool) (A B C : Int) : IB :=
  .cons (.if_ (.and (.cons (.val (.idx (.var 0) (.lit (.int 1)))) (.cons (.cmp .gt (.idx (.var 0) (.lit (.int 0))) (.lit (.int 0))) .nil))) (.cons (.set (.nm 2) (.bin .mod (.bi .int (.cons (.idx (.var 0) (.lit (.int 0))) .nil)) (.var 1)))
   (.cons (.iset (.var 0) (.lit (.int 0)) (.bin .fdiv (intE u (.idx (.var 0) (.lit (.int 0)))) (.var 1)))
   (.cons (.ret (.var 2))
   .nil))) .nil)
   (.cons (.iset (.var 0) (.lit (.int 3)) (.bin .add (.idx (.var 0) (.lit (.int 3))) (.lit (.int 1))))
   (.cons (.set (.nm 3) (.bin .mod (.bi .int (.cons (.bin .pow (.bin .add (.bin .add (.idx (.var 0) (.lit (.int 2))) (.bin .mul (.lit (.int A)) (.idx (.var 0) (.lit (.int 3))))) (.lit (.int B))) (.lit (.int 5))) .nil)) (.lit (.int 2147483647))))
   (.cons (.ret (.bin .mod (intE w (.bin .fdiv (.bin .mod (.bi .int (.cons (.bin .pow (.bin .add (.bin .mul (.var 3) (.lit (.int 48271))) (.bin .mul (.lit (.int C)) (.idx (.var 0) (.lit (.int 3))))) (.lit (.int 3))) .nil)) (.lit (.int 2147483587))) (.lit (.int 64)))) (.var 1)))
   .nil)))
theorem mul_le {a b c d : Int} (h0 : 0 ≤ a) (h1 : a ≤ b) (h2 : 0 ≤ c) (h3 : c ≤ d) : a * c ≤ b * d := Int.mul_le_mul h1 h3 h2 (Int.le_trans h0 h1)
theorem takeW {G : Sg} {cs : CF} {u w : Bool} {A B C : Int} {b : Nat} {many : Int} {h : IH} {N : Nat} (hb : Bx N h b) (hN : N ≤ 200000000000) (hm : 0 < many) (hm2 : many < 18446744073709551616)
    (hA : 0 ≤ A ∧ A ≤ 20000000) (hB : 0 ≤ B ∧ B ≤ 200000000) (hC : 0 ≤ C ∧ C ≤ 200000) :
    W (fin (evB G cs false (takeB u w A B C) [.v (.ref b), .v (.int many), .no, .no] h)) fun v h' => ∃ d : Int, v = .int d ∧ 0 ≤ d ∧ d < many ∧ h'.length = h.length ∧ Fr b 1 h h' := by
  obtain ⟨x, k, m, c, e, h0, h1, h2, h3, h4⟩ := hb
  have hl := lt_of e
  have fr : ∀ (x' c' : Int), 0 ≤ x' → 0 ≤ c' → c' ≤ c + 1 → (h.set b (.lst [.int x', .bl k, .int m, .int c'])).length = h.length ∧ Fr b 1 h (h.set b (.lst [.int x', .bl k, .int m, .int c'])) := by
    intro x' c' a0 a1 a2
    refine ⟨by simp, by simp, fun r _ n => g_setn (Ne.symm n), ?_⟩
    rintro M ⟨x2, k2, m2, c2, e2, _, _, _, _, l2⟩
    rw [e] at e2
    simp only [Option.some.injEq, IO.lst.injEq, List.cons.injEq, IV.int.injEq, IV.bl.injEq] at e2
    obtain ⟨rfl, rfl, rfl, rfl, _⟩ := e2
    exact ⟨x', k, m, c', g_set hl, a0, h1, h2, a1, by omega⟩
  have q0 : 0 ≤ A * (c + 1) := Int.mul_nonneg hA.1 (by omega)
  have q1 : A * (c + 1) ≤ 20000000 * 200000000001 := mul_le hA.1 hA.2 (by omega) (by omega)
  have q2 : 0 ≤ C * (c + 1) := Int.mul_nonneg hC.1 (by omega)
  have q3 : C * (c + 1) ≤ 200000 * 200000000001 := mul_le hC.1 hC.2 (by omega) (by omega)
  unfold takeB
  by_cases t : k = true ∧ 0 < x
  · obtain ⟨rfl, t⟩ := t
    cases u <;> simp only [intE] <;> simp_arith [e, t] <;>
      exact ⟨_, rfl, Int.emod_nonneg _ (by omega), Int.emod_lt_of_pos _ hm, fr _ _ (Int.ediv_nonneg h0 (by omega)) h3 (by omega)⟩
  · have t' : (k && decide (0 < x)) = false := by
      cases k <;> simp_all
    have r0 : ∀ z : Int, 0 ≤ z % 2147483647 ∧ z % 2147483647 < 2147483647 := fun z => ⟨Int.emod_nonneg _ (by omega), Int.emod_lt_of_pos _ (by omega)⟩
    have f1 := fr x (c + 1) h0 (by omega) (Int.le_refl _)
    cases k
    · cases w <;> simp only [intE] <;> simp_arith [e] <;>
      · have r1 := r0 ((m + A * (c + 1) + B) ^ 5)
        exact ⟨_, rfl, Int.emod_nonneg _ (by omega), Int.emod_lt_of_pos _ hm, f1⟩
    · have t2 : ¬ 0 < x := fun z => t ⟨rfl, z⟩
      cases w <;> simp only [intE] <;> simp_arith [e, t2] <;>
      · have r1 := r0 ((m + A * (c + 1) + B) ^ 5)
        exact ⟨_, rfl, Int.emod_nonneg _ (by omega), Int.emod_lt_of_pos _ hm, f1⟩
def cellB (u : Bool) (K : Int) : IB :=
  .cons (.ret (.ife (.cmp .lt (.var 1) (.bi .len (.cons (.var 0) .nil))) (.idx (.var 0) (.var 1)) (.bin .add (.bin .mul (.lit (.int K)) (.var 1)) (.bin .mod (intE u (.bi .sum (.cons (.sl (.var 0) .no (.so (.lit (.int 1)))) .nil))) (.lit (.int 1000033))))))
   .nil
theorem cellW {G : Sg} {cs : CF} {u : Bool} {K : Int} {ns : List Int} {k : Nat} {h : IH} (hK : 0 < K ∧ K < 100000) :
    W (fin (evB G cs false (cellB u K) [.v (.frz (ns.map IV.int)), .v (.int k)] h)) fun v h' => (∃ z : Int, v = .int z) ∧ Gr h h' := by
  unfold cellB
  by_cases l : k < ns.length
  · have l1 : (k : Int) < (ns.length : Nat) := by omega
    have l0 : (k : Int) < ((ns.map IV.int).length : Nat) := by simpa using l1
    have l2 : (0 : Int) ≤ k := by omega
    have l3 : (ns.map IV.int)[k]? = some (.int ns[k]) := by simp [l]
    simp_arith [l1, l3]
    exact ⟨⟨_, rfl⟩, .rfl⟩
  · have l1 : ¬ (k : Int) < (ns.length : Nat) := by omega
    cases u <;> simp only [intE] <;> simp_arith [l1, cut_map] <;> exact ⟨⟨_, rfl⟩, .app⟩
def boxB : IB :=
  .cons (.ret (.lst (.cons (.bi .abs (.cons (.var 0) .nil)) (.cons (.cmp .ge (.bi .abs (.cons (.var 0) .nil)) (.bin .pow (.lit (.int 10)) (.lit (.int 18)))) (.cons (.bin .mod (.bi .int (.cons (.bi .abs (.cons (.var 0) .nil)) .nil)) (.lit (.int 2147483629))) (.cons (.lit (.int 0)) .nil))))))
   .nil
theorem boxW {G : Sg} {cs : CF} {z : Int} {h : IH} :
    W (fin (evB G cs false boxB [.v (.int z)] h)) fun v h' => v = .ref h.length ∧ Gr h h' ∧ h'.length = h.length + 1 ∧ Bx 0 h' h.length := by
  unfold boxB
  simp_arith
  refine ⟨.app, by simp, _, _, _, _, g_new, ?_, Int.emod_nonneg _ (by omega), ?_, by omega, by omega⟩
  · split <;> omega
  · have := Int.emod_lt_of_pos (if z < 0 then -z else z) (show (0 : Int) < 2147483629 by omega)
    omega
/-! ### values that are data -/
def Dv (h : IH) (v : IV) : Prop := ∃ n d, dat h n v = some d
theorem datL_mem {f : IV → Option PyData} : ∀ {xs : List IV} {ds : List PyData}, datL f xs = some ds → ∀ x ∈ xs, ∃ d, f x = some d
  | x :: xs, ds, e, y, hy => by
    rw [datL] at e
    cases q : f x with
    | none => rw [q] at e; exact nomatch e
    | some d =>
      rw [q] at e
      cases q2 : datL f xs with
      | none => rw [q2] at e; exact nomatch e
      | some ds2 =>
        rcases List.mem_cons.1 hy with rfl | hy
        · exact ⟨d, q⟩
        · exact datL_mem q2 y hy
theorem Dv.tup {h : IH} {xs : List IV} (D : Dv h (.tup xs)) : ∀ x ∈ xs, Dv h x := by
  obtain ⟨n, d, e⟩ := D
  cases n with
  | zero => exact nomatch e
  | succ n =>
    intro x hx
    have e' : (datL (dat h n) xs).map .tuple = some d := e
    cases q : datL (dat h n) xs with
    | none => rw [q] at e'; exact nomatch e'
    | some ds =>
      obtain ⟨y, hy⟩ := datL_mem q x hx
      exact ⟨n, y, hy⟩
theorem Dv.ref {h : IH} {r : Nat} (D : Dv h (.ref r)) : (∃ xs, h[r]? = some (.lst xs)) ∨ (∃ kvs, h[r]? = some (.dic kvs)) := by
  obtain ⟨n, d, e⟩ := D
  cases n with
  | zero => exact nomatch e
  | succ n =>
    have e' : (match h[r]? with
      | some (.lst xs) => (datL (dat h n) xs).map PyData.list
      | some (.dic kvs) => (datK (dat h n) kvs).map PyData.dict
      | _ => none) = some d := e
    cases q : h[r]? with
    | none => rw [q] at e'; exact nomatch e'
    | some o =>
      cases o with
      | lst xs => exact Or.inl ⟨xs, rfl⟩
      | dic kvs => exact Or.inr ⟨kvs, rfl⟩
      | ins c fs => rw [q] at e'; exact nomatch e'
def isW : IV → Bool
  | .int _ => true
  | _ => false
def isFT (v : IV) (lo hi : Int) : Bool := match v with
  | .int i => decide (lo ≤ i) && decide (i ≤ hi)
  | _ => false
def isCt : IV → Bool
  | .int i => decide (0 ≤ i)
  | _ => false
def minP (x y : Int) : Int := if y < x then y else x
def maxP (x y : Int) : Int := if y > x then y else x
/-- what two shifts share, as it is reckoned -/
def sharedP (t a b c d : Int) : Int := maxP 0 (minP ((b - a) % t) ((c - a) % t + (d - c) % t) - (c - a) % t) + maxP 0 (minP ((b - a) % t) ((c - a) % t + (d - c) % t - t))
/-- the place of the way, as it is reckoned -/
def wayP (t a b c d : Int) : Int :=
  if sharedP t a b c d = (b - a) % t then (if (b - a) % t = (d - c) % t then 5 else 3)
  else if sharedP t a b c d = (d - c) % t then 4
  else if sharedP t a b c d = 0 then (if (b - a) % t + (d - c) % t = t then 6 else 0)
  else if (b - a) % t + (d - c) % t - sharedP t a b c d = t then 7
  else if (c - a) % t < (b - a) % t then 1 else 2
def isTO (v : IV) (m : Int) : Bool := match v with
  | .tup xs => decide ((xs.length : Int) = m)
  | _ => false
def isSh (t : Int) (v : IV) : Bool := match v with
  | .tup [x, y] => isFT x 0 (t - 1) && isFT y 0 (t - 1) && (match x, y with
    | .int i, .int j => !decide (i = j)
    | _, _ => false)
  | _ => false
theorem Dv_i (h : IH) (a : Int) : Dv h (.int a) := ⟨1, _, rfl⟩
theorem Dv_ii (h : IH) (a b : Int) : Dv h (.tup [.int a, .int b]) := ⟨2, _, rfl⟩
theorem isSh_int {t a b : Int} : isSh t (.tup [.int a, .int b]) = true ↔ 0 ≤ a ∧ a < t ∧ 0 ≤ b ∧ b < t ∧ a ≠ b := by
  simp [isSh, isFT]
  omega
def wordI (i : Int) : Str := match i with
  | 0 => "apart"
  | 1 => "enters"
  | 2 => "leaves"
  | 3 => "part"
  | 4 => "whole"
  | 5 => "same"
  | 6 => "fills"
  | _ => "around"
theorem lt8 {i : Int} (h0 : 0 ≤ i) (h1 : i < 8) : i = 0 ∨ i = 1 ∨ i = 2 ∨ i = 3 ∨ i = 4 ∨ i = 5 ∨ i = 6 ∨ i = 7 := by omega
theorem ways_at {i : Int} (h0 : 0 ≤ i) (h1 : i < 8) : ([.str "apart", .str "enters", .str "leaves", .str "part", .str "whole", .str "same", .str "fills", .str "around"] : List IV)[i.toNat]? = some (.str (wordI i)) := by
  rcases lt8 h0 h1 with rfl | rfl | rfl | rfl | rfl | rfl | rfl | rfl <;> rfl
theorem wayP_le (t a b c d : Int) : 0 ≤ wayP t a b c d ∧ wayP t a b c d < 8 := by
  unfold wayP
  repeat' split
  all_goals omega
/-- the ways in their order -/
def waysL : List IV := [.str "apart", .str "enters", .str "leaves", .str "part", .str "whole", .str "same", .str "fills", .str "around"]
/-- whether a shift has a tick -/
def hasP (t a b k : Int) : Bool := decide ((k - a) % t < (b - a) % t)
theorem mem_rng {n : Nat} {x : IV} (m : x ∈ (List.range n).map fun k : Nat => IV.int k) : ∃ k : Nat, k < n ∧ x = .int k := by
  obtain ⟨k, hk, rfl⟩ := List.mem_map.1 m
  exact ⟨k, List.mem_range.1 hk, rfl⟩
theorem at_rng {n k : Nat} {x : IV} (e : ((List.range n).map fun k : Nat => IV.int k)[k]? = some x) : k < n ∧ x = .int k := by
  rw [List.getElem?_map] at e
  rcases Nat.lt_or_ge k n with l | l
  · rw [List.getElem?_range l] at e
    simp at e
    exact ⟨l, e.symm⟩
  · rw [List.getElem?_eq_none (by simpa using l)] at e
    simp at e
def neI (s : Int) (x : IV) : Bool := match x with
  | .int e => !decide (e = s)
  | _ => false
/-- all shifts with one of the first starts -/
def shiftsK (t k : Nat) : List IV := (List.range k).flatMap fun s : Nat => (((List.range t).map fun k : Nat => IV.int k).filter (neI (s : Int))).map fun x => IV.tup [.int (s : Int), x]
theorem shiftsK_len (t k : Nat) : (shiftsK t k).length ≤ k * t := by
  induction k with
  | zero => simp [shiftsK]
  | succ k ih =>
    unfold shiftsK at ih ⊢
    rw [List.range_succ, List.flatMap_append, List.length_append, Nat.succ_mul]
    refine Nat.add_le_add ih ?_
    simp only [List.flatMap_cons, List.flatMap_nil, List.append_nil, List.length_map]
    refine Nat.le_trans (List.length_filter_le _ _) ?_
    simp
theorem shiftsK_mem {t k : Nat} {x : IV} (m : x ∈ shiftsK t k) (hk : k ≤ t) : ∃ a b : Int, x = .tup [.int a, .int b] ∧ isSh t (.tup [.int a, .int b]) = true := by
  obtain ⟨s, hs, m⟩ := List.mem_flatMap.1 m
  obtain ⟨y, hy, rfl⟩ := List.mem_map.1 m
  obtain ⟨m1, m2⟩ := List.mem_filter.1 hy
  obtain ⟨e, he, rfl⟩ := mem_rng m1
  have := List.mem_range.1 hs
  refine ⟨_, _, rfl, isSh_int.2 ?_⟩
  simp [neI] at m2
  omega
/-- how many ticks two shifts share, counted -/
def metP (t : Nat) (a b c d : Int) : Nat := ((List.range t).filter fun k : Nat => hasP t a b k && hasP t c d k).length
def sizeP (t : Nat) (a b : Int) : Nat := ((List.range t).filter fun k : Nat => hasP t a b k).length
def wayF (met size far t : Int) (en : Bool) : Int :=
  if met = size then (if size = far then 5 else 3)
  else if met = far then (if size = far then 5 else 4)
  else if met = 0 then (if size + far = t then 6 else 0)
  else if size + far - met = t then 7
  else if en = true then 1 else 2
/-- the place of the way, by counted ticks -/
def wayC (t : Nat) (a b c d : Int) : Int := wayF (metP t a b c d) (sizeP t a b) (sizeP t c d) t (hasP t a b c)
theorem wayC_le (t : Nat) (a b c d : Int) : 0 ≤ wayC t a b c d ∧ wayC t a b c d < 8 := by
  unfold wayC wayF
  repeat' split
  all_goals omega
def tru1 : IV → Bool
  | .bl b => b
  | _ => false
def tru2 : IV → Bool
  | .tup [.bl a, .bl b] => a && b
  | _ => false
def turnI (i : Int) : Int := if i = 1 then 2 else if i = 2 then 1 else if i = 3 then 4 else if i = 4 then 3 else i
def mirrI (i : Int) : Int := if i = 1 then 2 else if i = 2 then 1 else i
def updT (one : IV) (acc : List Int) (other : IV) : List Int := match one, other with
  | .tup [.int a, .int b], .tup [.int c, .int d] => acc.set (wayC 5 a b c d).toNat (wayC 5 c d a b)
  | _, _ => acc
def updO (acc : List Int) (one : IV) : List Int := (shiftsK 5 5).foldl (updT one) acc
def turnL : List Int := [0, 2, 1, 4, 3, 5, 6, 7]
theorem updT_len (one : IV) (acc : List Int) (other : IV) : (updT one acc other).length = acc.length := by
  unfold updT
  split <;> simp
theorem foldT_len (one : IV) (xs : List IV) : ∀ acc : List Int, (xs.foldl (updT one) acc).length = acc.length := by
  induction xs with
  | nil => exact fun _ => rfl
  | cons x xs ih => exact fun acc => (ih _).trans (updT_len one acc x)
theorem turn_all : (shiftsK 5 5).foldl updO [0, 0, 0, 0, 0, 0, 0, 0] = turnL := by decide +kernel
theorem turnL_at {i : Int} (h0 : 0 ≤ i) (h1 : i < 8) : (turnL.map IV.int)[i.toNat]? = some (.int (turnI i)) := by
  rcases lt8 h0 h1 with rfl | rfl | rfl | rfl | rfl | rfl | rfl | rfl <;> rfl
theorem fold_take {α β : Type} (f : β → α → β) (b : β) {l : List α} {k : Nat} {x : α} (e : l[k]? = some x) : (l.take (k + 1)).foldl f b = f ((l.take k).foldl f b) x := by
  rw [List.take_succ, e, List.foldl_append]
  rfl
theorem foldO_len (xs : List IV) : ∀ acc : List Int, (xs.foldl updO acc).length = acc.length := by
  induction xs with
  | nil => exact fun _ => rfl
  | cons x xs ih => exact fun acc => (ih _).trans (foldT_len x _ acc)
theorem sh_nil : PySem.SeqAt.shaped (.list []) = true := by simp [PySem.SeqAt.shaped, PyData.canLay0, PyData.depth, PyData.canLayAll0, PyData.depthAll]
theorem dat_lst {h : IH} {n r : Nat} {xs : List IV} (e : h[r]? = some (.lst xs)) : dat h (n + 1) (.ref r) = (datL (dat h n) xs).map PyData.list := by
  show (match h[r]? with
      | some (.lst xs) => (datL (dat h n) xs).map PyData.list
      | some (.dic kvs) => (datK (dat h n) kvs).map PyData.dict
      | _ => none) = _
  rw [e]
theorem eq_nil {h : IH} {a b : Nat} (e1 : h[a]? = some (.lst [])) (e2 : h[b]? = some (.lst [])) : eqI (.ref a) (.ref b) h = some true := by
  rw [eqI_of (dat_lst e1) (dat_lst e2) sh_nil sh_nil]
  simp [PyData.eqv, PyData.eqvAll]
end Itp

/-! ItZd: ways by counted ticks are ways by reckoned ones, in every day. -/
namespace Itp
--MAC<
local macro_rules
  | `(tactic| simp_arith) => `(tactic| simp_arith [id_eq])
  | `(tactic| simp_arith [$ls,*]) => `(tactic| simp (maxSteps := 1000000) (implicitDefEqProofs := false) (disch := first | assumption | omega | exact Itp.lt_of (by assumption) | exact Itp.ofS_ok _ | (simp only [List.length_append, List.length_set, List.length_cons, List.length_nil, List.length_map]; omega)) only [bd_ok, bd_ex, bd_no, cnd_t, cnd_f, if_no, if_noS, opt_some, boo_some, of_ok, of_ex, seq_nx, seq_rt, seq_ex, seq_bk, seq_ct, fin_nx, fin_rt, fin_ex, ↓e_var, ↓e_lit, ↓e_glo, ↓e_bin, ↓e_neg, ↓e_cmp, ↓e_chn, ↓e_idx, ↓e_sl, ↓o_no, ↓o_so, ↓e_and, ↓e_or, ↓e_and1, ↓e_and2, ↓e_or1, ↓e_or2, ↓e_not, ↓e_tup, ↓e_lst, ↓e_dic, ↓e_dic2, ↓e_call, ↓e_fld, ↓e_meth, ↓e_new, ↓e_bi, ↓e_hot1, ↓e_hot2, ↓e_hot3, ↓e_hot4, ↓e_hot5, ↓e_hot6, ↓e_hot7, ↓e_bm, ↓e_isi, ↓e_lc, ↓e_exf, ↓e_exi, ↓e_gix, ↓e_lrg, ↓e_lc2, ↓e_dsp, ↓d_nil, ↓d_cons, ↓d_star, newL_t, newL_f, lst_tup, lst_frz, lrgV1, lrgV2, it_tup, it_frz, it_rf, gt_ref, m_sumT, ↓s_augi, ↓e_rev, ↓e_bits, ↓e_ocm, ↓t_ocm, ↓t_ch3, m_revF, ↓e_ife, ↓a_nil, ↓a_cons, ↓t_val, ↓t_not, ↓t_and, ↓t_or, ↓t_cmp, ↓t_chn, ↓t_all0, ↓t_all, ↓t_any0, ↓t_any, ↓s_expr, ↓s_set, ↓s_setT, ↓s_setN, ↓s_sets, ↓s_par, ↓s_fset, ↓s_iset, ↓s_aug, ↓s_augf, ↓s_iset2, ↓s_ret, ↓s_retn, ↓s_if, ↓s_for, ↓s_whl, ↓s_brk, ↓s_cnt, ↓s_pas, ↓s_rse, ↓s_try, ↓try_nx, ↓try_rt, ↓try_ex, try_bk, try_ct, ↓h_nil, ↓h_cons, ↓gone_rt, ↓gone_nx, ↓b_nil, ↓b_cons, ↓i_val, ↓i_rng, ↓i_enm, ↓i_zip, getV_0, getV_s, asg_nm, asg_tp, asg_tr, asg_ns, asgs_0, asgs_c, setAll_0, setAll_c, setsF_0, setsF_c, args_0, args_c, bnd_0, bnd_a, bnd_d, b_add, b_sub, b_mulL, b_mulR, b_mulS, b_addT, b_addS, ip_add, ip_sub, ofS_inj, ofS_len, String.reduceEq, prs, mrg, putD, keyB, getK, keyEq, List.foldl_cons, List.foldl_nil, List.any_cons, List.any_nil, List.all_cons, List.all_nil, List.map_cons, List.map_nil, Bool.or_false, Bool.false_or, Bool.true_or, Bool.or_true, b_div, b_mod, b_pow, b_and, b_or, b_xor, b_shl, b_shr, eq_ii, eq_bb, eq_nn, eq_ss, eq_ni, eq_in, eq_ns, eq_sn, Nat.reduceEqDiff, putI, c_eq, c_ne, c_lt, c_le, c_gt, c_ge, c_is, c_isn, c_in, c_nin, l_lt, l_le, l_gt, same, isAny, isC, tr_non, tr_bl, tr_int, tr_tup, tr_frz, tr_ref, x_tup, x_frz, x_ref, nIx_p, nIx_m, atIx_d, set_ref, f_max, f_min, f_abs, f_int, f_intb, f_lenT, f_lenF, f_listT, f_tupF, g_app, g_new, g_set, g_setn, List.set_set, set_new, List.getElem?_cons_zero, List.getElem?_cons_succ, List.set_cons_zero, List.set_cons_succ, List.length_cons, List.length_nil, List.cons_append, List.nil_append, List.append_nil, Option.map_some, Option.map_none, Option.bind_some, Option.bind_none, decide_eq_true_eq, Bool.not_eq_true', decide_eq_false_iff_not, Bool.not_true, Bool.not_false, reduceIte, if_true, if_false, Bool.false_eq_true, Bool.true_eq_false, List.isEmpty_cons, List.isEmpty_nil, Int.toNat_zero, Int.toNat_one, Int.reduceToNat, Int.toNat_natCast, LN_eq, Nat.reduceAdd, Nat.reduceLeDiff, Nat.reduceLT, Nat.reduceGT, Int.reduceLT, Int.reduceLE, Int.reduceGT, Int.reduceGE, Int.reduceEq, Int.reduceNe, Int.reduceBNe, Int.reduceAdd, Int.reduceSub, Int.reduceMul, Int.reduceNeg, Int.reduceMod, Int.reduceDiv, Int.cast_ofNat_Int, Int.natCast_zero, Int.natCast_one, Nat.reduceMul, Int.reducePow, decide_true, decide_false, and_self, and_true, true_and, and_false, false_and, eq_self, not_true_eq_false, not_false_eq_true, Bool.true_and, Bool.and_true, Bool.false_and, Bool.and_false, Option.getD_some, W_ok, ↓W_bind, ↓W_of, ↓W_seq, ↓W_fin, S_nx, S_rt, S_bk, S_ct, ↓n_nx, ↓n_rt, ↓n_bk, ↓n_ct, ↓q_nx, ↓q_rt, ↓l_nx, ↓l_ct, ↓l_bk, ↓l_rt, intsOf_map, sl_frz, sl_tup, sl_ref, m_sum, m_len, m_tup, m_list, m_any, m_all, bm_app, isL_ref, add_rr, mul_rk, wipe, Tg.slots, rng1, lst_ref, List.length_map, $ls,*])
--MAC>
open PySem (Str PyData)
theorem minP_eq (x y : Int) : minP x y = min x y := by unfold minP; split <;> omega
theorem maxP_eq (x y : Int) : maxP x y = max x y := by unfold maxP; split <;> omega
def cnt (t : Nat) (f : Int → Bool) : Nat := ((List.range t).filter fun k : Nat => f k).length
theorem cnt_succ (t : Nat) (f : Int → Bool) : cnt (t + 1) f = cnt t f + (if f t then 1 else 0) := by
  unfold cnt
  rw [List.range_succ, List.filter_append, List.length_append]
  cases h : f t <;> simp [h]
theorem cnt_succ' (t : Nat) (f : Int → Bool) : cnt (t + 1) f = (if f 0 then 1 else 0) + cnt t (fun k => f (k + 1)) := by
  induction t with
  | zero => rw [cnt_succ]; simp [cnt]
  | succ t ih =>
    rw [cnt_succ, ih, cnt_succ]
    simp
    omega
theorem cnt_congr {t : Nat} {f g : Int → Bool} (e : ∀ k : Int, 0 ≤ k → k < t → f k = g k) : cnt t f = cnt t g := by
  induction t with
  | zero => rfl
  | succ t ih => rw [cnt_succ, cnt_succ, ih (fun k a b => e k a (by omega)), e t (by omega) (by omega)]
theorem cnt_step (t : Nat) (ht : 0 < t) (f : Int → Bool) (a : Int) : cnt t (fun k => f ((k - (a + 1)) % t)) = cnt t (fun k => f ((k - a) % t)) := by
  obtain ⟨m, rfl⟩ : ∃ m, t = m + 1 := ⟨t - 1, by omega⟩
  rw [cnt_succ', cnt_succ]
  have e1 : cnt m (fun k => f ((k + 1 - (a + 1)) % ((m + 1 : Nat) : Int))) = cnt m (fun k => f ((k - a) % ((m + 1 : Nat) : Int))) := cnt_congr fun k _ _ => by
    rw [show k + 1 - (a + 1) = k - a by omega]
  have e2 : (0 - (a + 1)) % ((m + 1 : Nat) : Int) = ((m : Int) - a) % ((m + 1 : Nat) : Int) := by
    rw [show (0 : Int) - (a + 1) = (m : Int) - a - ((m + 1 : Nat) : Int) by omega, Int.sub_emod_right]
  rw [e1, e2]
  omega
theorem cnt_rot (t : Nat) (ht : 0 < t) (f : Int → Bool) (a : Int) : cnt t (fun k => f ((k - a) % t)) = cnt t f := by
  have z : cnt t (fun k => f ((k - 0) % t)) = cnt t f := cnt_congr fun k h0 h1 => by rw [Int.sub_zero, Int.emod_eq_of_lt h0 h1]
  rw [← z]
  have up : ∀ n : Nat, cnt t (fun k => f ((k - (n : Int)) % t)) = cnt t (fun k => f ((k - 0) % t)) := by
    intro n
    induction n with
    | zero => rfl
    | succ n ih => rw [← ih, ← cnt_step t ht f n]; rfl
  have dn : ∀ n : Nat, cnt t (fun k => f ((k - (-(n : Int))) % t)) = cnt t (fun k => f ((k - 0) % t)) := by
    intro n
    induction n with
    | zero => rfl
    | succ n ih =>
      rw [← ih, ← cnt_step t ht f (-((n + 1 : Nat) : Int))]
      rw [show -((n + 1 : Nat) : Int) + 1 = -(n : Int) by omega]
  rcases Int.le_total 0 a with l | l
  · obtain ⟨n, rfl⟩ := Int.eq_ofNat_of_zero_le l
    exact up n
  · obtain ⟨n, e⟩ := Int.eq_ofNat_of_zero_le (show 0 ≤ -a by omega)
    rw [show a = -(n : Int) by omega]
    exact dn n
theorem cnt_iv (t : Nat) (lo hi : Int) (h0 : 0 ≤ lo) : (cnt t fun k => decide (lo ≤ k) && decide (k < hi) : Nat) = maxP 0 (minP hi t - lo) := by
  rw [maxP_eq, minP_eq]
  induction t with
  | zero => simp only [cnt, List.range_zero, List.filter_nil, List.length_nil]; omega
  | succ t ih =>
    rw [cnt_succ]
    by_cases q : lo ≤ (t : Int) ∧ (t : Int) < hi
    · rw [if_pos (by simpa using q)]
      omega
    · rw [if_neg (by simpa using q)]
      omega
theorem cnt_or (t : Nat) (f g : Int → Bool) (d : ∀ k : Int, 0 ≤ k → k < t → f k = true → g k = false) : cnt t (fun k => f k || g k) = cnt t f + cnt t g := by
  induction t with
  | zero => rfl
  | succ t ih =>
    rw [cnt_succ, cnt_succ, cnt_succ, ih (fun k a b => d k a (by omega))]
    have := d t (by omega) (by omega)
    cases h1 : f t <;> cases h2 : g t <;> simp_all <;> omega
/-- by lengths and the way from the one's start to the other's -/
def sharedQ (t l m s : Int) : Int := maxP 0 (minP l (s + m) - s) + maxP 0 (minP l (s + m - t))
theorem met_q (t : Nat) (l m s : Int) (hl : 0 ≤ l) (hl2 : l ≤ t) (hm : 0 ≤ m) (hm2 : m ≤ t) (hs : 0 ≤ s) (hs2 : s < t) :
    (cnt t fun k => decide (k < l) && decide ((k - s) % t < m) : Nat) = sharedQ t l m s := by
  have e : cnt t (fun k => decide (k < l) && decide ((k - s) % t < m)) = cnt t (fun k => (decide (s ≤ k) && decide (k < minP l (s + m))) || (decide (0 ≤ k) && decide (k < minP l (s + m - t)))) := by
    refine cnt_congr fun k h0 h1 => ?_
    have : (k - s) % t = if s ≤ k then k - s else k - s + t := by
      split
      · exact Int.emod_eq_of_lt (by omega) (by omega)
      · rw [← Int.add_emod_right]; exact Int.emod_eq_of_lt (by omega) (by omega)
    rw [this]
    rw [minP_eq, minP_eq, Bool.eq_iff_iff]
    simp only [Bool.and_eq_true, Bool.or_eq_true, decide_eq_true_eq]
    split <;> omega
  rw [e, cnt_or]
  · have a1 := cnt_iv t s (minP l (s + m)) hs
    have a2 := cnt_iv t 0 (minP l (s + m - t)) (Int.le_refl _)
    rw [Int.natCast_add, a1, a2]
    unfold sharedQ
    rw [maxP_eq, maxP_eq, maxP_eq, maxP_eq, minP_eq, minP_eq, minP_eq, minP_eq]
    omega
  · intro k h0 h1
    rw [minP_eq, minP_eq]
    simp only [Bool.and_eq_true, Bool.and_eq_false_iff, decide_eq_true_eq, decide_eq_false_iff_not]
    omega
theorem has_cnt {t : Nat} (ht : 0 < t) (a b c d : Int) (f : Int → Int → Bool) :
    cnt t (fun k => f ((k - a) % t) ((k - c) % t)) = cnt t (fun k => f k ((k - (c - a) % t) % t)) := by
  rw [← cnt_rot t ht (fun k => f k ((k - (c - a) % t) % t)) a]
  refine cnt_congr fun k h0 h1 => ?_
  rw [← Int.sub_emod, show k - a - (c - a) = k - c by omega]
theorem shared_met {t : Nat} (ht : 0 < t) (a b c d : Int) : (metP t a b c d : Int) = sharedP t a b c d := by
  have p : (0 : Int) < t := by omega
  have l1 := Int.emod_nonneg (b - a) (Int.ne_of_gt p)
  have l2 := Int.emod_lt_of_pos (b - a) p
  have m1 := Int.emod_nonneg (d - c) (Int.ne_of_gt p)
  have m2 := Int.emod_lt_of_pos (d - c) p
  have s1 := Int.emod_nonneg (c - a) (Int.ne_of_gt p)
  have s2 := Int.emod_lt_of_pos (c - a) p
  have e : metP t a b c d = cnt t (fun k => decide ((k - a) % t < (b - a) % t) && decide ((k - c) % t < (d - c) % t)) := rfl
  rw [e, has_cnt ht a b c d (fun x y => decide (x < (b - a) % t) && decide (y < (d - c) % t))]
  exact met_q t _ _ _ l1 (by omega) m1 (by omega) s1 s2
theorem size_len {t : Nat} (ht : 0 < t) (a b : Int) : (sizeP t a b : Int) = (b - a) % t := by
  have p : (0 : Int) < t := by omega
  have l1 := Int.emod_nonneg (b - a) (Int.ne_of_gt p)
  have l2 := Int.emod_lt_of_pos (b - a) p
  have e : sizeP t a b = cnt t (fun k => decide ((k - a) % t < (b - a) % t)) := rfl
  rw [e, cnt_rot t ht (fun k => decide (k < (b - a) % t)) a]
  have := cnt_iv t 0 ((b - a) % t) (Int.le_refl _)
  rw [show (cnt t fun k => decide (k < (b - a) % t)) = cnt t (fun k => decide (0 ≤ k) && decide (k < (b - a) % t)) from cnt_congr fun k h0 _ => by simp [h0], this]
  rw [maxP_eq, minP_eq]
  omega
theorem wayC_eq {t : Nat} (ht : 0 < t) (a b c d : Int) : wayC t a b c d = wayP t a b c d := by
  unfold wayC wayF wayP hasP
  rw [shared_met ht, size_len ht, size_len ht]
  simp only [decide_eq_true_eq]
  repeat' split
  all_goals omega
/-- a way by lengths and the way from the one's start to the other's -/
def wayQ (t l m s : Int) : Int :=
  if sharedQ t l m s = l then (if l = m then 5 else 3)
  else if sharedQ t l m s = m then 4
  else if sharedQ t l m s = 0 then (if l + m = t then 6 else 0)
  else if l + m - sharedQ t l m s = t then 7
  else if s < l then 1 else 2
theorem wayP_q (t a b c d : Int) : wayP t a b c d = wayQ t ((b - a) % t) ((d - c) % t) ((c - a) % t) := rfl
theorem sharedP_q (t a b c d : Int) : sharedP t a b c d = sharedQ t ((b - a) % t) ((d - c) % t) ((c - a) % t) := rfl
theorem emod_neg' {s t : Int} (h0 : 0 ≤ s) (h1 : s < t) : (-s) % t = if s = 0 then 0 else t - s := by
  split
  · subst_vars; simp
  · rw [← Int.add_emod_right, Int.emod_eq_of_lt (by omega) (by omega)]; omega
theorem sub_em (a b t : Int) : (a % t - b % t) % t = (a - b) % t := (Int.sub_emod a b t).symm
theorem len_pos {t a b : Int} (h : isSh t (.tup [.int a, .int b]) = true) : 0 < (b - a) % t ∧ (b - a) % t < t := by
  obtain ⟨a0, a1, b0, b1, n⟩ := isSh_int.1 h
  have e : (b - a) % t = if a ≤ b then b - a else b - a + t := by
    split
    · exact Int.emod_eq_of_lt (by omega) (by omega)
    · rw [← Int.add_emod_right]; exact Int.emod_eq_of_lt (by omega) (by omega)
  rw [e]
  split <;> omega
theorem sharedQ_turn {t l m s s' : Int} (l0 : 0 < l) (l1 : l < t) (m0 : 0 < m) (m1 : m < t) (s0 : 0 ≤ s) (s1 : s < t) (e : s = 0 ∧ s' = 0 ∨ 0 < s ∧ s' = t - s) : sharedQ t m l s' = sharedQ t l m s := by
  unfold sharedQ
  simp only [maxP_eq, minP_eq]
  rcases e with ⟨_, _⟩ | ⟨_, _⟩ <;> subst_vars <;> omega
theorem last_turn {t l m s s' : Int} (l0 : 0 < l) (l1 : l < t) (m0 : 0 < m) (m1 : m < t) (s0 : 0 ≤ s) (s1 : s < t) (e : s = 0 ∧ s' = 0 ∨ 0 < s ∧ s' = t - s)
    (q1 : sharedQ t l m s ≠ l) (q2 : sharedQ t l m s ≠ m) (q3 : sharedQ t l m s ≠ 0) (q4 : l + m - sharedQ t l m s ≠ t) : s' < m ↔ ¬ s < l := by
  unfold sharedQ at *
  simp only [maxP_eq, minP_eq] at *
  rcases e with ⟨_, _⟩ | ⟨_, _⟩ <;> subst_vars <;> omega
theorem wayQ_turn {t l m s s' : Int} (l0 : 0 < l) (l1 : l < t) (m0 : 0 < m) (m1 : m < t) (s0 : 0 ≤ s) (s1 : s < t) (e : s = 0 ∧ s' = 0 ∨ 0 < s ∧ s' = t - s) : wayQ t m l s' = turnI (wayQ t l m s) := by
  have k := last_turn l0 l1 m0 m1 s0 s1 e
  unfold wayQ
  rw [sharedQ_turn l0 l1 m0 m1 s0 s1 e]
  generalize sharedQ t l m s = q at *
  unfold turnI
  by_cases q1 : q = l
  · by_cases q2 : l = m
    · simp [q1, q2]
    · simp [q1, q2, Ne.symm q2]
  by_cases q2 : q = m
  · have : m ≠ l := fun z => q1 (q2.trans z)
    simp [q2, this]
  have z1 : ¬ 0 = l := by omega
  have z2 : ¬ 0 = m := by omega
  by_cases q3 : q = 0
  · by_cases q4 : l + m = t
    · have : m + l = t := by omega
      simp [q3, q4, this, z1, z2]
    · have : ¬ m + l = t := by omega
      simp [q3, q4, this, z1, z2]
  by_cases q4 : l + m - q = t
  · have : m + l - q = t := by omega
    simp [q1, q2, q3, q4, this]
  have q5 : ¬ m + l - q = t := by omega
  have k := k q1 q2 q3 q4
  by_cases q6 : s < l
  · have : ¬ s' < m := fun z => k.1 z q6
    simp [q1, q2, q3, q4, q5, q6, this]
  · have : s' < m := k.2 q6
    simp [q1, q2, q3, q4, q5, q6, this]
theorem way_turn {t a b c d : Int} (h1 : isSh t (.tup [.int a, .int b]) = true) (h2 : isSh t (.tup [.int c, .int d]) = true) : wayP t c d a b = turnI (wayP t a b c d) := by
  obtain ⟨l0, l1⟩ := len_pos h1
  obtain ⟨m0, m1⟩ := len_pos h2
  rw [wayP_q, wayP_q]
  have s0 := Int.emod_nonneg (c - a) (show t ≠ 0 by omega)
  have s1 := Int.emod_lt_of_pos (c - a) (show 0 < t by omega)
  have e : (a - c) % t = if (c - a) % t = 0 then 0 else t - (c - a) % t := by
    rw [← emod_neg' s0 s1, show a - c = 0 - (c - a) by omega, ← sub_em, Int.zero_emod]
    rw [show (0 : Int) - (c - a) % t = -((c - a) % t) by omega]
  rw [wayQ_turn l0 l1 m0 m1 s0 s1]
  rw [e]
  split <;> omega
theorem em3 {t x : Int} (h0 : -(2 * t) < x) (h1 : x < t) (ht : 0 < t) : 0 ≤ x % t ∧ x % t < t ∧ (x % t = x ∨ x % t = x + t ∨ x % t = x + 2 * t) := by
  refine ⟨Int.emod_nonneg _ (by omega), Int.emod_lt_of_pos _ ht, ?_⟩
  rcases Int.lt_or_le x 0 with a | a
  · rcases Int.lt_or_le (x + t) 0 with b | b
    · right; right
      rw [← Int.add_emod_right, ← Int.add_emod_right, Int.emod_eq_of_lt (by omega) (by omega)]; omega
    · right; left
      rw [← Int.add_emod_right, Int.emod_eq_of_lt (by omega) (by omega)]
  · left
    exact Int.emod_eq_of_lt a h1
theorem sharedQ_mirror {t l m s s' : Int} (l0 : 0 < l) (l1 : l < t) (m0 : 0 < m) (m1 : m < t) (s0 : 0 ≤ s) (s1 : s < t) (a : 0 ≤ s') (b : s' < t) (e : s' = l - m - s ∨ s' = l - m - s + t ∨ s' = l - m - s + 2 * t) : sharedQ t l m s' = sharedQ t l m s := by
  unfold sharedQ
  simp only [maxP_eq, minP_eq]
  rcases e with _ | _ | _ <;> subst_vars <;> omega
theorem last_mirror {t l m s s' : Int} (l0 : 0 < l) (l1 : l < t) (m0 : 0 < m) (m1 : m < t) (s0 : 0 ≤ s) (s1 : s < t) (a : 0 ≤ s') (b : s' < t) (e : s' = l - m - s ∨ s' = l - m - s + t ∨ s' = l - m - s + 2 * t)
    (q1 : sharedQ t l m s ≠ l) (q2 : sharedQ t l m s ≠ m) (q3 : sharedQ t l m s ≠ 0) (q4 : l + m - sharedQ t l m s ≠ t) : s' < l ↔ ¬ s < l := by
  unfold sharedQ at *
  simp only [maxP_eq, minP_eq] at *
  rcases e with _ | _ | _ <;> subst_vars <;> omega
theorem wayQ_mirror {t l m s s' : Int} (l0 : 0 < l) (l1 : l < t) (m0 : 0 < m) (m1 : m < t) (s0 : 0 ≤ s) (s1 : s < t) (a : 0 ≤ s') (b : s' < t) (e : s' = l - m - s ∨ s' = l - m - s + t ∨ s' = l - m - s + 2 * t) : wayQ t l m s' = mirrI (wayQ t l m s) := by
  have k := last_mirror l0 l1 m0 m1 s0 s1 a b e
  unfold wayQ
  rw [sharedQ_mirror l0 l1 m0 m1 s0 s1 a b e]
  generalize sharedQ t l m s = q at *
  unfold mirrI
  by_cases q1 : q = l
  · by_cases q2 : l = m <;> simp [q1, q2]
  by_cases q2 : q = m
  · have : m ≠ l := fun z => q1 (q2.trans z)
    simp [q2, this]
  by_cases q3 : q = 0
  · have z1 : ¬ 0 = l := by omega
    have z2 : ¬ 0 = m := by omega
    by_cases q4 : l + m = t <;> simp [q3, q4, z1, z2]
  by_cases q4 : l + m - q = t
  · simp [q1, q2, q3, q4]
  have k := k q1 q2 q3 q4
  by_cases q6 : s < l
  · have : ¬ s' < l := fun z => k.1 z q6
    simp [q1, q2, q3, q4, q6, this]
  · have : s' < l := k.2 q6
    simp [q1, q2, q3, q4, q6, this]
theorem way_mirror {t a b c d : Int} (h1 : isSh t (.tup [.int a, .int b]) = true) (h2 : isSh t (.tup [.int c, .int d]) = true) : wayP t (-b % t) (-a % t) (-d % t) (-c % t) = mirrI (wayP t a b c d) := by
  obtain ⟨l0, l1⟩ := len_pos h1
  obtain ⟨m0, m1⟩ := len_pos h2
  rw [wayP_q, wayP_q, sub_em, sub_em, sub_em, show -a - -b = b - a by omega, show -c - -d = d - c by omega]
  have s0 := Int.emod_nonneg (c - a) (show t ≠ 0 by omega)
  have s1 := Int.emod_lt_of_pos (c - a) (show 0 < t by omega)
  have e : (-d - -b) % t = ((b - a) % t - (d - c) % t - (c - a) % t) % t := by
    have x1 : ((b - a) % t - (d - c) % t) % t = (b - a - (d - c)) % t := sub_em _ _ _
    rw [Int.sub_emod ((b - a) % t - (d - c) % t), x1, Int.emod_emod, sub_em]
    congr 1
    omega
  rw [e]
  obtain ⟨x, y, z⟩ := em3 (t := t) (x := (b - a) % t - (d - c) % t - (c - a) % t) (by omega) (by omega) (by omega)
  exact wayQ_mirror l0 l1 m0 m1 s0 s1 x y z
theorem mirror_sh {t a b : Int} (h : isSh t (.tup [.int a, .int b]) = true) : isSh t (.tup [.int (-b % t), .int (-a % t)]) = true := by
  obtain ⟨a0, a1, b0, b1, n⟩ := isSh_int.1 h
  refine isSh_int.2 ?_
  rw [emod_neg' a0 a1, emod_neg' b0 b1]
  split <;> split <;> omega
theorem min_mul' (x y : Int) {f : Int} (hf : 0 < f) : min (x * f) (y * f) = min x y * f := by
  rcases Int.le_total x y with l | l
  · rw [Int.min_eq_left l, Int.min_eq_left (Int.mul_le_mul_of_nonneg_right l (Int.le_of_lt hf))]
  · rw [Int.min_eq_right l, Int.min_eq_right (Int.mul_le_mul_of_nonneg_right l (Int.le_of_lt hf))]
theorem max_mul' (x y : Int) {f : Int} (hf : 0 < f) : max (x * f) (y * f) = max x y * f := by
  rcases Int.le_total x y with l | l
  · rw [Int.max_eq_right l, Int.max_eq_right (Int.mul_le_mul_of_nonneg_right l (Int.le_of_lt hf))]
  · rw [Int.max_eq_left l, Int.max_eq_left (Int.mul_le_mul_of_nonneg_right l (Int.le_of_lt hf))]
theorem sharedQ_mul {t l m s f : Int} (hf : 0 < f) : sharedQ (t * f) (l * f) (m * f) (s * f) = sharedQ t l m s * f := by
  unfold sharedQ
  simp only [maxP_eq, minP_eq]
  rw [← Int.add_mul, ← Int.sub_mul, min_mul' _ _ hf, min_mul' _ _ hf, ← Int.sub_mul]
  have z : (0 : Int) = 0 * f := (Int.zero_mul f).symm
  rw [z, max_mul' _ _ hf, max_mul' _ _ hf, ← Int.add_mul, ← z]
theorem mul_inj {x y f : Int} (hf : 0 < f) : (x * f = y * f) = (x = y) := propext ⟨fun e => Int.eq_of_mul_eq_mul_right (by omega) e, fun e => e ▸ rfl⟩
theorem mul_lt' {x y f : Int} (hf : 0 < f) : (x * f < y * f) = (x < y) := propext ⟨fun e => Int.lt_of_mul_lt_mul_right e (by omega), fun e => Int.mul_lt_mul_of_pos_right e hf⟩
theorem wayQ_mul {t l m s f : Int} (hf : 0 < f) : wayQ (t * f) (l * f) (m * f) (s * f) = wayQ t l m s := by
  unfold wayQ
  rw [sharedQ_mul hf]
  have z : sharedQ t l m s * f = 0 ↔ sharedQ t l m s = 0 := by
    rw [show (0 : Int) = 0 * f from (Int.zero_mul f).symm, mul_inj hf, Int.zero_mul]
  simp only [← Int.add_mul, ← Int.sub_mul, mul_inj hf, mul_lt' hf, z]
/-- what lies between two ticks in a finer day, turned on -/
theorem between {t f : Int} (ht : 0 < t) (hf : 0 < f) (a b o : Int) : ((b * f + o) % (t * f) - (a * f + o) % (t * f)) % (t * f) = (b - a) % t * f := by
  rw [sub_em, show b * f + o - (a * f + o) = f * (b - a) by rw [Int.mul_sub, Int.mul_comm f b, Int.mul_comm f a]; omega, Int.mul_comm t f, Int.mul_emod_mul_of_pos _ _ hf, Int.mul_comm]
theorem way_fine {t f : Int} (ht : 0 < t) (hf : 0 < f) (a b c d o : Int) : wayP (t * f) ((a * f + o) % (t * f)) ((b * f + o) % (t * f)) ((c * f + o) % (t * f)) ((d * f + o) % (t * f)) = wayP t a b c d := by
  rw [wayP_q, between ht hf, between ht hf, between ht hf, wayQ_mul hf, wayP_q]
theorem shared_fine {t f : Int} (ht : 0 < t) (hf : 0 < f) (a b c d o : Int) : sharedP (t * f) ((a * f + o) % (t * f)) ((b * f + o) % (t * f)) ((c * f + o) % (t * f)) ((d * f + o) % (t * f)) = sharedP t a b c d * f := by
  rw [sharedP_q, between ht hf, between ht hf, between ht hf, sharedQ_mul hf, sharedP_q]
theorem fine_sh {t f a b o : Int} (hf : 0 < f) (h : isSh t (.tup [.int a, .int b]) = true) : isSh (t * f) (.tup [.int ((a * f + o) % (t * f)), .int ((b * f + o) % (t * f))]) = true := by
  obtain ⟨a0, a1, b0, b1, n⟩ := isSh_int.1 h
  have ht : 0 < t := by omega
  have p : 0 < t * f := Int.mul_pos ht hf
  refine isSh_int.2 ⟨Int.emod_nonneg _ (by omega), Int.emod_lt_of_pos _ p, Int.emod_nonneg _ (by omega), Int.emod_lt_of_pos _ p, fun e => ?_⟩
  have q := between ht hf a b o
  rw [e, Int.sub_self, Int.zero_emod] at q
  have := (len_pos h).1
  have := Int.mul_pos this hf
  omega
theorem word_ok (i : Int) : PyData.strOk (wordI i) = true := by
  unfold wordI
  split <;> decide +kernel
theorem turnI_le {i : Int} (h0 : 0 ≤ i) (h1 : i < 8) : 0 ≤ turnI i ∧ turnI i < 8 := by
  unfold turnI
  repeat' split
  all_goals omega
theorem mirrI_le {i : Int} (h0 : 0 ≤ i) (h1 : i < 8) : 0 ≤ mirrI i ∧ mirrI i < 8 := by
  unfold mirrI
  repeat' split
  all_goals omega
theorem turnL_len : turnL.length = 8 := rfl
theorem waysL_len : waysL.length = 8 := rfl
theorem waysL_at {i : Int} (h0 : 0 ≤ i) (h1 : i < 8) : waysL[i.toNat]? = some (.str (wordI i)) := ways_at h0 h1
/-! ### wrong values -/
def okR (d : PyData) : Bool := d.showable && decide (d.shown.length ≤ LN) && decide (d.depth ≤ 64) && noD d && PyData.strOk d.shown
theorem repr_ok {h : IH} {v : IV} {d : PyData} (e : dat h DP v = some d) (o : okR d = true) : biF .repr [v] h = .ok (.str d.shown) h := by
  unfold okR at o
  simp only [Bool.and_eq_true, decide_eq_true_eq] at o
  rw [m_repr, e]
  exact if_pos ⟨o.1.1.1.1, o.1.1.1.2, o.1.1.2, o.1.2⟩
theorem okR_s {d : PyData} (o : okR d = true) : PyData.strOk d.shown = true := by
  unfold okR at o
  simp only [Bool.and_eq_true, decide_eq_true_eq] at o
  exact o.2
/-- a value, as data, that no drawing changes -/
inductive Bad (b : Nat) (h : IH) : IV → PyData → Prop
  | pl {v : IV} {d : PyData} : (∀ h, dat h DP v = some d) → Bad b h v d
  | ls {r : Nat} {xs : List IV} {ds : List PyData} : h[r]? = some (.lst xs) → r ≠ b → (∀ h, datL (dat h 29) xs = some ds) → Bad b h (.ref r) (.list ds)
  | dc {r : Nat} : h[r]? = some (.dic []) → r ≠ b → Bad b h (.ref r) (.dict [])
theorem Bad.fr {b k : Nat} {h h' : IH} {v : IV} {d : PyData} (x : Bad b h v d) (f : Fr b k h h') : Bad b h' v d := match x with
  | .pl e => .pl e
  | .ls e n d => .ls (f.at e n) n d
  | .dc e n => .dc (f.at e n) n
theorem Bad.gr {b : Nat} {h h' : IH} {v : IV} {d : PyData} (x : Bad b h v d) (f : Gr h h') : Bad b h' v d := match x with
  | .pl e => .pl e
  | .ls e n d => .ls (f.at e) n d
  | .dc e n => .dc (f.at e) n
theorem Bad.dat {b : Nat} {h : IH} {v : IV} {d : PyData} (x : Bad b h v d) : dat h DP v = some d := match x with
  | .pl e => e h
  | .ls e _ d => by
    show Itp.dat h (29 + 1) _ = _
    rw [dat_lst e, d]
    rfl
  | .dc e _ => by
    show Itp.dat h (29 + 1) _ = _
    rw [Itp.dat, e]
    rfl
theorem Bad.dv {b : Nat} {h : IH} {v : IV} {d : PyData} (x : Bad b h v d) : Dv h v := ⟨_, _, x.dat⟩
theorem sh_sb {s : Str} {b : Bool} (e : PyData.strOk s = true) : PySem.SeqAt.shaped (.list [.str s, .bool b]) = true := by
  simp [PySem.SeqAt.shaped, PyData.canLay0, PyData.depth, PyData.canLayAll0, PyData.depthAll, e]
theorem eq_sb {h : IH} {a b : Nat} {s : Str} {k : Bool} (o : PyData.strOk s = true) (e1 : h[a]? = some (.lst [.str s, .bl k])) (e2 : h[b]? = some (.lst [.str s, .bl k])) : eqI (.ref a) (.ref b) h = some true := by
  rw [eqI_of (d := .list [.str s, .bool k]) (e := .list [.str s, .bool k]) (by show dat h (29 + 1) _ = _; rw [dat_lst e1]; rfl) (by show dat h (29 + 1) _ = _; rw [dat_lst e2]; rfl) (sh_sb o) (sh_sb o)]
  simp [PyData.eqv, PyData.eqvAll]
theorem eq_sb2 {h : IH} {a b a1 a2 b1 b2 : Nat} {s : Str} {k : Bool} (o : PyData.strOk s = true) (e1 : h[a]? = some (.lst [.ref a1, .ref a2])) (e2 : h[b]? = some (.lst [.ref b1, .ref b2]))
    (f1 : h[a1]? = some (.lst [.str s, .bl k])) (f2 : h[a2]? = some (.lst [.str s, .bl k])) (f3 : h[b1]? = some (.lst [.str s, .bl k])) (f4 : h[b2]? = some (.lst [.str s, .bl k])) : eqI (.ref a) (.ref b) h = some true := by
  have q : ∀ {r : Nat}, h[r]? = some (.lst [.str s, .bl k]) → dat h 29 (.ref r) = some (.list [.str s, .bool k]) := fun e => by
    show dat h (28 + 1) _ = _
    rw [dat_lst e]; rfl
  have sh : PySem.SeqAt.shaped (.list [.list [.str s, .bool k], .list [.str s, .bool k]]) = true := by
    simp [PySem.SeqAt.shaped, PyData.canLay0, PyData.depth, PyData.canLayAll0, PyData.depthAll, o]
  rw [eqI_of (d := .list [.list [.str s, .bool k], .list [.str s, .bool k]]) (e := .list [.list [.str s, .bool k], .list [.str s, .bool k]]) (by show dat h (29 + 1) _ = _; rw [dat_lst e1]; simp [datL, q f1, q f2]) (by show dat h (29 + 1) _ = _; rw [dat_lst e2]; simp [datL, q f3, q f4]) sh sh]
  simp [PyData.eqv, PyData.eqvAll]
theorem eq_sbN {h : IH} {a : Nat} {s : Str} {k : Bool} (o : PyData.strOk s = true) (e1 : h[a]? = some (.lst [.str s, .bl k])) : eqI (.ref a) (.ref h.length) (h ++ [.lst [.str s, .bl k]]) = some true :=
  eq_sb o ((g_app (lt_of e1)).trans e1) g_new
/-! ### what stays but for some things -/
structure FrX (S : List Nat) (h h' : IH) : Prop where
  le : h.length ≤ h'.length
  old : ∀ r, r < h.length → r ∉ S → h'[r]? = h[r]?
theorem FrX.refl {S : List Nat} {h : IH} : FrX S h h := ⟨Nat.le_refl _, fun _ _ _ => rfl⟩
theorem FrX.tr {S : List Nat} {h h1 h2 : IH} (x : FrX S h h1) (y : FrX S h1 h2) : FrX S h h2 :=
  ⟨Nat.le_trans x.le y.le, fun r l n => (y.old r (Nat.lt_of_lt_of_le l x.le) n).trans (x.old r l n)⟩
theorem FrX.at {S : List Nat} {h h' : IH} (f : FrX S h h') {r : Nat} {o : IO} (e : h[r]? = some o) (n : r ∉ S) : h'[r]? = some o := by
  rw [f.old r (lt_of e) n, e]
theorem FrX.bx {S : List Nat} {N b : Nat} {h h' : IH} (f : FrX S h h') (x : Bx N h b) (n : b ∉ S) : Bx N h' b := by
  obtain ⟨x, k, m, c, e, r⟩ := x
  exact ⟨x, k, m, c, f.at e n, r⟩
theorem Gr.fx {S : List Nat} {h h' : IH} (g : Gr h h') : FrX S h h' := ⟨g.le, fun r l _ => by
  obtain ⟨t, rfl⟩ := g
  exact g_app l⟩
theorem Fr.fx {S : List Nat} {b k : Nat} {h h' : IH} (f : Fr b k h h') (m : b ∈ S) : FrX S h h' := ⟨f.le, fun r l n => f.old r l fun e => n (e ▸ m)⟩
theorem FrX.set {S : List Nat} {h h' : IH} {r : Nat} {o : IO} (f : FrX S h h') (m : r ∈ S) : FrX S h (h'.set r o) :=
  ⟨by simpa using f.le, fun q l n => by
    have z : r ≠ q := fun e => n (by rw [← e]; exact m)
    rw [g_setn z]; exact f.old q l n⟩
theorem FrX.setN {S : List Nat} {h h' : IH} {r : Nat} {o : IO} (f : FrX S h h') (m : h.length ≤ r) : FrX S h (h'.set r o) :=
  ⟨by simpa using f.le, fun q l n => by rw [g_setn (by omega)]; exact f.old q l n⟩
theorem FrX.mono {S T : List Nat} {h h' : IH} (f : FrX S h h') (m : ∀ r, r ∈ S → r ∈ T) : FrX T h h' := ⟨f.le, fun r l n => f.old r l fun z => n (m r z)⟩
theorem Bad.fx {S : List Nat} {b : Nat} {h h' : IH} {v : IV} {d : PyData} (x : Bad b h v d) (f : FrX S h h') (hb : ∀ r, v = .ref r → r ∉ S) : Bad b h' v d := match x with
  | .pl e => .pl e
  | .ls e n d => .ls (f.at e (hb _ rfl)) n d
  | .dc e n => .dc (f.at e (hb _ rfl)) n
theorem sh_ssb {s z : Str} {b : Bool} (e : PyData.strOk s = true) (f : PyData.strOk z = true) : PySem.SeqAt.shaped (.list [.str s, .str z, .bool b]) = true := by
  simp [PySem.SeqAt.shaped, PyData.canLay0, PyData.depth, PyData.canLayAll0, PyData.depthAll, e, f]
theorem eq_ssb {h : IH} {a b : Nat} {s z : Str} {k : Bool} (o : PyData.strOk s = true) (o2 : PyData.strOk z = true) (e1 : h[a]? = some (.lst [.str s, .str z, .bl k])) (e2 : h[b]? = some (.lst [.str s, .str z, .bl k])) : eqI (.ref a) (.ref b) h = some true := by
  rw [eqI_of (d := .list [.str s, .str z, .bool k]) (e := .list [.str s, .str z, .bool k]) (by show dat h (29 + 1) _ = _; rw [dat_lst e1]; rfl) (by show dat h (29 + 1) _ = _; rw [dat_lst e2]; rfl) (sh_ssb o o2) (sh_ssb o o2)]
  simp [PyData.eqv, PyData.eqvAll]
theorem eq_ssbN {h : IH} {a : Nat} {s z : Str} {k : Bool} (o : PyData.strOk s = true) (o2 : PyData.strOk z = true) (e1 : h[a]? = some (.lst [.str s, .str z, .bl k])) : eqI (.ref a) (.ref h.length) (h ++ [.lst [.str s, .str z, .bl k]]) = some true :=
  eq_ssb o o2 ((g_app (lt_of e1)).trans e1) g_new
theorem eq_ssb2 {h : IH} {a b a1 a2 b1 b2 : Nat} {s z s' z' : Str} {k k' : Bool} (o : PyData.strOk s = true) (o2 : PyData.strOk z = true) (o' : PyData.strOk s' = true) (o2' : PyData.strOk z' = true) (e1 : h[a]? = some (.lst [.ref a1, .ref a2])) (e2 : h[b]? = some (.lst [.ref b1, .ref b2]))
    (f1 : h[a1]? = some (.lst [.str s, .str z, .bl k])) (f2 : h[a2]? = some (.lst [.str s', .str z', .bl k'])) (f3 : h[b1]? = some (.lst [.str s, .str z, .bl k])) (f4 : h[b2]? = some (.lst [.str s', .str z', .bl k'])) : eqI (.ref a) (.ref b) h = some true := by
  have q : ∀ {r : Nat} {s z : Str} {k : Bool}, h[r]? = some (.lst [.str s, .str z, .bl k]) → dat h 29 (.ref r) = some (.list [.str s, .str z, .bool k]) := fun e => by
    show dat h (28 + 1) _ = _
    rw [dat_lst e]; rfl
  have sh : PySem.SeqAt.shaped (.list [.list [.str s, .str z, .bool k], .list [.str s', .str z', .bool k']]) = true := by
    simp [PySem.SeqAt.shaped, PyData.canLay0, PyData.depth, PyData.canLayAll0, PyData.depthAll, o, o2, o', o2']
  rw [eqI_of (d := .list [.list [.str s, .str z, .bool k], .list [.str s', .str z', .bool k']]) (e := .list [.list [.str s, .str z, .bool k], .list [.str s', .str z', .bool k']]) (by show dat h (29 + 1) _ = _; rw [dat_lst e1]; simp [datL, q f1, q f2]) (by show dat h (29 + 1) _ = _; rw [dat_lst e2]; simp [datL, q f3, q f4]) sh sh]
  simp [PyData.eqv, PyData.eqvAll]
/-! ### data in a heap that grows -/
theorem datL_mono {f g : IV → Option PyData} (e : ∀ x d, f x = some d → g x = some d) : ∀ {xs : List IV} {ds : List PyData}, datL f xs = some ds → datL g xs = some ds
  | [], _, h => h
  | x :: xs, ds, h => by
    rw [datL] at h ⊢
    cases q : f x with
    | none => rw [q] at h; exact nomatch h
    | some d =>
      rw [q] at h
      rw [e x d q]
      cases q2 : datL f xs with
      | none => rw [q2] at h; exact nomatch h
      | some es =>
        rw [q2] at h
        rw [datL_mono e q2]
        exact h
theorem datK_mono {f g : IV → Option PyData} (e : ∀ x d, f x = some d → g x = some d) : ∀ {xs : List (IV × IV)} {ds : List (PyData × PyData)}, datK f xs = some ds → datK g xs = some ds
  | [], _, h => h
  | (x, y) :: xs, ds, h => by
    rw [datK] at h ⊢
    cases q : f x with
    | none => rw [q] at h; exact nomatch h
    | some d =>
      cases q3 : f y with
      | none => rw [q, q3] at h; exact nomatch h
      | some d' =>
        rw [q, q3] at h
        rw [e x d q, e y d' q3]
        cases q2 : datK f xs with
        | none => rw [q2] at h; exact nomatch h
        | some es =>
          rw [q2] at h
          rw [datK_mono e q2]
          exact h
theorem dat_app {h t : IH} : ∀ {n : Nat} {v : IV} {d : PyData}, dat h n v = some d → dat (h ++ t) n v = some d
  | 0, _, _, e => nomatch e
  | n + 1, v, d, e => by
    have mono := fun x d => dat_app (h := h) (t := t) (n := n) (v := x) (d := d)
    cases v with
    | non => exact e
    | bl _ => exact e
    | int _ => exact e
    | str _ => exact e
    | tup xs =>
      have e' : (datL (dat h n) xs).map PyData.tuple = some d := e
      show (datL (dat (h ++ t) n) xs).map PyData.tuple = some d
      cases q : datL (dat h n) xs with
      | none => rw [q] at e'; exact nomatch e'
      | some ds => rw [datL_mono mono q]; rw [q] at e'; exact e'
    | frz xs =>
      have e' : (datL (dat h n) xs).map PyData.list = some d := e
      show (datL (dat (h ++ t) n) xs).map PyData.list = some d
      cases q : datL (dat h n) xs with
      | none => rw [q] at e'; exact nomatch e'
      | some ds => rw [datL_mono mono q]; rw [q] at e'; exact e'
    | ref r =>
      have e' : (match h[r]? with
        | some (.lst xs) => (datL (dat h n) xs).map PyData.list
        | some (.dic kvs) => (datK (dat h n) kvs).map PyData.dict
        | _ => none) = some d := e
      show (match (h ++ t)[r]? with
        | some (.lst xs) => (datL (dat (h ++ t) n) xs).map PyData.list
        | some (.dic kvs) => (datK (dat (h ++ t) n) kvs).map PyData.dict
        | _ => none) = some d
      cases q : h[r]? with
      | none => rw [q] at e'; exact nomatch e'
      | some o =>
        rw [(g_app (lt_of q)).trans q]
        rw [q] at e'
        cases o with
        | lst xs =>
          cases q2 : datL (dat h n) xs with
          | none => simp [q2] at e'
          | some ds => simp only [datL_mono mono q2]; simpa [q2] using e'
        | dic kvs =>
          cases q2 : datK (dat h n) kvs with
          | none => simp [q2] at e'
          | some ds => simp only [datK_mono mono q2]; simpa [q2] using e'
        | ins _ _ => exact nomatch e'
theorem Dvx_app {h t : IH} {v : IV} {d : PyData} (e : dat h DP v = some d) : dat (h ++ t) DP v = some d := dat_app e
theorem Dv_app {h t : IH} {v : IV} (D : Dv h v) : Dv (h ++ t) v := by
  obtain ⟨n, d, e⟩ := D
  exact ⟨n, d, dat_app e⟩
theorem Dv.gr {h h' : IH} {v : IV} (D : Dv h v) (g : Gr h h') : Dv h' v := by
  obtain ⟨t, rfl⟩ := g
  exact Dv_app D
theorem dat_gr {h h' : IH} {v : IV} {d : PyData} (e : dat h DP v = some d) (g : Gr h h') : dat h' DP v = some d := by
  obtain ⟨t, rfl⟩ := g
  exact dat_app e
/-! ### plain texts, shown -/
def pl7 (c : Nat) : Bool := decide (32 ≤ c) && decide (c < 127)
theorem rep7 : ∀ c : Fin 127, 32 ≤ c.1 → ((PySem.Builtin.Str.reprChar 39 c.1).all fun c => decide (c < 0x110000)) = true ∧ ((PySem.Builtin.Str.reprChar 34 c.1).all fun c => decide (c < 0x110000)) = true ∧ (PySem.Builtin.Str.reprChar 39 c.1).length ≤ 2 ∧ (PySem.Builtin.Str.reprChar 34 c.1).length ≤ 2 := by decide +kernel
theorem fold7 {q : Nat} (hq : q = 39 ∨ q = 34) : ∀ (l : List Nat), l.all pl7 = true → ∀ acc : Array Nat, (acc.toList.all fun c => decide (c < 0x110000)) = true →
    ((l.foldl (fun out c => out ++ (PySem.Builtin.Str.reprChar q c).toArray) acc).toList.all fun c => decide (c < 0x110000)) = true ∧ (l.foldl (fun out c => out ++ (PySem.Builtin.Str.reprChar q c).toArray) acc).size ≤ acc.size + 2 * l.length
  | [], _, acc, ha => ⟨ha, by simp⟩
  | c :: l, hl, acc, ha => by
    rw [List.all_cons, Bool.and_eq_true] at hl
    obtain ⟨h1, h2⟩ := hl
    unfold pl7 at h1
    rw [Bool.and_eq_true, decide_eq_true_eq, decide_eq_true_eq] at h1
    obtain ⟨r1, r2, r3, r4⟩ := rep7 ⟨c, h1.2⟩ h1.1
    have key : ((PySem.Builtin.Str.reprChar q c).all fun c => decide (c < 0x110000)) = true ∧ (PySem.Builtin.Str.reprChar q c).length ≤ 2 := by
      rcases hq with rfl | rfl
      · exact ⟨r1, r3⟩
      · exact ⟨r2, r4⟩
    obtain ⟨i1, i2⟩ := fold7 hq l h2 (acc ++ (PySem.Builtin.Str.reprChar q c).toArray) (by
      rw [Array.toList_append, List.all_append, ha, key.1]
      rfl)
    refine ⟨i1, ?_⟩
    rw [List.foldl_cons]
    simp only [Array.size_append, List.size_toArray, List.length_cons] at i2 ⊢
    omega
theorem okR_str {z : Str} (hl : z.length ≤ 1000000) (hc : z.cps.toList.all pl7 = true) : okR (.str z) = true := by
  have hq : PySem.reprQuote z = 39 ∨ PySem.reprQuote z = 34 := by
    unfold PySem.reprQuote
    split
    · exact .inr rfl
    · exact .inl rfl
  have qs : (#[PySem.reprQuote z].toList.all fun c => decide (c < 0x110000)) = true := by
    rcases hq with e | e <;> rw [e] <;> decide
  obtain ⟨f1, f2⟩ := fold7 hq z.cps.toList hc #[PySem.reprQuote z] qs
  rw [Array.foldl_toList] at f1 f2
  have e1 : PyData.strOk (PySem.reprText z) = true := by
    show (((z.cps.foldl (fun out c => out ++ (PySem.Builtin.Str.reprChar (PySem.reprQuote z) c).toArray) #[PySem.reprQuote z]).push (PySem.reprQuote z)).all (· < 0x110000)) = true
    rw [← Array.all_toList, Array.toList_push, List.all_append, f1]
    rcases hq with e | e <;> rw [e] <;> decide
  have e2 : (PySem.reprText z).length ≤ LN := by
    show ((z.cps.foldl (fun out c => out ++ (PySem.Builtin.Str.reprChar (PySem.reprQuote z) c).toArray) #[PySem.reprQuote z]).push (PySem.reprQuote z)).size ≤ 16777216
    have : z.cps.toList.length = z.length := Array.length_toList
    rw [Array.size_push]
    simp only [List.size_toArray, List.length_cons, List.length_nil] at f2
    omega
  have e3 : PyData.shown (.str z) = PySem.reprText z := by rw [PyData.shown]
  unfold okR
  rw [e3, e1, decide_eq_true e2]
  simp [PyData.showable, PyData.depth, noD, PyData.hasDict]
end Itp

/-! ItZe: data that shows as short text, sorted numbers, lists that are empty or not. -/
namespace Itp
open PySem (Str PyData)
/-! ### texts of a length -/
structure Txt (m : Nat) (s : Str) : Prop where
  len : s.length ≤ m
  ok : PyData.strOk s = true
theorem Txt.mono {m k : Nat} {s : Str} (x : Txt m s) (l : m ≤ k) : Txt k s := ⟨Nat.le_trans x.len l, x.ok⟩
theorem strOk_app {a b : Str} (x : PyData.strOk a = true) (y : PyData.strOk b = true) : PyData.strOk (a ++ b) = true := by
  unfold PyData.strOk at *
  show ((a.cps ++ b.cps).all _) = true
  rw [Array.all_append, x, y]
  rfl
theorem Txt.app {m k : Nat} {a b : Str} (x : Txt m a) (y : Txt k b) : Txt (m + k) (a ++ b) :=
  ⟨by rw [PySem.strLen_append]; have := x.len; have := y.len; omega, strOk_app x.ok y.ok⟩
theorem Txt.join {m : Nat} : ∀ {ts : List Str}, (∀ t ∈ ts, Txt m t) → Txt (ts.length * (m + 2)) (PySem.Str.join ", " ts)
  | [], _ => ⟨by show 0 ≤ _; omega, by decide +kernel⟩
  | [x], h => by
    have := h x (by simp)
    exact this.mono (by simp)
  | x :: y :: r, h => by
    have i := Txt.join (ts := y :: r) (fun t m => h t (by simp [List.mem_cons.1 m]))
    have a := h x (by simp)
    have s : Txt 2 (", " : Str) := ⟨by decide +kernel, by decide +kernel⟩
    have j := (a.app s).app i
    refine j.mono ?_
    simp only [List.length_cons, Nat.succ_mul]
    omega
/-- data that shows well -/
structure OkB (m k : Nat) (d : PyData) : Prop where
  sh : d.showable = true
  tx : Txt m d.shown
  dp : d.depth ≤ k
  nd : d.hasDict = false
theorem OkB.mono {m k n j : Nat} {d : PyData} (x : OkB m k d) (l : m ≤ n) (l2 : k ≤ j) : OkB n j d := ⟨x.sh, x.tx.mono l, Nat.le_trans x.dp l2, x.nd⟩
theorem OkB.okR {m k : Nat} {d : PyData} (x : OkB m k d) (l : m ≤ 16777216) (l2 : k ≤ 64) : okR d = true := by
  unfold Itp.okR
  have h1 : d.shown.length ≤ LN := Nat.le_trans x.tx.len l
  have h2 : d.depth ≤ 64 := Nat.le_trans x.dp l2
  have h3 : noD d = true := by
    unfold noD
    split
    · rfl
    · rw [x.nd]; rfl
  rw [x.sh, decide_eq_true h1, decide_eq_true h2, h3, x.tx.ok]
  rfl
def okBb (m k : Nat) (d : PyData) : Bool := d.showable && decide (d.shown.length ≤ m) && PyData.strOk d.shown && decide (d.depth ≤ k) && !d.hasDict
theorem OkB.of {m k : Nat} {d : PyData} (e : okBb m k d = true) : OkB m k d := by
  unfold okBb at e
  simp only [Bool.and_eq_true, decide_eq_true_eq, Bool.not_eq_true'] at e
  exact ⟨e.1.1.1.1, ⟨e.1.1.1.2, e.1.1.2⟩, e.1.2, e.2⟩
theorem OkB.int {i : Int} (h0 : -1000000000000000000000000000000 < i) (h1 : i < 1000000000000000000000000000000) : OkB 1921 1 (.int i) := by
  have l : i.natAbs.log2 < 1920 := by
    have : i.natAbs < 2 ^ 1920 := Nat.lt_of_lt_of_le (show i.natAbs < 1000000000000000000000000000000 by omega) (by decide +kernel)
    rcases Nat.eq_zero_or_pos i.natAbs with z | z
    · rw [z]; decide +kernel
    · exact (Nat.log2_lt (by omega)).2 this
  refine ⟨by rw [PyData.showable]; exact decide_eq_true l, ?_, by simp [PyData.depth], by simp [PyData.hasDict]⟩
  rw [PyData.shown_int]
  exact ⟨PyProof.Rows.int_text_len_1921 l, ofS_ok _⟩
theorem shownAll_mem : ∀ {xs : List PyData} {t : Str}, t ∈ PyData.shownAll xs → ∃ x ∈ xs, t = x.shown
  | [], t, h => by rw [PyData.shownAll] at h; exact nomatch h
  | x :: xs, t, h => by
    rw [PyData.shownAll] at h
    rcases List.mem_cons.1 h with rfl | h
    · exact ⟨x, by simp, rfl⟩
    · obtain ⟨y, hy, e⟩ := shownAll_mem h
      exact ⟨y, by simp [hy], e⟩
theorem all_okB {m k : Nat} : ∀ {xs : List PyData}, (∀ x ∈ xs, OkB m k x) → PyData.showableAll xs = true ∧ PyData.depthAll xs ≤ k ∧ PyData.hasDictAll xs = false
  | [], _ => ⟨by rw [PyData.showableAll], by rw [PyData.depthAll]; omega, by rw [PyData.hasDictAll]⟩
  | x :: xs, h => by
    have a := h x (by simp)
    obtain ⟨b1, b2, b3⟩ := all_okB (xs := xs) fun y m => h y (by simp [m])
    refine ⟨by rw [PyData.showableAll, a.sh, b1]; rfl, ?_, by rw [PyData.hasDictAll, a.nd, b3]; rfl⟩
    rw [PyData.depthAll]
    have := a.dp
    omega
theorem OkB.list {m k : Nat} {xs : List PyData} (h : ∀ x ∈ xs, OkB m k x) : OkB (xs.length * (m + 2) + 4) (k + 1) (.list xs) := by
  obtain ⟨b1, b2, b3⟩ := all_okB h
  refine ⟨by rw [PyData.showable, b1], ?_, by rw [PyData.depth]; omega, by rw [PyData.hasDict, b3]⟩
  rw [PyData.shown_list]
  have j := Txt.join (m := m) (ts := PyData.shownAll xs) fun t m => by
    obtain ⟨x, hx, rfl⟩ := shownAll_mem m
    exact (h x hx).tx
  rw [PyData.shownAll_length] at j
  have s : Txt 1 ("[" : Str) := ⟨by decide +kernel, by decide +kernel⟩
  have e : Txt 1 ("]" : Str) := ⟨by decide +kernel, by decide +kernel⟩
  exact ((s.app j).app e).mono (by omega)
theorem OkB.tup {m k : Nat} {xs : List PyData} (h : ∀ x ∈ xs, OkB m k x) : OkB (xs.length * (m + 2) + 4) (k + 1) (.tuple xs) := by
  obtain ⟨b1, b2, b3⟩ := all_okB h
  refine ⟨by rw [PyData.showable, b1], ?_, by rw [PyData.depth]; omega, by rw [PyData.hasDict, b3]⟩
  rw [PyData.shown_tuple]
  have j := Txt.join (m := m) (ts := PyData.shownAll xs) fun t m => by
    obtain ⟨x, hx, rfl⟩ := shownAll_mem m
    exact (h x hx).tx
  rw [PyData.shownAll_length] at j
  have s : Txt 1 ("(" : Str) := ⟨by decide +kernel, by decide +kernel⟩
  have e : Txt 2 ((if xs.length == 1 then ",)" else ")" : String) : Str) := by
    split
    · exact ⟨by decide +kernel, by decide +kernel⟩
    · exact ⟨by decide +kernel, by decide +kernel⟩
  exact ((s.app j).app e).mono (by omega)
/-! ### sorted numbers -/
theorem sortI_eq {l r : List Int} (p : l.Perm r) (s : r.Pairwise fun a b => a ≤ b) : sortI l = r := by
  unfold sortI
  have h1 := List.pairwise_mergeSort (le := fun a b : Int => decide (a ≤ b)) (fun a b c x y => by simp at *; omega) (fun a b => by simp; omega) l
  refine List.Perm.eq_of_pairwise (le := fun a b : Int => a ≤ b) (fun a b _ _ x y => by omega) ?_ s ((List.mergeSort_perm _ _).trans p)
  exact h1.imp (by simp)
/-! ### lists that are empty or not -/
theorem datL_ones {h : IH} {n : Nat} {α : Type} (l : List α) : datL (dat h (n + 1)) (l.map fun _ => IV.int 1) = some (l.map fun _ => PyData.int 1) := by
  induction l with
  | nil => rfl
  | cons a l ih =>
    show (match dat h (n + 1) (.int 1) with
      | some d => (datL (dat h (n + 1)) (l.map fun _ => IV.int 1)).map (d :: ·)
      | none => none) = _
    rw [ih]
    rfl
theorem eq_nilL {h : IH} {a b : Nat} {x : IV} {xs : List IV} {d : PyData} {ds : List PyData} (e1 : h[a]? = some (.lst (x :: xs))) (e2 : h[b]? = some (.lst [])) (e : datL (dat h 29) (x :: xs) = some (d :: ds)) (o : PySem.SeqAt.shaped (.list (d :: ds)) = true) : eqI (.ref a) (.ref b) h = some false := by
  rw [eqI_of (d := .list (d :: ds)) (e := .list []) (by show dat h (29 + 1) _ = _; rw [dat_lst e1, e]; rfl) (dat_lst e2) o sh_nil]
  simp [PyData.eqv, PyData.eqvAll]
end Itp

/-! ItZf: nice data that no drawing changes; data of the same content. -/
namespace Itp
open PySem (Str PyData)
def NV (b : Nat) (h : IH) : Nat → IV → Prop
  | 0, _ => False
  | n + 1, v => match v with
    | .non => True
    | .bl _ => True
    | .int _ => True
    | .str x => PyData.strOk x = true
    | .tup xs => xs.length < 1000000 ∧ ∀ x ∈ xs, NV b h n x
    | .frz _ => False
    | .ref r => r ≠ b ∧ ((∃ xs, h[r]? = some (.lst xs) ∧ xs.length < 1000000 ∧ ∀ x ∈ xs, NV b h n x) ∨ h[r]? = some (.dic []))
theorem NV.fr {b k : Nat} {h h' : IH} (f : Fr b k h h') : ∀ {n : Nat} {v : IV}, NV b h n v → NV b h' n v
  | 0, _, x => x.elim
  | n + 1, v, x => by
    cases v with
    | tup xs => exact ⟨x.1, fun y m => NV.fr f (x.2 y m)⟩
    | ref r =>
      rcases x with ⟨nb, ⟨xs, e, l, a⟩ | e⟩
      · exact ⟨nb, .inl ⟨xs, f.at e nb, l, fun y m => NV.fr f (a y m)⟩⟩
      · exact ⟨nb, .inr (f.at e nb)⟩
    | _ => exact x
theorem NV.fx {b : Nat} {S : List Nat} {h h' : IH} (f : FrX S h h') : ∀ {n : Nat} {v : IV}, (∀ r, r ∈ S → r = b ∨ h.length ≤ r) → NV b h n v → NV b h' n v
  | 0, _, _, x => x.elim
  | n + 1, v, s, x => by
    cases v with
    | tup xs => exact ⟨x.1, fun y m => NV.fx f s (x.2 y m)⟩
    | ref r =>
      have z : ∀ o, h[r]? = some o → r ≠ b → r ∉ S := fun o e nb m => by
        rcases s r m with q | q
        · exact nb q
        · have := lt_of e; omega
      rcases x with ⟨nb, ⟨xs, e, l, a⟩ | e⟩
      · exact ⟨nb, .inl ⟨xs, f.at e (z _ e nb), l, fun y m => NV.fx f s (a y m)⟩⟩
      · exact ⟨nb, .inr (f.at e (z _ e nb))⟩
    | _ => exact x
theorem NV.gr {b : Nat} {h h' : IH} (g : Gr h h') {n : Nat} {v : IV} (x : NV b h n v) : NV b h' n v := NV.fr (b := b) g.fr x
theorem NV.succ {b : Nat} {h : IH} : ∀ {n : Nat} {v : IV}, NV b h n v → NV b h (n + 1) v
  | 0, _, x => x.elim
  | n + 1, v, x => by
    cases v with
    | tup xs => exact ⟨x.1, fun y m => NV.succ (x.2 y m)⟩
    | ref r =>
      rcases x with ⟨nb, ⟨xs, e, l, a⟩ | e⟩
      · exact ⟨nb, .inl ⟨xs, e, l, fun y m => NV.succ (a y m)⟩⟩
      · exact ⟨nb, .inr e⟩
    | _ => exact x
theorem NV.mono {b : Nat} {h : IH} {n m : Nat} {v : IV} (l : n ≤ m) (x : NV b h n v) : NV b h m v := by
  induction l with
  | refl => exact x
  | step _ ih => exact ih.succ
theorem datL_allZ {f : IV → Option PyData} : ∀ {xs : List IV}, (∀ x ∈ xs, ∃ d, f x = some d) → ∃ ds, datL f xs = some ds
  | [], _ => ⟨[], rfl⟩
  | x :: xs, h => by
    obtain ⟨d, e⟩ := h x (by simp)
    obtain ⟨ds, e2⟩ := datL_allZ (xs := xs) fun y m => h y (by simp [m])
    exact ⟨d :: ds, by rw [datL, e, e2]; rfl⟩
theorem NV.dat {b : Nat} {h : IH} : ∀ {n : Nat} {v : IV}, NV b h n v → ∃ d, dat h n v = some d
  | 0, _, x => x.elim
  | n + 1, v, x => by
    cases v with
    | tup xs =>
      obtain ⟨ds, e⟩ := datL_allZ fun y m => NV.dat (x.2 y m)
      exact ⟨.tuple ds, by show (datL (Itp.dat h n) xs).map PyData.tuple = _; rw [e]; rfl⟩
    | ref r =>
      rcases x with ⟨nb, ⟨xs, e, l, a⟩ | e⟩
      · obtain ⟨ds, e2⟩ := datL_allZ fun y m => NV.dat (a y m)
        exact ⟨.list ds, by rw [dat_lst e, e2]; rfl⟩
      · exact ⟨.dict [], by rw [Itp.dat, e]; rfl⟩
    | frz xs => exact x.elim
    | non => exact ⟨_, rfl⟩
    | bl _ => exact ⟨_, rfl⟩
    | int _ => exact ⟨_, rfl⟩
    | str _ => exact ⟨_, rfl⟩
theorem NV.dv {b : Nat} {h : IH} {n : Nat} {v : IV} (x : NV b h n v) : Dv h v := by
  obtain ⟨d, e⟩ := x.dat
  exact ⟨n, d, e⟩
/-- of the same content -/
def EQ (h : IH) : Nat → IV → IV → Prop
  | 0, _, _ => False
  | n + 1, x, y => match x, y with
    | .non, .non => True
    | .bl a, .bl b => a = b
    | .int a, .int b => a = b
    | .str a, .str b => a = b ∧ PyData.strOk a = true
    | .tup xs, .tup ys => xs.length = ys.length ∧ xs.length < 1000000 ∧ ∀ (k : Nat) (x y : IV), xs[k]? = some x → ys[k]? = some y → EQ h n x y
    | .ref r, .ref q => (∃ xs ys, h[r]? = some (.lst xs) ∧ h[q]? = some (.lst ys) ∧ xs.length = ys.length ∧ xs.length < 1000000 ∧ ∀ (k : Nat) (x y : IV), xs[k]? = some x → ys[k]? = some y → EQ h n x y) ∨ (h[r]? = some (.dic []) ∧ h[q]? = some (.dic []))
    | _, _ => False
theorem EQ.gr {h h' : IH} (g : Gr h h') : ∀ {n : Nat} {x y : IV}, EQ h n x y → EQ h' n x y
  | 0, _, _, e => e.elim
  | n + 1, x, y, e => by
    cases x <;> cases y <;> first | exact e | exact e.elim | skip
    · exact ⟨e.1, e.2.1, fun k x y a b => EQ.gr g (e.2.2 k x y a b)⟩
    · rcases e with ⟨xs, ys, e1, e2, l, l2, a⟩ | ⟨e1, e2⟩
      · exact .inl ⟨xs, ys, g.at e1, g.at e2, l, l2, fun k x y c d => EQ.gr g (a k x y c d)⟩
      · exact .inr ⟨g.at e1, g.at e2⟩
theorem NV.eq {b : Nat} {h : IH} : ∀ {n : Nat} {v : IV}, NV b h n v → EQ h n v v
  | 0, _, x => x.elim
  | n + 1, v, x => by
    have z : ∀ {xs : List IV}, (∀ x ∈ xs, NV b h n x) → ∀ (k : Nat) (x y : IV), xs[k]? = some x → xs[k]? = some y → EQ h n x y := fun a k x y e f => by
      rw [e] at f
      obtain rfl : x = y := by simpa using f
      exact NV.eq (a x (List.mem_of_getElem? e))
    cases v with
    | tup xs => exact ⟨rfl, x.1, z x.2⟩
    | ref r =>
      rcases x with ⟨nb, ⟨xs, e, l, a⟩ | e⟩
      · exact .inl ⟨xs, xs, e, e, rfl, l, z a⟩
      · exact .inr ⟨e, e⟩
    | frz xs => exact x.elim
    | non => exact True.intro
    | bl _ => exact (Eq.refl _ : _ = _)
    | int _ => exact (Eq.refl _ : _ = _)
    | str _ => exact ⟨Eq.refl _, x⟩
theorem EQ.succ {h : IH} : ∀ {n : Nat} {x y : IV}, EQ h n x y → EQ h (n + 1) x y
  | 0, _, _, e => e.elim
  | n + 1, x, y, e => by
    cases x <;> cases y <;> first | exact e | exact e.elim | skip
    · exact ⟨e.1, e.2.1, fun k x y a b => EQ.succ (e.2.2 k x y a b)⟩
    · rcases e with ⟨xs, ys, e1, e2, l, l2, a⟩ | ⟨e1, e2⟩
      · exact .inl ⟨xs, ys, e1, e2, l, l2, fun k x y c d => EQ.succ (a k x y c d)⟩
      · exact .inr ⟨e1, e2⟩
theorem EQ.mono {h : IH} {n m : Nat} {x y : IV} (l : n ≤ m) (e : EQ h n x y) : EQ h m x y := by
  induction l with
  | refl => exact e
  | step _ ih => exact ih.succ
/-- lists of like length, item by item -/
theorem EQ.lst {h : IH} {n r q : Nat} {xs ys : List IV} (e1 : h[r]? = some (.lst xs)) (e2 : h[q]? = some (.lst ys)) (a : ∀ i : Nat, (xs[i]? = none ∧ ys[i]? = none) ∨ ∃ x y, xs[i]? = some x ∧ ys[i]? = some y ∧ EQ h n x y) (l : xs.length < 1000000) : EQ h (n + 1) (.ref r) (.ref q) := by
  refine .inl ⟨xs, ys, e1, e2, ?_, l, fun k x y c d => ?_⟩
  · rcases Nat.lt_trichotomy xs.length ys.length with z | z | z
    · rcases a xs.length with ⟨c, d⟩ | ⟨x, y, c, d, _⟩
      · exact absurd (List.getElem?_eq_none_iff.1 d) (by omega)
      · exact absurd (List.getElem?_eq_some_iff.1 c).1 (by omega)
    · exact z
    · rcases a ys.length with ⟨c, d⟩ | ⟨x, y, c, d, _⟩
      · exact absurd (List.getElem?_eq_none_iff.1 c) (by omega)
      · exact absurd (List.getElem?_eq_some_iff.1 d).1 (by omega)
  · rcases a k with ⟨c', d'⟩ | ⟨x', y', c', d', z⟩
    · rw [c'] at c; exact nomatch c
    · rw [c] at c'; rw [d] at d'
      obtain rfl : x = x' := by simpa using c'
      obtain rfl : y = y' := by simpa using d'
      exact z
end Itp

/-! ItZg: walks turn by turn; items of nice data. -/
namespace Itp
open PySem (Str PyData)
section
variable {w : Wk} {tg : Tg} {body : En → IH → RS} {n k : Nat} {s s1 s2 : En} {h h2 : IH} {x v : IV} {c : Nat}
theorem walk_end (e : w.nxt k h = some none) : walk w tg body (n + 1) k s h = .nx s h := by
  rw [walk, e]
theorem walk_nx (e : w.nxt k h = some (some x)) (e1 : asg tg x s h = some s1) (e2 : body s1 h = .nx s2 h2) : walk w tg body (n + 1) k s h = walk w tg body n (k + 1) s2 h2 := by
  rw [walk, e]; simp only [e1, e2]
theorem walk_ct (e : w.nxt k h = some (some x)) (e1 : asg tg x s h = some s1) (e2 : body s1 h = .ct s2 h2) : walk w tg body (n + 1) k s h = walk w tg body n (k + 1) s2 h2 := by
  rw [walk, e]; simp only [e1, e2]
theorem walk_ex (e : w.nxt k h = some (some x)) (e1 : asg tg x s h = some s1) (e2 : body s1 h = .ex c v s2 h2) : walk w tg body (n + 1) k s h = .ex c v s2 h2 := by
  rw [walk, e]; simp only [e1, e2]
theorem walk_rt (e : w.nxt k h = some (some x)) (e1 : asg tg x s h = some s1) (e2 : body s1 h = .rt v h2) : walk w tg body (n + 1) k s h = .rt v h2 := by
  rw [walk, e]; simp only [e1, e2]
theorem walk_bk (e : w.nxt k h = some (some x)) (e1 : asg tg x s h = some s1) (e2 : body s1 h = .bk s2 h2) : walk w tg body (n + 1) k s h = .nx s2 h2 := by
  rw [walk, e]; simp only [e1, e2]
end
theorem bools_m {α : Type} (f : α → Bool) (l : List α) : bools (l.map fun x => IV.bl (f x)) = some (l.map f) := by
  induction l with
  | nil => rfl
  | cons a l ih => simp [bools, ih]
theorem flt_t {α : Type} {xs : List α} : xs.filter (fun _ => true) = xs := by simp
theorem flt_f {α : Type} {xs : List α} : xs.filter (fun _ => false) = [] := by simp
theorem nv_items {b m : Nat} {h : IH} {v : IV} {xs : List IV} (N : NV b h (m + 1) v) (e : items v h = some xs) : v = .tup xs ∨ ∃ r, v = .ref r ∧ h[r]? = some (.lst xs) := by
  cases v with
  | tup ys => exact .inl (by simp [items] at e; rw [e])
  | ref r =>
    refine .inr ⟨r, rfl, ?_⟩
    simp only [items] at e
    split at e
    · next q => simp at e; rw [q, e]
    · exact nomatch e
  | frz _ => exact N.elim
  | _ => exact nomatch e
theorem nv_mem {b m : Nat} {h : IH} {v : IV} {xs : List IV} (N : NV b h (m + 1) v) (e : items v h = some xs) : xs.length < 1000000 ∧ ∀ x ∈ xs, NV b h m x := by
  rcases nv_items N e with rfl | ⟨r, rfl, er⟩
  · exact N
  · rcases N with ⟨_, ⟨ys, e2, l, a⟩ | e2⟩
    · rw [er] at e2
      simp at e2
      rw [e2]
      exact ⟨l, a⟩
    · rw [er] at e2; simp at e2
theorem nv_items_gr {b m : Nat} {h h' : IH} {v : IV} (N : NV b h (m + 1) v) (g : Gr h h') : items v h' = items v h := by
  cases v with
  | ref r =>
    rcases N with ⟨_, ⟨ys, e2, l, a⟩ | e2⟩
    · simp only [items, g.at e2, e2]
    · simp only [items, g.at e2, e2]
  | _ => rfl
end Itp

/-! ItZh: reading through changes of the heap. -/
namespace Itp
open PySem (Str PyData)
/-! parts of a text -/
def IB.nth : IB → Nat → IS
  | .nil, _ => .pas
  | .cons s _, 0 => s
  | .cons _ b, n + 1 => b.nth n
def IS.b1 : IS → IB
  | .for_ _ _ b => b
  | .whl _ b => b
  | .if_ _ a _ => a
  | .try_ b _ => b
  | _ => .nil
def IS.b2 : IS → IB
  | .if_ _ _ b => b
  | _ => .nil
def IS.e1 : IS → IE
  | .set _ e => e
  | .ret e => e
  | .expr e => e
  | _ => .lit .non
def IS.q1 : IS → IQ
  | .if_ t _ _ => t
  | .whl t _ => t
  | _ => .and .nil
theorem Fr.rd {b k : Nat} {h h' : IH} (f : Fr b k h h') {r : Nat} (l : r < h.length) (n : r ≠ b) : h'[r]? = h[r]? := f.old r l n
theorem Gr.rd {h h' : IH} (g : Gr h h') {r : Nat} (l : r < h.length) : h'[r]? = h[r]? := by
  obtain ⟨t, rfl⟩ := g
  exact g_app l
theorem FrX.rd {S : List Nat} {h h' : IH} (f : FrX S h h') {r : Nat} (l : r < h.length) (n : r ∉ S) : h'[r]? = h[r]? := f.old r l n
theorem bm_pop1 {r : Nat} {i : Int} {xs : List IV} {y : IV} {h : IH} (e : h[r]? = some (.lst xs)) (i0 : 0 ≤ i) (i1 : i < xs.length) (l : xs.length ≤ 16777216) (ey : xs[i.toNat]? = some y) : bmF .pop (.ref r) [.int i] h = .ok y (h.set r (.lst (xs.eraseIdx i.toNat))) := by
  have : nIx xs.length i = some i.toNat := nIx_p i0 i1
  simp only [bmF, e, bmL, this, ey]
  exact if_pos l
theorem bm_pop0 {r : Nat} {xs : List IV} {y : IV} {h : IH} (e : h[r]? = some (.lst xs)) (ey : xs.getLast? = some y) : bmF .pop (.ref r) [] h = .ok y (h.set r (.lst xs.dropLast)) := by
  simp only [bmF, e, bmL, ey]
theorem Fr.setB {b k : Nat} {h h' : IH} {r : Nat} {o : IO} (f : Fr b k h h') (l : h.length ≤ r) (n : b < h.length) : Fr b k h (h'.set r o) := f.set l (by omega)
theorem Fr.trS {b K j : Nat} {h h1 h2 : IH} (x : Fr b (K - j) h h1) (y : Fr b j h1 h2) (l : j ≤ K) : Fr b K h h2 := (x.tr y).mono (by omega)
theorem Fr.reflS {b K : Nat} {h : IH} : Fr b K h h := Fr.refl.mono (Nat.zero_le _)
theorem Fr.trG {b K : Nat} {h h1 h2 : IH} (x : Fr b K h h1) (y : Gr h1 h2) : Fr b K h h2 := x.tr y.fr
theorem Fr.boxS {b M k : Nat} {h h' : IH} (f : Fr b k h h') (x : Bx (M - k) h b) (l : k ≤ M) : Bx M h' b := (f.box _ x).mono (by omega)
theorem Fr.fxg {b k : Nat} {h h' h2 : IH} (f : Fr b k h h') (x : FrX [] h' h2) (lb : b < h.length) : Fr b k h h2 := by
  refine ⟨Nat.le_trans f.le x.le, fun r l n => ?_, fun N B => x.bx (f.box N B) (by simp)⟩
  rw [x.old r (Nat.lt_of_lt_of_le l f.le) (by simp), f.old r l n]
/-- a comprehension whose items are drawn -/
theorem drawC {w : Wk} {tg : Tg} {s : En} {test : En → IH → R Bool} {elt : En → IH → R IV} {xs : List IV} {b c : Nat} {h : IH} {Q : Unit → IH → Prop} (P : IV → IH → Prop)
    (hl : xs.length < 16777216) (bl : b < h.length) (hw : ∀ h' : IH, h.length < h'.length → (∀ r, r < h.length → r ≠ b → h'[r]? = h[r]?) → w.has xs h')
    (mo : ∀ y h1 h2, h.length < h1.length → P y h1 → FrX [b, h.length] h1 h2 → P y h2)
    (st : ∀ j x h', xs[j]? = some x → h.length < h'.length → Fr b (c * j) h h' → ∃ s1, asg tg x s h' = some s1 ∧ test s1 h' = .ok true h' ∧ W (elt s1 h') fun y h2 => P y h2 ∧ Fr b c h' h2)
    (k : ∀ acc h', h'[h.length]? = some (.lst acc) → acc.length = xs.length → (∀ y ∈ acc, P y h') → h.length < h'.length → Fr b (c * xs.length) h h' → Q () h') :
    W (colle w tg s test elt h.length FU 0 (h ++ [.lst []])) Q := by
  refine colleW (xs := xs) (fun j acc h' => h'[h.length]? = some (.lst acc) ∧ acc.length = j ∧ (∀ y ∈ acc, P y h') ∧ h.length < h'.length ∧ Fr b (c * j) h h') hl ?_ ⟨g_new, rfl, by simp, by simp, Gr.app.fr.mono (Nat.zero_le _)⟩ ?_ ?_
  · rintro j acc h' ⟨_, _, _, l, f⟩
    exact hw h' l fun r lr nb => f.old r lr nb
  · rintro j x acc h' ex ⟨e, la, pa, l, f⟩
    obtain ⟨s1, a1, t1, w1⟩ := st j x h' ex l f
    refine ⟨s1, a1, W.of t1 ⟨(fun z => nomatch z), fun _ => W.th w1 ?_⟩⟩
    rintro y h2 ⟨py, f2⟩
    have n : h.length ≠ b := by omega
    have l2 : h.length < h2.length := Nat.lt_of_lt_of_le l f2.le
    have fx : FrX [b, h.length] h2 (h2.set h.length (.lst (acc ++ [y]))) := FrX.refl.set (by simp)
    refine ⟨f2.at e n, g_set l2, by simp [la], ?_, by simpa using l2, ?_⟩
    · intro z mz
      rcases List.mem_append.1 mz with m | m
      · exact mo z _ _ l2 (mo z _ _ l (pa z m) (f2.fx (by simp))) fx
      · rw [List.mem_singleton.1 m]
        exact mo y _ _ l2 py fx
    · exact (f.tr f2).set (Nat.le_refl _) n
  · rintro acc h' ⟨e, la, pa, l, f⟩
    exact k acc h' e la pa l f
/-- a block, statement by statement -/
theorem WS.step {G : Sg} {cs : CF} {m : Bool} {st : IS} {b : IB} {s : En} {h : IH} {Q : RS → Prop} (P : En → IH → Prop) (w : WS (evS G cs m st s h) fun r => ∃ s' h', r = .nx s' h' ∧ P s' h') (k : ∀ s' h', P s' h' → WS (evB G cs m b s' h') Q) : WS (evB G cs m (.cons st b) s h) Q := by
  have e : evB G cs m (.cons st b) s h = RS.seq (evS G cs m st s h) fun s h => evB G cs m b s h := rfl
  rw [e]
  generalize evS G cs m st s h = r at w
  cases w with
  | nx q =>
    obtain ⟨s', h', e, p⟩ := q
    cases e
    exact k _ _ p
  | rt q => obtain ⟨_, _, e, _⟩ := q; exact nomatch e
  | bk q => obtain ⟨_, _, e, _⟩ := q; exact nomatch e
  | ct q => obtain ⟨_, _, e, _⟩ := q; exact nomatch e
theorem WS.one {G : Sg} {cs : CF} {m : Bool} {st : IS} {s : En} {h : IH} {Q : RS → Prop} (w : WS (evB G cs m (.cons st .nil) s h) Q) : WS (evS G cs m st s h) Q := by
  have e : evB G cs m (.cons st .nil) s h = RS.seq (evS G cs m st s h) fun s h => .nx s h := rfl
  rw [e] at w
  cases r : evS G cs m st s h <;> rw [r] at w <;> exact w
theorem W.fin {r : RS} {Q : IV → IH → Prop} (w : WS r (fnQ Q)) : W (fin r) Q := by
  show @Wh IV (Itp.fin r) ⟨Q⟩
  rw [W_fin]
  exact w
end Itp

/-! ItZi: plain values, equal lists. -/
namespace Itp
open PySem (Str PyData)
/-- no object in it -/
def plV : Nat → IV → Bool
  | 0, _ => false
  | n + 1, v => match v with
    | .non => true
    | .bl _ => true
    | .int _ => true
    | .str x => PyData.strOk x
    | .tup xs => xs.all (plV n)
    | _ => false
theorem plL {n : Nat} (ih : ∀ v, plV n v = true → ∃ d, (∀ h, dat h n v = some d) ∧ d.canLay0 = true ∧ d.depth ≤ n) : ∀ {xs : List IV}, xs.all (plV n) = true → ∃ ds, (∀ h, datL (dat h n) xs = some ds) ∧ PyData.canLayAll0 ds = true ∧ PyData.depthAll ds ≤ n
  | [], _ => ⟨[], fun _ => rfl, by simp [PyData.canLayAll0], by simp [PyData.depthAll]⟩
  | x :: xs, e => by
    rw [List.all_cons, Bool.and_eq_true] at e
    obtain ⟨d, h1, h2, h3⟩ := ih x e.1
    obtain ⟨ds, k1, k2, k3⟩ := plL ih e.2
    refine ⟨d :: ds, fun h => by rw [datL, h1, k1]; rfl, by simp [PyData.canLayAll0, h2, k2], ?_⟩
    rw [PyData.depthAll]
    omega
theorem plV_dat : ∀ {n : Nat} {v : IV}, plV n v = true → ∃ d, (∀ h, dat h n v = some d) ∧ d.canLay0 = true ∧ d.depth ≤ n
  | 0, _, e => nomatch e
  | n + 1, v, e => by
    cases v with
    | non => exact ⟨.none, fun _ => rfl, by simp [PyData.canLay0], by simp [PyData.depth]⟩
    | bl b => exact ⟨.bool b, fun _ => rfl, by simp [PyData.canLay0], by simp [PyData.depth]⟩
    | int i => exact ⟨.int i, fun _ => rfl, by simp [PyData.canLay0], by simp [PyData.depth]⟩
    | str x => exact ⟨.str x, fun _ => rfl, by rw [PyData.canLay0]; exact e, by simp [PyData.depth]⟩
    | tup xs =>
      obtain ⟨ds, k1, k2, k3⟩ := plL (fun v e => plV_dat e) (show xs.all (plV n) = true from e)
      exact ⟨.tuple ds, fun h => by show (datL (dat h n) xs).map PyData.tuple = _; rw [k1]; rfl, by simpa [PyData.canLay0] using k2, by rw [PyData.depth]; omega⟩
    | frz _ => exact nomatch e
    | ref _ => exact nomatch e
theorem eq_same {h : IH} {r q : Nat} {xs : List IV} (e1 : h[r]? = some (.lst xs)) (e2 : h[q]? = some (.lst xs)) (p : xs.all (plV 29) = true) : eqI (.ref r) (.ref q) h = some true := by
  obtain ⟨ds, k1, k2, k3⟩ := plL (fun v e => plV_dat e) p
  have cl : (PyData.list ds).canLay0 = true := by simpa [PyData.canLay0] using k2
  have sh : PySem.SeqAt.shaped (.list ds) = true := by
    unfold PySem.SeqAt.shaped
    rw [cl, decide_eq_true (by rw [PyData.depth]; omega)]; rfl
  have d1 : ∀ {r : Nat}, h[r]? = some (.lst xs) → dat h DP (.ref r) = some (.list ds) := fun {r} e => by
    show dat h (29 + 1) (.ref r) = _
    rw [dat_lst e, k1]; rfl
  rw [eqI_of (d1 e1) (d1 e2) sh sh, PySem.SeqAt.eqv_refl _ cl]
theorem NV_pl {b : Nat} {h : IH} : ∀ {n : Nat} {v : IV}, plV n v = true → (∀ xs, v = .tup xs → xs.length < 1000000) → (∀ xs, v ≠ .tup xs) → NV b h n v
  | 0, _, e, _, _ => nomatch e
  | n + 1, v, e, l, nt => by
    cases v with
    | tup xs => exact (nt xs rfl).elim
    | str x => exact e
    | frz _ => exact nomatch e
    | ref _ => exact nomatch e
    | non => trivial
    | bl _ => trivial
    | int _ => trivial
/-- two lists of two -/
theorem EQ.two {h : IH} {n r q : Nat} {x1 x2 y1 y2 : IV} (e1 : h[r]? = some (.lst [x1, x2])) (e2 : h[q]? = some (.lst [y1, y2])) (a : EQ h n x1 y1) (b : EQ h n x2 y2) : EQ h (n + 1) (.ref r) (.ref q) := by
  refine EQ.lst e1 e2 (fun i => ?_) (by simp)
  match i with
  | 0 => exact .inr ⟨_, _, rfl, rfl, a⟩
  | 1 => exact .inr ⟨_, _, rfl, rfl, b⟩
  | i + 2 => exact .inl ⟨rfl, rfl⟩
theorem EQ.str {h : IH} {n : Nat} {a : Str} (o : PyData.strOk a = true) : EQ h (n + 1) (.str a) (.str a) := ⟨rfl, o⟩
theorem EQ.bl {h : IH} {n : Nat} {a : Bool} : EQ h (n + 1) (.bl a) (.bl a) := rfl
theorem EQ.int {h : IH} {n : Nat} {a : Int} : EQ h (n + 1) (.int a) (.int a) := rfl
theorem it_ref {h : IH} {r : Nat} {xs : List IV} (e : h[r]? = some (.lst xs)) : items (.ref r) h = some xs := by simp only [items, e]
end Itp

/-! ItZj: displays whose items all are of a kind. -/
namespace Itp
open PySem (Str PyData)
def hidL (es : IA) : IE := .lst es
theorem hidL_5 {a b c d e : IE} {r : IA} : IE.lst (.cons a (.cons b (.cons c (.cons d (.cons e r))))) = hidL (.cons a (.cons b (.cons c (.cons d (.cons e r))))) := rfl
section
variable {G : Sg} {m : Bool} {cs : CF} {s : En}
/-- each item's run gives a P -/
def evP (G : Sg) (m : Bool) (cs : CF) (s : En) (P : IV → IH → Prop) (h : IH) : IA → Prop
  | .nil => True
  | .cons e es => (∀ h1, Gr h h1 → W (evE G m cs e s h1) fun x h2 => P x h2 ∧ Gr h1 h2) ∧ evP G m cs s P h es
def IA.ln : IA → Nat
  | .nil => 0
  | .cons _ es => es.ln + 1
theorem evA_all {P : IV → IH → Prop} (mo : ∀ x h1 h2, P x h1 → Gr h1 h2 → P x h2) {h : IH} : ∀ {es : IA}, evP G m cs s P h es → ∀ h1, Gr h h1 → W (evA G m cs es s h1) fun xs h2 => (∀ x ∈ xs, P x h2) ∧ xs.length = es.ln ∧ Gr h1 h2
  | .nil, _, h1, _ => .ok ⟨by simp, rfl, .rfl⟩
  | .cons e es, p, h1, g => by
    obtain ⟨x, h2, e1, p1, g1⟩ := (p.1 h1 g).ex
    obtain ⟨xs, h3, e2, p2, l2, g2⟩ := (evA_all mo p.2 h2 (g.tr g1)).ex
    have : evA G m cs (.cons e es) s h1 = .ok (x :: xs) h3 := by
      show (evE G m cs e s h1).bind (fun x h => (evA G m cs es s h).bind fun xs h => .ok (x :: xs) h) = _
      rw [e1]
      show (evA G m cs es s h2).bind _ = _
      rw [e2]
      rfl
    refine W.of this ⟨fun y my => ?_, by simp [IA.ln, l2], g1.tr g2⟩
    rcases List.mem_cons.1 my with rfl | my
    · exact mo _ _ _ p1 g2
    · exact p2 y my
theorem lstW {P : IV → IH → Prop} (mo : ∀ x h1 h2, P x h1 → Gr h1 h2 → P x h2) {h : IH} {es : IA} (l : es.ln ≤ 16777216) (p : evP G m cs s P h es) : W (evE G m cs (hidL es) s h) fun v h' => ∃ ys, v = .ref (h'.length - 1) ∧ h'[h'.length - 1]? = some (.lst ys) ∧ h.length < h'.length ∧ ys.length = es.ln ∧ (∀ y ∈ ys, P y h') ∧ Gr h h' := by
  obtain ⟨xs, h2, e2, p2, l2, g2⟩ := (evA_all mo p h .rfl).ex
  have : evE G m cs (hidL es) s h = .ok (.ref h2.length) (h2 ++ [.lst xs]) := by
    show (evA G m cs es s h).bind (fun vs h => if vs.length ≤ LN then R.ok (IV.ref h.length) (h ++ [.lst vs]) else .no) = _
    rw [e2]
    exact if_pos (by rw [l2]; exact l)
  have z : (h2 ++ [IO.lst xs]).length - 1 = h2.length := by simp
  refine W.of this ⟨xs, by rw [z], by rw [z]; exact g_new, by have := g2.le; simp; omega, l2, fun y m => mo _ _ _ (p2 y m) .app, g2.tr .app⟩
end
theorem cut_mem {α : Type} {xs : List α} {lo hi : Option Int} {x : α} (m : x ∈ cut xs lo hi) : x ∈ xs := List.mem_of_mem_drop (List.mem_of_mem_take m)
theorem cut_le {α : Type} {xs : List α} {lo hi : Option Int} : (cut xs lo hi).length ≤ xs.length := by
  unfold cut
  rw [List.length_take, List.length_drop]
  omega
end Itp

namespace Lw
open PySem PySem.Spec PyProof.Rows L2 Itp
/-- is_whole -/
def d0 : DefI := ⟨1, 1, (.cons (.ret (.and (.cons (.isi (.var 0) [.int]) (.cons (.not (.isi (.var 0) [.bool])) .nil))))
   .nil)⟩
/-- is_from_to -/
def d1 : DefI := ⟨3, 3, (.cons (.ret (.and (.cons (.call 0 (.cons (.var 0) .nil) .nil []) (.cons (.chn .le .le (.var 1) (.var 0) (.var 2)) .nil))))
   .nil)⟩
/-- is_count -/
def d2 : DefI := ⟨1, 1, (.cons (.ret (.and (.cons (.call 0 (.cons (.var 0) .nil) .nil []) (.cons (.cmp .ge (.var 0) (.lit (.int 0))) .nil))))
   .nil)⟩
/-- is_listed -/
def d3 : DefI := ⟨1, 1, (.cons (.ret (.isi (.var 0) [.list, .tuple]))
   .nil)⟩
/-- are_counts -/
def d4 : DefI := ⟨1, 2, (.cons (.ret (.and (.cons (.call 3 (.cons (.var 0) .nil) .nil []) (.cons (.bi .all (.cons (.lc (.nm 1) (.val (.var 0)) .nil (.call 2 (.cons (.var 1) .nil) .nil [])) .nil)) .nil))))
   .nil)⟩
/-- check_staff -/
def d5 : DefI := ⟨2, 2, (.cons (.if_ (.or (.cons (.not (.val (.call 4 (.cons (.var 0) .nil) .nil []))) (.cons (.not (.chn .le .le (.lit (.int 1)) (.bi .len (.cons (.var 0) .nil)) (.glo 0))) (.cons (.cmp .gt (.bi .max (.cons (.var 0) .nil)) (.glo 1)) .nil)))) (.cons (.rse 2 (.cons (.var 0) .nil))
   .nil) .nil)
   (.cons (.if_ (.not (.val (.call 1 (.cons (.var 1) (.cons (.lit (.int 1)) (.cons (.bi .len (.cons (.var 0) .nil)) .nil))) .nil []))) (.cons (.rse 3 (.cons (.var 1) .nil))
   .nil) .nil)
   .nil))⟩
/-- ways_of -/
def d6 : DefI := ⟨3, 9, (.cons (.par [3, 4] (.cons (.bi .len (.cons (.var 0) .nil)) (.cons (.lst .nil) .nil)))
   (.cons (.for_ (.tp [5, 6]) (.enm (.var 0)) (.cons (.par [7, 8] (.cons (.bi .int (.cons (.cmp .eq (.var 5) (.lit (.int 0))) .nil)) (.cons (.bi .int (.cons (.cmp .lt (.var 5) (.var 1)) .nil)) .nil)))
   (.cons (.expr (.bm .append (.var 4) (.cons (.tup (.cons (.bin .mod (.bin .sub (.var 5) (.lit (.int 1))) (.var 3)) (.cons (.var 5) (.cons (.bin .mul (.neg (.var 2)) (.var 7)) (.cons (.var 7) (.cons (.lit (.bl false)) .nil)))))) .nil)))
   (.cons (.expr (.bm .append (.var 4) (.cons (.tup (.cons (.bin .mod (.bin .sub (.var 5) (.var 1)) (.var 3)) (.cons (.var 5) (.cons (.bin .sub (.var 6) (.bin .mul (.var 2) (.var 8))) (.cons (.var 8) (.cons (.lit (.bl true)) .nil)))))) .nil)))
   .nil))))
   (.cons (.ret (.var 4))
   .nil)))⟩
/-- raised -/
def d7 : DefI := ⟨2, 7, (.cons (.par [2, 3, 4] (.cons (.bin .mul (.lst (.cons (.lit (.int 0)) .nil)) (.var 0)) (.cons (.bin .mul (.lst (.cons (.lit .non) .nil)) (.var 0)) (.cons (.lit .non) .nil))))
   (.cons (.for_ (.nm 5) (.rng (.cons (.var 0) .nil)) (.cons (.set (.nm 4) (.lit .non))
   (.cons (.for_ (.nm 6) (.val (.var 1)) (.cons (.if_ (.cmp .gt (.bin .add (.idx (.var 2) (.idx (.var 6) (.lit (.int 0)))) (.idx (.var 6) (.lit (.int 2)))) (.idx (.var 2) (.idx (.var 6) (.lit (.int 1))))) (.cons (.iset (.var 2) (.idx (.var 6) (.lit (.int 1))) (.bin .add (.idx (.var 2) (.idx (.var 6) (.lit (.int 0)))) (.idx (.var 6) (.lit (.int 2)))))
   (.cons (.iset (.var 3) (.idx (.var 6) (.lit (.int 1))) (.var 6))
   (.cons (.set (.nm 4) (.idx (.var 6) (.lit (.int 1))))
   .nil))) .nil)
   .nil))
   (.cons (.if_ (.cmp .is_ (.var 4) (.lit .non)) (.cons (.ret (.tup (.cons (.var 2) (.cons (.var 3) (.cons (.lit .non) .nil)))))
   .nil) .nil)
   .nil))))
   (.cons (.ret (.tup (.cons (.var 2) (.cons (.var 3) (.cons (.var 4) .nil)))))
   .nil)))⟩
/-- ring_by -/
def d8 : DefI := ⟨2, 6, (.cons (.set (.nm 2) (.var 1))
   (.cons (.for_ (.nm 3) (.val (.var 0)) (.cons (.set (.nm 2) (.idx (.idx (.var 0) (.var 2)) (.lit (.int 0))))
   .nil))
   (.cons (.par [4, 5] (.cons (.lst (.cons (.idx (.var 0) (.var 2)) .nil)) (.cons (.idx (.idx (.var 0) (.var 2)) (.lit (.int 0))) .nil)))
   (.cons (.whl (.cmp .ne (.var 5) (.var 2)) (.cons (.expr (.bm .append (.var 4) (.cons (.idx (.var 0) (.var 5)) .nil)))
   (.cons (.set (.nm 5) (.idx (.idx (.var 0) (.var 5)) (.lit (.int 0))))
   .nil)))
   (.cons (.ret (.rev (.var 4)))
   .nil)))))⟩
/-- starts_by -/
def d9 : DefI := ⟨2, 4, (.cons (.ret (.lc (.tp [2, 3]) (.enm (.var 0)) .nil (.bin .add (.bin .sub (.var 3) (.idx (.var 0) (.bin .sub (.var 2) (.lit (.int 1))))) (.bin .mul (.var 1) (.bi .int (.cons (.cmp .eq (.var 2) (.lit (.int 0))) .nil))))))
   .nil)⟩
/-- people_at -/
def d10 : DefI := ⟨3, 6, (.cons (.set (.tp [3, 4, 5]) (.call 7 (.cons (.bi .len (.cons (.var 0) .nil)) (.cons (.call 6 (.cons (.var 0) (.cons (.var 1) (.cons (.var 2) .nil))) .nil []) .nil)) .nil []))
   (.cons (.ret (.ife (.cmp .isn (.var 5) (.lit .non)) (.lit .non) (.call 9 (.cons (.var 3) (.cons (.var 2) .nil)) .nil [])))
   .nil))⟩
/-- paper_at -/
def d11 : DefI := ⟨3, 13, (.cons (.set (.tp [3, 4, 5]) (.call 7 (.cons (.bi .len (.cons (.var 0) .nil)) (.cons (.call 6 (.cons (.var 0) (.cons (.var 1) (.cons (.var 2) .nil))) .nil []) .nil)) .nil []))
   (.cons (.if_ (.cmp .is_ (.var 5) (.lit .non)) (.cons (.ret (.lit .non))
   .nil) .nil)
   (.cons (.set (.nm 6) (.call 8 (.cons (.var 4) (.cons (.var 5) .nil)) .nil []))
   (.cons (.ret (.tup (.cons (.bi .sum (.cons (.lc (.tp [7, 8, 9, 10, 11]) (.val (.var 6)) .nil (.var 10)) .nil)) (.cons (.lc (.nm 12) (.val (.var 6)) (.cons (.val (.idx (.var 12) (.lit (.int 4)))) .nil) (.idx (.var 12) (.lit (.int 1)))) .nil))))
   .nil))))⟩
/-- least_many -/
def d12 : DefI := ⟨2, 5, (.cons (.par [2, 3] (.cons (.bin .sub (.bi .max (.cons (.var 0) .nil)) (.lit (.int 1))) (.cons (.bi .sum (.cons (.var 0) .nil)) .nil)))
   (.cons (.whl (.cmp .gt (.bin .sub (.var 3) (.var 2)) (.lit (.int 1))) (.cons (.set (.nm 4) (.bin .fdiv (.bin .add (.var 2) (.var 3)) (.lit (.int 2))))
   (.cons (.set (.tp [2, 3]) (.ife (.cmp .is_ (.call 10 (.cons (.var 0) (.cons (.var 1) (.cons (.var 4) .nil))) .nil []) (.lit .non)) (.tup (.cons (.var 4) (.cons (.var 3) .nil))) (.tup (.cons (.var 2) (.cons (.var 4) .nil)))))
   .nil)))
   (.cons (.ret (.bi .max (.cons (.var 3) (.cons (.lit (.int 0)) .nil))))
   .nil)))⟩
/-- staff -/
def d13 : DefI := ⟨2, 3, (.cons (.expr (.call 5 (.cons (.var 0) (.cons (.var 1) .nil)) .nil []))
   (.cons (.set (.nm 2) (.call 12 (.cons (.var 0) (.cons (.var 1) .nil)) .nil []))
   (.cons (.ret (.tup (.cons (.var 2) (.cons (.call 9 (.cons (.idx (.call 7 (.cons (.bi .len (.cons (.var 0) .nil)) (.cons (.call 6 (.cons (.var 0) (.cons (.var 1) (.cons (.var 2) .nil))) .nil []) .nil)) .nil []) (.lit (.int 0))) (.cons (.var 2) .nil)) .nil []) .nil))))
   .nil)))⟩
/-- check_many -/
def d14 : DefI := ⟨3, 3, (.cons (.expr (.call 5 (.cons (.var 0) (.cons (.var 1) .nil)) .nil []))
   (.cons (.if_ (.not (.val (.call 1 (.cons (.var 2) (.cons (.lit (.int 0)) (.cons (.glo 2) .nil))) .nil []))) (.cons (.rse 1 (.cons (.var 2) .nil))
   .nil) .nil)
   .nil))⟩
/-- staff_of -/
def d15 : DefI := ⟨3, 3, (.cons (.expr (.call 14 (.cons (.var 0) (.cons (.var 1) (.cons (.var 2) .nil))) .nil []))
   (.cons (.ret (.call 10 (.cons (.var 0) (.cons (.var 1) (.cons (.var 2) .nil))) .nil []))
   .nil))⟩
/-- round_ring -/
def d16 : DefI := ⟨3, 3, (.cons (.expr (.call 14 (.cons (.var 0) (.cons (.var 1) (.cons (.var 2) .nil))) .nil []))
   (.cons (.ret (.call 11 (.cons (.var 0) (.cons (.var 1) (.cons (.var 2) .nil))) .nil []))
   .nil))⟩
/-- _law_cell -/
def d17 : DefI := ⟨2, 2, (.cons (.ret (.ife (.cmp .lt (.var 1) (.bi .len (.cons (.var 0) .nil))) (.idx (.var 0) (.var 1)) (.bin .add (.bin .mul (.lit (.int 6089)) (.var 1)) (.bin .mod (.bi .int (.cons (.bi .sum (.cons (.sl (.var 0) .no (.so (.lit (.int 1)))) .nil)) .nil)) (.lit (.int 1000033))))))
   .nil)⟩
/-- _law_box -/
def d18 : DefI := ⟨1, 1, (.cons (.ret (.lst (.cons (.bi .abs (.cons (.var 0) .nil)) (.cons (.cmp .ge (.bi .abs (.cons (.var 0) .nil)) (.bin .pow (.lit (.int 10)) (.lit (.int 18)))) (.cons (.bin .mod (.bi .int (.cons (.bi .abs (.cons (.var 0) .nil)) .nil)) (.lit (.int 2147483629))) (.cons (.lit (.int 0)) .nil))))))
   .nil)⟩
/-- _law_take -/
def d19 : DefI := ⟨2, 4, (.cons (.if_ (.and (.cons (.val (.idx (.var 0) (.lit (.int 1)))) (.cons (.cmp .gt (.idx (.var 0) (.lit (.int 0))) (.lit (.int 0))) .nil))) (.cons (.set (.nm 2) (.bin .mod (.bi .int (.cons (.idx (.var 0) (.lit (.int 0))) .nil)) (.var 1)))
   (.cons (.iset (.var 0) (.lit (.int 0)) (.bin .fdiv (.idx (.var 0) (.lit (.int 0))) (.var 1)))
   (.cons (.ret (.var 2))
   .nil))) .nil)
   (.cons (.iset (.var 0) (.lit (.int 3)) (.bin .add (.idx (.var 0) (.lit (.int 3))) (.lit (.int 1))))
   (.cons (.set (.nm 3) (.bin .mod (.bi .int (.cons (.bin .pow (.bin .add (.bin .add (.idx (.var 0) (.lit (.int 2))) (.bin .mul (.lit (.int 15485863)) (.idx (.var 0) (.lit (.int 3))))) (.lit (.int 179424673))) (.lit (.int 5))) .nil)) (.lit (.int 2147483647))))
   (.cons (.ret (.bin .mod (.bi .int (.cons (.bin .fdiv (.bin .mod (.bi .int (.cons (.bin .pow (.bin .add (.bin .mul (.var 3) (.lit (.int 48271))) (.bin .mul (.lit (.int 104729)) (.idx (.var 0) (.lit (.int 3))))) (.lit (.int 3))) .nil)) (.lit (.int 2147483587))) (.lit (.int 64))) .nil)) (.var 1)))
   .nil))))⟩
/-- _law_same -/
def d20 : DefI := ⟨2, 3, (.cons (.if_ (.or (.cons (.cmp .is_ (.var 1) (.lit .non)) (.cons (.val (.isi (.var 1) [.bool])) .nil))) (.cons (.ret (.ife (.cmp .is_ (.var 1) (.lit .non)) (.cmp .is_ (.var 0) (.lit .non)) (.and (.cons (.isi (.var 0) [.bool]) (.cons (.cmp .eq (.cmp .is_ (.var 0) (.lit (.bl true))) (.cmp .is_ (.var 1) (.lit (.bl true)))) .nil)))))
   .nil) .nil)
   (.cons (.if_ (.val (.isi (.var 1) [.int])) (.cons (.ret (.and (.cons (.isi (.var 0) [.int]) (.cons (.not (.isi (.var 0) [.bool])) (.cons (.cmp .eq (.bin .sub (.bi .int (.cons (.var 0) .nil)) (.var 1)) (.lit (.int 0))) .nil)))))
   .nil) .nil)
   (.cons (.if_ (.val (.isi (.var 1) [.str])) (.cons (.ret (.and (.cons (.isi (.var 0) [.str]) (.cons (.cmp .eq (.bi .len (.cons (.var 0) .nil)) (.bi .len (.cons (.var 1) .nil))) (.cons (.cmp .eq (.lc (.nm 2) (.rng (.cons (.bi .len (.cons (.var 1) .nil)) .nil)) (.cons (.cmp .ne (.sl (.var 0) (.so (.var 2)) (.so (.bin .add (.var 2) (.lit (.int 1))))) (.idx (.var 1) (.var 2))) .nil) (.var 2)) (.lst .nil)) .nil)))))
   .nil) .nil)
   (.cons (.if_ (.or (.cons (.cmp .ne (.isi (.var 0) [.list]) (.isi (.var 1) [.list])) (.cons (.cmp .ne (.isi (.var 0) [.tuple]) (.isi (.var 1) [.tuple])) .nil))) (.cons (.ret (.lit (.bl false)))
   .nil) .nil)
   (.cons (.ret (.and (.cons (.cmp .eq (.bi .len (.cons (.var 0) .nil)) (.bi .len (.cons (.var 1) .nil))) (.cons (.cmp .eq (.lc (.nm 2) (.rng (.cons (.bi .len (.cons (.var 1) .nil)) .nil)) (.cons (.not (.val (.call 20 (.cons (.idx (.var 0) (.var 2)) (.cons (.idx (.var 1) (.var 2)) .nil)) .nil []))) .nil) (.var 2)) (.lst .nil)) .nil))))
   .nil)))))⟩
/-- _law_very -/
def d21 : DefI := ⟨2, 3, (.cons (.if_ (.val (.isi (.var 1) [.list])) (.cons (.expr (.bm .append (.var 1) (.cons (.lit (.str "grown")) .nil)))
   (.cons (.ret (.and (.cons (.isi (.var 0) [.list]) (.cons (.cmp .eq (.bi .len (.cons (.var 0) .nil)) (.bi .len (.cons (.var 1) .nil))) (.cons (.isi (.idx (.var 0) (.neg (.lit (.int 1)))) [.str]) (.cons (.cmp .eq (.idx (.var 0) (.neg (.lit (.int 1)))) (.lit (.str "grown"))) .nil))))))
   .nil)) .nil)
   (.cons (.if_ (.val (.isi (.var 1) [.dict])) (.cons (.iset (.var 1) (.lit (.str "grown")) (.lit (.int 1)))
   (.cons (.ret (.and (.cons (.isi (.var 0) [.dict]) (.cons (.cmp .eq (.bi .len (.cons (.var 0) .nil)) (.bi .len (.cons (.var 1) .nil))) (.cons (.cmp .in_ (.lit (.str "grown")) (.var 0)) .nil)))))
   .nil)) .nil)
   (.cons (.set (.nm 2) (.or (.cons (.cmp .is_ (.var 1) (.lit .non)) (.cons (.isi (.var 1) [.bool, .int, .str, .tuple]) .nil))))
   (.cons (.ret (.ife (.val (.var 2)) (.call 20 (.cons (.var 0) (.cons (.var 1) .nil)) .nil []) (.cmp .eq (.var 0) (.var 1))))
   .nil))))⟩
/-- _law_whole -/
def d22 : DefI := ⟨1, 1, (.cons (.ret (.and (.cons (.isi (.var 0) [.int]) (.cons (.not (.isi (.var 0) [.bool])) .nil))))
   .nil)⟩
/-- _law_met -/
def d23 : DefI := ⟨3, 6, (.cons (.set (.nm 3) (.bi .len (.cons (.var 0) .nil)))
   (.cons (.for_ (.nm 4) (.rng (.cons (.var 3) .nil)) (.cons (.if_ (.cmp .lt (.bi .sum (.cons (.lc (.nm 5) (.rng (.cons (.var 1) .nil)) .nil (.idx (.var 2) (.bin .mod (.bi .int (.cons (.bin .sub (.var 4) (.var 5)) .nil)) (.var 3)))) .nil)) (.idx (.var 0) (.var 4))) (.cons (.ret (.lit (.bl false)))
   .nil) .nil)
   .nil))
   (.cons (.ret (.lit (.bl true)))
   .nil)))⟩
/-- _law_is_staff -/
def d24 : DefI := ⟨3, 4, (.cons (.if_ (.or (.cons (.not (.val (.isi (.var 2) [.list, .tuple]))) (.cons (.cmp .ne (.bi .len (.cons (.var 2) .nil)) (.bi .len (.cons (.var 0) .nil))) .nil))) (.cons (.ret (.lit (.bl false)))
   .nil) .nil)
   (.cons (.if_ (.cmp .ne (.lc (.nm 3) (.val (.var 2)) (.cons (.or (.cons (.not (.val (.call 22 (.cons (.var 3) .nil) .nil []))) (.cons (.cmp .lt (.var 3) (.lit (.int 0))) .nil))) .nil) (.var 3)) (.lst .nil)) (.cons (.ret (.lit (.bl false)))
   .nil) .nil)
   (.cons (.ret (.call 23 (.cons (.var 0) (.cons (.var 1) (.cons (.var 2) .nil))) .nil []))
   .nil)))⟩
/-- _law_rows -/
def d25 : DefI := ⟨2, 7, (.cons (.set (.nm 2) (.lst (.cons (.lst .nil) .nil)))
   (.cons (.for_ (.nm 3) (.rng (.cons (.bin .sub (.var 0) (.lit (.int 1))) .nil)) (.cons (.set (.nm 4) (.lst .nil))
   (.cons (.for_ (.nm 5) (.val (.var 2)) (.cons (.expr (.bm .extend (.var 4) (.cons (.lc (.nm 6) (.rng (.cons (.bin .add (.bin .sub (.var 1) (.bi .sum (.cons (.var 5) .nil))) (.lit (.int 1))) .nil)) .nil (.bin .add (.var 5) (.lst (.cons (.var 6) .nil)))) .nil)))
   .nil))
   (.cons (.set (.nm 2) (.var 4))
   .nil))))
   (.cons (.ret (.lc (.nm 5) (.val (.var 2)) .nil (.bin .add (.var 5) (.lst (.cons (.bin .sub (.var 1) (.bi .sum (.cons (.var 5) .nil))) .nil)))))
   .nil)))⟩
/-- _law_least -/
def d26 : DefI := ⟨2, 4, (.cons (.if_ (.cmp .eq (.var 1) (.lit (.int 1))) (.cons (.ret (.bi .sum (.cons (.var 0) .nil)))
   .nil) .nil)
   (.cons (.for_ (.nm 2) (.rng (.cons (.bi .max (.cons (.var 0) .nil)) (.cons (.bin .add (.bi .sum (.cons (.var 0) .nil)) (.lit (.int 1))) .nil))) (.cons (.if_ (.cmp .ne (.lc (.nm 3) (.val (.call 25 (.cons (.bi .len (.cons (.var 0) .nil)) (.cons (.var 2) .nil)) .nil [])) (.cons (.val (.call 23 (.cons (.var 0) (.cons (.var 1) (.cons (.var 3) .nil))) .nil [])) .nil) (.lit (.int 1))) (.lst .nil)) (.cons (.ret (.var 2))
   .nil) .nil)
   .nil))
   (.cons (.ret (.lit (.int 0)))
   .nil)))⟩
/-- _law_need -/
def d27 : DefI := ⟨3, 10, (.cons (.set (.nm 3) (.bi .len (.cons (.var 0) .nil)))
   (.cons (.if_ (.or (.cons (.not (.val (.isi (.var 2) [.tuple]))) (.cons (.cmp .ne (.bi .len (.cons (.var 2) .nil)) (.lit (.int 2))) (.cons (.not (.val (.call 22 (.cons (.idx (.var 2) (.lit (.int 0))) .nil) .nil []))) (.cons (.cmp .lt (.idx (.var 2) (.lit (.int 0))) (.lit (.int 1))) .nil))))) (.cons (.ret (.neg (.lit (.int 1))))
   .nil) .nil)
   (.cons (.set (.tp [4, 5]) (.var 2))
   (.cons (.if_ (.or (.cons (.not (.val (.isi (.var 5) [.list, .tuple]))) (.cons (.cmp .eq (.bi .len (.cons (.var 5) .nil)) (.lit (.int 0))) (.cons (.cmp .ne (.lc (.nm 8) (.val (.var 5)) (.cons (.or (.cons (.not (.val (.call 22 (.cons (.var 8) .nil) .nil []))) (.cons (.not (.chn .le .lt (.lit (.int 0)) (.var 8) (.var 3))) .nil))) .nil) (.var 8)) (.lst .nil)) .nil)))) (.cons (.ret (.neg (.lit (.int 1))))
   .nil) .nil)
   (.cons (.set (.nm 6) (.lit (.int 0)))
   (.cons (.for_ (.nm 7) (.rng (.cons (.bi .len (.cons (.var 5) .nil)) .nil)) (.cons (.set (.nm 6) (.bin .add (.bin .add (.var 6) (.var 1)) (.bin .mod (.bi .int (.cons (.bin .sub (.bin .sub (.idx (.var 5) (.var 7)) (.idx (.var 5) (.bin .sub (.var 7) (.lit (.int 1))))) (.var 1)) .nil)) (.var 3))))
   .nil))
   (.cons (.if_ (.cmp .gt (.var 6) (.bin .mul (.var 4) (.var 3))) (.cons (.ret (.neg (.lit (.int 1))))
   .nil) .nil)
   (.cons (.ret (.bin .sub (.lit (.int 0)) (.bin .fdiv (.bin .sub (.lit (.int 0)) (.bi .sum (.cons (.lc (.nm 9) (.val (.var 5)) .nil (.idx (.var 0) (.var 9))) .nil))) (.var 4))))
   .nil))))))))⟩
/-- _law_demands -/
def d28 : DefI := ⟨3, 6, (.cons (.set (.tp [3, 4]) (.tup (.cons (.call 19 (.cons (.var 0) (.cons (.lit (.int 5)) .nil)) .nil []) (.cons (.call 19 (.cons (.var 0) (.cons (.bin .add (.var 2) (.lit (.int 1))) .nil)) .nil []) .nil))))
   (.cons (.if_ (.cmp .eq (.var 3) (.lit (.int 0))) (.cons (.ret (.lc (.nm 5) (.rng (.cons (.var 1) .nil)) .nil (.var 4)))
   .nil) .nil)
   (.cons (.if_ (.cmp .eq (.var 3) (.lit (.int 1))) (.cons (.ret (.lc (.nm 5) (.rng (.cons (.var 1) .nil)) .nil (.ife (.cmp .eq (.call 19 (.cons (.var 0) (.cons (.lit (.int 3)) .nil)) .nil []) (.lit (.int 0))) (.call 19 (.cons (.var 0) (.cons (.bin .add (.var 2) (.lit (.int 1))) .nil)) .nil []) (.lit (.int 0)))))
   .nil) .nil)
   (.cons (.ret (.lc (.nm 5) (.rng (.cons (.var 1) .nil)) .nil (.call 19 (.cons (.var 0) (.cons (.bin .add (.var 2) (.lit (.int 1))) .nil)) .nil [])))
   .nil))))⟩
/-- _law_bad_demands -/
def d29 : DefI := ⟨1, 2, (.cons (.set (.nm 1) (.idx (.lst (.cons (.neg (.lit (.int 1))) (.cons (.lit (.int 1001)) (.cons (.lit (.bl true)) (.cons (.lit .non) (.cons (.lit (.str "1")) (.cons (.tup (.cons (.lit (.int 1)) .nil)) (.cons (.bin .pow (.lit (.int 10)) (.lit (.int 19))) .nil)))))))) (.call 19 (.cons (.var 0) (.cons (.lit (.int 7)) .nil)) .nil [])))
   (.cons (.ret (.idx (.lst (.cons (.lst .nil) (.cons (.bin .mul (.lst (.cons (.lit (.int 1)) .nil)) (.lit (.int 49))) (.cons (.lit .non) (.cons (.lit (.int 7)) (.cons (.lit (.str "1 2")) (.cons (.dic .nil .nil) (.cons (.lst (.cons (.var 1) .nil)) (.cons (.lst (.cons (.lit (.int 1)) (.cons (.var 1) (.cons (.lit (.int 0)) .nil)))) (.cons (.lst (.cons (.lit (.int 0)) (.cons (.lit (.int 1)) (.cons (.var 1) .nil)))) (.cons (.lit (.bl true)) (.cons (.tup .nil) (.cons (.tup (.cons (.var 1) (.cons (.lit (.int 1)) .nil))) .nil))))))))))))) (.call 19 (.cons (.var 0) (.cons (.lit (.int 12)) .nil)) .nil [])))
   .nil))⟩
/-- _law_ask -/
def d30 : DefI := ⟨5, 6, (.cons (.try_ (.cons (.if_ (.val (.var 3)) (.cons (.ret (.lst (.cons (.lit (.str "told")) (.cons (.ife (.val (.var 4)) (.call 16 .nil (.cons (.var 2) (.cons (.var 1) (.cons (.var 0) .nil))) [Bd.arg 2, Bd.arg 1, Bd.arg 0]) (.call 16 (.cons (.var 0) (.cons (.var 1) (.cons (.var 2) .nil))) .nil [])) .nil))))
   .nil) .nil)
   (.cons (.ret (.lst (.cons (.lit (.str "told")) (.cons (.ife (.val (.var 4)) (.call 15 .nil (.cons (.var 2) (.cons (.var 1) (.cons (.var 0) .nil))) [Bd.arg 2, Bd.arg 1, Bd.arg 0]) (.call 15 (.cons (.var 0) (.cons (.var 1) (.cons (.var 2) .nil))) .nil [])) .nil))))
   .nil)) (.cons 2 (some 5) (.cons (.ret (.lst (.cons (.lit (.str "demands")) (.cons (.exf 5 0) .nil))))
   .nil) (.cons 3 (some 5) (.cons (.ret (.lst (.cons (.lit (.str "length")) (.cons (.exf 5 0) .nil))))
   .nil) (.cons 1 (some 5) (.cons (.ret (.lst (.cons (.lit (.str "many")) (.cons (.exf 5 0) .nil))))
   .nil) .nil))))
   .nil)⟩
/-- _law_both -/
def d31 : DefI := ⟨4, 7, (.cons (.par [4, 5] (.cons (.call 30 (.cons (.bi .list (.cons (.var 0) .nil)) (.cons (.var 1) (.cons (.var 2) (.cons (.lit (.bl false)) (.cons (.var 3) .nil))))) .nil []) (.cons (.call 30 (.cons (.bi .tuple (.cons (.var 0) .nil)) (.cons (.var 1) (.cons (.var 2) (.cons (.lit (.bl true)) (.cons (.not (.var 3)) .nil))))) .nil []) .nil)))
   (.cons (.if_ (.or (.cons (.cmp .ne (.idx (.var 4) (.lit (.int 0))) (.lit (.str "told"))) (.cons (.cmp .ne (.idx (.var 5) (.lit (.int 0))) (.lit (.str "told"))) (.cons (.cmp .eq (.cmp .is_ (.idx (.var 4) (.lit (.int 1))) (.lit .non)) (.cmp .is_ (.idx (.var 5) (.lit (.int 1))) (.lit .non))) .nil)))) (.cons (.ret (.neg (.lit (.int 1))))
   .nil) .nil)
   (.cons (.if_ (.cmp .is_ (.idx (.var 4) (.lit (.int 1))) (.lit .non)) (.cons (.if_ (.or (.cons (.cmp .le (.call 27 (.cons (.var 0) (.cons (.var 1) (.cons (.idx (.var 5) (.lit (.int 1))) .nil))) .nil []) (.var 2)) (.cons (.not (.val (.isi (.idx (.idx (.var 5) (.lit (.int 1))) (.lit (.int 1))) [.list]))) .nil))) (.cons (.ret (.neg (.lit (.int 1))))
   .nil) .nil)
   (.cons (.set (.nm 6) (.tup (.cons (.idx (.idx (.var 5) (.lit (.int 1))) (.lit (.int 0))) (.cons (.bi .list (.cons (.idx (.idx (.var 5) (.lit (.int 1))) (.lit (.int 1))) .nil)) .nil))))
   (.cons (.expr (.bm .insert (.idx (.idx (.var 5) (.lit (.int 1))) (.lit (.int 1))) (.cons (.lit (.int 0)) (.cons (.lit (.int 7)) .nil))))
   (.cons (.ret (.ife (.val (.call 20 (.cons (.call 30 (.cons (.var 0) (.cons (.var 1) (.cons (.var 2) (.cons (.lit (.bl true)) (.cons (.var 3) .nil))))) .nil []) (.cons (.lst (.cons (.lit (.str "told")) (.cons (.var 6) .nil))) .nil)) .nil [])) (.lit (.int 0)) (.neg (.lit (.int 1)))))
   .nil)))) .nil)
   (.cons (.if_ (.or (.cons (.not (.val (.isi (.idx (.var 4) (.lit (.int 1))) [.list]))) (.cons (.not (.val (.call 24 (.cons (.var 0) (.cons (.var 1) (.cons (.idx (.var 4) (.lit (.int 1))) .nil))) .nil []))) (.cons (.cmp .ne (.bi .sum (.cons (.idx (.var 4) (.lit (.int 1))) .nil)) (.var 2)) .nil)))) (.cons (.ret (.neg (.lit (.int 1))))
   .nil) .nil)
   (.cons (.set (.nm 6) (.bi .list (.cons (.idx (.var 4) (.lit (.int 1))) .nil)))
   (.cons (.expr (.bm .append (.idx (.var 4) (.lit (.int 1))) (.cons (.lit (.str "spoilt")) .nil)))
   (.cons (.ret (.ife (.val (.call 20 (.cons (.call 30 (.cons (.var 0) (.cons (.var 1) (.cons (.var 2) (.cons (.lit (.bl false)) (.cons (.not (.var 3)) .nil))))) .nil []) (.cons (.lst (.cons (.lit (.str "told")) (.cons (.var 6) .nil))) .nil)) .nil [])) (.lit (.int 1)) (.neg (.lit (.int 1)))))
   .nil)))))))⟩
/-- _law_small_right -/
def d32 : DefI := ⟨2, 7, (.cons (.set (.nm 2) (.bin .add (.lit (.int 1)) (.call 19 (.cons (.var 0) (.cons (.lit (.int 5)) .nil)) .nil [])))
   (.cons (.par [3, 4] (.cons (.bin .add (.lit (.int 1)) (.call 19 (.cons (.var 0) (.cons (.var 2) .nil)) .nil [])) (.cons (.call 28 (.cons (.var 0) (.cons (.var 2) (.cons (.ife (.cmp .lt (.var 2) (.lit (.int 5))) (.lit (.int 3)) (.lit (.int 2))) .nil))) .nil []) .nil)))
   (.cons (.set (.nm 5) (.call 26 (.cons (.var 4) (.cons (.var 3) .nil)) .nil []))
   (.cons (.for_ (.nm 6) (.rng (.cons (.bin .add (.var 5) (.lit (.int 3))) .nil)) (.cons (.if_ (.cmp .ne (.call 31 (.cons (.var 4) (.cons (.var 3) (.cons (.var 6) (.cons (.var 1) .nil)))) .nil []) (.bi .int (.cons (.cmp .ge (.var 6) (.var 5)) .nil))) (.cons (.ret (.lit (.bl false)))
   .nil) .nil)
   (.cons (.set (.nm 1) (.not (.var 1)))
   .nil)))
   (.cons (.ret (.cmp .eq (.call 31 (.cons (.var 4) (.cons (.var 3) (.cons (.idx (.lst (.cons (.lit (.int 100000)) (.cons (.lit (.int 50000)) (.cons (.bin .add (.var 5) (.lit (.int 7))) .nil)))) (.call 19 (.cons (.var 0) (.cons (.lit (.int 3)) .nil)) .nil [])) (.cons (.var 1) .nil)))) .nil []) (.lit (.int 1))))
   .nil)))))⟩
/-- _law_great_right -/
def d33 : DefI := ⟨2, 7, (.cons (.set (.nm 2) (.bin .add (.lit (.int 6)) (.call 19 (.cons (.var 0) (.cons (.lit (.int 43)) .nil)) .nil [])))
   (.cons (.set (.nm 3) (.bi .min (.cons (.var 2) (.cons (.idx (.lst (.cons (.lit (.int 1)) (.cons (.var 2) (.cons (.bin .add (.lit (.int 1)) (.call 19 (.cons (.var 0) (.cons (.var 2) .nil)) .nil [])) (.cons (.bin .add (.lit (.int 2)) (.call 19 (.cons (.var 0) (.cons (.lit (.int 8)) .nil)) .nil [])) .nil))))) (.call 19 (.cons (.var 0) (.cons (.lit (.int 4)) .nil)) .nil [])) .nil))))
   (.cons (.set (.nm 4) (.call 28 (.cons (.var 0) (.cons (.var 2) (.cons (.idx (.lst (.cons (.lit (.int 3)) (.cons (.lit (.int 20)) (.cons (.lit (.int 1000)) .nil)))) (.call 19 (.cons (.var 0) (.cons (.lit (.int 3)) .nil)) .nil [])) .nil))) .nil []))
   (.cons (.set (.nm 5) (.ife (.val (.var 1)) (.call 13 .nil (.cons (.var 3) (.cons (.var 4) .nil)) [Bd.arg 1, Bd.arg 0]) (.call 13 (.cons (.var 4) (.cons (.var 3) .nil)) .nil [])))
   (.cons (.if_ (.or (.cons (.not (.val (.isi (.var 5) [.tuple]))) (.cons (.cmp .ne (.bi .len (.cons (.var 5) .nil)) (.lit (.int 2))) (.cons (.not (.val (.isi (.idx (.var 5) (.lit (.int 1))) [.list]))) (.cons (.not (.val (.call 24 (.cons (.var 4) (.cons (.var 3) (.cons (.idx (.var 5) (.lit (.int 1))) .nil))) .nil []))) .nil))))) (.cons (.ret (.lit (.bl false)))
   .nil) .nil)
   (.cons (.set (.nm 6) (.bi .sum (.cons (.idx (.var 5) (.lit (.int 1))) .nil)))
   (.cons (.if_ (.not (.val (.call 20 (.cons (.idx (.var 5) (.lit (.int 0))) (.cons (.var 6) .nil)) .nil []))) (.cons (.ret (.lit (.bl false)))
   .nil) .nil)
   (.cons (.if_ (.or (.cons (.and (.cons (.cmp .gt (.var 6) (.lit (.int 0))) (.cons (.cmp .ne (.call 31 (.cons (.var 4) (.cons (.var 3) (.cons (.bin .sub (.var 6) (.lit (.int 1))) (.cons (.var 1) .nil)))) .nil []) (.lit (.int 0))) .nil))) (.cons (.and (.cons (.cmp .gt (.bi .max (.cons (.var 4) .nil)) (.lit (.int 0))) (.cons (.cmp .ne (.call 31 (.cons (.var 4) (.cons (.var 3) (.cons (.lit (.int 0)) (.cons (.not (.var 1)) .nil)))) .nil []) (.lit (.int 0))) .nil))) .nil))) (.cons (.ret (.lit (.bl false)))
   .nil) .nil)
   (.cons (.ret (.and (.cons (.cmp .eq (.call 31 (.cons (.var 4) (.cons (.var 3) (.cons (.var 6) (.cons (.not (.var 1)) .nil)))) .nil []) (.lit (.int 1))) (.cons (.cmp .eq (.call 31 (.cons (.var 4) (.cons (.var 3) (.cons (.bi .min (.cons (.lit (.int 100000)) (.cons (.bin .add (.var 6) (.call 19 (.cons (.var 0) (.cons (.lit (.int 500)) .nil)) .nil [])) .nil))) (.cons (.var 1) .nil)))) .nil []) (.lit (.int 1))) .nil))))
   .nil)))))))))⟩
/-- _law_refused_right -/
def d34 : DefI := ⟨2, 6, (.cons (.for_ (.nm 2) (.val (.lst (.cons (.lit (.bl false)) (.cons (.lit (.bl true)) .nil)))) (.cons (.set (.nm 3) (.call 29 (.cons (.var 0) .nil) .nil []))
   (.cons (.set (.nm 4) (.call 30 (.cons (.var 3) (.cons (.idx (.lst (.cons (.lit (.int 1)) (.cons (.lit .non) .nil))) (.call 19 (.cons (.var 0) (.cons (.lit (.int 2)) .nil)) .nil [])) (.cons (.idx (.lst (.cons (.lit (.int 1)) (.cons (.lit .non) .nil))) (.call 19 (.cons (.var 0) (.cons (.lit (.int 2)) .nil)) .nil [])) (.cons (.var 2) (.cons (.var 1) .nil))))) .nil []))
   (.cons (.if_ (.or (.cons (.cmp .ne (.idx (.var 4) (.lit (.int 0))) (.lit (.str "demands"))) (.cons (.not (.val (.call 21 (.cons (.idx (.var 4) (.lit (.int 1))) (.cons (.var 3) .nil)) .nil []))) .nil))) (.cons (.ret (.lit (.bl false)))
   .nil) .nil)
   (.cons (.set (.nm 5) (.idx (.lst (.cons (.lit (.int 1)) (.cons (.lit (.int 3)) (.cons (.lit (.int 48)) .nil)))) (.call 19 (.cons (.var 0) (.cons (.lit (.int 3)) .nil)) .nil [])))
   (.cons (.set (.nm 3) (.idx (.lst (.cons (.lit (.int 0)) (.cons (.bin .add (.var 5) (.lit (.int 1))) (.cons (.neg (.lit (.int 1))) (.cons (.lit (.bl true)) (.cons (.lit .non) (.cons (.lit (.str "1")) (.cons (.tup (.cons (.lit (.int 1)) .nil)) (.cons (.lst (.cons (.lit (.int 1)) .nil)) (.cons (.dic .nil .nil) (.cons (.bin .pow (.lit (.int 10)) (.lit (.int 19))) .nil))))))))))) (.call 19 (.cons (.var 0) (.cons (.lit (.int 10)) .nil)) .nil [])))
   (.cons (.set (.nm 4) (.call 30 (.cons (.bin .mul (.lst (.cons (.lit (.int 2)) .nil)) (.var 5)) (.cons (.var 3) (.cons (.idx (.lst (.cons (.lit (.int 1)) (.cons (.lit .non) .nil))) (.call 19 (.cons (.var 0) (.cons (.lit (.int 2)) .nil)) .nil [])) (.cons (.var 2) (.cons (.not (.var 1)) .nil))))) .nil []))
   (.cons (.if_ (.or (.cons (.cmp .ne (.idx (.var 4) (.lit (.int 0))) (.lit (.str "length"))) (.cons (.not (.val (.call 21 (.cons (.idx (.var 4) (.lit (.int 1))) (.cons (.var 3) .nil)) .nil []))) .nil))) (.cons (.ret (.lit (.bl false)))
   .nil) .nil)
   (.cons (.set (.nm 3) (.idx (.lst (.cons (.neg (.lit (.int 1))) (.cons (.lit (.int 100001)) (.cons (.lit (.bl true)) (.cons (.lit .non) (.cons (.lit (.str "1")) (.cons (.tup (.cons (.lit (.int 1)) .nil)) (.cons (.lst (.cons (.lit (.int 1)) .nil)) (.cons (.dic .nil .nil) (.cons (.bin .pow (.lit (.int 10)) (.lit (.int 19))) (.cons (.lit (.bl false)) .nil))))))))))) (.call 19 (.cons (.var 0) (.cons (.lit (.int 10)) .nil)) .nil [])))
   (.cons (.set (.nm 4) (.call 30 (.cons (.bin .mul (.lst (.cons (.lit (.int 2)) .nil)) (.var 5)) (.cons (.var 5) (.cons (.var 3) (.cons (.var 2) (.cons (.var 1) .nil))))) .nil []))
   (.cons (.if_ (.or (.cons (.cmp .ne (.idx (.var 4) (.lit (.int 0))) (.lit (.str "many"))) (.cons (.not (.val (.call 21 (.cons (.idx (.var 4) (.lit (.int 1))) (.cons (.var 3) .nil)) .nil []))) .nil))) (.cons (.ret (.lit (.bl false)))
   .nil) .nil)
   .nil)))))))))))
   (.cons (.ret (.lit (.bl true)))
   .nil))⟩
/-- law -/
def d35 : DefI := ⟨1, 6, (.cons (.set (.nm 1) (.cmp .eq (.bin .mod (.bi .int (.cons (.bi .sum (.cons (.sl (.var 0) .no (.so (.lit (.int 1)))) .nil)) .nil)) (.lit (.int 2))) (.lit (.int 1))))
   (.cons (.for_ (.nm 2) (.rng (.cons (.bi .max (.cons (.lit (.int 2)) (.cons (.bi .min (.cons (.lit (.int 4)) (.cons (.bi .len (.cons (.var 0) .nil)) .nil))) .nil))) .nil)) (.cons (.set (.nm 3) (.call 18 (.cons (.call 17 (.cons (.var 0) (.cons (.var 2) .nil)) .nil []) .nil) .nil []))
   (.cons (.set (.nm 4) (.cmp .eq (.call 19 (.cons (.var 3) (.cons (.lit (.int 2)) .nil)) .nil []) (.lit (.int 0))))
   (.cons (.try_ (.cons (.set (.nm 5) (.and (.cons (.call 32 (.cons (.var 3) (.cons (.var 4) .nil)) .nil []) (.cons (.or (.cons (.not (.var 1)) (.cons (.cmp .gt (.var 2) (.lit (.int 0))) (.cons (.call 33 (.cons (.var 3) (.cons (.not (.var 4)) .nil)) .nil []) .nil)))) .nil))))
   .nil) (.cons 0 none (.cons (.ret (.lit (.bl false)))
   .nil) .nil))
   (.cons (.if_ (.or (.cons (.not (.val (.var 5))) (.cons (.not (.val (.call 34 (.cons (.var 3) (.cons (.var 4) .nil)) .nil []))) .nil))) (.cons (.ret (.lit (.bl false)))
   .nil) .nil)
   .nil)))))
   (.cons (.ret (.lit (.bl true)))
   .nil)))⟩
def sg : Sg := ⟨[⟨[0], none, [], [], none, some 0⟩, ⟨[1, 0], none, [], [], none, some 0⟩, ⟨[2, 0], none, [], [], none, some 0⟩, ⟨[3, 0], none, [], [], none, some 0⟩],
  [(.int 48), (.int 1000), (.int 100000)]⟩
def nms : List PySem.Str := ["given"]
def cnsL : List PySem.Str := ["ShiftError", "InvalidMany", "InvalidDemands", "InvalidLength"]
def fnsL : List (Option PySem.Str) := [some ("is_whole" : PySem.Str), some ("is_from_to" : PySem.Str), some ("is_count" : PySem.Str), some ("is_listed" : PySem.Str), some ("are_counts" : PySem.Str), some ("check_staff" : PySem.Str), some ("ways_of" : PySem.Str), some ("raised" : PySem.Str), some ("ring_by" : PySem.Str), some ("starts_by" : PySem.Str), some ("people_at" : PySem.Str), some ("paper_at" : PySem.Str), some ("least_many" : PySem.Str), some ("staff" : PySem.Str), some ("check_many" : PySem.Str), some ("staff_of" : PySem.Str), some ("round_ring" : PySem.Str), some ("_law_cell" : PySem.Str), some ("_law_box" : PySem.Str), some ("_law_take" : PySem.Str), some ("_law_same" : PySem.Str), some ("_law_very" : PySem.Str), some ("_law_whole" : PySem.Str), some ("_law_met" : PySem.Str), some ("_law_is_staff" : PySem.Str), some ("_law_rows" : PySem.Str), some ("_law_least" : PySem.Str), some ("_law_need" : PySem.Str), some ("_law_demands" : PySem.Str), some ("_law_bad_demands" : PySem.Str), some ("_law_ask" : PySem.Str), some ("_law_both" : PySem.Str), some ("_law_small_right" : PySem.Str), some ("_law_great_right" : PySem.Str), some ("_law_refused_right" : PySem.Str), some ("law" : PySem.Str)]
def gnsL : List PySem.Str := ["MOST_SLOTS", "MOST_DEMAND", "MOST_PEOPLE"]
def defsL : List DefI := [d0, d1, d2, d3, d4, d5, d6, d7, d8, d9, d10, d11, d12, d13, d14, d15, d16, d17, d18, d19, d20, d21, d22, d23, d24, d25, d26, d27, d28, d29, d30, d31, d32, d33, d34, d35]
def bdsL : List (Nat × Nat × List PySem.Str × List Bd) := [(0, 1, ([] : List PySem.Str), []), (3, 1, ([] : List PySem.Str), []), (2, 1, ([] : List PySem.Str), []), (4, 1, ([] : List PySem.Str), []), (1, 3, ([] : List PySem.Str), []), (6, 3, ([] : List PySem.Str), []), (7, 2, ([] : List PySem.Str), []), (9, 2, ([] : List PySem.Str), []), (8, 2, ([] : List PySem.Str), []), (10, 3, ([] : List PySem.Str), []), (5, 2, ([] : List PySem.Str), []), (12, 2, ([] : List PySem.Str), []), (14, 3, ([] : List PySem.Str), []), (11, 3, ([] : List PySem.Str), []), (20, 2, ([] : List PySem.Str), []), (22, 1, ([] : List PySem.Str), []), (23, 3, ([] : List PySem.Str), []), (25, 2, ([] : List PySem.Str), []), (19, 2, ([] : List PySem.Str), []), (16, 0, (["many", "length", "demands"] : List PySem.Str), [Bd.arg 2, Bd.arg 1, Bd.arg 0]), (16, 3, ([] : List PySem.Str), []), (15, 0, (["many", "length", "demands"] : List PySem.Str), [Bd.arg 2, Bd.arg 1, Bd.arg 0]), (15, 3, ([] : List PySem.Str), []), (30, 5, ([] : List PySem.Str), []), (27, 3, ([] : List PySem.Str), []), (24, 3, ([] : List PySem.Str), []), (28, 3, ([] : List PySem.Str), []), (26, 2, ([] : List PySem.Str), []), (31, 4, ([] : List PySem.Str), []), (13, 0, (["length", "demands"] : List PySem.Str), [Bd.arg 1, Bd.arg 0]), (13, 2, ([] : List PySem.Str), []), (29, 1, ([] : List PySem.Str), []), (21, 2, ([] : List PySem.Str), []), (17, 2, ([] : List PySem.Str), []), (18, 1, ([] : List PySem.Str), []), (32, 2, ([] : List PySem.Str), []), (33, 2, ([] : List PySem.Str), []), (34, 2, ([] : List PySem.Str), [])]
def rbsL : List (Nat × Nat × List Bd) := [(2, 1, []), (3, 1, []), (1, 1, [])]
def P : Pg := ⟨nms, cnsL, fnsL, gnsL, sg, defsL, bdsL, rbsL⟩
end Lw
namespace Lw
open PySem PySem.Spec PyProof.Rows L2 Itp
def top (i : Nat) : Stmt := PySem.Challenge.pw_clockshifts_k39_whole_fixed_numbers_or_a.main.body.getD i (.Pass ⟨0, 0, 0, 0⟩)
def q0 : He.DefD := ⟨("is_whole", none), "is_whole", "is_whole", defArgs (top 6), defBody (top 6), defScope (top 6), [], []⟩
def q1 : He.DefD := ⟨("is_from_to", none), "is_from_to", "is_from_to", defArgs (top 7), defBody (top 7), defScope (top 7), [], []⟩
def q2 : He.DefD := ⟨("is_count", none), "is_count", "is_count", defArgs (top 8), defBody (top 8), defScope (top 8), [], []⟩
def q3 : He.DefD := ⟨("is_listed", none), "is_listed", "is_listed", defArgs (top 9), defBody (top 9), defScope (top 9), [], []⟩
def q4 : He.DefD := ⟨("are_counts", none), "are_counts", "are_counts", defArgs (top 13), defBody (top 13), defScope (top 13), [], []⟩
def q5 : He.DefD := ⟨("check_staff", none), "check_staff", "check_staff", defArgs (top 14), defBody (top 14), defScope (top 14), [], []⟩
def q6 : He.DefD := ⟨("ways_of", none), "ways_of", "ways_of", defArgs (top 15), defBody (top 15), defScope (top 15), [], []⟩
def q7 : He.DefD := ⟨("raised", none), "raised", "raised", defArgs (top 16), defBody (top 16), defScope (top 16), [], []⟩
def q8 : He.DefD := ⟨("ring_by", none), "ring_by", "ring_by", defArgs (top 17), defBody (top 17), defScope (top 17), [], []⟩
def q9 : He.DefD := ⟨("starts_by", none), "starts_by", "starts_by", defArgs (top 18), defBody (top 18), defScope (top 18), [], []⟩
def q10 : He.DefD := ⟨("people_at", none), "people_at", "people_at", defArgs (top 19), defBody (top 19), defScope (top 19), [], []⟩
def q11 : He.DefD := ⟨("paper_at", none), "paper_at", "paper_at", defArgs (top 20), defBody (top 20), defScope (top 20), [], []⟩
def q12 : He.DefD := ⟨("least_many", none), "least_many", "least_many", defArgs (top 21), defBody (top 21), defScope (top 21), [], []⟩
def q13 : He.DefD := ⟨("staff", none), "staff", "staff", defArgs (top 22), defBody (top 22), defScope (top 22), [], []⟩
def q14 : He.DefD := ⟨("check_many", none), "check_many", "check_many", defArgs (top 25), defBody (top 25), defScope (top 25), [], []⟩
def q15 : He.DefD := ⟨("staff_of", none), "staff_of", "staff_of", defArgs (top 26), defBody (top 26), defScope (top 26), [], []⟩
def q16 : He.DefD := ⟨("round_ring", none), "round_ring", "round_ring", defArgs (top 27), defBody (top 27), defScope (top 27), [], []⟩
def q17 : He.DefD := ⟨("_law_cell", none), "_law_cell", "_law_cell", defArgs (top 29), defBody (top 29), defScope (top 29), [], []⟩
def q18 : He.DefD := ⟨("_law_box", none), "_law_box", "_law_box", defArgs (top 30), defBody (top 30), defScope (top 30), [], []⟩
def q19 : He.DefD := ⟨("_law_take", none), "_law_take", "_law_take", defArgs (top 31), defBody (top 31), defScope (top 31), [], []⟩
def q20 : He.DefD := ⟨("_law_same", none), "_law_same", "_law_same", defArgs (top 32), defBody (top 32), defScope (top 32), [], []⟩
def q21 : He.DefD := ⟨("_law_very", none), "_law_very", "_law_very", defArgs (top 33), defBody (top 33), defScope (top 33), [], []⟩
def q22 : He.DefD := ⟨("_law_whole", none), "_law_whole", "_law_whole", defArgs (top 34), defBody (top 34), defScope (top 34), [], []⟩
def q23 : He.DefD := ⟨("_law_met", none), "_law_met", "_law_met", defArgs (top 35), defBody (top 35), defScope (top 35), [], []⟩
def q24 : He.DefD := ⟨("_law_is_staff", none), "_law_is_staff", "_law_is_staff", defArgs (top 36), defBody (top 36), defScope (top 36), [], []⟩
def q25 : He.DefD := ⟨("_law_rows", none), "_law_rows", "_law_rows", defArgs (top 37), defBody (top 37), defScope (top 37), [], []⟩
def q26 : He.DefD := ⟨("_law_least", none), "_law_least", "_law_least", defArgs (top 38), defBody (top 38), defScope (top 38), [], []⟩
def q27 : He.DefD := ⟨("_law_need", none), "_law_need", "_law_need", defArgs (top 39), defBody (top 39), defScope (top 39), [], []⟩
def q28 : He.DefD := ⟨("_law_demands", none), "_law_demands", "_law_demands", defArgs (top 40), defBody (top 40), defScope (top 40), [], []⟩
def q29 : He.DefD := ⟨("_law_bad_demands", none), "_law_bad_demands", "_law_bad_demands", defArgs (top 41), defBody (top 41), defScope (top 41), [], []⟩
def q30 : He.DefD := ⟨("_law_ask", none), "_law_ask", "_law_ask", defArgs (top 42), defBody (top 42), defScope (top 42), [], []⟩
def q31 : He.DefD := ⟨("_law_both", none), "_law_both", "_law_both", defArgs (top 43), defBody (top 43), defScope (top 43), [], []⟩
def q32 : He.DefD := ⟨("_law_small_right", none), "_law_small_right", "_law_small_right", defArgs (top 44), defBody (top 44), defScope (top 44), [], []⟩
def q33 : He.DefD := ⟨("_law_great_right", none), "_law_great_right", "_law_great_right", defArgs (top 45), defBody (top 45), defScope (top 45), [], []⟩
def q34 : He.DefD := ⟨("_law_refused_right", none), "_law_refused_right", "_law_refused_right", defArgs (top 46), defBody (top 46), defScope (top 46), [], []⟩
def q35 : He.DefD := ⟨("law", none), "law", "law", defArgs (top 47), defBody (top 47), defScope (top 47), [], []⟩
def q36 : He.DefD := ⟨("ShiftError", some "__init__"), "__init__", "ShiftError.__init__", defArgs ((kBody (top 1)).getD 0 (.Pass ⟨0, 0, 0, 0⟩)), defBody ((kBody (top 1)).getD 0 (.Pass ⟨0, 0, 0, 0⟩)), defScope ((kBody (top 1)).getD 0 (.Pass ⟨0, 0, 0, 0⟩)), [.non], []⟩
def fnL : List He.DefD := [q0, q1, q2, q3, q4, q5, q6, q7, q8, q9, q10, q11, q12, q13, q14, q15, q16, q17, q18, q19, q20, q21, q22, q23, q24, q25, q26, q27, q28, q29, q30, q31, q32, q33, q34, q35, q36]
def prmL : List (List PySem.Str) := [(["value"] : List PySem.Str), (["value", "low", "high"] : List PySem.Str), (["value"] : List PySem.Str), (["value"] : List PySem.Str), (["value"] : List PySem.Str), (["demands", "length"] : List PySem.Str), (["demands", "length", "many"] : List PySem.Str), (["count", "ways"] : List PySem.Str), (["came", "last"] : List PySem.Str), (["numbers", "many"] : List PySem.Str), (["demands", "length", "many"] : List PySem.Str), (["demands", "length", "many"] : List PySem.Str), (["demands", "length"] : List PySem.Str), (["demands", "length"] : List PySem.Str), (["demands", "length", "many"] : List PySem.Str), (["demands", "length", "many"] : List PySem.Str), (["demands", "length", "many"] : List PySem.Str), (["script", "k"] : List PySem.Str), (["great"] : List PySem.Str), (["box", "many"] : List PySem.Str), (["told", "due"] : List PySem.Str), (["given", "value"] : List PySem.Str), (["value"] : List PySem.Str), (["demands", "length", "starts"] : List PySem.Str), (["demands", "length", "value"] : List PySem.Str), (["many", "whole"] : List PySem.Str), (["demands", "length"] : List PySem.Str), (["demands", "length", "paper"] : List PySem.Str), (["box", "many", "most"] : List PySem.Str), (["box"] : List PySem.Str), (["demands", "length", "many", "ring", "named"] : List PySem.Str), (["demands", "length", "many", "named"] : List PySem.Str), (["box", "named"] : List PySem.Str), (["box", "named"] : List PySem.Str), (["box", "named"] : List PySem.Str), (["script"] : List PySem.Str), (["self", "given"] : List PySem.Str)]
def nsL : List (List PySem.Str) := [(["value"] : List PySem.Str), (["value", "low", "high"] : List PySem.Str), (["value"] : List PySem.Str), (["value"] : List PySem.Str), (["value", "item"] : List PySem.Str), (["demands", "length"] : List PySem.Str), (["demands", "length", "many", "count", "found", "slot", "demand", "past", "far"] : List PySem.Str), (["count", "ways", "numbers", "came", "last", "_", "way"] : List PySem.Str), (["came", "last", "slot", "_", "ring", "at"] : List PySem.Str), (["numbers", "many", "slot", "number"] : List PySem.Str), (["demands", "length", "many", "numbers", "came", "last"] : List PySem.Str), (["demands", "length", "many", "numbers", "came", "last", "ring", "start", "end", "gain", "rounds", "stops", "way"] : List PySem.Str), (["demands", "length", "low", "high", "middle"] : List PySem.Str), (["demands", "length", "many"] : List PySem.Str), (["demands", "length", "many"] : List PySem.Str), (["demands", "length", "many"] : List PySem.Str), (["demands", "length", "many"] : List PySem.Str), (["script", "k"] : List PySem.Str), (["great"] : List PySem.Str), (["box", "many", "digit", "mixed"] : List PySem.Str), (["told", "due", "k"] : List PySem.Str), (["given", "value", "plain"] : List PySem.Str), (["value"] : List PySem.Str), (["demands", "length", "starts", "many", "slot", "k"] : List PySem.Str), (["demands", "length", "value", "one"] : List PySem.Str), (["many", "whole", "rows", "k", "longer", "row", "one"] : List PySem.Str), (["demands", "length", "whole", "row"] : List PySem.Str), (["demands", "length", "paper", "many", "rounds", "stops", "steps", "k", "one", "stop"] : List PySem.Str), (["box", "many", "most", "way", "same", "slot"] : List PySem.Str), (["box", "odd"] : List PySem.Str), (["demands", "length", "many", "ring", "named", "e"] : List PySem.Str), (["demands", "length", "many", "named", "row", "ring", "copy"] : List PySem.Str), (["box", "named", "slots", "length", "demands", "due", "many"] : List PySem.Str), (["box", "named", "slots", "length", "demands", "found", "least"] : List PySem.Str), (["box", "named", "ring", "bad", "told", "slots"] : List PySem.Str), (["script", "great", "k", "box", "named", "good"] : List PySem.Str), (["self", "given"] : List PySem.Str)]
def iniL : List (Nat × Nat) := [(0, 36), (1, 36), (2, 36), (3, 36)]
def gdL : List Gd := [.int (48), .int (1000), .int (100000)]
def c : Dsc := ⟨P, fnL, prmL, nsL, iniL, gdL⟩
theorem b0 : BOk c 0 1 [] [] := fun K d fd D h F hK => by
  cases h
  exact bind_p F hK fun _ _ _ _ _ _ us zs h1 h2 => match us, zs, h1, h2 with
    | [u0], [], _, _ => ⟨[u0], rfl, .inl ⟨rfl, rfl⟩⟩
theorem b1 : BOk c 3 1 [] [] := fun K d fd D h F hK => by
  cases h
  exact bind_p F hK fun _ _ _ _ _ _ us zs h1 h2 => match us, zs, h1, h2 with
    | [u0], [], _, _ => ⟨[u0], rfl, .inl ⟨rfl, rfl⟩⟩
theorem b2 : BOk c 2 1 [] [] := fun K d fd D h F hK => by
  cases h
  exact bind_p F hK fun _ _ _ _ _ _ us zs h1 h2 => match us, zs, h1, h2 with
    | [u0], [], _, _ => ⟨[u0], rfl, .inl ⟨rfl, rfl⟩⟩
theorem b3 : BOk c 4 1 [] [] := fun K d fd D h F hK => by
  cases h
  exact bind_p F hK fun _ _ _ _ _ _ us zs h1 h2 => match us, zs, h1, h2 with
    | [u0], [], _, _ => ⟨[u0], rfl, .inl ⟨rfl, rfl⟩⟩
theorem b4 : BOk c 1 3 [] [] := fun K d fd D h F hK => by
  cases h
  exact bind_p F hK fun _ _ _ _ _ _ us zs h1 h2 => match us, zs, h1, h2 with
    | [u0, u1, u2], [], _, _ => ⟨[u0, u1, u2], rfl, .inl ⟨rfl, rfl⟩⟩
theorem b5 : BOk c 6 3 [] [] := fun K d fd D h F hK => by
  cases h
  exact bind_p F hK fun _ _ _ _ _ _ us zs h1 h2 => match us, zs, h1, h2 with
    | [u0, u1, u2], [], _, _ => ⟨[u0, u1, u2], rfl, .inl ⟨rfl, rfl⟩⟩
theorem b6 : BOk c 7 2 [] [] := fun K d fd D h F hK => by
  cases h
  exact bind_p F hK fun _ _ _ _ _ _ us zs h1 h2 => match us, zs, h1, h2 with
    | [u0, u1], [], _, _ => ⟨[u0, u1], rfl, .inl ⟨rfl, rfl⟩⟩
theorem b7 : BOk c 9 2 [] [] := fun K d fd D h F hK => by
  cases h
  exact bind_p F hK fun _ _ _ _ _ _ us zs h1 h2 => match us, zs, h1, h2 with
    | [u0, u1], [], _, _ => ⟨[u0, u1], rfl, .inl ⟨rfl, rfl⟩⟩
theorem b8 : BOk c 8 2 [] [] := fun K d fd D h F hK => by
  cases h
  exact bind_p F hK fun _ _ _ _ _ _ us zs h1 h2 => match us, zs, h1, h2 with
    | [u0, u1], [], _, _ => ⟨[u0, u1], rfl, .inl ⟨rfl, rfl⟩⟩
theorem b9 : BOk c 10 3 [] [] := fun K d fd D h F hK => by
  cases h
  exact bind_p F hK fun _ _ _ _ _ _ us zs h1 h2 => match us, zs, h1, h2 with
    | [u0, u1, u2], [], _, _ => ⟨[u0, u1, u2], rfl, .inl ⟨rfl, rfl⟩⟩
theorem b10 : BOk c 5 2 [] [] := fun K d fd D h F hK => by
  cases h
  exact bind_p F hK fun _ _ _ _ _ _ us zs h1 h2 => match us, zs, h1, h2 with
    | [u0, u1], [], _, _ => ⟨[u0, u1], rfl, .inl ⟨rfl, rfl⟩⟩
theorem b11 : BOk c 12 2 [] [] := fun K d fd D h F hK => by
  cases h
  exact bind_p F hK fun _ _ _ _ _ _ us zs h1 h2 => match us, zs, h1, h2 with
    | [u0, u1], [], _, _ => ⟨[u0, u1], rfl, .inl ⟨rfl, rfl⟩⟩
theorem b12 : BOk c 14 3 [] [] := fun K d fd D h F hK => by
  cases h
  exact bind_p F hK fun _ _ _ _ _ _ us zs h1 h2 => match us, zs, h1, h2 with
    | [u0, u1, u2], [], _, _ => ⟨[u0, u1, u2], rfl, .inl ⟨rfl, rfl⟩⟩
theorem b13 : BOk c 11 3 [] [] := fun K d fd D h F hK => by
  cases h
  exact bind_p F hK fun _ _ _ _ _ _ us zs h1 h2 => match us, zs, h1, h2 with
    | [u0, u1, u2], [], _, _ => ⟨[u0, u1, u2], rfl, .inl ⟨rfl, rfl⟩⟩
theorem b14 : BOk c 20 2 [] [] := fun K d fd D h F hK => by
  cases h
  exact bind_p F hK fun _ _ _ _ _ _ us zs h1 h2 => match us, zs, h1, h2 with
    | [u0, u1], [], _, _ => ⟨[u0, u1], rfl, .inl ⟨rfl, rfl⟩⟩
theorem b15 : BOk c 22 1 [] [] := fun K d fd D h F hK => by
  cases h
  exact bind_p F hK fun _ _ _ _ _ _ us zs h1 h2 => match us, zs, h1, h2 with
    | [u0], [], _, _ => ⟨[u0], rfl, .inl ⟨rfl, rfl⟩⟩
theorem b16 : BOk c 23 3 [] [] := fun K d fd D h F hK => by
  cases h
  exact bind_p F hK fun _ _ _ _ _ _ us zs h1 h2 => match us, zs, h1, h2 with
    | [u0, u1, u2], [], _, _ => ⟨[u0, u1, u2], rfl, .inl ⟨rfl, rfl⟩⟩
theorem b17 : BOk c 25 2 [] [] := fun K d fd D h F hK => by
  cases h
  exact bind_p F hK fun _ _ _ _ _ _ us zs h1 h2 => match us, zs, h1, h2 with
    | [u0, u1], [], _, _ => ⟨[u0, u1], rfl, .inl ⟨rfl, rfl⟩⟩
theorem b18 : BOk c 19 2 [] [] := fun K d fd D h F hK => by
  cases h
  exact bind_p F hK fun _ _ _ _ _ _ us zs h1 h2 => match us, zs, h1, h2 with
    | [u0, u1], [], _, _ => ⟨[u0, u1], rfl, .inl ⟨rfl, rfl⟩⟩
theorem b19 : BOk c 16 0 ["many", "length", "demands"] [Bd.arg 2, Bd.arg 1, Bd.arg 0] := fun K d fd D h F hK => by
  cases h
  exact bind_p F hK fun _ _ _ _ _ _ us zs h1 h2 => match us, zs, h1, h2 with
    | [], [z0, z1, z2], _, _ => ⟨[z2, z1, z0], rfl, .inr ⟨by simp, (.arg rfl (.arg rfl (.arg rfl .nil)))⟩⟩
theorem b20 : BOk c 16 3 [] [] := fun K d fd D h F hK => by
  cases h
  exact bind_p F hK fun _ _ _ _ _ _ us zs h1 h2 => match us, zs, h1, h2 with
    | [u0, u1, u2], [], _, _ => ⟨[u0, u1, u2], rfl, .inl ⟨rfl, rfl⟩⟩
theorem b21 : BOk c 15 0 ["many", "length", "demands"] [Bd.arg 2, Bd.arg 1, Bd.arg 0] := fun K d fd D h F hK => by
  cases h
  exact bind_p F hK fun _ _ _ _ _ _ us zs h1 h2 => match us, zs, h1, h2 with
    | [], [z0, z1, z2], _, _ => ⟨[z2, z1, z0], rfl, .inr ⟨by simp, (.arg rfl (.arg rfl (.arg rfl .nil)))⟩⟩
theorem b22 : BOk c 15 3 [] [] := fun K d fd D h F hK => by
  cases h
  exact bind_p F hK fun _ _ _ _ _ _ us zs h1 h2 => match us, zs, h1, h2 with
    | [u0, u1, u2], [], _, _ => ⟨[u0, u1, u2], rfl, .inl ⟨rfl, rfl⟩⟩
theorem b23 : BOk c 30 5 [] [] := fun K d fd D h F hK => by
  cases h
  exact bind_p F hK fun _ _ _ _ _ _ us zs h1 h2 => match us, zs, h1, h2 with
    | [u0, u1, u2, u3, u4], [], _, _ => ⟨[u0, u1, u2, u3, u4], rfl, .inl ⟨rfl, rfl⟩⟩
theorem b24 : BOk c 27 3 [] [] := fun K d fd D h F hK => by
  cases h
  exact bind_p F hK fun _ _ _ _ _ _ us zs h1 h2 => match us, zs, h1, h2 with
    | [u0, u1, u2], [], _, _ => ⟨[u0, u1, u2], rfl, .inl ⟨rfl, rfl⟩⟩
theorem b25 : BOk c 24 3 [] [] := fun K d fd D h F hK => by
  cases h
  exact bind_p F hK fun _ _ _ _ _ _ us zs h1 h2 => match us, zs, h1, h2 with
    | [u0, u1, u2], [], _, _ => ⟨[u0, u1, u2], rfl, .inl ⟨rfl, rfl⟩⟩
theorem b26 : BOk c 28 3 [] [] := fun K d fd D h F hK => by
  cases h
  exact bind_p F hK fun _ _ _ _ _ _ us zs h1 h2 => match us, zs, h1, h2 with
    | [u0, u1, u2], [], _, _ => ⟨[u0, u1, u2], rfl, .inl ⟨rfl, rfl⟩⟩
theorem b27 : BOk c 26 2 [] [] := fun K d fd D h F hK => by
  cases h
  exact bind_p F hK fun _ _ _ _ _ _ us zs h1 h2 => match us, zs, h1, h2 with
    | [u0, u1], [], _, _ => ⟨[u0, u1], rfl, .inl ⟨rfl, rfl⟩⟩
theorem b28 : BOk c 31 4 [] [] := fun K d fd D h F hK => by
  cases h
  exact bind_p F hK fun _ _ _ _ _ _ us zs h1 h2 => match us, zs, h1, h2 with
    | [u0, u1, u2, u3], [], _, _ => ⟨[u0, u1, u2, u3], rfl, .inl ⟨rfl, rfl⟩⟩
theorem b29 : BOk c 13 0 ["length", "demands"] [Bd.arg 1, Bd.arg 0] := fun K d fd D h F hK => by
  cases h
  exact bind_p F hK fun _ _ _ _ _ _ us zs h1 h2 => match us, zs, h1, h2 with
    | [], [z0, z1], _, _ => ⟨[z1, z0], rfl, .inr ⟨by simp, (.arg rfl (.arg rfl .nil))⟩⟩
theorem b30 : BOk c 13 2 [] [] := fun K d fd D h F hK => by
  cases h
  exact bind_p F hK fun _ _ _ _ _ _ us zs h1 h2 => match us, zs, h1, h2 with
    | [u0, u1], [], _, _ => ⟨[u0, u1], rfl, .inl ⟨rfl, rfl⟩⟩
theorem b31 : BOk c 29 1 [] [] := fun K d fd D h F hK => by
  cases h
  exact bind_p F hK fun _ _ _ _ _ _ us zs h1 h2 => match us, zs, h1, h2 with
    | [u0], [], _, _ => ⟨[u0], rfl, .inl ⟨rfl, rfl⟩⟩
theorem b32 : BOk c 21 2 [] [] := fun K d fd D h F hK => by
  cases h
  exact bind_p F hK fun _ _ _ _ _ _ us zs h1 h2 => match us, zs, h1, h2 with
    | [u0, u1], [], _, _ => ⟨[u0, u1], rfl, .inl ⟨rfl, rfl⟩⟩
theorem b33 : BOk c 17 2 [] [] := fun K d fd D h F hK => by
  cases h
  exact bind_p F hK fun _ _ _ _ _ _ us zs h1 h2 => match us, zs, h1, h2 with
    | [u0, u1], [], _, _ => ⟨[u0, u1], rfl, .inl ⟨rfl, rfl⟩⟩
theorem b34 : BOk c 18 1 [] [] := fun K d fd D h F hK => by
  cases h
  exact bind_p F hK fun _ _ _ _ _ _ us zs h1 h2 => match us, zs, h1, h2 with
    | [u0], [], _, _ => ⟨[u0], rfl, .inl ⟨rfl, rfl⟩⟩
theorem b35 : BOk c 32 2 [] [] := fun K d fd D h F hK => by
  cases h
  exact bind_p F hK fun _ _ _ _ _ _ us zs h1 h2 => match us, zs, h1, h2 with
    | [u0, u1], [], _, _ => ⟨[u0, u1], rfl, .inl ⟨rfl, rfl⟩⟩
theorem b36 : BOk c 33 2 [] [] := fun K d fd D h F hK => by
  cases h
  exact bind_p F hK fun _ _ _ _ _ _ us zs h1 h2 => match us, zs, h1, h2 with
    | [u0, u1], [], _, _ => ⟨[u0, u1], rfl, .inl ⟨rfl, rfl⟩⟩
theorem b37 : BOk c 34 2 [] [] := fun K d fd D h F hK => by
  cases h
  exact bind_p F hK fun _ _ _ _ _ _ us zs h1 h2 => match us, zs, h1, h2 with
    | [u0, u1], [], _, _ => ⟨[u0, u1], rfl, .inl ⟨rfl, rfl⟩⟩
theorem b38 : BOk c 36 2 [] [] := fun K d fd D h F hK => by
  cases h
  exact bind_d F hK fun _ _ _ _ _ _ _ us its zs h1 h2 rv => match us, its, zs, h1, h2, rv with
    | [u0, u1], [i0], [], _, _, .cons r0 (.nil) => ⟨_, [u0, u1], rfl, rfl, .inl ⟨rfl, rfl⟩⟩
theorem bds : ∀ q ∈ c.P.bds, BOk c q.1 q.2.1 q.2.2.1 q.2.2.2 := allM (l := bdsL) (f := fun q => BOk c q.1 q.2.1 q.2.2.1 q.2.2.2) ⟨b0, b1, b2, b3, b4, b5, b6, b7, b8, b9, b10, b11, b12, b13, b14, b15, b16, b17, b18, b19, b20, b21, b22, b23, b24, b25, b26, b27, b28, b29, b30, b31, b32, b33, b34, b35, b36, b37, trivial⟩
theorem rbs : ∀ q ∈ c.P.rbs, ∀ g, c.ini.lookup q.1 = some g → BOk c g (q.2.1 + 1) [] q.2.2 := allM (l := rbsL) (f := fun q => ∀ g, c.ini.lookup q.1 = some g → BOk c g (q.2.1 + 1) [] q.2.2) ⟨(fun g h => by cases h; exact b38), (fun g h => by cases h; exact b38), (fun g h => by cases h; exact b38), trivial⟩
theorem sta : c.sta = true := by decide +kernel
theorem dn : (c.P.bds.all fun q => decide (q.1 < c.fn.length)) = true := by decide +kernel
end Lw
namespace Lw
open PySem PySem.Spec PyProof.Rows L2 Itp
def names : List PySem.Str := (["__name__", "ShiftError", "InvalidMany", "InvalidDemands", "InvalidLength", "is_whole", "is_from_to", "is_count", "is_listed", "MOST_SLOTS", "MOST_DEMAND", "are_counts", "check_staff", "ways_of", "raised", "ring_by", "starts_by", "people_at", "paper_at", "least_many", "staff", "MOST_PEOPLE", "check_many", "staff_of", "round_ring", "_law_cell", "_law_box", "_law_take", "_law_same", "_law_very"] : List PySem.Str) ++ (["_law_whole", "_law_met", "_law_is_staff", "_law_rows", "_law_least", "_law_need", "_law_demands", "_law_bad_demands", "_law_ask", "_law_both", "_law_small_right", "_law_great_right", "_law_refused_right"] : List PySem.Str)
abbrev R : PySem.W.OpenRow := PySem.W.OpenLaw.row PySem.Challenge.rw_clockshifts_k39_whole_fixed_numbers_or_a
abbrev hk : PySem.W.Hook := hookI 6 c
def ob (s : PySem.W.SharedT) : AlI := obsI 6 c (HandSHeadRun.getT s)
theorem ob_eq (s : PySem.W.SharedT) : ob s = hk.obs s.abs := obsI_eq (HandSHeadRun.getT_eq s)
theorem run (w : World) : HandSHeadRun.RunEq R (PySem.W.view R.prog [47]) hk ob 4000 names w := by
  intro os
  kernel_rfl
end Lw
namespace Lw
open PySem Itp
abbrev cl (n : Nat) := callI (prOf P) false n
theorem c0 {n : Nat} {x0 : IV} {h : IH} : cl (n + 1) 0 [x0] h = fin (evB sg (cl n) false d0.body [.v x0] h) := rfl
theorem c1 {n : Nat} {x0 x1 x2 : IV} {h : IH} : cl (n + 1) 1 [x0, x1, x2] h = fin (evB sg (cl n) false d1.body [.v x0, .v x1, .v x2] h) := rfl
theorem c2 {n : Nat} {x0 : IV} {h : IH} : cl (n + 1) 2 [x0] h = fin (evB sg (cl n) false d2.body [.v x0] h) := rfl
theorem c3 {n : Nat} {x0 : IV} {h : IH} : cl (n + 1) 3 [x0] h = fin (evB sg (cl n) false d3.body [.v x0] h) := rfl
theorem c4 {n : Nat} {x0 : IV} {h : IH} : cl (n + 1) 4 [x0] h = fin (evB sg (cl n) false d4.body [.v x0, .no] h) := rfl
theorem c5 {n : Nat} {x0 x1 : IV} {h : IH} : cl (n + 1) 5 [x0, x1] h = fin (evB sg (cl n) false d5.body [.v x0, .v x1] h) := rfl
theorem c6 {n : Nat} {x0 x1 x2 : IV} {h : IH} : cl (n + 1) 6 [x0, x1, x2] h = fin (evB sg (cl n) false d6.body [.v x0, .v x1, .v x2, .no, .no, .no, .no, .no, .no] h) := rfl
theorem c7 {n : Nat} {x0 x1 : IV} {h : IH} : cl (n + 1) 7 [x0, x1] h = fin (evB sg (cl n) false d7.body [.v x0, .v x1, .no, .no, .no, .no, .no] h) := rfl
theorem c8 {n : Nat} {x0 x1 : IV} {h : IH} : cl (n + 1) 8 [x0, x1] h = fin (evB sg (cl n) false d8.body [.v x0, .v x1, .no, .no, .no, .no] h) := rfl
theorem c9 {n : Nat} {x0 x1 : IV} {h : IH} : cl (n + 1) 9 [x0, x1] h = fin (evB sg (cl n) false d9.body [.v x0, .v x1, .no, .no] h) := rfl
theorem c10 {n : Nat} {x0 x1 x2 : IV} {h : IH} : cl (n + 1) 10 [x0, x1, x2] h = fin (evB sg (cl n) false d10.body [.v x0, .v x1, .v x2, .no, .no, .no] h) := rfl
theorem c11 {n : Nat} {x0 x1 x2 : IV} {h : IH} : cl (n + 1) 11 [x0, x1, x2] h = fin (evB sg (cl n) false d11.body [.v x0, .v x1, .v x2, .no, .no, .no, .no, .no, .no, .no, .no, .no, .no] h) := rfl
theorem c12 {n : Nat} {x0 x1 : IV} {h : IH} : cl (n + 1) 12 [x0, x1] h = fin (evB sg (cl n) false d12.body [.v x0, .v x1, .no, .no, .no] h) := rfl
theorem c13 {n : Nat} {x0 x1 : IV} {h : IH} : cl (n + 1) 13 [x0, x1] h = fin (evB sg (cl n) false d13.body [.v x0, .v x1, .no] h) := rfl
theorem c14 {n : Nat} {x0 x1 x2 : IV} {h : IH} : cl (n + 1) 14 [x0, x1, x2] h = fin (evB sg (cl n) false d14.body [.v x0, .v x1, .v x2] h) := rfl
theorem c15 {n : Nat} {x0 x1 x2 : IV} {h : IH} : cl (n + 1) 15 [x0, x1, x2] h = fin (evB sg (cl n) false d15.body [.v x0, .v x1, .v x2] h) := rfl
theorem c16 {n : Nat} {x0 x1 x2 : IV} {h : IH} : cl (n + 1) 16 [x0, x1, x2] h = fin (evB sg (cl n) false d16.body [.v x0, .v x1, .v x2] h) := rfl
theorem c17 {n : Nat} {x0 x1 : IV} {h : IH} : cl (n + 1) 17 [x0, x1] h = fin (evB sg (cl n) false d17.body [.v x0, .v x1] h) := rfl
theorem c18 {n : Nat} {x0 : IV} {h : IH} : cl (n + 1) 18 [x0] h = fin (evB sg (cl n) false d18.body [.v x0] h) := rfl
theorem c19 {n : Nat} {x0 x1 : IV} {h : IH} : cl (n + 1) 19 [x0, x1] h = fin (evB sg (cl n) false d19.body [.v x0, .v x1, .no, .no] h) := rfl
theorem c20 {n : Nat} {x0 x1 : IV} {h : IH} : cl (n + 1) 20 [x0, x1] h = fin (evB sg (cl n) false d20.body [.v x0, .v x1, .no] h) := rfl
theorem c21 {n : Nat} {x0 x1 : IV} {h : IH} : cl (n + 1) 21 [x0, x1] h = fin (evB sg (cl n) false d21.body [.v x0, .v x1, .no] h) := rfl
theorem c22 {n : Nat} {x0 : IV} {h : IH} : cl (n + 1) 22 [x0] h = fin (evB sg (cl n) false d22.body [.v x0] h) := rfl
theorem c23 {n : Nat} {x0 x1 x2 : IV} {h : IH} : cl (n + 1) 23 [x0, x1, x2] h = fin (evB sg (cl n) false d23.body [.v x0, .v x1, .v x2, .no, .no, .no] h) := rfl
theorem c24 {n : Nat} {x0 x1 x2 : IV} {h : IH} : cl (n + 1) 24 [x0, x1, x2] h = fin (evB sg (cl n) false d24.body [.v x0, .v x1, .v x2, .no] h) := rfl
theorem c25 {n : Nat} {x0 x1 : IV} {h : IH} : cl (n + 1) 25 [x0, x1] h = fin (evB sg (cl n) false d25.body [.v x0, .v x1, .no, .no, .no, .no, .no] h) := rfl
theorem c26 {n : Nat} {x0 x1 : IV} {h : IH} : cl (n + 1) 26 [x0, x1] h = fin (evB sg (cl n) false d26.body [.v x0, .v x1, .no, .no] h) := rfl
theorem c27 {n : Nat} {x0 x1 x2 : IV} {h : IH} : cl (n + 1) 27 [x0, x1, x2] h = fin (evB sg (cl n) false d27.body [.v x0, .v x1, .v x2, .no, .no, .no, .no, .no, .no, .no] h) := rfl
theorem c28 {n : Nat} {x0 x1 x2 : IV} {h : IH} : cl (n + 1) 28 [x0, x1, x2] h = fin (evB sg (cl n) false d28.body [.v x0, .v x1, .v x2, .no, .no, .no] h) := rfl
theorem c29 {n : Nat} {x0 : IV} {h : IH} : cl (n + 1) 29 [x0] h = fin (evB sg (cl n) false d29.body [.v x0, .no] h) := rfl
theorem c30 {n : Nat} {x0 x1 x2 x3 x4 : IV} {h : IH} : cl (n + 1) 30 [x0, x1, x2, x3, x4] h = fin (evB sg (cl n) false d30.body [.v x0, .v x1, .v x2, .v x3, .v x4, .no] h) := rfl
theorem c31 {n : Nat} {x0 x1 x2 x3 : IV} {h : IH} : cl (n + 1) 31 [x0, x1, x2, x3] h = fin (evB sg (cl n) false d31.body [.v x0, .v x1, .v x2, .v x3, .no, .no, .no] h) := rfl
theorem c32 {n : Nat} {x0 x1 : IV} {h : IH} : cl (n + 1) 32 [x0, x1] h = fin (evB sg (cl n) false d32.body [.v x0, .v x1, .no, .no, .no, .no, .no] h) := rfl
theorem c33 {n : Nat} {x0 x1 : IV} {h : IH} : cl (n + 1) 33 [x0, x1] h = fin (evB sg (cl n) false d33.body [.v x0, .v x1, .no, .no, .no, .no, .no] h) := rfl
theorem c34 {n : Nat} {x0 x1 : IV} {h : IH} : cl (n + 1) 34 [x0, x1] h = fin (evB sg (cl n) false d34.body [.v x0, .v x1, .no, .no, .no, .no] h) := rfl
theorem c35 {n : Nat} {x0 : IV} {h : IH} : cl (n + 1) 35 [x0] h = fin (evB sg (cl n) false d35.body [.v x0, .no, .no, .no, .no, .no] h) := rfl
theorem cls_0 : sg.cls[0]? = some ⟨[0], none, [], [], none, some 0⟩ := rfl
theorem cls_1 : sg.cls[1]? = some ⟨[1, 0], none, [], [], none, some 0⟩ := rfl
theorem cls_2 : sg.cls[2]? = some ⟨[2, 0], none, [], [], none, some 0⟩ := rfl
theorem cls_3 : sg.cls[3]? = some ⟨[3, 0], none, [], [], none, some 0⟩ := rfl
theorem glo_0 : sg.glo[0]? = some (.int 48) := rfl
theorem glo_1 : sg.glo[1]? = some (.int 1000) := rfl
theorem glo_2 : sg.glo[2]? = some (.int 100000) := rfl
theorem sub_0_0 : sg.sub 0 0 = true := rfl
theorem sub_0_1 : sg.sub 0 1 = false := rfl
theorem sub_0_2 : sg.sub 0 2 = false := rfl
theorem sub_0_3 : sg.sub 0 3 = false := rfl
theorem sub_1_0 : sg.sub 1 0 = true := rfl
theorem sub_1_1 : sg.sub 1 1 = true := rfl
theorem sub_1_2 : sg.sub 1 2 = false := rfl
theorem sub_1_3 : sg.sub 1 3 = false := rfl
theorem sub_2_0 : sg.sub 2 0 = true := rfl
theorem sub_2_1 : sg.sub 2 1 = false := rfl
theorem sub_2_2 : sg.sub 2 2 = true := rfl
theorem sub_2_3 : sg.sub 2 3 = false := rfl
theorem sub_3_0 : sg.sub 3 0 = true := rfl
theorem sub_3_1 : sg.sub 3 1 = false := rfl
theorem sub_3_2 : sg.sub 3 2 = false := rfl
theorem sub_3_3 : sg.sub 3 3 = true := rfl

local macro_rules
  | `(tactic| simp_arith) => `(tactic| simp_arith [id_eq])
  | `(tactic| simp_arith [$ls,*]) => `(tactic| simp (maxSteps := 1000000) (implicitDefEqProofs := false) (disch := first | assumption | omega | exact Itp.lt_of (by assumption) | exact Itp.ofS_ok _ | (simp only [List.length_append, List.length_set, List.length_cons, List.length_nil, List.length_map]; omega)) only [bd_ok, bd_ex, bd_no, cnd_t, cnd_f, if_no, if_noS, opt_some, boo_some, of_ok, of_ex, seq_nx, seq_rt, seq_ex, seq_bk, seq_ct, fin_nx, fin_rt, fin_ex, ↓e_var, ↓e_lit, ↓e_glo, ↓e_bin, ↓e_neg, ↓e_cmp, ↓e_chn, ↓e_idx, ↓e_sl, ↓o_no, ↓o_so, ↓e_and, ↓e_or, ↓e_and1, ↓e_and2, ↓e_or1, ↓e_or2, ↓e_not, ↓e_tup, ↓e_lst, ↓e_dic, ↓e_dic2, ↓e_call, ↓e_fld, ↓e_meth, ↓e_new, ↓e_bi, ↓e_hot1, ↓e_hot2, ↓e_hot3, ↓e_hot4, ↓e_hot5, ↓e_hot6, ↓e_hot7, ↓e_bm, ↓e_isi, ↓e_lc, ↓e_exf, ↓e_exi, ↓e_gix, ↓e_lrg, ↓e_lc2, ↓e_dsp, ↓d_nil, ↓d_cons, ↓d_star, newL_t, newL_f, lst_tup, lst_frz, lrgV1, lrgV2, it_tup, it_frz, it_rf, gt_ref, m_sumT, ↓s_augi, ↓e_rev, ↓e_bits, ↓e_ocm, ↓t_ocm, ↓t_ch3, m_revF, ↓e_ife, ↓a_nil, ↓a_cons, ↓t_val, ↓t_not, ↓t_and, ↓t_or, ↓t_cmp, ↓t_chn, ↓t_all0, ↓t_all, ↓t_any0, ↓t_any, ↓s_expr, ↓s_set, ↓s_setT, ↓s_setN, ↓s_sets, ↓s_par, ↓s_fset, ↓s_iset, ↓s_aug, ↓s_augf, ↓s_iset2, ↓s_ret, ↓s_retn, ↓s_if, ↓s_for, ↓s_whl, ↓s_brk, ↓s_cnt, ↓s_pas, ↓s_rse, ↓s_try, ↓try_nx, ↓try_rt, ↓try_ex, try_bk, try_ct, ↓h_nil, ↓h_cons, ↓gone_rt, ↓gone_nx, ↓b_nil, ↓b_cons, ↓i_val, ↓i_rng, ↓i_enm, ↓i_zip, getV_0, getV_s, asg_nm, asg_tp, asg_tr, asg_ns, asgs_0, asgs_c, setAll_0, setAll_c, setsF_0, setsF_c, args_0, args_c, bnd_0, bnd_a, bnd_d, b_add, b_sub, b_mulL, b_mulR, b_mulS, b_addT, b_addS, ip_add, ip_sub, ofS_inj, ofS_len, String.reduceEq, prs, mrg, putD, keyB, getK, keyEq, List.foldl_cons, List.foldl_nil, List.any_cons, List.any_nil, List.all_cons, List.all_nil, List.map_cons, List.map_nil, Bool.or_false, Bool.false_or, Bool.true_or, Bool.or_true, b_div, b_mod, b_pow, b_and, b_or, b_xor, b_shl, b_shr, eq_ii, eq_bb, eq_nn, eq_ss, eq_ni, eq_in, eq_ns, eq_sn, Nat.reduceEqDiff, putI, c_eq, c_ne, c_lt, c_le, c_gt, c_ge, c_is, c_isn, c_in, c_nin, l_lt, l_le, l_gt, same, isAny, isC, tr_non, tr_bl, tr_int, tr_tup, tr_frz, tr_ref, x_tup, x_frz, x_ref, nIx_p, nIx_m, atIx_d, set_ref, f_max, f_min, f_abs, f_int, f_intb, f_lenT, f_lenF, f_listT, f_tupF, g_app, g_new, g_set, g_setn, List.set_set, set_new, List.getElem?_cons_zero, List.getElem?_cons_succ, List.set_cons_zero, List.set_cons_succ, List.length_cons, List.length_nil, List.cons_append, List.nil_append, List.append_nil, Option.map_some, Option.map_none, Option.bind_some, Option.bind_none, decide_eq_true_eq, Bool.not_eq_true', decide_eq_false_iff_not, Bool.not_true, Bool.not_false, reduceIte, if_true, if_false, Bool.false_eq_true, Bool.true_eq_false, List.isEmpty_cons, List.isEmpty_nil, Int.toNat_zero, Int.toNat_one, Int.reduceToNat, Int.toNat_natCast, LN_eq, Nat.reduceAdd, Nat.reduceLeDiff, Nat.reduceLT, Nat.reduceGT, Int.reduceLT, Int.reduceLE, Int.reduceGT, Int.reduceGE, Int.reduceEq, Int.reduceNe, Int.reduceBNe, Int.reduceAdd, Int.reduceSub, Int.reduceMul, Int.reduceNeg, Int.reduceMod, Int.reduceDiv, Int.cast_ofNat_Int, Int.natCast_zero, Int.natCast_one, Nat.reduceMul, Int.reducePow, decide_true, decide_false, and_self, and_true, true_and, and_false, false_and, eq_self, not_true_eq_false, not_false_eq_true, Bool.true_and, Bool.and_true, Bool.false_and, Bool.and_false, Option.getD_some, W_ok, ↓W_bind, ↓W_of, ↓W_seq, ↓W_fin, S_nx, S_rt, S_bk, S_ct, ↓n_nx, ↓n_rt, ↓n_bk, ↓n_ct, ↓q_nx, ↓q_rt, ↓l_nx, ↓l_ct, ↓l_bk, ↓l_rt, intsOf_map, sl_frz, sl_tup, sl_ref, m_sum, m_len, m_tup, m_list, m_any, m_all, bm_app, isL_ref, add_rr, mul_rk, wipe, Tg.slots, rng1, lst_ref, List.length_map, $ls,*])
local macro_rules
  | `(tactic| ac_rfl) => `(tactic| (repeat (first | exact Itp.Fr.reflS | exact Itp.Fr.mono (by assumption) (by (first | omega | (simp only [List.length_append, List.length_set, List.length_cons, List.length_nil, List.length_map, List.length_range]; omega) | (simp only [List.length_append, List.length_set, List.length_cons, List.length_nil, List.length_map, List.length_range] at *; omega))) | refine Itp.Fr.app ?_ | refine Itp.Fr.trS ?_ (by assumption) (by (first | omega | (simp only [List.length_append, List.length_set, List.length_cons, List.length_nil, List.length_map, List.length_range]; omega) | (simp only [List.length_append, List.length_set, List.length_cons, List.length_nil, List.length_map, List.length_range] at *; omega))) | refine Itp.Fr.trG ?_ (by assumption) | refine Itp.Fr.setB ?_ (by (first | omega | (simp only [List.length_append, List.length_set, List.length_cons, List.length_nil, List.length_map, List.length_range]; omega) | (simp only [List.length_append, List.length_set, List.length_cons, List.length_nil, List.length_map, List.length_range] at *; omega))) (by omega))))
local macro_rules
  | `(tactic| and_intros) => `(tactic| (repeat (first | exact Itp.Bx.mono (by assumption) (by (first | omega | (simp only [List.length_append, List.length_set, List.length_cons, List.length_nil, List.length_map, List.length_range]; omega) | (simp only [List.length_append, List.length_set, List.length_cons, List.length_nil, List.length_map, List.length_range] at *; omega))) | refine Itp.Bx.app ?_ | refine Itp.Fr.boxS (by assumption) ?_ (by (first | omega | (simp only [List.length_append, List.length_set, List.length_cons, List.length_nil, List.length_map, List.length_range]; omega) | (simp only [List.length_append, List.length_set, List.length_cons, List.length_nil, List.length_map, List.length_range] at *; omega))) | refine Itp.Bx.gr ?_ (by assumption) | refine Itp.Bx.setn ?_ (by (first | omega | (simp only [List.length_append, List.length_set, List.length_cons, List.length_nil, List.length_map, List.length_range]; omega) | (simp only [List.length_append, List.length_set, List.length_cons, List.length_nil, List.length_map, List.length_range] at *; omega))))))
local macro_rules
  | `(tactic| specialize $t) => `(tactic| (have := $t; try simp only [List.length_append, List.length_set, List.length_cons, List.length_nil] at this))
local macro_rules
  | `(tactic| subst_eqs) => `(tactic| (first | omega | (simp only [List.length_append, List.length_set, List.length_cons, List.length_nil, List.length_map, List.length_range]; omega) | (simp only [List.length_append, List.length_set, List.length_cons, List.length_nil, List.length_map, List.length_range] at *; omega)))
local macro_rules
  | `(tactic| simp_all_arith) => `(tactic| simp_all_arith [id_eq])
  | `(tactic| simp_all_arith [$ls,*]) => `(tactic| simp_arith [setX, List.lookup, Nat.reduceBEq, beq_self_eq_true, cls_0, cls_1, cls_2, cls_3, glo_0, glo_1, glo_2, sub_0_0, sub_0_1, sub_0_2, sub_0_3, sub_1_0, sub_1_1, sub_1_2, sub_1_3, sub_2_0, sub_2_1, sub_2_2, sub_2_3, sub_3_0, sub_3_1, sub_3_2, sub_3_3, $ls,*])

theorem is_whole_ {n : Nat} {v : IV} {h : IH} (D : Dv h v) : cl (n + 1) 0 [v] h = .ok (.bl (isW v)) h := by
  rw [c0, d0]
  cases v with
  | ref r => rcases D.ref with ⟨_, e⟩ | ⟨_, e⟩ <;> simp_arith [e] <;> rfl
  | _ => simp_arith <;> rfl
theorem is_from_to_ {n : Nat} {v : IV} {lo hi : Int} {h : IH} (D : Dv h v) : cl (n + 2) 1 [v, .int lo, .int hi] h = .ok (.bl (isFT v lo hi)) h := by
  rw [c1, d1]
  cases v with
  | int i =>
    by_cases q : lo ≤ i <;> simp_arith [is_whole_ D, isW, q, isFT]
  | _ => simp_arith [is_whole_ D, isW, isFT]
theorem is_count_ {n : Nat} {v : IV} {h : IH} (D : Dv h v) : cl (n + 2) 2 [v] h = .ok (.bl (isCt v)) h := by
  rw [c2, d2]
  cases v with
  | int i => simp_arith [is_whole_ D, isW, isCt]
  | _ => simp_arith [is_whole_ D, isW, isCt]

theorem take_ {n : Nat} {b : Nat} {many : Int} {h : IH} {N : Nat} (hb : Bx N h b) (hN : N ≤ 200000000000) (hm : 0 < many) (hm2 : many < 18446744073709551616) :
    W (cl (n + 1) 19 [.ref b, .int many] h) fun v h' => ∃ d : Int, v = .int d ∧ 0 ≤ d ∧ d < many ∧ h'.length = h.length ∧ Fr b 1 h h' :=
  takeW (G := sg) (cs := cl n) (u := false) (w := true) (A := 15485863) (B := 179424673) (C := 104729) hb hN hm hm2 (by omega) (by omega) (by omega)
theorem tk_ {n : Nat} {b : Nat} {many : Int} {h : IH} (hb : Bx 100000000000 h b) (hm : 0 < many) (hm2 : many < 18446744073709551616) :
    W (cl (n + 1) 19 [.ref b, .int many] h) fun v h' => ∃ d : Int, v = .int d ∧ 0 ≤ d ∧ d < many ∧ h'.length = h.length ∧ Fr b 1 h h' := take_ hb (by omega) hm hm2
theorem cell_ {n : Nat} {ns : List Int} {k : Nat} {h : IH} : W (cl (n + 1) 17 [.frz (ns.map IV.int), .int k] h) fun v h' => (∃ z : Int, v = .int z) ∧ Gr h h' :=
  cellW (G := sg) (cs := cl n) (u := true) (K := 6089) (by omega)
theorem box_ {n : Nat} {z : Int} {h : IH} : W (cl (n + 1) 18 [.int z] h) fun v h' => v = .ref h.length ∧ Gr h h' ∧ h'.length = h.length + 1 ∧ Bx 0 h' h.length :=
  boxW (G := sg) (cs := cl n)

/-! ### rings of ways and numbers that are raised: plain -/
structure Wy where
  f : Nat
  t : Nat
  g : Int
  r : Int
  p : Bool
def gs (r : List Wy) : Int := (r.map (·.g)).sum
def yv (x : List Int) (i : Nat) : Int := x.getD i 0
def cv (c : List (Option Wy)) (i : Nat) : Option Wy := c.getD i none
structure Stt where
  x : List Int
  c : List (Option Wy)
  l : Option Nat
def rlx (s : Stt) (w : Wy) : Stt := if yv s.x w.f + w.g > yv s.x w.t then ⟨s.x.set w.t (yv s.x w.f + w.g), s.c.set w.t (some w), some w.t⟩ else s
def pass (W : List Wy) (s : Stt) : Stt := W.foldl rlx ⟨s.x, s.c, none⟩
def raisedP (W : List Wy) : Nat → Stt → Stt
  | 0, s => s
  | k + 1, s => if (pass W s).l = none then pass W s else raisedP W k (pass W s)
def Ch (c : List (Option Wy)) : Nat → List Wy → Nat → Prop
  | s, [], e => s = e
  | s, w :: r, e => cv c s = some w ∧ Ch c w.f r e
structure Inv (n : Nat) (W : List Wy) (s : Stt) : Prop where
  lx : s.x.length = n
  lc : s.c.length = n
  nn : ∀ i, 0 ≤ yv s.x i
  cw : ∀ v w, cv s.c v = some w → w ∈ W ∧ w.t = v ∧ yv s.x v ≤ yv s.x w.f + w.g
  cn : ∀ v, cv s.c v = none → yv s.x v = 0
  cy : ∀ v r, r ≠ [] → Ch s.c v r v → 0 < gs r
theorem yv_set {x : List Int} {i j : Nat} {a : Int} (l : i < x.length) : yv (x.set i a) j = if i = j then a else yv x j := by
  unfold yv
  rw [List.getD_eq_getElem?_getD, List.getD_eq_getElem?_getD, List.getElem?_set]
  split
  · next h => subst h; simp [l]
  · rfl
theorem cv_set {x : List (Option Wy)} {i j : Nat} {a : Option Wy} (l : i < x.length) : cv (x.set i a) j = if i = j then a else cv x j := by
  unfold cv
  rw [List.getD_eq_getElem?_getD, List.getD_eq_getElem?_getD, List.getElem?_set]
  split
  · next h => subst h; simp [l]
  · rfl
theorem rlx_mono {s : Stt} {w : Wy} (l : w.t < s.x.length) (i : Nat) : yv s.x i ≤ yv (rlx s w).x i := by
  unfold rlx
  split
  · show _ ≤ yv (s.x.set _ _) i
    rw [yv_set l]
    split
    · next h => subst h; omega
    · exact Int.le_refl _
  · exact Int.le_refl _
theorem gs_cons {w : Wy} {r : List Wy} : gs (w :: r) = w.g + gs r := rfl
theorem rlx_inv {n : Nat} {W : List Wy} {s : Stt} {w : Wy} (hw : w ∈ W) (ht : w.t < n) (I : Inv n W s) : Inv n W (rlx s w) := by
  by_cases q : yv s.x w.f + w.g > yv s.x w.t
  case neg => unfold rlx; rw [if_neg q]; exact I
  have e : rlx s w = ⟨s.x.set w.t (yv s.x w.f + w.g), s.c.set w.t (some w), some w.t⟩ := if_pos q
  have mono := rlx_mono (s := s) (w := w) (by rw [I.lx]; exact ht)
  rw [e] at mono ⊢
  have lx : w.t < s.x.length := by rw [I.lx]; exact ht
  have lc : w.t < s.c.length := by rw [I.lc]; exact ht
  have cw : ∀ v u, cv (s.c.set w.t (some w)) v = some u → u ∈ W ∧ u.t = v ∧ yv (s.x.set w.t (yv s.x w.f + w.g)) v ≤ yv (s.x.set w.t (yv s.x w.f + w.g)) u.f + u.g := fun v u h => by
    rw [cv_set lc] at h
    by_cases z : w.t = v
    · rw [if_pos z] at h
      cases h
      refine ⟨hw, z, ?_⟩
      have := mono w.f
      rw [yv_set (j := v) lx, if_pos z]
      simp only at this
      omega
    · rw [if_neg z] at h
      obtain ⟨a, b, d⟩ := I.cw v u h
      refine ⟨a, b, ?_⟩
      have := mono u.f
      rw [yv_set (j := v) lx, if_neg z]
      simp only at this
      omega
  refine ⟨by simp [I.lx], by simp [I.lc], fun i => Int.le_trans (I.nn i) (mono i), cw, fun v h => ?_, ?_⟩
  · show yv (s.x.set _ _) v = 0
    have h : cv (s.c.set w.t (some w)) v = none := h
    rw [cv_set lc] at h
    by_cases z : w.t = v
    · rw [if_pos z] at h; cases h
    · rw [if_neg z] at h
      rw [yv_set lx, if_neg z]
      exact I.cn v h
  · -- a chain of the new ways
    have key : ∀ (r : List Wy) (v u : Nat), Ch (s.c.set w.t (some w)) v r u → yv s.x v ≤ yv s.x u + gs r ∧ (yv s.x v < yv s.x u + gs r ∨ Ch s.c v r u) := by
      intro r
      induction r with
      | nil => intro v u h; exact ⟨by have h : v = u := h; subst h; simp [gs], .inr h⟩
      | cons a r ih =>
        intro v u ⟨h1, h2⟩
        obtain ⟨i1, i2⟩ := ih _ _ h2
        rw [cv_set lc] at h1
        rw [gs_cons]
        by_cases z : w.t = v
        · rw [if_pos z] at h1
          cases h1
          subst z
          exact ⟨by omega, .inl (by omega)⟩
        · rw [if_neg z] at h1
          obtain ⟨_, _, d⟩ := I.cw v a h1
          refine ⟨by omega, ?_⟩
          rcases i2 with i2 | i2
          · exact .inl (by omega)
          · exact .inr ⟨h1, i2⟩
    intro v r hr h
    rcases (key r v v h).2 with z | z
    · omega
    · exact I.cy v r hr z
theorem fold_inv {n : Nat} {W : List Wy} (hW : ∀ w ∈ W, w.t < n) : ∀ (V : List Wy) (s : Stt), (∀ w ∈ V, w ∈ W) → Inv n W s → Inv n W (V.foldl rlx s) ∧ (∀ i, yv s.x i ≤ yv (V.foldl rlx s).x i) ∧ (∀ w ∈ V, yv s.x w.f + w.g ≤ yv (V.foldl rlx s).x w.t)
  | [], s, _, I => ⟨I, fun _ => Int.le_refl _, fun _ m => by simp at m⟩
  | w :: V, s, h, I => by
    have hw := h w (by simp)
    have I1 := rlx_inv hw (hW w hw) I
    obtain ⟨J, m, g⟩ := fold_inv hW V (rlx s w) (fun u mu => h u (by simp [mu])) I1
    have m1 := rlx_mono (s := s) (w := w) (by rw [I.lx]; exact hW w hw)
    refine ⟨J, fun i => Int.le_trans (m1 i) (m i), fun u mu => ?_⟩
    rcases List.mem_cons.1 mu with rfl | mu
    · have : yv s.x u.f + u.g ≤ yv (rlx s u).x u.t := by
        unfold rlx
        split
        · show _ ≤ yv (s.x.set _ _) _
          rw [yv_set (by rw [I.lx]; exact hW u hw), if_pos rfl]
          exact Int.le_refl _
        · omega
      have := m u.t
      simp only [List.foldl_cons]
      omega
    · have := g u mu
      have := m1 u.f
      simp only [List.foldl_cons]
      omega
/-- the last one that was raised; nothing was raised -/
theorem fold_last {n : Nat} {W : List Wy} (hW : ∀ w ∈ W, w.t < n) : ∀ (V : List Wy) (s : Stt), (∀ w ∈ V, w ∈ W) → Inv n W s →
    (((V.foldl rlx s).l = s.l ∧ V.foldl rlx s = s ∧ ∀ w ∈ V, yv s.x w.f + w.g ≤ yv s.x w.t) ∨ ∃ v, v < n ∧ (V.foldl rlx s).l = some v ∧ yv s.x v < yv (V.foldl rlx s).x v)
  | [], s, _, _ => .inl ⟨rfl, rfl, fun _ m => by simp at m⟩
  | w :: V, s, h, I => by
    have hw := h w (by simp)
    have I1 := rlx_inv hw (hW w hw) I
    have h' : ∀ u ∈ V, u ∈ W := fun u mu => h u (by simp [mu])
    have m1 := rlx_mono (s := s) (w := w) (by rw [I.lx]; exact hW w hw)
    rw [List.foldl_cons]
    rcases fold_last hW V (rlx s w) h' I1 with ⟨a, b, c⟩ | ⟨v, vn, a, b⟩
    · by_cases q : yv s.x w.f + w.g > yv s.x w.t
      · have e : rlx s w = ⟨s.x.set w.t (yv s.x w.f + w.g), s.c.set w.t (some w), some w.t⟩ := if_pos q
        refine .inr ⟨w.t, hW w hw, by rw [a, e], ?_⟩
        rw [b, e]
        show _ < yv (s.x.set _ _) _
        rw [yv_set (by rw [I.lx]; exact hW w hw), if_pos rfl]
        omega
      · have e : rlx s w = s := if_neg q
        rw [e] at a b c ⊢
        refine .inl ⟨a, b, fun u mu => ?_⟩
        rcases List.mem_cons.1 mu with rfl | mu
        · omega
        · exact c u mu
    · exact .inr ⟨v, vn, a, by have := m1 v; omega⟩
/-- ways one behind the other, backwards -/
def Wk2 (W : List Wy) : Nat → List Wy → Nat → Prop
  | s, [], e => s = e
  | s, w :: r, e => w ∈ W ∧ w.t = s ∧ Wk2 W w.f r e
def Up (W : List Wy) (k : Nat) (x : List Int) : Prop := ∀ r s e, Wk2 W s r e → r.length ≤ k → gs r ≤ yv x s
theorem Up0 {n : Nat} {W : List Wy} {s : Stt} (I : Inv n W s) : Up W 0 s.x := fun r v e _ l => by
  cases r with
  | nil => exact I.nn v
  | cons _ _ => simp at l
theorem init_inv {n : Nat} {W : List Wy} : Inv n W ⟨List.replicate n 0, List.replicate n none, none⟩ := by
  have y0 : ∀ i, yv (List.replicate n 0) i = 0 := fun i => by
    unfold yv
    rw [List.getD_eq_getElem?_getD, List.getElem?_replicate]
    split <;> rfl
  have c0 : ∀ i, cv (List.replicate n none) i = none := fun i => by
    unfold cv
    rw [List.getD_eq_getElem?_getD, List.getElem?_replicate]
    split <;> rfl
  refine ⟨by simp, by simp, fun i => by rw [y0]; omega, fun v w h => ?_, fun v _ => y0 v, fun v r hr h => ?_⟩
  · rw [c0] at h; cases h
  · cases r with
    | nil => exact absurd rfl hr
    | cons a r => have h := h.1; rw [c0] at h; cases h
/-- what comes of it -/
theorem raised_main {n : Nat} {W : List Wy} (hW : ∀ w ∈ W, w.t < n) : ∀ (k : Nat) (s : Stt) (j : Nat), Inv n W s → Up W j s.x → 0 < k →
    ((raisedP W k s).l = none ∧ Inv n W (raisedP W k s) ∧ ∀ w ∈ W, yv (raisedP W k s).x w.f + w.g ≤ yv (raisedP W k s).x w.t) ∨
    (∃ v, v < n ∧ (raisedP W k s).l = some v ∧ Inv n W (raisedP W k s) ∧ ∀ r e, Wk2 W v r e → r.length ≤ j + (k - 1) → gs r < yv (raisedP W k s).x v)
  | 0, _, _, _, _, h => absurd h (by omega)
  | k + 1, s, j, I, U, _ => by
    have I0 : Inv n W ⟨s.x, s.c, none⟩ := ⟨I.lx, I.lc, I.nn, I.cw, I.cn, I.cy⟩
    obtain ⟨J, m, g⟩ := fold_inv hW W ⟨s.x, s.c, none⟩ (fun _ x => x) I0
    have L := fold_last hW W ⟨s.x, s.c, none⟩ (fun _ x => x) I0
    rw [raisedP]
    by_cases q : (pass W s).l = none
    · rw [if_pos q]
      rcases L with ⟨a, b, c⟩ | ⟨v, vn, a, b⟩
      · refine .inl ⟨q, J, ?_⟩
        show ∀ w ∈ W, yv (W.foldl rlx ⟨s.x, s.c, none⟩).x w.f + w.g ≤ yv (W.foldl rlx ⟨s.x, s.c, none⟩).x w.t
        rw [b]
        exact c
      · exact absurd q (by show ¬ (W.foldl rlx ⟨s.x, s.c, none⟩).l = none; rw [a]; simp)
    · rw [if_neg q]
      have U1 : Up W (j + 1) (pass W s).x := fun r v e h l => by
        cases r with
        | nil => exact J.nn v
        | cons w r =>
          obtain ⟨h1, rfl, h3⟩ := h
          have a := U r w.f e h3 (by simp at l; omega)
          have b : yv s.x w.f + w.g ≤ yv (W.foldl rlx ⟨s.x, s.c, none⟩).x w.t := g w h1
          rw [gs_cons]
          show w.g + gs r ≤ yv (W.foldl rlx ⟨s.x, s.c, none⟩).x w.t
          omega
      cases k with
      | zero =>
        rw [raisedP]
        rcases L with ⟨a, b, c⟩ | ⟨v, vn, a, b⟩
        · exact absurd a q
        · refine .inr ⟨v, vn, a, J, fun r e h l => ?_⟩
          have := U r v e h (by omega)
          have b : yv s.x v < yv (W.foldl rlx ⟨s.x, s.c, none⟩).x v := b
          show gs r < yv (W.foldl rlx ⟨s.x, s.c, none⟩).x v
          omega
      | succ k =>
        rcases raised_main hW (k + 1) (pass W s) (j + 1) J U1 (by omega) with h | ⟨v, vn, a, b, c⟩
        · exact .inl h
        · exact .inr ⟨v, vn, a, b, fun r e h l => c r e h (by omega)⟩
theorem ch_wk {n : Nat} {W : List Wy} {s : Stt} (I : Inv n W s) : ∀ {r : List Wy} {v e : Nat}, Ch s.c v r e → Wk2 W v r e
  | [], _, _, h => h
  | w :: r, v, e, h => ⟨(I.cw v w h.1).1, (I.cw v w h.1).2.1, ch_wk I h.2⟩
theorem ch_le {n : Nat} {W : List Wy} {s : Stt} (I : Inv n W s) : ∀ {r : List Wy} {v e : Nat}, Ch s.c v r e → yv s.x v ≤ yv s.x e + gs r
  | [], v, e, h => by have h : v = e := h; subst h; simp [gs]
  | w :: r, v, e, h => by
    have := (I.cw v w h.1).2.2
    have := ch_le I h.2
    rw [gs_cons]; omega
/-- no numbers keep all ways if some ring gains -/
theorem ring_bars {W : List Wy} {y : Nat → Int} (hy : ∀ w ∈ W, y w.f + w.g ≤ y w.t) : ∀ {r : List Wy} {v e : Nat}, Wk2 W v r e → y e + gs r ≤ y v
  | [], v, e, h => by have h : v = e := h; subst h; simp [gs]
  | w :: r, v, e, h => by
    have a := hy w h.1
    have b := ring_bars hy h.2.2
    have c := h.2.1
    subst c
    rw [gs_cons]; omega
/-- the slot from which the way comes -/
def bk (c : List (Option Wy)) (v : Nat) : Nat := match cv c v with
  | some w => w.f
  | none => v
def bkN (c : List (Option Wy)) : Nat → Nat → Nat
  | 0, v => v
  | k + 1, v => bk c (bkN c k v)
theorem bkN_add {c : List (Option Wy)} (v k : Nat) : ∀ j, bkN c (k + j) v = bkN c j (bkN c k v)
  | 0 => rfl
  | j + 1 => by rw [← Nat.add_assoc, bkN, bkN, bkN_add v k j]
/-- the ways back -/
def chN (c : List (Option Wy)) (v : Nat) : Nat → List Wy
  | 0 => []
  | k + 1 => chN c v k ++ (cv c (bkN c k v)).toList
theorem ch_app {c : List (Option Wy)} : ∀ {r q : List Wy} {v u e : Nat}, Ch c v r u → Ch c u q e → Ch c v (r ++ q) e
  | [], q, v, u, e, h, k => by have h : v = u := h; subst h; exact k
  | w :: r, q, v, u, e, h, k => ⟨h.1, ch_app h.2 k⟩
theorem chN_ok {c : List (Option Wy)} {v : Nat} : ∀ k, (∀ j < k, cv c (bkN c j v) ≠ none) → Ch c v (chN c v k) (bkN c k v) ∧ (chN c v k).length = k
  | 0, _ => ⟨rfl, rfl⟩
  | k + 1, h => by
    obtain ⟨a, b⟩ := chN_ok k fun j l => h j (by omega)
    cases e : cv c (bkN c k v) with
    | none => exact absurd e (h k (by omega))
    | some w =>
      have z : bkN c (k + 1) v = w.f := by rw [bkN, bk, e]
      rw [z, chN, e]
      exact ⟨ch_app a ⟨e, rfl⟩, by simp [b]⟩
theorem pigeon : ∀ (n : Nat) (f : Nat → Nat), (∀ i ≤ n, f i < n) → ∃ i j, i < j ∧ j ≤ n ∧ f i = f j
  | 0, f, h => absurd (h 0 (by omega)) (by omega)
  | n + 1, f, h => by
    by_cases q : ∃ i, i ≤ n ∧ f i = f (n + 1)
    · obtain ⟨i, l, e⟩ := q
      exact ⟨i, n + 1, by omega, by omega, e⟩
    have q : ∀ i, i ≤ n → f i ≠ f (n + 1) := fun i l e => q ⟨i, l, e⟩
    obtain ⟨i, j, l1, l2, e⟩ := pigeon n (fun i => if f i = n then f (n + 1) else f i) (fun i l => by
      have a := h i (by omega)
      have b := h (n + 1) (by omega)
      have c := q i l
      show (if f i = n then f (n + 1) else f i) < n
      split <;> omega)
    refine ⟨i, j, l1, by omega, ?_⟩
    have a := q i (by omega)
    have b := q j (by omega)
    have e : (if f i = n then f (n + 1) else f i) = (if f j = n then f (n + 1) else f j) := e
    split at e <;> split at e <;> omega
/-- the ring: from the slot that as many steps back lead to, round to it -/
theorem ring_main {n : Nat} {W : List Wy} {s : Stt} (hf : ∀ w ∈ W, w.f < n) (I : Inv n W s) {v : Nat} (vn : v < n) (up : ∀ r e, Wk2 W v r e → r.length ≤ n - 1 → gs r < yv s.x v) :
    (∀ j, j ≤ n → cv s.c (bkN s.c j v) ≠ none ∧ bkN s.c j v < n) ∧ ∃ p, 1 ≤ p ∧ p ≤ n ∧ bkN s.c p (bkN s.c n v) = bkN s.c n v ∧ (∀ j, cv s.c (bkN s.c j (bkN s.c n v)) ≠ none ∧ bkN s.c j (bkN s.c n v) < n) := by
  have some_ : ∀ k, (∀ j < k, cv s.c (bkN s.c j v) ≠ none) → k ≤ n - 1 → cv s.c (bkN s.c k v) ≠ none := fun k h l z => by
    obtain ⟨a, b⟩ := chN_ok k h
    have := up _ _ (ch_wk I a) (by rw [b]; exact l)
    have := ch_le I a
    have := I.cn _ z
    omega
  have all : ∀ k, k ≤ n - 1 → cv s.c (bkN s.c k v) ≠ none := by
    intro k
    induction k using Nat.strongRecOn with
    | _ k ih => exact fun l => some_ k (fun j lj => ih j lj (by omega)) l
  have lt : ∀ k, k ≤ n → bkN s.c k v < n := by
    intro k
    induction k with
    | zero => exact fun _ => vn
    | succ k ih =>
      intro l
      have := ih (by omega)
      rw [bkN, bk]
      split
      · next w e => exact hf w (I.cw _ w e).1
      · exact this
  obtain ⟨i, j, l1, l2, e⟩ := pigeon n (fun k => bkN s.c k v) (fun k l => lt k l)
  have e : bkN s.c i v = bkN s.c j v := e
  have red : ∀ m, i ≤ m → ∃ k, i ≤ k ∧ k < j ∧ bkN s.c m v = bkN s.c k v := by
    intro m
    induction m using Nat.strongRecOn with
    | _ m ih =>
      intro l
      rcases Nat.lt_or_ge m j with q | q
      · exact ⟨m, l, q, rfl⟩
      · obtain ⟨k, a, b, c⟩ := ih (i + (m - j)) (by omega) (by omega)
        refine ⟨k, a, b, ?_⟩
        rw [← c, show m = j + (m - j) by omega, bkN_add, ← e, ← bkN_add, show i + (j + (m - j) - j) = i + (m - j) by omega]
  have rnd : bkN s.c (j - i) (bkN s.c n v) = bkN s.c n v := by
    rw [← bkN_add, show n + (j - i) = j + (n - i) by omega, bkN_add, ← e, ← bkN_add, show i + (n - i) = n by omega]
  have tail : ∀ k, cv s.c (bkN s.c k (bkN s.c n v)) ≠ none ∧ bkN s.c k (bkN s.c n v) < n := fun k => by
    rw [← bkN_add]
    obtain ⟨m, a, b, c⟩ := red (n + k) (by omega)
    rw [c]
    exact ⟨all m (by omega), lt m (by omega)⟩
  refine ⟨fun k l => ⟨?_, lt k l⟩, j - i, by omega, by omega, rnd, tail⟩
  rcases Nat.lt_or_ge k n with q | q
  · exact all k (by omega)
  · have : k = n := by omega
    subst this
    exact (tail 0).1
/-! ### staffs -/
/-- the windows of a list, going round -/
def win (n : Nat) (S : Nat → Int) (s : Nat) : Nat → Int
  | 0 => 0
  | k + 1 => win n S s k + S ((s + n - k) % n)
/-- numbers of those who start by numbers up to each slot -/
def difS (n : Nat) (x : Nat → Int) (N : Int) (s : Nat) : Int := x s - x ((s + n - 1) % n) + (if s = 0 then N else 0)
theorem win_dif {n : Nat} {x : Nat → Int} {N : Int} {s : Nat} (hs : s < n) : ∀ k, k ≤ n → win n (difS n x N) s k = x s - x ((s + n - k) % n) + (if s < k then N else 0)
  | 0, _ => by
    rw [win, Nat.sub_zero, Nat.add_mod_right, Nat.mod_eq_of_lt hs]
    simp
  | k + 1, l => by
    rw [win, win_dif hs k (by omega), difS]
    have a : ((s + n - k) % n + n - 1) % n = (s + n - (k + 1)) % n := by
      rcases Nat.lt_or_ge (s + n - k) n with q | q
      · rw [Nat.mod_eq_of_lt q, show s + n - k + n - 1 = s + n - (k + 1) + n by omega, Nat.add_mod_right]
      · rw [Nat.mod_eq_sub_mod q, Nat.mod_eq_of_lt (show s + n - k - n < n by omega)]
        congr 1
        omega
    have b : (s + n - k) % n = 0 ↔ s = k := by
      rcases Nat.lt_or_ge (s + n - k) n with q | q
      · rw [Nat.mod_eq_of_lt q]; omega
      · rw [Nat.mod_eq_sub_mod q, Nat.mod_eq_of_lt (by omega)]; omega
    rw [a]
    by_cases q : s = k
    · rw [if_pos (b.2 q), if_neg (by omega), if_pos (by omega)]; omega
    · rw [if_neg (fun z => q (b.1 z))]
      by_cases q2 : s < k
      · rw [if_pos q2, if_pos (by omega)]; omega
      · rw [if_neg q2, if_neg (by omega)]; omega

/-! ### staffs: sums, numbers and lists -/
def tot (f : Nat → Int) : Nat → Int
  | 0 => 0
  | k + 1 => tot f k + f k
theorem tot_congr {f g : Nat → Int} : ∀ n, (∀ i, i < n → f i = g i) → tot f n = tot g n
  | 0, _ => rfl
  | n + 1, h => by rw [tot, tot, tot_congr n fun i l => h i (by omega), h n (by omega)]
theorem tot_le {f g : Nat → Int} : ∀ n, (∀ i, i < n → f i ≤ g i) → tot f n ≤ tot g n
  | 0, _ => Int.le_refl _
  | n + 1, h => by have a := tot_le n fun i l => h i (by omega); have b := h n (by omega); rw [tot, tot]; omega
theorem yv_cons0 {a : Int} {l : List Int} : yv (a :: l) 0 = a := rfl
theorem yv_consS {a : Int} {l : List Int} {i : Nat} : yv (a :: l) (i + 1) = yv l i := by simp [yv]
theorem tot_cons {f : Nat → Int} : ∀ n, tot f (n + 1) = f 0 + tot (fun i => f (i + 1)) n
  | 0 => by simp [tot]
  | n + 1 => by rw [tot, tot_cons n, tot]; omega
theorem sum_tot : ∀ (l : List Int), l.sum = tot (yv l) l.length
  | [] => rfl
  | a :: l => by
    rw [List.sum_cons, sum_tot l, List.length_cons, tot_cons]
    rfl
theorem win_congr {n : Nat} {f g : Nat → Int} {s : Nat} (hn : 0 < n) (h : ∀ i, i < n → f i = g i) : ∀ k, win n f s k = win n g s k
  | 0 => rfl
  | k + 1 => by rw [win, win, win_congr hn h k, h _ (Nat.mod_lt _ hn)]
theorem win_le {n : Nat} {f g : Nat → Int} {s : Nat} (hn : 0 < n) (h : ∀ i, i < n → f i ≤ g i) : ∀ k, win n f s k ≤ win n g s k
  | 0 => Int.le_refl _
  | k + 1 => by have a := win_le (s := s) hn h k; have b := h _ (Nat.mod_lt (s + n - k) hn); rw [win, win]; omega
theorem win_up {n : Nat} {f : Nat → Int} {s : Nat} (hn : 0 < n) (h : ∀ i, i < n → 0 ≤ f i) (k : Nat) : ∀ j, win n f s k ≤ win n f s (k + j)
  | 0 => Int.le_refl _
  | j + 1 => by have a := win_up (s := s) hn h k j; have b := h _ (Nat.mod_lt (s + n - (k + j)) hn); rw [← Nat.add_assoc, win]; omega
theorem pred_mod {n s : Nat} (hs : s < n) : (s + n - 1) % n = if s = 0 then n - 1 else s - 1 := by
  by_cases q : s = 0
  · rw [if_pos q, Nat.mod_eq_of_lt (by omega)]; omega
  · rw [if_neg q, Nat.mod_eq_sub_mod (by omega), Nat.mod_eq_of_lt (by omega)]; omega
theorem back_mod {n s k : Nat} (hs : s < n) (hk : k ≤ n) (h0 : 0 < k) : (s + n - k) % n = if s < k then s + n - k else s - k := by
  by_cases q : s < k
  · rw [if_pos q, Nat.mod_eq_of_lt (by omega)]
  · rw [if_neg q, Nat.mod_eq_sub_mod (by omega), Nat.mod_eq_of_lt (by omega)]; omega
/-- the sums up to each place give the list back -/
theorem dif_tot {n : Nat} {f : Nat → Int} {s : Nat} (hs : s < n) : difS n (fun i => tot f (i + 1)) (tot f n) s = f s := by
  unfold difS
  rw [pred_mod hs]
  by_cases q : s = 0
  · subst q
    simp only [if_true]
    rw [show n - 1 + 1 = n by omega, tot, tot]
    omega
  · simp only [if_neg q]
    rw [show s - 1 + 1 = s by omega, tot]
    omega
theorem win_tot {n : Nat} {f : Nat → Int} {s : Nat} (hs : s < n) : win n f s n = tot f n := by
  rw [win_congr (g := difS n (fun i => tot f (i + 1)) (tot f n)) (by omega) (fun i l => (dif_tot l).symm), win_dif hs n (Nat.le_refl _)]
  rw [show s + n - n = s by omega, Nat.mod_eq_of_lt hs, if_pos hs]
  omega
/-- who starts where -/
structure Sf (n : Nat) (D : List Int) (L : Nat) (N : Int) (S : List Int) : Prop where
  len : S.length = n
  nn : ∀ i, 0 ≤ yv S i
  sm : S.sum = N
  met : ∀ s, s < n → yv D s ≤ win n (yv S) s L
def Fe (n : Nat) (D : List Int) (L : Nat) (N : Int) : Prop := ∃ S, Sf n D L N S
/-- numbers that keep all ways -/
def Kp (n : Nat) (D : List Int) (L : Nat) (N : Int) (y : Nat → Int) : Prop := ∀ s, s < n →
  y ((s + n - 1) % n) - (if s = 0 then N else 0) ≤ y s ∧ y ((s + n - L) % n) + (yv D s - (if s < L then N else 0)) ≤ y s
theorem kp_sf {n L : Nat} {D S : List Int} {N : Int} (hL : L ≤ n) (h : Sf n D L N S) : Kp n D L N (fun i => tot (yv S) (i + 1)) := fun s hs => by
  have e : tot (yv S) n = N := by rw [← h.sm, sum_tot, h.len]
  have d := dif_tot (f := yv S) hs
  rw [e, difS] at d
  have m := h.met s hs
  rw [win_congr (g := difS n (fun i => tot (yv S) (i + 1)) N) (by omega) (fun i l => by rw [← e]; exact (dif_tot l).symm), win_dif hs L hL] at m
  have z := h.nn s
  exact ⟨by show tot (yv S) _ - _ ≤ tot (yv S) _; omega, by show tot (yv S) _ + _ ≤ tot (yv S) _; omega⟩
/-- the list that starts_by gives -/
def sby (n : Nat) (x : Nat → Int) (N : Int) : List Int := (List.range n).map (difS n x N)
theorem yv_sby {n : Nat} {x : Nat → Int} {N : Int} {i : Nat} : yv (sby n x N) i = if i < n then difS n x N i else 0 := by
  unfold yv sby
  rw [List.getD_eq_getElem?_getD, List.getElem?_map]
  by_cases q : i < n
  · rw [if_pos q, List.getElem?_range q]; rfl
  · rw [if_neg q, List.getElem?_eq_none (by simp; omega)]; rfl
theorem sf_kp {n L : Nat} {D : List Int} {N : Int} {y : Nat → Int} (hn : 0 < n) (hL : L ≤ n) (h : Kp n D L N y) : Sf n D L N (sby n y N) := by
  have c : ∀ i, i < n → yv (sby n y N) i = difS n y N i := fun i l => by rw [yv_sby, if_pos l]
  refine ⟨by simp [sby], fun i => ?_, ?_, fun s hs => ?_⟩
  · rw [yv_sby]
    split
    · next l => have := (h i l).1; rw [difS]; split at * <;> omega
    · exact Int.le_refl _
  · rw [sum_tot, show (sby n y N).length = n by simp [sby], ← win_tot hn, win_congr hn c, win_dif hn n (Nat.le_refl _), if_pos hn, Nat.zero_add, Nat.sub_self, Nat.zero_mod]
    omega
  · rw [win_congr hn c, win_dif hs L hL]
    have := (h s hs).2
    omega
/-- the ways -/
def wyA (n : Nat) (N : Int) (s : Nat) : Wy := ⟨(s + n - 1) % n, s, -(if s = 0 then N else 0), if s = 0 then 1 else 0, false⟩
def wyB (n : Nat) (D : List Int) (L : Nat) (N : Int) (s : Nat) : Wy := ⟨(s + n - L) % n, s, yv D s - (if s < L then N else 0), if s < L then 1 else 0, true⟩
def wys (n : Nat) (D : List Int) (L : Nat) (N : Int) : List Wy := (List.range n).flatMap fun s => [wyA n N s, wyB n D L N s]
theorem mem_wys {n L : Nat} {D : List Int} {N : Int} {w : Wy} : w ∈ wys n D L N ↔ ∃ s, s < n ∧ (w = wyA n N s ∨ w = wyB n D L N s) := by
  simp [wys]
theorem kp_wys {n L : Nat} {D : List Int} {N : Int} {y : Nat → Int} : Kp n D L N y ↔ ∀ w ∈ wys n D L N, y w.f + w.g ≤ y w.t := by
  constructor
  · intro h w m
    obtain ⟨s, l, rfl | rfl⟩ := mem_wys.1 m
    · have := (h s l).1; show y ((s + n - 1) % n) + -(if s = 0 then N else 0) ≤ y s; omega
    · exact (h s l).2
  · intro h s l
    have a := h _ (mem_wys.2 ⟨s, l, .inl rfl⟩)
    have b := h _ (mem_wys.2 ⟨s, l, .inr rfl⟩)
    have a : y ((s + n - 1) % n) + -(if s = 0 then N else 0) ≤ y s := a
    exact ⟨by omega, b⟩
theorem wys_lt {n L : Nat} {D : List Int} {N : Int} {w : Wy} (m : w ∈ wys n D L N) : w.t < n ∧ w.f < n := by
  obtain ⟨s, l, rfl | rfl⟩ := mem_wys.1 m
  · exact ⟨l, Nat.mod_lt _ (by omega)⟩
  · exact ⟨l, Nat.mod_lt _ (by omega)⟩
/-- what is raised -/
def rz (n : Nat) (D : List Int) (L : Nat) (N : Int) : Stt := raisedP (wys n D L N) n ⟨List.replicate n 0, List.replicate n none, none⟩
structure Rg (n : Nat) (W : List Wy) (s : Stt) (v : Nat) : Prop where
  inv : Inv n W s
  al : ∀ j, j ≤ n → cv s.c (bkN s.c j v) ≠ none ∧ bkN s.c j v < n
  rd : ∃ p, 1 ≤ p ∧ p ≤ n ∧ bkN s.c p (bkN s.c n v) = bkN s.c n v
  on : ∀ j, cv s.c (bkN s.c j (bkN s.c n v)) ≠ none ∧ bkN s.c j (bkN s.c n v) < n
theorem rz_main {n L : Nat} {D : List Int} {N : Int} (hn : 0 < n) (hL : L ≤ n) :
    ((rz n D L N).l = none ∧ Sf n D L N (sby n (yv (rz n D L N).x) N)) ∨ (∃ v, v < n ∧ (rz n D L N).l = some v ∧ Rg n (wys n D L N) (rz n D L N) v) := by
  rcases raised_main (n := n) (W := wys n D L N) (fun w m => (wys_lt m).1) n _ 0 init_inv (Up0 init_inv) hn with ⟨a, b, c⟩ | ⟨v, l, a, b, c⟩
  · exact .inl ⟨a, sf_kp hn hL (kp_wys.2 c)⟩
  · obtain ⟨z, p, p1, p2, q, r⟩ := ring_main (fun w m => (wys_lt m).2) b l fun r e h j => c r e h (by omega)
    exact .inr ⟨v, l, a, b, z, ⟨p, p1, p2, q⟩, r⟩
/-- a ring that was found: as many ways back as lead round -/
theorem rg_ring {n : Nat} {W : List Wy} {s : Stt} {v : Nat} (g : Rg n W s v) {p : Nat} (hp : 1 ≤ p) (e : bkN s.c p (bkN s.c n v) = bkN s.c n v) :
    Wk2 W (bkN s.c n v) (chN s.c (bkN s.c n v) p) (bkN s.c n v) ∧ 0 < gs (chN s.c (bkN s.c n v) p) ∧ (chN s.c (bkN s.c n v) p).length = p := by
  obtain ⟨a, b⟩ := chN_ok (c := s.c) (v := bkN s.c n v) p fun j _ => (g.on j).1
  rw [e] at a
  exact ⟨ch_wk g.inv a, g.inv.cy _ _ (fun z => by rw [z] at b; simp at b; omega) a, b⟩
theorem rz_iff {n L : Nat} {D : List Int} {N : Int} (hn : 0 < n) (hL : L ≤ n) : (rz n D L N).l = none ↔ Fe n D L N := by
  rcases rz_main (D := D) (N := N) hn hL with ⟨a, b⟩ | ⟨v, l, a, g⟩
  · exact ⟨fun _ => ⟨_, b⟩, fun _ => a⟩
  · refine ⟨fun z => by rw [a] at z; simp at z, fun ⟨S, h⟩ => ?_⟩
    obtain ⟨p, p1, p2, q⟩ := g.rd
    obtain ⟨r1, r2, _⟩ := rg_ring g p1 q
    have := ring_bars (kp_wys.1 (kp_sf hL h)) r1
    omega
/-! ### papers -/
def rs (r : List Wy) : Int := (r.map (·.r)).sum
def ds (D : List Int) : List Wy → Int
  | [] => 0
  | w :: r => (if w.p = true then yv D w.t else 0) + ds D r
def tms (L : Nat) : List Wy → Int
  | [] => 0
  | w :: r => (if w.p = true then (L : Int) else 1) + tms L r
theorem rs_cons {w : Wy} {r : List Wy} : rs (w :: r) = w.r + rs r := rfl
theorem rs_app (a b : List Wy) : rs (a ++ b) = rs a + rs b := by simp [rs]
theorem gs_app (a b : List Wy) : gs (a ++ b) = gs a + gs b := by simp [gs]
theorem rs_rev (a : List Wy) : rs a.reverse = rs a := by
  induction a with
  | nil => rfl
  | cons w r ih => rw [List.reverse_cons, rs_app, ih, rs_cons]; simp [rs]; omega
theorem gs_rev (a : List Wy) : gs a.reverse = gs a := by
  induction a with
  | nil => rfl
  | cons w r ih => rw [List.reverse_cons, gs_app, ih, gs_cons]; simp [gs]; omega
structure WF (n : Nat) (D : List Int) (L : Nat) (N : Int) (w : Wy) : Prop where
  t : w.t < n
  f : w.f < n
  r0 : 0 ≤ w.r
  gn : w.g = (if w.p = true then yv D w.t else 0) - N * w.r
  tm : (w.t : Int) - w.f = (if w.p = true then (L : Int) else 1) - n * w.r
theorem wys_wf {n L : Nat} {D : List Int} {N : Int} (h1 : 1 ≤ L) (hL : L ≤ n) {w : Wy} (m : w ∈ wys n D L N) : WF n D L N w := by
  obtain ⟨t, f⟩ := wys_lt m
  obtain ⟨s, l, rfl | rfl⟩ := mem_wys.1 m
  · refine ⟨t, f, ?_, ?_, ?_⟩ <;> simp only [wyA, Bool.false_eq_true, if_false]
    · split <;> omega
    · split <;> simp
    · rw [pred_mod l]; split <;> omega
  · refine ⟨t, f, ?_, ?_, ?_⟩ <;> simp only [wyB, if_true]
    · split <;> omega
    · split <;> simp
    · rw [back_mod l hL h1]; split <;> omega
def Fw (W : List Wy) : Nat → List Wy → Nat → Prop
  | a, [], b => a = b
  | a, w :: r, b => w ∈ W ∧ w.f = a ∧ Fw W w.t r b
theorem fw_app {W : List Wy} : ∀ {r q : List Wy} {a b c : Nat}, Fw W a r b → Fw W b q c → Fw W a (r ++ q) c
  | [], _, a, b, c, h, k => by have h : a = b := h; subst h; exact k
  | w :: r, _, a, b, c, h, k => ⟨h.1, h.2.1, fw_app h.2.2 k⟩
theorem fw_wk {W : List Wy} : ∀ {r : List Wy} {v e : Nat}, Wk2 W v r e → Fw W e r.reverse v
  | [], v, e, h => (show v = e from h).symm
  | w :: r, v, e, h => by
    obtain ⟨h1, rfl, h3⟩ := h
    rw [List.reverse_cons]
    exact fw_app (fw_wk h3) ⟨h1, rfl, rfl⟩
theorem fw_sum {n L : Nat} {D : List Int} {N : Int} {W : List Wy} (hW : ∀ w ∈ W, WF n D L N w) : ∀ {r : List Wy} {a b : Nat}, Fw W a r b →
    (b : Int) - a = tms L r - n * rs r ∧ gs r = ds D r - N * rs r ∧ 0 ≤ rs r ∧ (1 ≤ L → (r.length : Int) ≤ tms L r)
  | [], a, b, h => by have h : a = b := h; subst h; simp [tms, rs, gs, ds]
  | w :: r, a, b, h => by
    obtain ⟨h1, rfl, h3⟩ := h
    obtain ⟨i1, i2, i3, i4⟩ := fw_sum hW h3
    have k := hW w h1
    have k1 := k.gn
    have k2 := k.tm
    have k3 := k.r0
    rw [rs_cons, gs_cons, tms, ds, Int.mul_add, Int.mul_add]
    refine ⟨by omega, by omega, by omega, fun l => ?_⟩
    have := i4 l
    rw [List.length_cons]
    split <;> omega
/-- the stops; the steps from stop to stop -/
def sp (r : List Wy) : List Nat := (r.filter (·.p)).map (·.t)
def stp (n L : Nat) : Nat → List Nat → Int
  | _, [] => 0
  | p, b :: r => ((L : Int) + ((b : Int) - p - L) % n) + stp n L b r
def el : List Wy → Int → Int
  | [], e => e
  | w :: r, e => el r (if w.p = true then 0 else e + 1)
def lp : List Wy → Nat → Nat
  | [], p => p
  | w :: r, p => lp r (if w.p = true then w.t else p)
theorem sp_t {w : Wy} {r : List Wy} (h : w.p = true) : sp (w :: r) = w.t :: sp r := by simp [sp, h]
theorem sp_f {w : Wy} {r : List Wy} (h : ¬ w.p = true) : sp (w :: r) = sp r := by simp [sp, h]
theorem emod_le' {e : Int} {n : Nat} (h : 0 ≤ e) : e % n ≤ e := by
  have a := Int.emod_add_mul_ediv e n
  have b := Int.mul_nonneg (Int.natCast_nonneg n) (Int.ediv_nonneg h (Int.natCast_nonneg n))
  omega
theorem fw_stp {n L : Nat} {D : List Int} {N : Int} {W : List Wy} (hW : ∀ w ∈ W, WF n D L N w) : ∀ {r : List Wy} {a b : Nat}, Fw W a r b → ∀ (p : Nat) (e : Int), 0 ≤ e → (∃ k : Int, (a : Int) = p + e + n * k) →
    stp n L p (sp r) + el r e ≤ e + tms L r ∧ 0 ≤ el r e ∧ ∃ k : Int, (b : Int) = lp r p + el r e + n * k
  | [], a, b, h, p, e, he, hk => by
    have h : a = b := h
    subst h
    exact ⟨by simp [sp, stp, el, tms], he, hk⟩
  | w :: r, a, b, h, p, e, he, ⟨k, hk⟩ => by
    obtain ⟨h1, rfl, h3⟩ := h
    have tm := (hW w h1).tm
    rw [el, lp, tms]
    by_cases q : w.p = true
    · simp only [if_pos q] at tm ⊢
      obtain ⟨i1, i2, i3⟩ := fw_stp hW h3 w.t 0 (Int.le_refl _) ⟨0, by omega⟩
      refine ⟨?_, i2, i3⟩
      rw [sp_t q, stp]
      have z : ((w.t : Int) - p - L) = e + n * (k - w.r) := by rw [Int.mul_sub]; omega
      rw [z, Int.add_mul_emod_self_left]
      have := emod_le' (n := n) he
      omega
    · simp only [if_neg q] at tm ⊢
      obtain ⟨i1, i2, i3⟩ := fw_stp hW h3 p (e + 1) (by omega) ⟨k - w.r, by rw [Int.mul_sub]; omega⟩
      refine ⟨?_, i2, i3⟩
      rw [sp_f q]
      omega
theorem el_any : ∀ {r : List Wy}, sp r ≠ [] → ∀ e e' : Int, el r e = el r e'
  | [], h, _, _ => absurd rfl h
  | w :: r, h, e, e' => by
    rw [el, el]
    by_cases q : w.p = true
    · simp only [if_pos q]
    · rw [sp_f q] at h; exact el_any h _ _
theorem lp_any : ∀ {r : List Wy} (h : sp r ≠ []) (p : Nat), lp r p = (sp r).getLast h
  | [], h, _ => absurd rfl h
  | w :: r, h, p => by
    rw [lp]
    by_cases q : w.p = true
    · simp only [if_pos q]
      by_cases z : sp r = []
      · have : ∀ {r : List Wy}, sp r = [] → ∀ p, lp r p = p := by
          intro r
          induction r with
          | nil => exact fun _ _ => rfl
          | cons u r ih =>
            intro z p
            by_cases q : u.p = true
            · rw [sp_t q] at z; simp at z
            · rw [sp_f q] at z; rw [lp, if_neg q]; exact ih z p
        rw [this z]
        simp [sp_t q, z]
      · rw [lp_any z]
        simp [sp_t q, List.getLast_cons z]
    · simp only [if_neg q]
      have z := h
      rw [sp_f q] at z
      rw [lp_any z]
      simp [sp_f q]
theorem ds_sp (D : List Int) : ∀ r : List Wy, ds D r = ((sp r).map (yv D)).sum
  | [] => rfl
  | w :: r => by
    rw [ds, ds_sp D r]
    by_cases q : w.p = true
    · rw [if_pos q, sp_t q]; rfl
    · rw [if_neg q, sp_f q]; omega
/-- what a ring shows -/
structure Pap (n : Nat) (D : List Int) (L : Nat) (N : Int) (R : Int) (st : List Nat) : Prop where
  r1 : 1 ≤ R
  ne : st ≠ []
  lt : ∀ b ∈ st, b < n
  le : stp n L (st.getLast ne) st ≤ R * n
  more : N * R < (st.map (yv D)).sum
theorem sp_lt {n L : Nat} {D : List Int} {N : Int} {W : List Wy} (hW : ∀ w ∈ W, WF n D L N w) : ∀ {r : List Wy} {a b : Nat}, Fw W a r b → ∀ c ∈ sp r, c < n
  | [], _, _, _, c, m => by simp [sp] at m
  | w :: r, a, b, h, c, m => by
    obtain ⟨h1, _, h3⟩ := h
    by_cases q : w.p = true
    · rw [sp_t q] at m
      rcases List.mem_cons.1 m with rfl | m
      · exact (hW w h1).t
      · exact sp_lt hW h3 c m
    · rw [sp_f q] at m; exact sp_lt hW h3 c m
theorem pap_ring {n L : Nat} {D : List Int} {N : Int} (h1 : 1 ≤ L) (hL : L ≤ n) (hN : 0 ≤ N) {r : List Wy} {v : Nat} (hw : Wk2 (wys n D L N) v r v) (hg : 0 < gs r) (hr : 1 ≤ r.length) :
    Pap n D L N (rs r) (sp r.reverse) := by
  have hW : ∀ w ∈ wys n D L N, WF n D L N w := fun w m => wys_wf h1 hL m
  have f := fw_wk hw
  obtain ⟨a1, a2, a3, a4⟩ := fw_sum hW f
  have a4 := a4 h1
  rw [gs_rev, rs_rev] at a2
  rw [rs_rev] at a1 a3
  rw [List.length_reverse] at a4
  have rp : 1 ≤ rs r := by
    rcases Int.lt_or_le 0 (rs r) with q | q
    · omega
    · have : rs r = 0 := by omega
      rw [this, Int.mul_zero] at a1
      omega
  have dp : N * rs r < ((sp r.reverse).map (yv D)).sum := by rw [← ds_sp]; omega
  have nz : sp r.reverse ≠ [] := fun z => by
    rw [z] at dp
    have := Int.mul_nonneg hN a3
    simp at dp
    omega
  refine ⟨rp, nz, sp_lt hW f, ?_, dp⟩
  obtain ⟨b1, b2, b3⟩ := fw_stp hW f v 0 (Int.le_refl _) ⟨0, by omega⟩
  obtain ⟨c1, c2, c3⟩ := fw_stp hW f (lp r.reverse v) (el r.reverse 0) b2 b3
  rw [el_any nz _ 0, lp_any nz] at c1
  have : tms L r.reverse = n * rs r := by omega
  rw [Int.mul_comm]
  omega
/-- the upper side -/
theorem pap_ub {n L : Nat} {D : List Int} {N M : Int} (h1 : 1 ≤ L) (hL : L ≤ n) (hM : Fe n D L M) {r : List Wy} {v : Nat} (hw : Wk2 (wys n D L N) v r v) : ((sp r.reverse).map (yv D)).sum ≤ M * rs r := by
  obtain ⟨S, h⟩ := hM
  have k := kp_wys.1 (kp_sf hL h)
  have hW : ∀ w ∈ wys n D L N, WF n D L N w := fun w m => wys_wf h1 hL m
  have f := fw_wk hw
  have key : ∀ {r : List Wy} {a b : Nat}, Fw (wys n D L N) a r b → tot (yv S) (a + 1) + (ds D r - M * rs r) ≤ tot (yv S) (b + 1) := by
    intro r
    induction r with
    | nil => intro a b h; have h : a = b := h; subst h; simp [ds, rs]
    | cons w r ih =>
      intro a b ⟨m, e, h3⟩
      subst e
      have i := ih h3
      rw [ds, rs_cons, Int.mul_add]
      have z : ∃ w' ∈ wys n D L M, w'.f = w.f ∧ w'.t = w.t ∧ w'.r = w.r ∧ w'.p = w.p := by
        obtain ⟨s, l, rfl | rfl⟩ := mem_wys.1 m
        · exact ⟨_, mem_wys.2 ⟨s, l, .inl rfl⟩, rfl, rfl, rfl, rfl⟩
        · exact ⟨_, mem_wys.2 ⟨s, l, .inr rfl⟩, rfl, rfl, rfl, rfl⟩
      obtain ⟨w', m', e1, e2, e3, e4⟩ := z
      have g := (wys_wf h1 hL m').gn
      have y := k w' m'
      rw [e2, e3, e4] at g
      rw [e1, e2, g] at y
      have y : tot (yv S) (w.f + 1) + ((if w.p = true then yv D w.t else 0) - M * w.r) ≤ tot (yv S) (w.t + 1) := y
      omega
  have := key f
  rw [rs_rev] at this
  rw [← ds_sp]
  omega
theorem rs_le {n L : Nat} {D : List Int} {N : Int} : ∀ {r : List Wy} {v e : Nat}, Wk2 (wys n D L N) v r e → rs r ≤ r.length
  | [], _, _, _ => by simp [rs]
  | w :: r, v, e, h => by
    have i := rs_le h.2.2
    obtain ⟨s, l, q⟩ := mem_wys.1 h.1
    have : w.r ≤ 1 := by
      rcases q with rfl | rfl <;> simp only [wyA, wyB] <;> split <;> omega
    rw [rs_cons, List.length_cons]
    omega

/-! ### the least number -/
theorem yv_set0 {x : List Int} {i j : Nat} {a : Int} (l : i < x.length) : yv (x.set i a) j = if i = j then a else yv x j := yv_set l
theorem yv_ge {x : List Int} {i : Nat} (l : x.length ≤ i) : yv x i = 0 := by
  unfold yv; rw [List.getD_eq_getElem?_getD, List.getElem?_eq_none l]; rfl
theorem yv_mem {x : List Int} {i : Nat} (l : i < x.length) : yv x i ∈ x := by
  unfold yv; rw [List.getD_eq_getElem?_getD, List.getElem?_eq_getElem l]; exact List.getElem_mem l
theorem yv_nn {x : List Int} : (∀ i, 0 ≤ yv x i) ↔ ∀ v ∈ x, 0 ≤ v := by
  constructor
  · intro h v m
    obtain ⟨i, l, rfl⟩ := List.getElem_of_mem m
    have := h i
    unfold yv at this
    rwa [List.getD_eq_getElem?_getD, List.getElem?_eq_getElem l] at this
  · intro h i
    rcases Nat.lt_or_ge i x.length with q | q
    · exact h _ (yv_mem q)
    · rw [yv_ge q]; exact Int.le_refl _
theorem tot_set {f g : Nat → Int} {i : Nat} {a : Int} (h : ∀ j, g j = if i = j then a else f j) : ∀ n, tot g n = tot f n + (if i < n then a - f i else 0)
  | 0 => by simp [tot]
  | n + 1 => by
    rw [tot, tot, tot_set h n, h n]
    by_cases q : i = n
    · subst q; rw [if_pos rfl, if_neg (by omega), if_pos (by omega)]; omega
    · rw [if_neg q]
      by_cases q2 : i < n
      · rw [if_pos q2, if_pos (by omega)]; omega
      · rw [if_neg q2, if_neg (by omega)]; omega
theorem sum_set {x : List Int} {i : Nat} {a : Int} (l : i < x.length) : (x.set i a).sum = x.sum + (a - yv x i) := by
  rw [sum_tot, sum_tot, List.length_set, tot_set (fun j => yv_set l), if_pos l]
theorem fe_mono {n L : Nat} {D : List Int} {N M : Int} (hn : 0 < n) (h : Fe n D L N) (le : N ≤ M) : Fe n D L M := by
  obtain ⟨S, h⟩ := h
  have l0 : 0 < S.length := by rw [h.len]; exact hn
  have g : ∀ i, yv S i ≤ yv (S.set 0 (yv S 0 + (M - N))) i := fun i => by rw [yv_set l0]; split <;> first | omega | (next e => subst e; omega)
  refine ⟨S.set 0 (yv S 0 + (M - N)), by simp [h.len], fun i => Int.le_trans (h.nn i) (g i), by rw [sum_set l0, h.sm]; omega, fun s hs => Int.le_trans (h.met s hs) (win_le hn (fun i _ => g i) L)⟩
theorem fe_dem {n L : Nat} {D E : List Int} {N : Int} (h : Fe n D L N) (le : ∀ i, i < n → yv E i ≤ yv D i) : Fe n E L N := by
  obtain ⟨S, h⟩ := h
  exact ⟨S, h.len, h.nn, h.sm, fun s hs => Int.le_trans (le s hs) (h.met s hs)⟩
theorem fe_len {n L K : Nat} {D : List Int} {N : Int} (hn : 0 < n) (h : Fe n D L N) (le : L ≤ K) : Fe n D K N := by
  obtain ⟨S, h⟩ := h
  obtain ⟨j, rfl⟩ := Nat.exists_eq_add_of_le le
  exact ⟨S, h.len, h.nn, h.sm, fun s hs => Int.le_trans (h.met s hs) (win_up hn (fun i _ => h.nn i) L j)⟩
theorem win_one {n s : Nat} {f : Nat → Int} (hs : s < n) : win n f s 1 = f s := by rw [win, win, Nat.sub_zero, Nat.add_mod_right, Nat.mod_eq_of_lt hs]; omega
theorem fe_sum {n L : Nat} {D : List Int} (hn : 0 < n) (h1 : 1 ≤ L) (hl : D.length = n) (h0 : ∀ i, 0 ≤ yv D i) : Fe n D L D.sum := by
  refine fe_len hn (L := 1) ⟨D, hl, h0, rfl, fun s hs => ?_⟩ h1
  rw [win_one hs]
  exact Int.le_refl _
theorem fe_max {n L : Nat} {D : List Int} {N : Int} (hL : L ≤ n) (h : Fe n D L N) : 0 ≤ N ∧ ∀ s, s < n → yv D s ≤ N := by
  obtain ⟨S, h⟩ := h
  have e : tot (yv S) n = N := by rw [← h.sm, sum_tot, h.len]
  constructor
  · rw [← e]
    have a := tot_le (f := fun _ => 0) (g := yv S) n fun i _ => h.nn i
    have b : ∀ n, tot (fun _ => (0 : Int)) n = 0 := fun n => by induction n with | zero => rfl | succ n ih => rw [tot, ih]; rfl
    rw [b] at a
    exact a
  · intro s hs
    have m := h.met s hs
    have u := win_up (n := n) (f := yv S) (s := s) (by omega) (fun i _ => h.nn i) L (n - L)
    rw [show L + (n - L) = n by omega, win_tot hs, e] at u
    omega
theorem fe_one {n : Nat} {D : List Int} {N : Int} (hl : D.length = n) (h : Fe n D 1 N) : D.sum ≤ N := by
  obtain ⟨S, h⟩ := h
  rw [← h.sm, sum_tot, sum_tot, h.len, hl]
  exact tot_le n fun i l => by have := h.met i l; rwa [win_one l] at this
theorem fe_more {n L : Nat} {D : List Int} {N : Int} {t : Nat} (hn : 0 < n) (h1 : 1 ≤ L) (hl : D.length = n) (ht : t < n) (h : Fe n D L N) : Fe n (D.set t (yv D t + 1)) L (N + 1) := by
  obtain ⟨S, h⟩ := h
  have l0 : t < S.length := by rw [h.len]; exact ht
  have g : ∀ i, yv S i ≤ yv (S.set t (yv S t + 1)) i := fun i => by rw [yv_set l0]; split <;> first | omega | (next e => subst e; omega)
  refine ⟨S.set t (yv S t + 1), by simp [h.len], fun i => Int.le_trans (h.nn i) (g i), by rw [sum_set l0, h.sm]; omega, fun s hs => ?_⟩
  rw [yv_set (by rw [hl]; exact ht)]
  have m := h.met s hs
  by_cases q : t = s
  · subst q
    rw [if_pos rfl]
    -- the window ends at t
    have key : ∀ k, win n (yv S) t (k + 1) + 1 ≤ win n (yv (S.set t (yv S t + 1))) t (k + 1) := by
      intro k
      induction k with
      | zero => rw [win_one ht, win_one ht, yv_set l0, if_pos rfl]; exact Int.le_refl _
      | succ k ih =>
        show win n (yv S) t (k + 1) + _ + 1 ≤ win n (yv (S.set t (yv S t + 1))) t (k + 1) + _
        have := g ((t + n - (k + 1)) % n)
        omega
    have := key (L - 1)
    rw [show L - 1 + 1 = L by omega] at this
    omega
  · rw [if_neg q]
    exact Int.le_trans m (win_le hn (fun i _ => g i) L)
/-- the least number -/
def IsL (n : Nat) (D : List Int) (L : Nat) (m : Int) : Prop := ∀ k : Int, Fe n D L k ↔ m ≤ k
theorem isL_of {n L : Nat} {D : List Int} {m : Int} (hn : 0 < n) (a : Fe n D L m) (b : ¬ Fe n D L (m - 1)) : IsL n D L m := fun k =>
  ⟨fun h => by rcases Int.lt_or_le k m with q | q; exact absurd (fe_mono hn h (by omega)) b; exact q, fun h => fe_mono hn a h⟩
theorem isL_eq {n L : Nat} {D : List Int} {m k : Int} (a : IsL n D L m) (b : IsL n D L k) : m = k := by
  have x := (a k).1 ((b k).2 (Int.le_refl _))
  have y := (b m).1 ((a m).2 (Int.le_refl _))
  omega
theorem isL_one {n : Nat} {D : List Int} (hn : 0 < n) (hl : D.length = n) (h0 : ∀ i, 0 ≤ yv D i) : IsL n D 1 D.sum := fun _ =>
  ⟨fun h => fe_one hl h, fun h => fe_mono hn (fe_sum hn (Nat.le_refl _) hl h0) h⟩
theorem isL_more {n L : Nat} {D : List Int} {m k : Int} {t : Nat} (hn : 0 < n) (h1 : 1 ≤ L) (hl : D.length = n) (ht : t < n) (a : IsL n D L m) (b : IsL n (D.set t (yv D t + 1)) L k) : m ≤ k ∧ k ≤ m + 1 := by
  constructor
  · refine (a k).1 (fe_dem ((b k).2 (Int.le_refl _)) fun i _ => ?_)
    rw [yv_set (by rw [hl]; exact ht)]
    split <;> first | omega | (next e => subst e; omega)
  · exact (b _).1 (fe_more hn h1 hl ht ((a m).2 (Int.le_refl _)))
theorem isL_len {n L K : Nat} {D : List Int} {m k : Int} (hn : 0 < n) (le : L ≤ K) (a : IsL n D L m) (b : IsL n D K k) : k ≤ m := (b m).1 (fe_len hn ((a m).2 (Int.le_refl _)) le)
theorem isL_0 {n L : Nat} {D : List Int} {m : Int} (hL : L ≤ n) (a : IsL n D L m) : 0 ≤ m ∧ ∀ s, s < n → yv D s ≤ m := fe_max hL ((a m).2 (Int.le_refl _))
/-- a paper for one less bounds the least number from both sides -/
theorem pap_need {n L : Nat} {D : List Int} {m R s : Int} (h : 1 ≤ R) (a : (m - 1) * R < s) (b : s ≤ m * R) : 0 - (0 - s) / R = m := by
  have : (0 - s) / R = -m := by
    rw [Int.sub_mul, Int.one_mul] at a
    apply Int.le_antisymm
    · have := Int.ediv_lt_of_lt_mul (a := 0 - s) (b := -m + 1) (c := R) (by omega) (by rw [Int.add_mul, Int.neg_mul, Int.one_mul]; omega)
      omega
    · exact Int.le_ediv_of_mul_le (by omega) (by rw [Int.neg_mul]; omega)
  omega



/-! lists of ints, as lists or tuples -/
def LV (v : IV) (D : List Int) (h : IH) : Prop := v = .tup (D.map IV.int) ∨ ∃ r, v = .ref r ∧ h[r]? = some (.lst (D.map IV.int))
theorem LV.gr {v : IV} {D : List Int} {h h' : IH} (a : LV v D h) (g : Gr h h') : LV v D h' := by
  rcases a with rfl | ⟨r, rfl, e⟩
  · exact .inl rfl
  · exact .inr ⟨r, rfl, g.at e⟩
theorem LV.len {v : IV} {D : List Int} {h : IH} (a : LV v D h) : biF .len [v] h = .ok (.int D.length) h := by
  rcases a with rfl | ⟨r, rfl, e⟩
  · simp [biF, items]
  · rw [f_lenR e, List.length_map]
theorem LV.sum {v : IV} {D : List Int} {h : IH} (a : LV v D h) : biF .sum [v] h = .ok (.int D.sum) h := by
  rcases a with rfl | ⟨r, rfl, e⟩
  · rw [m_sumT, intsOf_map]
  · rw [m_sum, e]; simp [intsOf_map]
theorem LV.max {v : IV} {n : Int} {D : List Int} {h : IH} (a : LV v (n :: D) h) : biF .max [v] h = .ok (.int (D.foldl max n)) h := by
  rcases a with rfl | ⟨r, rfl, e⟩
  · exact m_maxT (intsOf_map _)
  · exact m_maxR e (intsOf_map _)
theorem map_ix {D : List Int} {i : Nat} (l : i < D.length) : (D.map IV.int)[i]? = some (.int (yv D i)) := by
  rw [List.getElem?_map, List.getElem?_eq_getElem l]
  simp [yv, List.getD_eq_getElem?_getD, List.getElem?_eq_getElem l]
theorem LV.ix {v : IV} {D : List Int} {h : IH} {i : Int} (a : LV v D h) (i0 : 0 ≤ i) (i1 : i < D.length) : index v (.int i) h = .ok (.int (yv D i.toNat)) h := by
  have z : (D.map IV.int)[i.toNat]? = some (.int (yv D i.toNat)) := map_ix (by omega)
  have l : i < ((D.map IV.int).length : Int) := by simpa using i1
  rcases a with rfl | ⟨r, rfl, e⟩
  · simp_all_arith [z]
  · simp_all_arith [e, z]
theorem back_int {n s k : Nat} (hs : s < n) (hk : k ≤ n) : ((s : Int) - k) % n = (((s + n - k) % n : Nat) : Int) := by
  rw [Int.natCast_emod, show ((s + n - k : Nat) : Int) = (s : Int) - k + n by omega, Int.add_emod_right]
theorem win_sum {n s : Nat} {f : Nat → Int} : ∀ L, ((List.range L).map fun k => f ((s + n - k) % n)).sum = win n f s L
  | 0 => rfl
  | L + 1 => by rw [List.range_succ, List.map_append, List.sum_append, win_sum L, win]; simp
/-- the sum of a window, in the program and in the law -/
theorem wsum {S : List Int} {n L s : Nat} {h : IH} {tg : Tg} {env : En} {test : En → IH → Itp.R Bool} {elt : En → IH → Itp.R IV} {Q : Unit → IH → Prop} (hS : S.length = n) (hL : L ≤ n) (n1 : n < 1000) (hs : s < n)
    (st : ∀ k : Nat, k < L → ∀ t : IH, ∃ s1, asg tg (.int k) env (h ++ t) = some s1 ∧ test s1 (h ++ t) = .ok true (h ++ t) ∧ elt s1 (h ++ t) = .ok (.int (yv S ((s + n - k) % n))) (h ++ t))
    (k : ∀ h' : IH, biF .sum [.ref h.length] h' = .ok (.int (win n (yv S) s L)) h' → Gr h h' → Q () h') :
    W (colle (.fix ((List.range L).map fun k : Nat => IV.int k)) tg env test elt h.length FU 0 (h ++ [.lst []])) Q := by
  refine colA (fun k : Nat => .int (yv S ((s + n - k) % n))) (by simp; omega) (fun _ => has_fix _ _) (fun j m t => st j (by simpa using m) t) ?_
  intro h' e g l
  refine k h' ?_ g
  have z : LV (.ref h.length) ((List.range L).map fun k => yv S ((s + n - k) % n)) h' := .inr ⟨_, rfl, by rw [e, List.map_map]; rfl⟩
  rw [z.sum, win_sum]
def metB (n : Nat) (D : List Int) (L : Nat) (S : List Int) : Bool := (List.range n).all fun s => decide (yv D s ≤ win n (yv S) s L)
theorem metB_t {n L : Nat} {D S : List Int} (h : ∀ s, s < n → yv D s ≤ win n (yv S) s L) : metB n D L S = true := by
  simp only [metB, List.all_eq_true, List.mem_range, decide_eq_true_eq]; exact h
theorem metB_f {n L s : Nat} {D S : List Int} (l : s < n) (h : ¬ yv D s ≤ win n (yv S) s L) : metB n D L S = false := by
  rw [Bool.eq_false_iff]
  intro z
  simp only [metB, List.all_eq_true, List.mem_range, decide_eq_true_eq] at z
  exact h (z s l)
theorem metB_iff {n L : Nat} {D S : List Int} : metB n D L S = true ↔ ∀ s, s < n → yv D s ≤ win n (yv S) s L := by
  simp only [metB, List.all_eq_true, List.mem_range, decide_eq_true_eq]
def EN (w : Wk) (D : List Int) (h : IH) : Prop := ∀ h', Gr h h' → w.has (enmT 0 (D.map IV.int)) h'
theorem EN.tup {D : List Int} {h : IH} : EN (.fix (enmT 0 (D.map IV.int))) D h := fun _ _ => has_fix _ _
theorem EN.lst {D : List Int} {r : Nat} {h : IH} (e : h[r]? = some (.lst (D.map IV.int))) : EN (.enm (.ref r)) D h := fun _ g => has_enm (lst_at (g.at e))
theorem enm_at {D : List Int} {j : Nat} {x : IV} (e : (enmT 0 (D.map IV.int))[j]? = some x) : j < D.length ∧ x = .tup [.int j, .int (yv D j)] := by
  rw [enmT_ix] at e
  have l : j < D.length := by
    rcases Nat.lt_or_ge j D.length with q | q
    · exact q
    · rw [List.getElem?_eq_none (by simpa using q)] at e; exact nomatch e
  rw [map_ix l] at e
  simp at e
  exact ⟨l, e.symm⟩
theorem lmet_ {k n L : Nat} {vd vs : IV} {D S : List Int} {h : IH} (a : LV vd D h) (b : LV vs S h) (hD : D.length = n) (hS : S.length = n) (hL : L ≤ n) (n1 : n < 1000) :
    W (cl (k + 1) 23 [vd, .int L, vs] h) fun y h' => y = .bl (metB n D L S) ∧ Gr h h' := by
  rw [c23, d23]
  have ln := a.len
  rw [hD] at ln
  simp_all_arith [ln]
  refine walkW (fun j s h1 => Gr h h1 ∧ (∃ x y, s = [.v vd, .v (.int L), .v vs, .v (.int n), x, y]) ∧ ∀ i, i < j → yv D i ≤ win n (yv S) i L) (fun _ _ => False) (fun y h1 => y = .bl (metB n D L S) ∧ Gr h h1)
    (by simp; omega) (fun _ _ _ i => has_fix _ _) ⟨.rfl, ⟨_, _, rfl⟩, by simp⟩ ?_ ?_ (fun _ _ f => f.elim) ?_
  · rintro j x s h1 ev ⟨g, ⟨x, y, rfl⟩, al⟩
    obtain ⟨lj', rfl⟩ := at_rng ev
    refine ⟨_, rfl, ?_⟩
    simp_all_arith
    refine wsum hS hL n1 lj' (fun i li t => ⟨_, rfl, by simp_all_arith, ?_⟩) ?_
    · have b' := (b.gr g).gr (Gr.app (t := t))
      have i1 : ((j : Int) - i) % n = (((j + n - i) % n : Nat) : Int) := back_int lj' (by omega)
      have l2 : (j + n - i) % n < n := Nat.mod_lt _ (by omega)
      have ix := b'.ix (i := (((j + n - i) % n : Nat) : Int)) (by omega) (by omega)
      rw [Int.toNat_natCast] at ix
      have n0 : (n : Int) ≠ 0 := by omega
      simp_all_arith [i1, ix]
    · intro h2 e2 g2
      have dx := ((a.gr g).gr g2).ix (i := (j : Int)) (by omega) (by omega)
      rw [Int.toNat_natCast] at dx
      by_cases q : win n (yv S) j L < yv D j
      · simp_all_arith [e2, q, dx]
        exact ⟨by rw [metB_f lj' (by omega)], g.tr g2⟩
      · simp_all_arith [e2, q, dx]
        refine ⟨g.tr g2, ⟨_, _, rfl⟩, fun i li => ?_⟩
        rcases Nat.lt_or_ge i j with l | l
        · exact al i l
        · obtain rfl : i = j := by omega
          omega
  · rintro s h1 ⟨g, ⟨x, y, rfl⟩, al⟩
    simp_all_arith
    refine ⟨by rw [metB_t]; intro i li; exact al i (by simpa using li), g⟩
  · rintro y h1 ⟨rfl, g⟩
    simp_all_arith
    exact g


/-! while, turn by turn -/
theorem whlW (I : Nat → En → IH → Prop) {test : En → IH → Itp.R Bool} {body : En → IH → RS} {N : Nat} {s : En} {h : IH} {Q : RS → Prop} (hN : N < 17000000) (i0 : I N s h)
    (st : ∀ k s h, I k s h → (∃ h1, test s h = .ok false h1 ∧ Q (.nx s h1)) ∨ (∃ j h1, k = j + 1 ∧ test s h = .ok true h1 ∧ WS (body s h1) fun r => ∃ s2 h2, r = .nx s2 h2 ∧ I j s2 h2)) :
    WS (loopW test body FU s h) Q := by
  have go : ∀ m k s h, I k s h → k < m → WS (loopW test body m s h) Q := by
    intro m
    induction m with
    | zero => intro k s h _ l; omega
    | succ m ih =>
      intro k s h i l
      rcases st k s h i with ⟨h1, e, q⟩ | ⟨j, h1, rfl, e, w⟩
      · rw [loopW, e]
        exact .nx q
      · rw [loopW, e]
        generalize hb : body s h1 = r at w
        have z : WS r (fun r => ∃ s2 h2, r = .nx s2 h2 ∧ I j s2 h2) := w
        cases z with
        | nx q =>
          obtain ⟨s2, h2, e2, p⟩ := q
          cases e2
          show WS (match body s h1 with | .nx s2 h2 => loopW test body m s2 h2 | .ct s2 h2 => loopW test body m s2 h2 | .bk s2 h2 => .nx s2 h2 | .rt v h2 => .rt v h2 | .ex c v s2 h2 => .ex c v s2 h2 | .no => .no) Q
          rw [hb]
          exact ih j _ _ p (by omega)
        | rt q => obtain ⟨_, _, e, _⟩ := q; exact nomatch e
        | bk q => obtain ⟨_, _, e, _⟩ := q; exact nomatch e
        | ct q => obtain ⟨_, _, e, _⟩ := q; exact nomatch e
  exact go FU N s h i0 hN
/-! the ways -/
def wyV (w : Wy) : IV := .tup [.int w.f, .int w.t, .int w.g, .int w.r, .bl w.p]
theorem wys_step {n L j : Nat} {D : List Int} {N : Int} : (List.range (j + 1)).flatMap (fun s => [wyA n N s, wyB n D L N s]) = (List.range j).flatMap (fun s => [wyA n N s, wyB n D L N s]) ++ [wyA n N j, wyB n D L N j] := by
  rw [List.range_succ, List.flatMap_append]; simp
theorem wys_ln {n L : Nat} {D : List Int} {N : Int} : ∀ j, ((List.range j).flatMap (fun s => [wyA n N s, wyB n D L N s])).length = 2 * j
  | 0 => rfl
  | j + 1 => by rw [wys_step, List.length_append, wys_ln j]; simp; omega
theorem wyA_v {n j : Nat} {N : Int} (lj : j < n) : wyV (wyA n N j) = .tup [.int (((j : Int) - 1) % n), .int j, .int (-N * (if j = 0 then 1 else 0)), .int (if j = 0 then 1 else 0), .bl false] := by
  have := back_int (k := 1) lj (by omega)
  simp only [wyV, wyA]
  rw [← this]
  by_cases q : j = 0 <;> simp [q]
theorem wyB_v {n L j : Nat} {D : List Int} {N : Int} (lj : j < n) (hL : L ≤ n) : wyV (wyB n D L N j) = .tup [.int (((j : Int) - L) % n), .int j, .int (yv D j - N * (if j < L then 1 else 0)), .int (if j < L then 1 else 0), .bl true] := by
  have := back_int (k := L) lj hL
  simp only [wyV, wyB]
  rw [← this]
  by_cases q : j < L <;> simp [q]
theorem ways_loop {k n L : Nat} {N : Int} {vd : IV} {D : List Int} {h h0 : IH} {w : Wk} {Q : RS → Prop} {x0 y0 z0 u0 : Sl} {r : Nat} (hw : ∀ h', Gr h0 h' → w.has (enmT 0 (D.map IV.int)) h') (hD : D.length = n) (hL : L ≤ n) (n1 : n < 1000) (g0 : Gr h0 h) (lr0 : h0.length ≤ r) (er : h[r]? = some (.lst []))
    (q1 : ∀ x y z u h1, Gr h0 h1 → h1[r]? = some (.lst ((wys n D L N).map wyV)) → Q (.nx [.v vd, .v (.int L), .v (.int N), .v (.int n), .v (.ref r), x, y, z, u] h1)) :
    WS (walk w (.tp [5, 6]) (evB sg (cl k) false (IS.b1 (d6.body.nth 1))) FU 0 [.v vd, .v (.int L), .v (.int N), .v (.int n), .v (.ref r), x0, y0, z0, u0] h) Q := by
  refine walkW (xs := enmT 0 (D.map IV.int)) (fun j s h1 => Gr h0 h1 ∧ (∃ x y z u, s = [.v vd, .v (.int L), .v (.int N), .v (.int n), .v (.ref r), x, y, z, u]) ∧ h1[r]? = some (.lst (((List.range j).flatMap (fun s => [wyA n N s, wyB n D L N s])).map wyV))) (fun _ _ => False) (fun y h1 => False)
    (by rw [enmT_len]; simp; omega) (fun _ _ _ i => hw _ i.1) ⟨g0, ⟨_, _, _, _, rfl⟩, er⟩ ?_ ?_ (fun _ _ f => f.elim) (fun _ _ f => f.elim)
  · rintro j x s h1 ev ⟨g, ⟨x, y, z, u, rfl⟩, e⟩
    obtain ⟨lj, rfl⟩ := enm_at ev
    have lj' : j < n := by omega
    have n0 : (n : Int) ≠ 0 := by omega
    have ln := wys_ln (n := n) (L := L) (D := D) (N := N) j
    have l1 : ((((List.range j).flatMap (fun s => [wyA n N s, wyB n D L N s])).map wyV)).length < 16777216 := by rw [List.length_map, ln]; omega
    have l2 : ((((List.range j).flatMap (fun s => [wyA n N s, wyB n D L N s])).map wyV) ++ [wyV (wyA n N j)]).length < 16777216 := by rw [List.length_append, List.length_map, ln]; simp; omega
    have lr := lt_of e
    refine ⟨_, rfl, ?_⟩
    have st : ((List.range (j + 1)).flatMap (fun s => [wyA n N s, wyB n D L N s])).map wyV = ((List.range j).flatMap (fun s => [wyA n N s, wyB n D L N s])).map wyV ++ [wyV (wyA n N j)] ++ [wyV (wyB n D L N j)] := by rw [wys_step]; simp
    rw [wyA_v lj'] at l2 st
    rw [wyB_v lj' hL] at st
    by_cases q1 : (j : Int) = 0
    · have q1' : j = 0 := by omega
      by_cases q2 : (j : Int) < L
      · have q2' : j < L := by omega
        simp_all_arith [IB.nth, IS.b1, d6, eq_true q1, eq_true q2, e, l1, l2]
        rw [st, if_pos q1', if_pos q2']
        exact ⟨g.set lr0, ⟨_, _, _, _, rfl⟩, rfl⟩
      · have q2' : ¬ j < L := by omega
        simp_all_arith [IB.nth, IS.b1, d6, eq_true q1, q2, e, l1, l2]
        rw [st, if_pos q1', if_neg q2']
        exact ⟨g.set lr0, ⟨_, _, _, _, rfl⟩, rfl⟩
    · have q1' : ¬ j = 0 := by omega
      by_cases q2 : (j : Int) < L
      · have q2' : j < L := by omega
        simp_all_arith [IB.nth, IS.b1, d6, q1, eq_true q2, e, l1, l2]
        rw [st, if_neg q1', if_pos q2']
        exact ⟨g.set lr0, ⟨_, _, _, _, rfl⟩, rfl⟩
      · have q2' : ¬ j < L := by omega
        simp_all_arith [IB.nth, IS.b1, d6, q1, q2, e, l1, l2]
        rw [st, if_neg q1', if_neg q2']
        exact ⟨g.set lr0, ⟨_, _, _, _, rfl⟩, rfl⟩
  · rintro s h1 ⟨g, ⟨x, y, z, u, rfl⟩, e⟩
    rw [enmT_len, List.length_map, hD] at e
    exact q1 _ _ _ _ _ g e
theorem ways_of_ {k n L : Nat} {N : Int} {vd : IV} {D : List Int} {h : IH} (a : LV vd D h) (hD : D.length = n) (hL : L ≤ n) (n1 : n < 1000) :
    W (cl (k + 1) 6 [vd, .int L, .int N] h) fun y h' => ∃ r, y = .ref r ∧ h.length ≤ r ∧ h'[r]? = some (.lst ((wys n D L N).map wyV)) ∧ Gr h h' := by
  rw [c6, d6]
  have ln := a.len
  rw [hD] at ln
  rcases a with rfl | ⟨r, rfl, e⟩
  · simp_all_arith [ln, lstI]
    refine ways_loop (h0 := h) EN.tup hD hL n1 .app (Nat.le_refl _) g_new (fun x y z u h1 g e => ?_)
    simp_all_arith
    exact ⟨_, rfl, Nat.le_refl _, e, g⟩
  · have ln' : biF .len [.ref r] (h ++ [.lst []]) = .ok (.int n) (h ++ [.lst []]) := by rw [f_lenR (Gr.app.at e), List.length_map, hD]
    have e' : lstI (.ref r) (h ++ [.lst []]) = some (D.map .int) := lst_at (Gr.app.at e)
    simp_all_arith [ln, ln', e', lt_of e]
    refine ways_loop (h0 := h) (EN.lst e) hD hL n1 .app (Nat.le_refl _) g_new (fun x y z u h1 g e => ?_)
    simp_all_arith
    exact ⟨_, rfl, Nat.le_refl _, e, g⟩
/-! numbers are raised -/
def cV : Option Wy → IV
  | none => .non
  | some w => wyV w
def lV : Option Nat → IV
  | none => .non
  | some v => .int v
structure SH (n rx rc : Nat) (s : Stt) (h : IH) : Prop where
  x : h[rx]? = some (.lst (s.x.map IV.int))
  c : h[rc]? = some (.lst (s.c.map cV))
  lx : s.x.length = n
  lc : s.c.length = n
theorem SH.gr {n rx rc : Nat} {s : Stt} {h h' : IH} (a : SH n rx rc s h) (g : Gr h h') : SH n rx rc s h' := ⟨g.at a.x, g.at a.c, a.lx, a.lc⟩
theorem map_set {α β : Type} (f : α → β) (l : List α) (i : Nat) (a : α) : (l.set i a).map f = (l.map f).set i (f a) := List.map_set
theorem rlx_loop {k n : Nat} {W : List Wy} {s0 : Stt} {rw_ rx rc : Nat} {h h0 : IH} {Q : RS → Prop} {x0 : Sl} {u : Sl} (hW : ∀ w ∈ W, w.t < n ∧ w.f < n) (l1 : W.length < 10000) (n1 : n < 1000) (g0 : Gr h0 h) (lx : h0.length ≤ rx) (lc : h0.length ≤ rc) (ne : rx ≠ rc) (ew : h0[rw_]? = some (.lst (W.map wyV)))
    (a : SH n rx rc s0 h)
    (q1 : ∀ x h1, Gr h0 h1 → SH n rx rc (W.foldl rlx s0) h1 → Q (.nx [.v (.int n), .v (.ref rw_), .v (.ref rx), .v (.ref rc), .v (lV (W.foldl rlx s0).l), u, x] h1)) :
    WS (walk (.lst rw_) (.nm 6) (evB sg (cl k) false (IS.b1 ((IS.b1 (d7.body.nth 1)).nth 1))) FU 0 [.v (.int n), .v (.ref rw_), .v (.ref rx), .v (.ref rc), .v (lV s0.l), u, x0] h) Q := by
  refine walkW (xs := W.map wyV) (fun j s h1 => Gr h0 h1 ∧ (∃ x, s = [.v (.int n), .v (.ref rw_), .v (.ref rx), .v (.ref rc), .v (lV ((W.take j).foldl rlx s0).l), u, x]) ∧ SH n rx rc ((W.take j).foldl rlx s0) h1) (fun _ _ => False) (fun y h1 => False)
    (by rw [List.length_map]; omega) (fun _ _ _ i => has_lst (i.1.at ew)) ⟨g0, ⟨_, rfl⟩, a⟩ ?_ ?_ (fun _ _ f => f.elim) (fun _ _ f => f.elim)
  · rintro j x s h1 ev ⟨g, ⟨x1, rfl⟩, b⟩
    have lj : j < W.length := by
      rcases Nat.lt_or_ge j W.length with q | q
      · exact q
      · rw [List.getElem?_eq_none (by simpa using q)] at ev; exact nomatch ev
    rw [List.getElem?_map, List.getElem?_eq_getElem lj] at ev
    simp at ev
    subst ev
    obtain ⟨ht, hf⟩ := hW _ (List.getElem_mem lj)
    rw [List.take_succ, List.getElem?_eq_getElem lj, List.foldl_append]
    generalize List.foldl rlx s0 (List.take j W) = s at *
    generalize W[j] = w at *
    refine ⟨_, rfl, ?_⟩
    obtain ⟨ex, ec, lxs, lcs⟩ := b
    have ft : (s.x.map IV.int)[w.t]? = some (.int (yv s.x w.t)) := map_ix (by omega)
    have ff : (s.x.map IV.int)[w.f]? = some (.int (yv s.x w.f)) := map_ix (by omega)
    have lt1 : (w.t : Int) < ((s.x.map IV.int).length : Int) := by rw [List.length_map]; omega
    have lf1 : (w.f : Int) < ((s.x.map IV.int).length : Int) := by rw [List.length_map]; omega
    have lt2 : (w.t : Int) < ((s.c.map cV).length : Int) := by rw [List.length_map]; omega
    have f1 : (Option.toList (some w)).foldl rlx s = rlx s w := rfl
    rw [f1]
    by_cases q : yv s.x w.t < yv s.x w.f + w.g
    · have e : rlx s w = ⟨s.x.set w.t (yv s.x w.f + w.g), s.c.set w.t (some w), some w.t⟩ := if_pos q
      rw [e]
      simp_all_arith [IB.nth, IS.b1, d7, wyV, ex, ec, ft, ff, q]
      refine ⟨(g.set lx).set lc, ⟨_, rfl⟩, ⟨?_, ?_, by simp [lxs], by simp [lcs]⟩⟩
      · rw [g_setn (Ne.symm ne), g_set (lt_of ex)]
        simp [List.map_set]
      · rw [g_set (by rw [List.length_set]; exact lt_of ec)]
        simp [List.map_set, cV, wyV]
    · have e : rlx s w = s := if_neg q
      rw [e]
      simp_all_arith [IB.nth, IS.b1, d7, wyV, ex, ec, ft, ff, q]
      exact ⟨g, ⟨_, rfl⟩, ex, ec, lxs, lcs⟩
  · rintro s h1 ⟨g, ⟨x, rfl⟩, b⟩
    rw [List.length_map, List.take_length] at *
    exact q1 _ _ g b
def ini (n : Nat) : Stt := ⟨List.replicate n 0, List.replicate n none, none⟩
theorem raised_loop {k n : Nat} {W : List Wy} {rw_ rx rc : Nat} {h h0 : IH} {Q : RS → Prop} {x0 y0 : Sl} (hW : ∀ w ∈ W, w.t < n ∧ w.f < n) (l1 : W.length < 10000) (n1 : n < 1000) (g0 : Gr h0 h) (lx : h0.length ≤ rx) (lc : h0.length ≤ rc) (ne : rx ≠ rc) (ew : h0[rw_]? = some (.lst (W.map wyV)))
    (a : SH n rx rc (ini n) h)
    (q1 : ∀ x y h1, Gr h0 h1 → SH n rx rc (raisedP W n (ini n)) h1 → Q (.nx [.v (.int n), .v (.ref rw_), .v (.ref rx), .v (.ref rc), .v (lV (raisedP W n (ini n)).l), x, y] h1))
    (q2 : ∀ h1, Gr h0 h1 → SH n rx rc (raisedP W n (ini n)) h1 → Q (.rt (.tup [.ref rx, .ref rc, lV (raisedP W n (ini n)).l]) h1)) :
    WS (walk (.fix ((List.range n).map fun k : Nat => .int k)) (.nm 5) (evB sg (cl k) false (IS.b1 (d7.body.nth 1))) FU 0 [.v (.int n), .v (.ref rw_), .v (.ref rx), .v (.ref rc), .v .non, x0, y0] h) Q := by
  refine walkW (fun j s h1 => Gr h0 h1 ∧ ∃ st x y, s = [.v (.int n), .v (.ref rw_), .v (.ref rx), .v (.ref rc), .v (lV st.l), x, y] ∧ SH n rx rc st h1 ∧ raisedP W (n - j) st = raisedP W n (ini n)) (fun _ _ => False) (fun y h1 => y = .tup [.ref rx, .ref rc, lV (raisedP W n (ini n)).l] ∧ Gr h0 h1 ∧ SH n rx rc (raisedP W n (ini n)) h1)
    (by simp; omega) (fun _ _ _ _ => has_fix _ _) ⟨g0, _, _, _, rfl, a, rfl⟩ ?_ ?_ (fun _ _ f => f.elim) (fun y h1 f => f.1 ▸ q2 h1 f.2.1 f.2.2)
  · rintro j x s h1 ev ⟨g, st, y, z, rfl, b, e⟩
    obtain ⟨lj, rfl⟩ := at_rng ev
    refine ⟨_, rfl, ?_⟩
    rw [show n - j = n - (j + 1) + 1 by omega, raisedP] at e
    have ew1 := g.at ew
    simp_all_arith [IB.nth, IS.b1, d7, ew1]
    refine rlx_loop (s0 := ⟨st.x, st.c, none⟩) (h0 := h0) hW l1 n1 g lx lc ne ew ⟨b.x, b.c, b.lx, b.lc⟩ (fun x h2 g2 b2 => ?_)
    have b2 : SH n rx rc (pass W st) h2 := b2
    have fe : List.foldl rlx { x := st.x, c := st.c, l := none } W = pass W st := rfl
    rw [fe]
    cases q : (pass W st).l with
    | none =>
      rw [if_pos q] at e
      simp_all_arith [lV]
      rw [← e] at *
      rw [q]
      exact ⟨rfl, g2, b2⟩
    | some v =>
      rw [if_neg (by rw [q]; simp)] at e
      simp_all_arith [lV]
      exact ⟨g2, pass W st, _, _, by rw [q], b2, e⟩
  · rintro s h1 ⟨g, st, x, y, rfl, b, e⟩
    rw [List.length_map, List.length_range, Nat.sub_self, raisedP] at e
    rw [e] at b ⊢
    exact q1 _ _ _ g b
theorem flat1 {α : Type} (x : α) : ∀ n, (List.replicate n [x]).flatten = List.replicate n x
  | 0 => rfl
  | n + 1 => by rw [List.replicate_succ, List.replicate_succ, List.flatten_cons, flat1 x n]; rfl
theorem raised_ {k n : Nat} {V : List Wy} {rw_ : Nat} {h : IH} (hW : ∀ w ∈ V, w.t < n ∧ w.f < n) (l1 : V.length < 10000) (n1 : n < 1000) (ew : h[rw_]? = some (.lst (V.map wyV))) :
    W (cl (k + 1) 7 [.int n, .ref rw_] h) fun y h' => ∃ rx rc, y = .tup [.ref rx, .ref rc, lV (raisedP V n (ini n)).l] ∧ SH n rx rc (raisedP V n (ini n)) h' ∧ h.length ≤ rx ∧ h.length ≤ rc ∧ Gr h h' := by
  rw [c7, d7]
  have e1 : (1 : Nat) * n ≤ 16777216 := by omega
  simp_all_arith [ew, e1]
  rw [flat1, flat1]
  refine raised_loop (h0 := h) hW l1 n1 (((Gr.app.tr .app).tr .app).tr .app) (by simp) (by simp) (by simp) ew ⟨?_, ?_, by simp [ini], by simp [ini]⟩ ?_ ?_
  · rw [show (ini n).x.map IV.int = List.replicate n (.int 0) by simp [ini]]
    exact Gr.app.at (Gr.app.at g_new)
  · rw [show (ini n).c.map cV = List.replicate n .non by simp [ini, cV]]
    exact g_new
  · intro x y h1 g b
    simp_all_arith
    exact ⟨_, _, rfl, b, by simp, by simp, g⟩
  · intro h1 g b
    simp_all_arith
    exact ⟨_, _, rfl, b, by simp, by simp, g⟩
/-! starts -/
theorem starts_by_ {k n rx : Nat} {N : Int} {x : List Int} {h : IH} (ex : h[rx]? = some (.lst (x.map IV.int))) (lx : x.length = n) (n1 : n < 1000) :
    W (cl (k + 1) 9 [.ref rx, .int N] h) fun y h' => y = .ref h.length ∧ h'[h.length]? = some (.lst ((sby n (yv x) N).map IV.int)) ∧ Gr h h' := by
  rw [c9, d9]
  simp_all_arith [lst_at ex]
  have en : enmT 0 (x.map IV.int) = (List.range n).map fun j : Nat => IV.tup [.int j, .int (yv x j)] := by
    apply List.ext_getElem?
    intro i
    rw [enmT_ix]
    by_cases q : i < n
    · rw [map_ix (by omega), List.getElem?_map, List.getElem?_range q]; simp
    · rw [List.getElem?_eq_none (by simp; omega), List.getElem?_eq_none (by simp; omega)]; rfl
  refine colA (l := List.range n) (F := fun j : Nat => IV.tup [.int j, .int (yv x j)]) (fun j : Nat => .int (difS n (yv x) N j)) (by simp; omega) (fun t => by rw [← en]; exact has_enm (lst_at (Gr.app.at ex))) ?_ ?_
  · intro j m t
    have lj : j < n := by simpa using m
    have ex' := (Gr.app (t := t)).at ex
    refine ⟨_, rfl, by simp_all_arith, ?_⟩
    by_cases q : (j : Int) = 0
    · have q' : j = 0 := by omega
      subst q'
      have ff : (x.map IV.int)[(-1 + (x.length : Int)).toNat]? = some (.int (yv x (n - 1))) := by
        rw [show (-1 + (x.length : Int)).toNat = n - 1 by omega]
        exact map_ix (by omega)
      simp_all_arith [ex', ff]
      rw [difS, pred_mod lj]
      simp
    · have q' : ¬ j = 0 := by omega
      have ff : (x.map IV.int)[((j : Int) - 1).toNat]? = some (.int (yv x (j - 1))) := by
        rw [show ((j : Int) - 1).toNat = j - 1 by omega]
        exact map_ix (by omega)
      simp_all_arith [ex', ff, q]
      rw [difS, pred_mod lj]
      simp [q']
  · intro h' e g l
    simp_all_arith
    exact ⟨by rw [e, sby, List.map_map]; rfl, g⟩


/-! the ring -/
theorem cv_ix {c : List (Option Wy)} {i : Nat} {w : Wy} (e : cv c i = some w) : (c.map cV)[i]? = some (wyV w) ∧ i < c.length := by
  unfold cv at e
  rw [List.getD_eq_getElem?_getD] at e
  rcases Nat.lt_or_ge i c.length with q | q
  · rw [List.getElem?_eq_getElem q] at e
    refine ⟨?_, q⟩
    rw [List.getElem?_map, List.getElem?_eq_getElem q]
    simp at e
    simp [e, cV]
  · rw [List.getElem?_eq_none q] at e; exact nomatch e
theorem chN_succ {c : List (Option Wy)} {u k : Nat} {w : Wy} (e : cv c (bkN c k u) = some w) : chN c u (k + 1) = chN c u k ++ [w] ∧ bkN c (k + 1) u = w.f := by
  rw [chN, e, bkN, bk, e]; exact ⟨rfl, rfl⟩
theorem ring_by_ {k n v rc : Nat} {V : List Wy} {s : Stt} {h : IH} (g : Rg n V s v) (n1 : n < 1000) (ec : h[rc]? = some (.lst (s.c.map cV))) :
    W (cl (k + 1) 8 [.ref rc, .int v] h) fun y h' => ∃ r p, y = .ref r ∧ h.length ≤ r ∧ 1 ≤ p ∧ p ≤ n ∧ bkN s.c p (bkN s.c n v) = bkN s.c n v ∧ (∀ t, 1 ≤ t → t < p → bkN s.c t (bkN s.c n v) ≠ bkN s.c n v) ∧ h'[r]? = some (.lst ((chN s.c (bkN s.c n v) p).reverse.map wyV)) ∧ Gr h h' := by
  rw [c8, d8]
  have lc := g.inv.lc
  simp_all_arith [ec]
  refine walkW (xs := s.c.map cV) (fun j s1 h1 => h1 = h ∧ j ≤ n ∧ ∃ x y z, s1 = [.v (.ref rc), .v (.int v), .v (.int (bkN s.c j v)), x, y, z]) (fun _ _ => False) (fun _ _ => False) (by simp; omega) (fun _ _ _ i => i.1 ▸ has_lst ec) ⟨rfl, by omega, _, _, _, rfl⟩ ?_ ?_ (fun _ _ f => f.elim) (fun _ _ f => f.elim)
  · rintro j x s1 h1 ev ⟨rfl, ln, x1, y1, z1, rfl⟩
    have lj : j < n := by
      rcases Nat.lt_or_ge j n with q | q
      · exact q
      · rw [List.getElem?_eq_none (by rw [List.length_map]; omega)] at ev; exact nomatch ev
    obtain ⟨a1, a2⟩ := g.al j (by omega)
    cases e : cv s.c (bkN s.c j v) with
    | none => exact absurd e a1
    | some w =>
      obtain ⟨ix, l⟩ := cv_ix e
      have z : bkN s.c (j + 1) v = w.f := by rw [bkN, bk, e]
      have l' : (bkN s.c j v : Int) < ((s.c.map cV).length : Int) := by rw [List.length_map]; omega
      refine ⟨_, rfl, ?_⟩
      simp_all_arith [ec, ix, wyV]
      exact ⟨by omega, _, _, _, by rw [z]⟩
  · rintro s1 h1 ⟨rfl, _, x1, y1, z1, rfl⟩
    rw [List.length_map, lc]
    generalize hu : bkN s.c n v = u
    have on := g.on
    rw [hu] at on
    obtain ⟨P, P1, P2, PQ⟩ := g.rd
    rw [hu] at PQ
    have a0 := (on 0).1
    rw [bkN] at a0
    cases e : cv s.c u with
    | none => exact absurd e a0
    | some w =>
      obtain ⟨ix, l⟩ := cv_ix e
      have l' : (u : Int) < ((s.c.map cV).length : Int) := by rw [List.length_map]; omega
      have lr := lt_of ec
      obtain ⟨c1, c2⟩ := chN_succ (c := s.c) (u := u) (k := 0) (by rw [bkN]; exact e)
      simp_all_arith [ec, ix, wyV]
      refine whlW (N := P - 1) (fun m s1 h2 => ∃ t, 1 ≤ t ∧ t + m = P ∧ s1 = [.v (.ref rc), .v (.int v), .v (.int u), x1, .v (.ref h1.length), .v (.int (bkN s.c t u))] ∧ h2[h1.length]? = some (.lst ((chN s.c u t).map wyV)) ∧ Gr h1 h2 ∧ ∀ j, 1 ≤ j → j < t → bkN s.c j u ≠ u) (by omega) ⟨1, by omega, by omega, by rw [c2], by rw [c1]; simp [chN, wyV], .app, fun j a b => by omega⟩ ?_
      rintro m s1 h2 ⟨t, t1, t2, rfl, er, g2, al⟩
      by_cases q : bkN s.c t u = u
      · have q2 : (bkN s.c t u : Int) = u := by omega
        refine .inl ⟨h2, by simp_all_arith [eq_true q2], ?_⟩
        simp_all_arith [m_revR er]
        exact ⟨_, t, rfl, g2.le, t1, by omega, q, al, by rw [g_new, List.map_reverse], g2.tr .app⟩
      · have q' : ¬ (bkN s.c t u : Int) = u := by omega
        have m0 : m ≠ 0 := by rintro rfl; apply q; rw [show t = P by omega]; exact PQ
        obtain ⟨b1, b2⟩ := on t
        cases e3 : cv s.c (bkN s.c t u) with
        | none => exact absurd e3 b1
        | some w3 =>
          obtain ⟨ix3, l3⟩ := cv_ix e3
          have l3' : (bkN s.c t u : Int) < ((s.c.map cV).length : Int) := by rw [List.length_map]; omega
          obtain ⟨d1, d2⟩ := chN_succ e3
          have ec2 := g2.at ec
          have lt : (chN s.c u t).length < 16777216 := by
            rw [(chN_ok t fun j _ => (on j).1).2]; omega
          refine .inr ⟨m - 1, h2, by omega, by simp_all_arith [q'], ?_⟩
          simp_all_arith [er, ec2, ix3, wyV, lt]
          refine ⟨_, _, rfl, t + 1, by omega, by omega, by rw [d2], ?_, g2.set (Nat.le_refl _), fun j a b => ?_⟩
          · rw [g_set (lt_of er), d1]
            simp [wyV]
          · rcases Nat.lt_or_ge j t with z | z
            · exact al j a z
            · obtain rfl : j = t := by omega
              exact q
theorem wys_nf {n L : Nat} {D : List Int} {N : Int} : ∀ w ∈ wys n D L N, w.t < n ∧ w.f < n := fun w m => wys_lt m
theorem wys_l {n L : Nat} {D : List Int} {N : Int} (n1 : n < 1000) : (wys n D L N).length < 10000 := by
  have := wys_ln (n := n) (L := L) (D := D) (N := N) n
  unfold wys
  omega
theorem raised2_ {k n L : Nat} {N : Int} {D : List Int} {h h1 : IH} {r : Nat} (e : h1[r]? = some (.lst ((wys n D L N).map wyV))) (g : Gr h h1) (n1 : n < 1000) :
    W (cl (k + 1) 7 [.int n, .ref r] h1) (fun y h2 => ∃ rx rc, y = .tup [.ref rx, .ref rc, lV (rz n D L N).l] ∧ SH n rx rc (rz n D L N) h2 ∧ h.length ≤ rx ∧ Gr h h2) :=
  (raised_ wys_nf (wys_l n1) n1 e).th fun y h2 ⟨rx, rc, e1, e2, e3, e4, e5⟩ => ⟨rx, rc, e1, e2, Nat.le_trans g.le e3, g.tr e5⟩
/-- what is told of one ring -/
def PA (n : Nat) (D : List Int) (L : Nat) (N R : Int) (st : List Nat) : Prop :=
  ∃ v p, (rz n D L N).l = some v ∧ 1 ≤ p ∧ bkN (rz n D L N).c p (bkN (rz n D L N).c n v) = bkN (rz n D L N).c n v ∧ (∀ t, 1 ≤ t → t < p → bkN (rz n D L N).c t (bkN (rz n D L N).c n v) ≠ bkN (rz n D L N).c n v) ∧
    R = rs (chN (rz n D L N).c (bkN (rz n D L N).c n v) p) ∧ st = sp (chN (rz n D L N).c (bkN (rz n D L N).c n v) p).reverse
theorem PA.uniq {n L : Nat} {D : List Int} {N R R' : Int} {st st' : List Nat} (a : PA n D L N R st) (b : PA n D L N R' st') : R = R' ∧ st = st' := by
  obtain ⟨v, p, e, p1, q, m, rfl, rfl⟩ := a
  obtain ⟨v', p', e', p1', q', m', rfl, rfl⟩ := b
  rw [e] at e'
  cases e'
  have : p = p' := by
    rcases Nat.lt_trichotomy p p' with z | z | z
    · exact absurd q (m' p p1 z)
    · exact z
    · exact absurd q' (m p' p1' z)
  subst this
  exact ⟨rfl, rfl⟩
theorem people_at_ {k n L : Nat} {N : Int} {vd : IV} {D : List Int} {h : IH} (a : LV vd D h) (hD : D.length = n) (n0 : 0 < n) (hL : L ≤ n) (n1 : n < 1000) :
    W (cl (k + 2) 10 [vd, .int L, .int N] h) fun y h' => ((y = .non ∧ ¬ Fe n D L N) ∨ (∃ r S, y = .ref r ∧ h.length ≤ r ∧ h'[r]? = some (.lst (S.map IV.int)) ∧ Sf n D L N S ∧ S = sby n (yv (rz n D L N).x) N)) ∧ Gr h h' := by
  rw [c10, d10]
  have ln := a.len
  rw [hD] at ln
  simp_all_arith [ln]
  refine W.th (ways_of_ (k := k) (N := N) a hD hL n1) ?_
  rintro _ h1 ⟨r, rfl, lr, er, g1⟩
  simp_all_arith
  refine W.th (raised2_ er g1 n1) ?_
  rintro _ h2 ⟨rx, rc, rfl, b, lx, g2⟩
  rcases rz_main (D := D) (N := N) n0 hL with ⟨z, f⟩ | ⟨v, l, z, f⟩
  · rw [z]
    simp_all_arith [lV]
    refine W.th (starts_by_ (k := k) (N := N) b.x b.lx n1) ?_
    rintro _ h3 ⟨rfl, e3, g3⟩
    simp_all_arith
    exact ⟨.inr ⟨_, _, rfl, g2.le, e3, f, rfl⟩, g2.tr g3⟩
  · rw [z]
    simp_all_arith [lV]
    refine ⟨.inl fun f => ?_, g2⟩
    have := (rz_iff n0 hL).2 f
    rw [z] at this
    exact nomatch this
theorem paper_at_ {k n L : Nat} {N : Int} {vd : IV} {D : List Int} {h : IH} (a : LV vd D h) (hD : D.length = n) (n0 : 0 < n) (h1 : 1 ≤ L) (hL : L ≤ n) (n1 : n < 1000) (hN : 0 ≤ N) :
    W (cl (k + 2) 11 [vd, .int L, .int N] h) fun y h' => ((y = .non ∧ Fe n D L N) ∨ (¬ Fe n D L N ∧ ∃ r R st, y = .tup [.int R, .ref r] ∧ h.length ≤ r ∧ h'[r]? = some (.lst (st.map fun s : Nat => IV.int s)) ∧ PA n D L N R st ∧ Pap n D L N R st ∧ (∀ M, Fe n D L M → (st.map (yv D)).sum ≤ M * R) ∧ st.length < 1000 ∧ R < 1000)) ∧ Gr h h' := by
  rw [c11, d11]
  have ln := a.len
  rw [hD] at ln
  simp_all_arith [ln]
  refine W.th (ways_of_ (k := k) (N := N) a hD hL n1) ?_
  rintro _ h1' ⟨r, rfl, lr, er, g1⟩
  simp_all_arith
  refine W.th (raised2_ er g1 n1) ?_
  rintro _ h2 ⟨rx, rc, rfl, b, lx, g2⟩
  rcases rz_main (D := D) (N := N) n0 hL with ⟨z, f⟩ | ⟨v, l, z, f⟩
  · rw [z]
    simp_all_arith [lV]
    exact ⟨.inl ⟨_, f⟩, g2⟩
  · have nf : ¬ Fe n D L N := fun f => by
      have := (rz_iff n0 hL).2 f
      rw [z] at this
      exact nomatch this
    have zl := z
    rw [z]
    simp_all_arith [lV]
    refine W.th (ring_by_ f n1 b.c) ?_
    rintro _ h3 ⟨r3, p, rfl, lr3, p1, p2, pe, pm, e3, g3⟩
    obtain ⟨w1, w2, w3⟩ := rg_ring f p1 pe
    have pa : PA n D L N _ _ := ⟨v, p, zl, p1, pe, pm, rfl, rfl⟩
    generalize bkN (rz n D L N).c n v = u at *
    generalize hR : chN (rz n D L N).c u p = R at *
    simp_all_arith [e3]
    refine colA (l := R.reverse) (F := wyV) (fun w : Wy => .int w.r) (by simp; omega) (fun _ => has_lstG e3) (fun w m t => ⟨_, rfl, by simp_all_arith, by simp_all_arith [wyV]⟩) ?_
    intro h4 e4 g4 l4
    have sm : LV (.ref h3.length) (R.reverse.map (·.r)) h4 := .inr ⟨_, rfl, by rw [e4, List.map_map]; rfl⟩
    have e34 := g4.at e3
    simp_all_arith [sm.sum, e34]
    refine colM (l := R.reverse) (F := wyV) (fun w : Wy => w.p) (fun w : Wy => .int w.t) (by simp; omega) (fun _ => has_lstG e34) (fun w m t => ⟨_, rfl, by cases e : w.p <;> simp_all_arith [wyV, e], fun _ => by simp_all_arith [wyV]⟩) ?_
    intro h5 e5 g5 l5
    simp_all_arith
    have rr : (R.reverse.map (·.r)).sum = rs R := rs_rev R
    have G := ((g2.tr g3).tr g4)
    refine ⟨.inr ⟨nf, _, _, sp R.reverse, rfl, G.le, ?_, ?_, ?_, ?_, ?_, by rw [rr]; have := rs_le w1; omega⟩, G.tr g5⟩
    · rw [e5, sp, List.map_map]; rfl
    · rw [rr]; exact pa
    · rw [rr]; exact pap_ring h1 hL hN w1 w2 (by omega)
    · rw [rr]; exact fun M hM => pap_ub h1 hL hM w1
    · have : (sp R.reverse).length ≤ R.reverse.length := by rw [sp, List.length_map]; exact List.length_filter_le _ _
      rw [List.length_reverse] at this
      omega


/-! the greatest demand -/
def mxD : List Int → Int
  | [] => 0
  | n :: D => D.foldl max n
theorem foldl_max : ∀ (D : List Int) (n : Int), n ≤ D.foldl max n ∧ (∀ x ∈ D, x ≤ D.foldl max n) ∧ (D.foldl max n = n ∨ D.foldl max n ∈ D)
  | [], n => ⟨Int.le_refl _, by simp, .inl rfl⟩
  | a :: D, n => by
    obtain ⟨h1, h2, h3⟩ := foldl_max D (max n a)
    rw [List.foldl_cons]
    refine ⟨by omega, fun x m => ?_, ?_⟩
    · rcases List.mem_cons.1 m with rfl | m
      · omega
      · exact h2 x m
    · rcases h3 with h3 | h3
      · rw [h3]
        rcases Int.le_total n a with q | q
        · exact .inr (by rw [Int.max_eq_right q]; simp)
        · exact .inl (Int.max_eq_left q)
      · exact .inr (by simp [h3])
theorem mxD_ge {D : List Int} {x : Int} (m : x ∈ D) : x ≤ mxD D := by
  cases D with
  | nil => simp at m
  | cons n D =>
    obtain ⟨h1, h2, _⟩ := foldl_max D n
    rcases List.mem_cons.1 m with rfl | m
    · exact h1
    · exact h2 x m
theorem mxD_mem {D : List Int} (l : 0 < D.length) : mxD D ∈ D := by
  cases D with
  | nil => simp at l
  | cons n D =>
    obtain ⟨_, _, h3⟩ := foldl_max D n
    rcases h3 with h3 | h3
    · show D.foldl max n ∈ _; rw [h3]; simp
    · show D.foldl max n ∈ _; simp [h3]
theorem LV.mx {v : IV} {D : List Int} {h : IH} (a : LV v D h) (l : 0 < D.length) : biF .max [v] h = .ok (.int (mxD D)) h := by
  cases D with
  | nil => simp at l
  | cons n D => exact a.max
theorem LV.nv {v : IV} {D : List Int} {h : IH} (a : LV v D h) (l : D.length < 1000000) : NV h.length h 2 v := by
  have z : ∀ x ∈ D.map IV.int, NV h.length h 1 x := fun x m => by
    obtain ⟨i, _, rfl⟩ := List.mem_map.1 m
    trivial
  rcases a with rfl | ⟨r, rfl, e⟩
  · exact ⟨by simpa using l, z⟩
  · exact ⟨by have := lt_of e; omega, .inl ⟨_, e, by simpa using l, z⟩⟩
theorem LV.items {v : IV} {D : List Int} {h : IH} (a : LV v D h) : items v h = some (D.map .int) := by
  rcases a with rfl | ⟨r, rfl, e⟩
  · rfl
  · simp only [Itp.items, e]
def isLi (v : IV) (h : IH) : Bool := (items v h).isSome
theorem is_listed_ {n : Nat} {v : IV} {h : IH} (D : Dv h v) : cl (n + 1) 3 [v] h = .ok (.bl (isLi v h)) h := by
  rw [c3, d3]
  cases v with
  | ref r => rcases D.ref with ⟨_, e⟩ | ⟨_, e⟩ <;> simp_arith [e] <;> simp [isLi, items, e]
  | _ => simp_arith <;> rfl
def ctO (o : Option (List IV)) : Bool := match o with
  | some xs => xs.all isCt
  | none => false
theorem are_counts_ {n b m : Nat} {v : IV} {h : IH} (N : NV b h (m + 1) v) :
    ∃ u, cl (n + 4) 4 [v] h = .ok (.bl (ctO (items v h))) (h ++ u) := by
  cases e : items v h with
  | none =>
    refine ⟨[], ?_⟩
    rw [c4, d4]
    have li : isLi v h = false := by simp [isLi, e]
    simp_all_arith [is_listed_ N.dv, li]
    rfl
  | some xs =>
    obtain ⟨l, a⟩ := nv_mem N e
    refine ⟨[.lst (xs.map fun x => .bl (isCt x))], ?_⟩
    rw [c4, d4]
    have li : isLi v h = true := by simp [isLi, e]
    have bm : bools (List.map (fun x => IV.bl (isCt x)) xs) = some (xs.map isCt) := bools_m _ _
    have al : (xs.map isCt).all id = xs.all isCt := by rw [List.all_map]; rfl
    have cp : ∀ (w : Wk), (∀ t, w.has xs (h ++ t)) → colle w (.nm 1) [.v v, .no] (evAll sg false (cl (n + 3)) .nil) (evE sg false (cl (n + 3)) (.call 2 (.cons (.var 1) .nil) .nil [])) h.length FU 0 (h ++ [.lst []]) = .ok () (h ++ [.lst (xs.map fun x => .bl (isCt x))]) := by
      intro w hw
      have := collePure (h := h) (w := w) (tg := .nm 1) (s := [.v v, .no]) (test := evAll sg false (cl (n + 3)) .nil) (elt := evE sg false (cl (n + 3)) (.call 2 (.cons (.var 1) .nil) .nil [])) (xs := xs) (fun _ => true) (fun x => .bl (isCt x)) (by omega) hw
        (fun x m t => ⟨_, rfl, by simp_all_arith, fun _ => by
          have Dx : Dv (h ++ t) x := Dv_app (a x m).dv
          simp_all_arith [is_count_ Dx]⟩)
      rw [this, flt_t]
    rcases nv_items N e with rfl | ⟨r, rfl, er⟩
    · simp_all_arith [is_listed_ N.dv, li, cp _ (fun _ => has_fix _ _), bm, al]
      rfl
    · simp_all_arith [is_listed_ N.dv, li, er, cp _ (fun t => has_lstG er), bm, al]
      rfl
/-! the least number -/
theorem least_many_ {k n L : Nat} {vd : IV} {D : List Int} {h : IH} (a : LV vd D h) (hD : D.length = n) (n0 : 0 < n) (h1 : 1 ≤ L) (hL : L ≤ n) (n1 : n < 1000) (d0 : ∀ i, 0 ≤ yv D i) (ds : D.sum < 1000000) :
    W (cl (k + 3) 12 [vd, .int L] h) fun y h' => ∃ m, y = .int m ∧ IsL n D L m ∧ Gr h h' := by
  rw [c12, d12]
  have mx := a.mx (by omega)
  have sm := a.sum
  simp_all_arith [mx, sm]
  have lo0 : ¬ Fe n D L (mxD D - 1) := fun f => by
    obtain ⟨i, l, e⟩ := List.getElem_of_mem (mxD_mem (D := D) (by omega))
    have := (fe_max hL f).2 i (by omega)
    rw [yv, List.getD_eq_getElem?_getD, List.getElem?_eq_getElem l, e] at this
    simp at this
    omega
  have hi0 : Fe n D L D.sum := fe_sum n0 h1 hD d0
  have mx0 : 0 ≤ mxD D := yv_nn.1 d0 _ (mxD_mem (by omega))
  refine whlW (N := 1000000) (fun m s h2 => ∃ lo hi x, s = [.v vd, .v (.int L), .v (.int lo), .v (.int hi), x] ∧ ¬ Fe n D L lo ∧ Fe n D L hi ∧ hi - lo ≤ m + 1 ∧ Gr h h2) (by omega) ⟨_, _, _, rfl, lo0, hi0, by omega, .rfl⟩ ?_
  rintro m s h2 ⟨lo, hi, x, rfl, f1, f2, le, g⟩
  by_cases q : 1 < hi - lo
  · refine .inr ⟨m - 1, h2, by omega, by simp_all_arith [eq_true q], ?_⟩
    have dv : (lo + hi) / 2 < hi ∧ lo < (lo + hi) / 2 := by omega
    simp_all_arith
    generalize (lo + hi) / 2 = mid at *
    refine W.th (people_at_ (k := k) (N := mid) (a.gr g) hD n0 hL n1) ?_
    rintro y h3 ⟨⟨rfl, nf⟩ | ⟨r, S, rfl, _, _, fe, _⟩, g3⟩
    · simp_all_arith
      exact ⟨_, _, rfl, _, _, _, rfl, nf, f2, by omega, g.tr g3⟩
    · simp_all_arith
      exact ⟨_, _, rfl, _, _, _, rfl, f1, ⟨_, fe⟩, by omega, g.tr g3⟩
  · refine .inl ⟨h2, by simp_all_arith [q], ?_⟩
    have hp : 0 ≤ hi := (fe_max hL f2).1
    have lt : lo < hi := by
      rcases Int.lt_or_le lo hi with z | z
      · exact z
      · exact absurd (fe_mono n0 f2 z) f1
    have e : lo = hi - 1 := by omega
    subst e
    simp_all_arith
    rw [if_neg (by omega)]
    exact ⟨_, rfl, isL_of n0 f2 f1, g⟩
/-! what is wrong -/
def ival : IV → Int
  | .int i => i
  | _ => 0
theorem cnt_ints : ∀ {xs : List IV}, xs.all isCt = true → xs = (xs.map ival).map IV.int ∧ ∀ x ∈ xs.map ival, 0 ≤ x
  | [], _ => ⟨rfl, by simp⟩
  | x :: xs, e => by
    rw [List.all_cons, Bool.and_eq_true] at e
    obtain ⟨i1, i2⟩ := cnt_ints e.2
    cases x with
    | int i =>
      have := e.1
      simp [isCt] at this
      refine ⟨by rw [List.map_cons, List.map_cons, ← i1]; rfl, fun y m => ?_⟩
      rw [List.map_cons] at m
      rcases List.mem_cons.1 m with rfl | m
      · exact this
      · exact i2 y m
    | _ => exact nomatch e.1
def dmO (o : Option (List IV)) : Bool := match o with
  | some xs => xs.all isCt && decide (1 ≤ xs.length ∧ xs.length ≤ 48) && decide (mxD (xs.map ival) ≤ 1000)
  | none => false
theorem LV_of {b m : Nat} {v : IV} {h : IH} {xs : List IV} (N : NV b h (m + 1) v) (e : items v h = some xs) (c : xs.all isCt = true) : LV v (xs.map ival) h := by
  rcases nv_items N e with rfl | ⟨r, rfl, er⟩
  · exact .inl (by rw [← (cnt_ints c).1])
  · exact .inr ⟨r, rfl, by rw [← (cnt_ints c).1]; exact er⟩
theorem check_staff_x1 {n b m : Nat} {v w : IV} {h : IH} (N : NV b h (m + 1) v) (q : dmO (items v h) = false) :
    ∃ u, cl (n + 5) 5 [v, w] h = .ex 2 v (h ++ u) := by
  obtain ⟨u, eu⟩ := are_counts_ (n := n) N
  refine ⟨u, ?_⟩
  rw [c5, d5]
  cases e : items v h with
  | none =>
    rw [e] at eu
    have eu : cl (n + 4) 4 [v] h = .ok (.bl false) (h ++ u) := eu
    simp_all_arith [eu]
  | some xs =>
    rw [e] at eu q
    have eu : cl (n + 4) 4 [v] h = .ok (.bl (xs.all isCt)) (h ++ u) := eu
    have q : (xs.all isCt && decide (1 ≤ xs.length ∧ xs.length ≤ 48) && decide (mxD (xs.map ival) ≤ 1000)) = false := q
    by_cases a : xs.all isCt = true
    · have lv := LV_of N e a
      rw [a] at eu
      rw [a, Bool.true_and] at q
      have ln := (lv.gr (Gr.app (t := u))).len
      rw [List.length_map] at ln
      by_cases q1 : (1 : Int) ≤ xs.length
      · by_cases q2 : (xs.length : Int) ≤ 48
        · rw [decide_eq_true (by omega), Bool.true_and, decide_eq_false_iff_not] at q
          have mx := (lv.gr (Gr.app (t := u))).mx (by rw [List.length_map]; omega)
          have q3 : 1000 < mxD (xs.map ival) := by omega
          simp_all_arith [eu, ln, eq_true q1, eq_true q2, mx, eq_true q3]
        · simp_all_arith [eu, ln, eq_true q1, q2]
      · simp_all_arith [eu, ln, q1]
    · rw [Bool.eq_false_iff.2 a] at eu
      simp_all_arith [eu]
structure GD (n : Nat) (D : List Int) : Prop where
  len : D.length = n
  n1 : 1 ≤ n
  n2 : n ≤ 48
  nn : ∀ x ∈ D, 0 ≤ x
  mx : ∀ x ∈ D, x ≤ 1000
theorem GD.y0 {n : Nat} {D : List Int} (g : GD n D) : ∀ i, 0 ≤ yv D i := yv_nn.2 g.nn
theorem GD.mxl {n : Nat} {D : List Int} (g : GD n D) : mxD D ≤ 1000 := g.mx _ (mxD_mem (by have := g.len; have := g.n1; omega))
theorem sum_bd : ∀ {D : List Int} {b : Int}, (∀ x ∈ D, x ≤ b) → D.sum ≤ D.length * b
  | [], b, _ => by simp
  | a :: D, b, h => by
    have i := sum_bd (D := D) (b := b) fun x m => h x (by simp [m])
    have j := h a (by simp)
    rw [List.sum_cons, List.length_cons, Int.natCast_add, Int.add_mul]
    simp
    omega
theorem GD.sm {n : Nat} {D : List Int} (g : GD n D) : D.sum < 1000000 := by
  have := sum_bd g.mx
  have a := g.len
  have b := g.n2
  omega
theorem LV.cnt {v : IV} {n : Nat} {D : List Int} {h : IH} (a : LV v D h) (g : GD n D) (k : Nat) : ∃ u, cl (k + 4) 4 [v] h = .ok (.bl true) (h ++ u) := by
  obtain ⟨u, e⟩ := are_counts_ (n := k) (a.nv (by have := g.len; have := g.n2; omega))
  refine ⟨u, ?_⟩
  rw [e, a.items]
  have : ctO (some (D.map IV.int)) = true := by
    simp only [ctO, List.all_map, List.all_eq_true]
    intro x m
    simp [isCt, g.nn x m]
  rw [this]
theorem check_staff_x2 {k n : Nat} {v w : IV} {D : List Int} {h : IH} (a : LV v D h) (g : GD n D) (Dw : Dv h w) (q : isFT w 1 n = false) :
    ∃ u, cl (k + 5) 5 [v, w] h = .ex 3 w (h ++ u) := by
  obtain ⟨u, eu⟩ := a.cnt g k
  refine ⟨u, ?_⟩
  rw [c5, d5]
  have b := a.gr (Gr.app (t := u))
  have ln := b.len
  rw [g.len] at ln
  have mx := b.mx (by have := g.len; have := g.n1; omega)
  have q1 : (1 : Int) ≤ n := by have := g.n1; omega
  have q2 : (n : Int) ≤ 48 := by have := g.n2; omega
  have q3 : ¬ 1000 < mxD D := by have := g.mxl; omega
  simp_all_arith [eu, ln, eq_true q1, eq_true q2, mx, q3, is_from_to_ (Dv_app (t := u) Dw), q]
theorem check_staff_ {k n L : Nat} {v : IV} {D : List Int} {h : IH} (a : LV v D h) (g : GD n D) (h1 : 1 ≤ L) (hL : L ≤ n) :
    ∃ u, cl (k + 5) 5 [v, .int L] h = .ok .non (h ++ u) := by
  obtain ⟨u, eu⟩ := a.cnt g k
  refine ⟨u, ?_⟩
  rw [c5, d5]
  have b := a.gr (Gr.app (t := u))
  have ln := b.len
  rw [g.len] at ln
  have mx := b.mx (by have := g.len; have := g.n1; omega)
  have q1 : (1 : Int) ≤ n := by have := g.n1; omega
  have q2 : (n : Int) ≤ 48 := by have := g.n2; omega
  have q3 : ¬ 1000 < mxD D := by have := g.mxl; omega
  have q : isFT (.int L) 1 n = true := by simp [isFT]; omega
  simp_all_arith [eu, ln, eq_true q1, eq_true q2, mx, q3, is_from_to_ (Dv_i _ _), q]
/-! the calls -/
def stO (n : Nat) (D : List Int) (L : Nat) (o : Option (List IV)) : Bool := match o with
  | some xs => xs.all isCt && decide (xs.length = n) && metB n D L (xs.map ival)
  | none => false
theorem staff_ {k n L : Nat} {vd : IV} {D : List Int} {h : IH} (a : LV vd D h) (g : GD n D) (h1 : 1 ≤ L) (hL : L ≤ n) :
    W (cl (k + 6) 13 [vd, .int L] h) fun y h' => ∃ m r S, y = .tup [.int m, .ref r] ∧ h.length ≤ r ∧ h'[r]? = some (.lst (S.map IV.int)) ∧ Sf n D L m S ∧ S = sby n (yv (rz n D L m).x) m ∧ IsL n D L m ∧ Gr h h' := by
  obtain ⟨u, eu⟩ := check_staff_ (k := k) a g h1 hL
  have n1 := g.n1
  have n2 := g.n2
  rw [c13, d13]
  simp_all_arith [eu]
  have a1 := a.gr (Gr.app (t := u))
  refine W.th (least_many_ (k := k + 2) a1 g.len (by omega) h1 hL (by omega) g.y0 g.sm) ?_
  rintro _ h2 ⟨m, rfl, il, g2⟩
  have a2 := a1.gr g2
  have ln := a2.len
  rw [g.len] at ln
  simp_all_arith [ln]
  refine W.th (ways_of_ (k := k + 4) (N := m) a2 g.len hL (by omega)) ?_
  rintro _ h3 ⟨r, rfl, lr, er, g3⟩
  simp_all_arith
  refine W.th (raised2_ er g3 (by omega)) ?_
  rintro _ h4 ⟨rx, rc, rfl, b, lx, g4⟩
  simp_all_arith
  refine W.th (starts_by_ (k := k + 4) (N := m) b.x b.lx (by omega)) ?_
  rintro _ h5 ⟨rfl, e5, g5⟩
  simp_all_arith
  have gg : Gr h h4 := (Gr.app.tr g2).tr g4
  refine ⟨m, _, _, rfl, gg.le, e5, ?_, rfl, il, gg.tr g5⟩
  rcases rz_main (D := D) (N := m) (show 0 < n by omega) hL with ⟨_, f⟩ | ⟨v, l, z, f⟩
  · exact f
  · have := (rz_iff (D := D) (N := m) (by omega) hL).2 ((il m).2 (Int.le_refl _))
    rw [z] at this
    exact nomatch this


theorem x_strE {z : Str} {i : Int} {h : IH} : index (.str z) (.int i) h = if z.length ≤ LN then opt ((atIx z.cps.toList i).map fun c => .str ⟨#[c]⟩) h else .no := rfl
theorem sl_strE {z : Str} {lo hi : Option Int} {h : IH} : slice (.str z) lo hi h = if z.length ≤ LN then .ok (.str (PySem.Txt.slice z lo hi)) h else .no := rfl
theorem slice_one {x : Str} {k : Nat} (l : k < x.length) : PySem.Txt.slice x (some (k : Int)) (some ((k : Int) + 1)) = ⟨#[x.cps[k]'l]⟩ := by
  unfold PySem.Txt.slice
  have ix : PySem.Builtin.Str.strSliceIndices (some (k : Int)) (some ((k : Int) + 1)) 1 x.length = [k] := by
    unfold PySem.Builtin.Str.strSliceIndices PySem.sliceRange
    have a : ¬ (k : Int) < 0 := by omega
    have b : ¬ (k : Int) + 1 < 0 := by omega
    have c1 : min (k : Int) x.length = k := by omega
    have c2 : max 0 (k : Int) = k := by omega
    have d1 : min ((k : Int) + 1) x.length = k + 1 := by omega
    have d2 : max 0 ((k : Int) + 1) = k + 1 := by omega
    have e0 : ((1 : Int) > 0) = True := by simp
    simp only [if_neg a, if_neg b, e0, if_true, c1, c2, d1, d2]
    rw [if_pos (by omega), show ((k : Int) + 1 - k + 1 - 1) / 1 = 1 by omega]
    simp
  rw [ix]
  by_cases q : x.length = 1
  · have k0 : k = 0 := by omega
    subst k0
    rw [if_pos (by simp [q])]
    obtain ⟨⟨cs⟩⟩ := x
    have q : cs.length = 1 := q
    match cs, q with
    | [c], _ => rfl
  · rw [if_neg (by simp; omega)]
    have l' : k < x.cps.size := l
    simp [l']
    rfl
def EQS (h : IH) : Nat → IV → IV → Prop
  | 0, _, _ => False
  | n + 1, x, y => match x, y with
    | .non, .non => True
    | .bl a, .bl b => a = b
    | .int a, .int b => a = b
    | .str a, .str b => a = b ∧ PyData.strOk a = true ∧ a.length ≤ 1000
    | .tup xs, .tup ys => xs.length = ys.length ∧ xs.length < 1000000 ∧ ∀ (k : Nat) (x y : IV), xs[k]? = some x → ys[k]? = some y → EQS h n x y
    | .ref r, .ref q => ∃ xs ys, h[r]? = some (.lst xs) ∧ h[q]? = some (.lst ys) ∧ xs.length = ys.length ∧ xs.length < 1000000 ∧ ∀ (k : Nat) (x y : IV), xs[k]? = some x → ys[k]? = some y → EQS h n x y
    | _, _ => False
/-- no object in it, short texts -/
def plW : Nat → IV → Bool
  | 0, _ => false
  | n + 1, v => match v with
    | .non => true
    | .bl _ => true
    | .int _ => true
    | .str x => PyData.strOk x && decide (x.length ≤ 1000)
    | .tup xs => xs.all (plW n) && decide (xs.length < 1000000)
    | _ => false
theorem EQS.rfl {h : IH} : ∀ {n : Nat} {v : IV}, plW n v = true → EQS h n v v
  | 0, _, e => nomatch e
  | n + 1, v, e => by
    cases v with
    | str x => simp only [plW, Bool.and_eq_true, decide_eq_true_eq] at e; exact ⟨Eq.refl _, e.1, e.2⟩
    | tup xs =>
      simp only [plW, Bool.and_eq_true, decide_eq_true_eq, List.all_eq_true] at e
      refine ⟨Eq.refl _, e.2, fun k x y a b => ?_⟩
      rw [a] at b
      obtain rfl : x = y := by simpa using b
      exact EQS.rfl (e.1 x (List.mem_of_getElem? a))
    | frz _ => exact nomatch e
    | ref _ => exact nomatch e
    | non => exact True.intro
    | bl _ => exact (Eq.refl _ : _ = _)
    | int _ => exact (Eq.refl _ : _ = _)
theorem EQS.two {h : IH} {n r q : Nat} {x1 x2 y1 y2 : IV} (e1 : h[r]? = some (.lst [x1, x2])) (e2 : h[q]? = some (.lst [y1, y2])) (a : EQS h n x1 y1) (b : EQS h n x2 y2) : EQS h (n + 1) (.ref r) (.ref q) := by
  refine ⟨_, _, e1, e2, by simp, by simp, fun k x y f g => ?_⟩
  match k with
  | 0 => simp at f g; exact f ▸ g ▸ a
  | 1 => simp at f g; exact f ▸ g ▸ b
  | k + 2 => simp at f
theorem EQS.tup2 {h : IH} {n : Nat} {x1 x2 y1 y2 : IV} (a : EQS h n x1 y1) (b : EQS h n x2 y2) : EQS h (n + 1) (.tup [x1, x2]) (.tup [y1, y2]) := by
  refine ⟨by simp, by simp, fun k x y f g => ?_⟩
  match k with
  | 0 => simp at f g; exact f ▸ g ▸ a
  | 1 => simp at f g; exact f ▸ g ▸ b
  | k + 2 => simp at f
theorem EQS.ints {h : IH} {n r q : Nat} {S : List Int} (e1 : h[r]? = some (.lst (S.map IV.int))) (e2 : h[q]? = some (.lst (S.map IV.int))) (l : S.length < 1000000) : EQS h (n + 2) (.ref r) (.ref q) := by
  refine ⟨_, _, e1, e2, by simp, by simpa using l, fun k x y f g => ?_⟩
  rw [f] at g
  obtain rfl : x = y := by simpa using g
  obtain ⟨i, _, rfl⟩ := List.mem_map.1 (List.mem_of_getElem? f)
  exact (Eq.refl _ : _ = _)
theorem same_eq {h : IH} : ∀ {m n : Nat} {x y : IV} {h' : IH}, EQS h m x y → Gr h h' → W (cl (n + m) 20 [x, y] h') fun v h'' => v = .bl true ∧ Gr h' h''
  | 0, _, _, _, _, e, _ => e.elim
  | m + 1, n, x, y, h', e, g => by
    have go : ∀ (xs ys : List IV), xs.length = ys.length → xs.length < 1000000 → (∀ (k : Nat) (x y : IV), xs[k]? = some x → ys[k]? = some y → EQS h m x y) → ∀ (x y : IV) (dx : ∀ h2 : IH, Gr h' h2 → ∀ j : Nat, j < xs.length → index x (.int j) h2 = opt xs[j]? h2 ∧ index y (.int j) h2 = opt ys[j]? h2),
        W (colle (.fix ((List.range ys.length).map fun k : Nat => IV.int k)) (.nm 2) [.v x, .v y, .no] (evAll sg false (cl (n + m)) (.cons (.not (.val (.call 20 (.cons (.idx (.var 0) (.var 2)) (.cons (.idx (.var 1) (.var 2)) .nil)) .nil []))) .nil)) (evE sg false (cl (n + m)) (.var 2)) h'.length FU 0 (h' ++ [.lst []])) fun _ h2 => h2[h'.length]? = some (.lst []) ∧ Gr h' h2 := by
      intro xs ys hl hl2 a x y dx
      refine colleW (xs := (List.range ys.length).map fun k : Nat => IV.int k) (fun k acc h2 => acc = [] ∧ Gr (h' ++ [.lst []]) h2) (by simp; omega) (fun _ _ _ _ => has_fix _ _) ⟨Eq.refl _, .rfl⟩ ?_ ?_
      · rintro j z acc h2 ev ⟨rfl, g2⟩
        obtain ⟨hj, rfl⟩ := at_rng ev
        have l1 : j < xs.length := by omega
        have q1 := List.getElem?_eq_getElem l1
        have q2 := List.getElem?_eq_getElem hj
        obtain ⟨i1, i2⟩ := dx h2 (Gr.app.tr g2) j l1
        refine ⟨_, Eq.refl _, ?_⟩
        simp_all_arith [i1, i2, q1, q2]
        refine W.th (same_eq (n := n) (a j _ _ q1 q2) ((g.tr .app).tr g2)) ?_
        rintro _ h3 ⟨rfl, g3⟩
        simp_all_arith
        exact ⟨fun _ => g2.tr g3, fun f => by simp at f⟩
      · rintro acc h2 ⟨rfl, g2⟩
        exact ⟨g2.at g_new, Gr.app.tr g2⟩
    show W (cl (n + m + 1) _ _ _) _
    rw [c20, d20]
    cases x <;> cases y <;> first | exact e.elim | skip
    case non.non => simp_all_arith; exact .rfl
    case bl.bl a b =>
      obtain rfl : a = b := e
      cases a <;> simp_all_arith <;> exact .rfl
    case int.int a b =>
      obtain rfl : a = b := e
      have : a - a = 0 := Int.sub_self a
      simp_all_arith [this]
      exact .rfl
    case str.str a b =>
      obtain ⟨rfl, o, l⟩ := e
      have ln : biF .len [.str a] h' = .ok (.int a.length) h' := by
        show (if a.length ≤ LN then R.ok (IV.int a.length) h' else .no) = _
        exact if_pos (by show a.length ≤ 16777216; omega)
      simp_all_arith [ln]
      refine colM (l := List.range a.length) (F := fun k : Nat => .int k) (fun _ => false) (fun k : Nat => .int k) (by simp; omega) (fun _ => has_fix _ _) ?_ ?_
      · intro j hj t
        have hj := List.mem_range.1 hj
        refine ⟨_, Eq.refl _, ?_, fun f => nomatch f⟩
        have ll : a.length ≤ 16777216 := by omega
        have hj0 : j < a.cps.size := hj
        have at1 : a.cps.toList[j]? = some (a.cps[j]'hj) := by
          simp [hj0]
          rfl
        have lz : (j : Int) < (a.cps.toList.length : Int) := by rw [Array.length_toList]; omega
        have os : PyData.strOk ⟨#[a.cps[j]'hj]⟩ = true := by
          have hj' : j < a.cps.size := hj
          have := o
          simp only [PyData.strOk, Array.all_eq_true] at this
          have := this j hj'
          have hc : a.cps[j]'hj' < 1114112 := by simpa using this
          simp [PyData.strOk]
          exact hc
        simp_all_arith [sl_strE, x_strE, ll, slice_one hj, at1]
      · intro h2 e2 g2 l2
        have e4 : ((List.range a.length).filter fun _ => false).map (fun k : Nat => IV.int k) = [] := by simp
        rw [e4] at e2
        have f3 : (h2 ++ [IO.lst []])[h'.length]? = some (.lst []) := Gr.app.at e2
        simp_all_arith [eq_nil f3 g_new]
        exact g2.tr .app
    case tup.tup xs ys =>
      obtain ⟨hl, hl2, a⟩ := e
      have it : ∀ (zs : List IV) (h2 : IH) (j : Nat), j < zs.length → index (.tup zs) (.int j) h2 = opt zs[j]? h2 := fun zs h2 j l => by
        rw [x_tup, atIx_d, nIx_p (by omega) (by omega)]; rfl
      simp_all_arith [hl]
      refine W.th (go xs ys hl hl2 a (.tup xs) (.tup ys) (fun h2 _ j l => ⟨it xs h2 j l, it ys h2 j (by omega)⟩)) ?_
      rintro _ h2 ⟨e2, g2⟩
      have e3 : (h2 ++ [IO.lst []])[h'.length]? = some (.lst []) := Gr.app.at e2
      simp_all_arith [eq_nil e3 g_new]
      exact g2.tr .app
    case ref.ref r q =>
      obtain ⟨xs, ys, e1, e2, hl, hl2, a⟩ := e
      have f1 := g.at e1
      have f2 := g.at e2
      have it : ∀ (r : Nat) (zs : List IV) (h2 : IH) (j : Nat), h2[r]? = some (.lst zs) → j < zs.length → index (.ref r) (.int j) h2 = opt zs[j]? h2 := fun r zs h2 j z l => by
        rw [x_ref, z]
        show opt (atIx zs j) h2 = _
        rw [atIx_d, nIx_p (by omega) (by omega)]; rfl
      simp_all_arith [f1, f2, hl]
      refine W.th (go xs ys hl hl2 a (.ref r) (.ref q) (fun h2 g2 j l => ⟨it r xs h2 j (g2.at f1) l, it q ys h2 j (g2.at f2) (by omega)⟩)) ?_
      rintro _ h2 ⟨e3, g2⟩
      have e4 : (h2 ++ [IO.lst []])[h'.length]? = some (.lst []) := Gr.app.at e3
      simp_all_arith [eq_nil e4 g_new]
      exact g2.tr .app
  termination_by m => m



/-! all lists with a sum -/
def rowsP (w : Int) : Nat → List (List Int)
  | 0 => [[]]
  | k + 1 => (rowsP w k).flatMap fun row => (List.range (w - row.sum + 1).toNat).map fun one : Nat => row ++ [(one : Int)]
def rowsF (w : Int) (n : Nat) : List (List Int) := (rowsP w (n - 1)).map fun row => row ++ [w - row.sum]
theorem rowsP_mem {w : Int} (w0 : 0 ≤ w) : ∀ {k : Nat} {row : List Int}, row ∈ rowsP w k ↔ row.length = k ∧ (∀ x ∈ row, 0 ≤ x) ∧ row.sum ≤ w
  | 0, row => by
    simp only [rowsP, List.mem_singleton]
    constructor
    · rintro rfl; simp [w0]
    · intro h; exact List.eq_nil_of_length_eq_zero h.1
  | k + 1, row => by
    simp only [rowsP, List.mem_flatMap, List.mem_map, List.mem_range]
    constructor
    · rintro ⟨r, m, o, l, rfl⟩
      obtain ⟨h1, h2, h3⟩ := (rowsP_mem w0).1 m
      refine ⟨by simp [h1], fun x m => ?_, by simp; omega⟩
      rcases List.mem_append.1 m with m | m
      · exact h2 x m
      · rw [List.mem_singleton.1 m]; omega
    · rintro ⟨h1, h2, h3⟩
      have ne : row ≠ [] := by rintro rfl; simp at h1
      have e := List.dropLast_concat_getLast ne
      have l0 : 0 ≤ row.getLast ne := h2 _ (List.getLast_mem ne)
      have s : row.sum = row.dropLast.sum + row.getLast ne := by
        conv => lhs; rw [← e]
        simp
      refine ⟨row.dropLast, (rowsP_mem w0).2 ⟨by simp [h1], fun x m => h2 x (List.dropLast_subset _ m), by omega⟩, (row.getLast ne).toNat, by omega, ?_⟩
      rw [Int.toNat_of_nonneg l0]
      exact e
theorem rowsF_mem {w : Int} (w0 : 0 ≤ w) {n : Nat} (n1 : 1 ≤ n) {row : List Int} : row ∈ rowsF w n ↔ row.length = n ∧ (∀ x ∈ row, 0 ≤ x) ∧ row.sum = w := by
  simp only [rowsF, List.mem_map]
  constructor
  · rintro ⟨r, m, rfl⟩
    obtain ⟨h1, h2, h3⟩ := (rowsP_mem w0).1 m
    refine ⟨by simp [h1]; omega, fun x m => ?_, by simp; omega⟩
    rcases List.mem_append.1 m with m | m
    · exact h2 x m
    · rw [List.mem_singleton.1 m]; omega
  · rintro ⟨h1, h2, h3⟩
    have ne : row ≠ [] := by rintro rfl; simp at h1; omega
    have e := List.dropLast_concat_getLast ne
    have l0 : 0 ≤ row.getLast ne := h2 _ (List.getLast_mem ne)
    have s : row.sum = row.dropLast.sum + row.getLast ne := by
      conv => lhs; rw [← e]
      simp
    refine ⟨row.dropLast, (rowsP_mem w0).2 ⟨by simp [h1], fun x m => h2 x (List.dropLast_subset _ m), by omega⟩, ?_⟩
    rw [show w - row.dropLast.sum = row.getLast ne by omega]
    exact e
theorem flat_len {α β : Type} {f : α → List β} {b : Nat} : ∀ {l : List α}, (∀ x ∈ l, (f x).length ≤ b) → (l.flatMap f).length ≤ l.length * b
  | [], _ => by simp
  | x :: l, h => by
    have i := flat_len (l := l) (f := f) (b := b) fun y m => h y (by simp [m])
    have j := h x (by simp)
    rw [List.flatMap_cons, List.length_append, List.length_cons, Nat.add_mul]
    omega
theorem rowsP_len {w : Int} (w0 : 0 ≤ w) (w1 : w ≤ 18) : ∀ k, (rowsP w k).length ≤ 19 ^ k
  | 0 => by simp [rowsP]
  | k + 1 => by
    have i := rowsP_len w0 w1 k
    rw [rowsP, Nat.pow_succ]
    refine Nat.le_trans (flat_len (b := 19) fun row m => ?_) (Nat.mul_le_mul_right 19 i)
    obtain ⟨_, h2, _⟩ := (rowsP_mem w0).1 m
    have : 0 ≤ row.sum := by
      have z : ∀ {r : List Int}, (∀ x ∈ r, 0 ≤ x) → 0 ≤ r.sum := by
        intro r
        induction r with
        | nil => simp
        | cons a r ih => intro h; have := h a (by simp); have := ih fun x m => h x (by simp [m]); simp; omega
      exact z h2
    simp
    omega
/-- references to the lists -/
def RA (h : IH) : List IV → List (List Int) → Prop
  | [], [] => True
  | .ref r :: xs, row :: L => h[r]? = some (.lst (row.map IV.int)) ∧ RA h xs L
  | _, _ => False
theorem RA.gr {h h' : IH} (g : Gr h h') : ∀ {xs : List IV} {L : List (List Int)}, RA h xs L → RA h' xs L
  | [], [], _ => trivial
  | [], _ :: _, a => a.elim
  | .ref r :: xs, row :: L, a => ⟨g.at a.1, RA.gr g a.2⟩
  | x :: xs, [], a => by cases x <;> exact a.elim
  | .non :: _, _ :: _, a => a.elim
  | .bl _ :: _, _ :: _, a => a.elim
  | .int _ :: _, _ :: _, a => a.elim
  | .str _ :: _, _ :: _, a => a.elim
  | .tup _ :: _, _ :: _, a => a.elim
  | .frz _ :: _, _ :: _, a => a.elim
theorem RA.cons {h : IH} {x : IV} {xs : List IV} {L : List (List Int)} (a : RA h (x :: xs) L) : ∃ r row M, x = .ref r ∧ L = row :: M ∧ h[r]? = some (.lst (row.map IV.int)) ∧ RA h xs M := by
  cases L with
  | nil => cases x <;> exact a.elim
  | cons row M =>
    cases x with
    | ref r => exact ⟨r, row, M, rfl, rfl, a.1, a.2⟩
    | _ => exact a.elim
theorem RA.len {h : IH} : ∀ {xs : List IV} {L : List (List Int)}, RA h xs L → xs.length = L.length
  | [], [], _ => rfl
  | [], _ :: _, a => a.elim
  | x :: xs, L, a => by
    obtain ⟨r, row, M, rfl, rfl, _, b⟩ := a.cons
    simp [b.len]
theorem RA.app {h : IH} : ∀ {xs ys : List IV} {L M : List (List Int)}, RA h xs L → RA h ys M → RA h (xs ++ ys) (L ++ M)
  | [], ys, [], M, _, b => b
  | [], _, _ :: _, _, a, _ => a.elim
  | x :: xs, ys, L, M, a, b => by
    obtain ⟨r, row, L, rfl, rfl, e, c⟩ := a.cons
    exact ⟨e, RA.app c b⟩
theorem RA.at {h : IH} : ∀ {xs : List IV} {L : List (List Int)} {j : Nat} {x : IV}, RA h xs L → xs[j]? = some x → ∃ r row, x = .ref r ∧ L[j]? = some row ∧ h[r]? = some (.lst (row.map IV.int))
  | [], _, _, _, _, e => by simp at e
  | y :: xs, L, 0, x, a, e => by
    obtain ⟨r, row, L, rfl, rfl, q, c⟩ := a.cons
    simp at e
    exact ⟨r, row, e.symm, rfl, q⟩
  | y :: xs, L, j + 1, x, a, e => by
    obtain ⟨r, row, L, rfl, rfl, q, c⟩ := a.cons
    rw [List.getElem?_cons_succ] at e ⊢
    exact RA.at c e
/-- plain lists against the empty one -/
theorem eq_plN {h : IH} {a b : Nat} {xs : List IV} (e1 : h[a]? = some (.lst xs)) (e2 : h[b]? = some (.lst [])) (p : xs.all (plV 29) = true) : eqI (.ref a) (.ref b) h = some xs.isEmpty := by
  cases xs with
  | nil => exact eq_nil e1 e2
  | cons x xs =>
    obtain ⟨ds, k1, k2, k3⟩ := plL (fun v e => plV_dat e) p
    cases ds with
    | nil =>
      have := k1 h
      rw [datL] at this
      cases q : dat h 29 x with
      | none => rw [q] at this; exact nomatch this
      | some d =>
        rw [q] at this
        cases q2 : datL (dat h 29) xs with
        | none => rw [q2] at this; exact nomatch this
        | some _ => rw [q2] at this; exact nomatch this
    | cons d ds =>
      refine eq_nilL e1 e2 (k1 h) ?_
      unfold PySem.SeqAt.shaped
      have cl : (PyData.list (d :: ds)).canLay0 = true := by simpa [PyData.canLay0] using k2
      rw [cl, decide_eq_true (by rw [PyData.depth]; omega)]; rfl
theorem RA.setn {h : IH} {q : Nat} {o : IO} : ∀ {xs : List IV} {L : List (List Int)}, RA h xs L → (∀ r, IV.ref r ∈ xs → r ≠ q) → RA (h.set q o) xs L
  | [], [], _, _ => trivial
  | [], _ :: _, a, _ => a.elim
  | x :: xs, L, a, n => by
    obtain ⟨r, row, M, rfl, rfl, e, b⟩ := a.cons
    exact ⟨by rw [g_setn (Ne.symm (n r (by simp)))]; exact e, RA.setn b fun r m => n r (by simp [m])⟩
/-- a row and one number more, in a comprehension -/
theorem row_more {h : IH} {env : En} {w : Wk} {L : List IV} {G : List (List Int)} {tg : Tg} {test : En → IH → Itp.R Bool} {elt : En → IH → Itp.R IV} {Q : Unit → IH → Prop} (nl : L.length < 16777216)
    (hw : ∀ h', Gr h h' → w.has L h') (hl : G.length = L.length)
    (st : ∀ (j : Nat) (x : IV) (row : List Int), L[j]? = some x → G[j]? = some row → ∀ h' : IH, Gr h h' → ∃ s1, asg tg x env h' = some s1 ∧ test s1 h' = .ok true h' ∧ W (elt s1 h') fun y h2 => (∃ q, y = .ref q ∧ h'.length ≤ q ∧ h2[q]? = some (.lst (row.map IV.int))) ∧ Gr h' h2)
    (k : ∀ h' xs, h'[h.length]? = some (.lst xs) → RA h' xs G → (∀ r, IV.ref r ∈ xs → h.length < r) → Gr h h' → Q () h') :
    W (colle w tg env test elt h.length FU 0 (h ++ [.lst []])) Q := by
  refine colleW (xs := L) (fun j acc h' => h'[h.length]? = some (.lst acc) ∧ Gr h h' ∧ RA h' acc (G.take j) ∧ ∀ r, IV.ref r ∈ acc → h.length < r) nl (fun _ _ h' i => hw h' i.2.1) ⟨g_new, .app, by rw [List.take_zero]; trivial, by simp⟩ ?_ ?_
  · rintro j x acc h' ev ⟨e, g, a, n⟩
    have lj : j < G.length := by
      rcases Nat.lt_or_ge j L.length with q | q
      · omega
      · rw [List.getElem?_eq_none q] at ev; exact nomatch ev
    have er := List.getElem?_eq_getElem lj
    obtain ⟨s1, a1, t1, w1⟩ := st j x _ ev er h' g
    refine ⟨s1, a1, W.of t1 ⟨(fun z => nomatch z), fun _ => W.th w1 ?_⟩⟩
    rintro _ h2 ⟨⟨q, rfl, lq, eq⟩, g2⟩
    have e2 := g2.at e
    have lh := lt_of e
    refine ⟨e2, g_set (lt_of e2), (g.tr g2).set (Nat.le_refl _), ?_, ?_⟩
    · rw [List.take_succ, er]
      refine RA.setn (RA.app (a.gr g2) ⟨eq, trivial⟩) fun r m => ?_
      rcases List.mem_append.1 m with m | m
      · have := n r m; omega
      · simp at m; omega
    · intro r m
      rcases List.mem_append.1 m with m | m
      · exact n r m
      · simp at m; omega
  · rintro acc h' ⟨e, g, a, n⟩
    rw [← hl, List.take_length] at a
    exact k h' acc e a n g
theorem flat_take {α β : Type} {f : α → List β} {l : List α} (i : Nat) : ((l.take i).flatMap f).length ≤ (l.flatMap f).length := by
  conv => rhs; rw [← List.take_append_drop i l, List.flatMap_append, List.length_append]
  omega
theorem bm_ext {a b : Nat} {xs ys : List IV} {h : IH} (e1 : h[a]? = some (.lst xs)) (e2 : h[b]? = some (.lst ys)) (l : xs.length + ys.length ≤ 16777216) : bmF .extend (.ref a) [.ref b] h = .ok .non (h.set a (.lst (xs ++ ys))) := by
  simp only [bmF, e1, bmL, e2]
  exact if_pos l
abbrev rowG (w : Int) (row : List Int) : List (List Int) := (List.range (w - row.sum + 1).toNat).map fun one : Nat => row ++ [(one : Int)]
theorem rows_ {k n : Nat} {w : Int} {h : IH} (w0 : 0 ≤ w) (w1 : w ≤ 18) (n1 : 1 ≤ n) (n2 : n ≤ 6) :
    W (cl (k + 1) 25 [.int n, .int w] h) fun y h' => ∃ r xs, y = .ref r ∧ h'[r]? = some (.lst xs) ∧ RA h' xs (rowsF w n) ∧ Gr h h' := by
  have bd : ∀ k, k ≤ 5 → (rowsP w k).length ≤ 2476099 := fun k l => Nat.le_trans (rowsP_len w0 w1 k) (Nat.pow_le_pow_right (by omega) l)
  rw [c25, d25]
  simp_all_arith
  refine walkW (fun j s h1 => Gr h h1 ∧ ∃ r xs y3 y4 y5 y6, s = [.v (.int n), .v (.int w), .v (.ref r), y3, y4, y5, y6] ∧ h.length ≤ r ∧ h1[r]? = some (.lst xs) ∧ RA h1 xs (rowsP w j)) (fun _ _ => False) (fun _ _ => False) (by simp; omega) (fun _ _ _ _ => has_fix _ _) ⟨Gr.app.tr .app, _, _, _, _, _, _, rfl, by simp, g_new, by rw [List.append_assoc]; exact ⟨by rw [List.getElem?_append_right (Nat.le_refl _)]; simp, trivial⟩⟩ ?_ ?_ (fun _ _ f => f.elim) (fun _ _ f => f.elim)
  · rintro j x s h1 ev ⟨g, r, xs, y3, y4, y5, y6, rfl, lr, er, ra⟩
    obtain ⟨lj, rfl⟩ := at_rng ev
    have lj : j < n - 1 := by omega
    refine ⟨_, rfl, ?_⟩
    have lr1 := lt_of er
    simp_all_arith [er]
    refine walkW (xs := xs) (fun i s h2 => Gr h h2 ∧ h1.length < h2.length ∧ Gr h1 h2 ∧ ∃ zs y5 y6, s = [.v (.int n), .v (.int w), .v (.ref r), .v (.int j), .v (.ref h1.length), y5, y6] ∧ h2[h1.length]? = some (.lst zs) ∧ RA h2 zs (((rowsP w j).take i).flatMap (rowG w)) ∧ ∀ q, IV.ref q ∈ zs → h1.length < q) (fun _ _ => False) (fun _ _ => False) (by rw [ra.len]; have := bd j (by omega); omega) (fun _ _ h2 i => has_lst (i.2.2.1.at er)) ⟨g.tr .app, by simp, .app, [], _, _, rfl, g_new, trivial, by simp⟩ ?_ ?_ (fun _ _ f => f.elim) (fun _ _ f => f.elim)
    · rintro i x s h2 ev ⟨gg, ll, g2, zs, y5', y6', rfl, ez, rz, nz⟩
      obtain ⟨q, row, rfl, eL, eq⟩ := (ra.gr g2).at ev
      have mrow := List.mem_of_getElem? eL
      obtain ⟨p1, p2, p3⟩ := (rowsP_mem w0).1 mrow
      refine ⟨_, rfl, ?_⟩
      have sm : biF .sum [.ref q] h2 = .ok (.int row.sum) h2 := LV.sum (.inr ⟨q, rfl, eq⟩)
      have s0 : 0 ≤ row.sum := by
        have z : ∀ {r : List Int}, (∀ x ∈ r, 0 ≤ x) → 0 ≤ r.sum := by
          intro r
          induction r with
          | nil => simp
          | cons a r ih => intro h; have := h a (by simp); have := ih fun x m => h x (by simp [m]); simp; omega
        exact z p2
      have c0 : 0 ≤ w - row.sum + 1 := by omega
      have c1 : w - row.sum + 1 < 4611686018427387904 := by omega
      simp_all_arith [sm, c0, c1, ez]
      refine row_more (L := (List.range (w - row.sum + 1).toNat).map fun k : Nat => IV.int k) (G := rowG w row) (by simp; omega) (fun _ _ => has_fix _ _) (by simp) ?_ ?_
      · intro jj x rw' ex eG h' g'
        obtain ⟨ljj, rfl⟩ := at_rng ex
        rw [List.getElem?_map, List.getElem?_range (by omega)] at eG
        obtain rfl : row ++ [(jj : Int)] = rw' := by simpa using eG
        have eq' := g'.at eq
        have lq := lt_of eq'
        have l1 : row.length + 1 ≤ 16777216 := by omega
        refine ⟨_, rfl, by simp_all_arith, ?_⟩
        simp_all_arith [eq', l1]
        exact ⟨⟨_, rfl, by simp, by rw [g_new]; simp⟩, Gr.app.tr .app⟩
      · intro h3 ys e3 r3 n3 g3
        have ez3 := g3.at ez
        have rz3 := rz.gr g3
        have ra3 := RA.app rz3 r3
        have tk : ((rowsP w j).take i).flatMap (rowG w) ++ rowG w row = ((rowsP w j).take (i + 1)).flatMap (rowG w) := by
          rw [List.take_succ, eL, List.flatMap_append]; simp
        rw [tk] at ra3
        have ll3 : (zs ++ ys).length ≤ 16777216 := by
          rw [ra3.len]
          have a := flat_take (f := rowG w) (l := rowsP w j) (i + 1)
          have b : (rowsP w (j + 1)).length ≤ 2476099 := bd (j + 1) (by omega)
          have c : (rowsP w (j + 1)) = (rowsP w j).flatMap (rowG w) := rfl
          rw [c] at b
          omega
        rw [List.length_append] at ll3
        simp_all_arith [bm_ext ez3 e3 ll3]
        have nn : ∀ q, IV.ref q ∈ zs ++ ys → h1.length < q := fun q m => by
          rcases List.mem_append.1 m with m | m
          · exact nz q m
          · have := n3 q m; omega
        exact ⟨(gg.tr g3).set (by have := g.le; omega), by have := g3.le; rw [List.length_set]; omega, (g2.tr g3).set (Nat.le_refl _), zs ++ ys, _, _, rfl, rfl, ra3.setn fun q m => by have := nn q m; omega, nn⟩
    · rintro s h2 ⟨gg, ll, g2, zs, y5', y6', rfl, ez, rz, nz⟩
      simp_all_arith
      rw [ra.len, List.take_length] at rz
      exact ⟨gg, _, zs, _, _, _, _, rfl, g.le, ez, rz⟩
  · rintro s h1 ⟨g, r, xs, y3, y4, y5, y6, rfl, lr, er, ra⟩
    rw [List.length_map, List.length_range, show ((n : Int) - 1).toNat = n - 1 by omega] at ra
    have lr1 := lt_of er
    simp_all_arith [er]
    refine row_more (L := xs) (G := rowsF w n) (by rw [ra.len]; have := bd (n - 1) (by omega); omega) (fun h' g' => has_lst (g'.at er)) (by rw [rowsF, List.length_map, ra.len]) ?_ ?_
    · intro jj x rw' ex eG h' g'
      obtain ⟨q, row, rfl, eL, eq⟩ := (ra.gr g').at ex
      rw [rowsF, List.getElem?_map, eL] at eG
      obtain rfl : row ++ [w - row.sum] = rw' := by simpa using eG
      obtain ⟨p1, p2, p3⟩ := (rowsP_mem w0).1 (List.mem_of_getElem? eL)
      have lq := lt_of eq
      have l1 : row.length + 1 ≤ 16777216 := by omega
      have sm : biF .sum [.ref q] h' = .ok (.int row.sum) h' := LV.sum (.inr ⟨q, rfl, eq⟩)
      refine ⟨_, rfl, by simp_all_arith, ?_⟩
      simp_all_arith [eq, l1, sm]
      exact ⟨⟨_, rfl, by simp, by rw [g_new]; simp⟩, Gr.app.tr .app⟩
    · intro h3 ys e3 r3 n3 g3
      simp_all_arith
      exact ⟨_, ys, rfl, e3, r3, g.tr g3⟩
/-! the least number, by trying -/
theorem least_ {k n L : Nat} {vd : IV} {D : List Int} {h : IH} (a : LV vd D h) (g : GD n D) (n6 : n ≤ 6) (ds : D.sum ≤ 18) (h1 : 1 ≤ L) (hL : L ≤ n) :
    W (cl (k + 2) 26 [vd, .int L] h) fun y h' => ∃ m, y = .int m ∧ IsL n D L m ∧ Gr h h' := by
  have n0 := g.n1
  have sm := a.sum
  have mx := a.mx (by have := g.len; omega)
  have ln := a.len
  rw [g.len] at ln
  have mem := mxD_mem (D := D) (by have := g.len; omega)
  have m0 : 0 ≤ mxD D := g.nn _ mem
  have fs : Fe n D L D.sum := fe_sum n0 h1 g.len g.y0
  have ms : ∀ k, Fe n D L k → mxD D ≤ k := fun k f => by
    obtain ⟨i, l, e⟩ := List.getElem_of_mem mem
    have := (fe_max hL f).2 i (by have := g.len; omega)
    rw [yv, List.getD_eq_getElem?_getD, List.getElem?_eq_getElem l, e] at this
    simpa using this
  have s0 := ms _ fs
  rw [c26, d26]
  by_cases q : (L : Int) = 1
  · obtain rfl : L = 1 := by omega
    simp_all_arith [sm]
    exact ⟨_, rfl, isL_one n0 g.len g.y0, .rfl⟩
  simp_all_arith [q, sm, mx]
  rw [show rng [.int (mxD D), .int (D.sum + 1)] = _ from rng2 (by omega) (by omega) (by omega) (by omega)]
  simp_all_arith
  refine walkW (xs := (List.range (D.sum + 1 - mxD D).toNat).map fun k : Nat => .int (mxD D + k)) (fun j s h1 => Gr h h1 ∧ (∃ x y, s = [.v vd, .v (.int L), x, y]) ∧ ∀ w, Fe n D L w → mxD D + j ≤ w) (fun _ _ => False) (fun y h1 => Gr h h1 ∧ ∃ m, y = .int m ∧ IsL n D L m) (by simp; omega) (fun _ _ _ _ => has_fix _ _) ⟨.rfl, ⟨_, _, rfl⟩, fun w f => by have := ms w f; omega⟩ ?_ ?_ (fun _ _ f => f.elim) ?_
  · rintro j x s h2 ev ⟨g2, ⟨x1, y1, rfl⟩, lo⟩
    have lj : j < (D.sum + 1 - mxD D).toNat := by
      rcases Nat.lt_or_ge j (D.sum + 1 - mxD D).toNat with z | z
      · exact z
      · rw [List.getElem?_eq_none (by simpa using z)] at ev; exact nomatch ev
    rw [List.getElem?_map, List.getElem?_range lj] at ev
    obtain rfl : IV.int (mxD D + j) = x := by simpa using ev
    have w0 : 0 ≤ mxD D + j := by omega
    have w1 : mxD D + j ≤ 18 := by omega
    generalize hw : mxD D + (j : Int) = w at *
    have a2 := a.gr g2
    have ln2 := a2.len
    rw [g.len] at ln2
    refine ⟨_, rfl, ?_⟩
    simp_all_arith [ln2]
    refine W.th (rows_ (k := k) w0 w1 n0 n6) ?_
    rintro _ h3 ⟨r, xs, rfl, er, ra, g3⟩
    have lr := lt_of er
    simp_all_arith [er]
    have lx : xs.length < 16777216 := by
      rw [ra.len, rowsF, List.length_map]
      have := Nat.le_trans (rowsP_len w0 w1 (n - 1)) (Nat.pow_le_pow_right (j := 5) (by omega) (by omega))
      omega
    refine colleW (xs := xs) (fun j acc h' => h'[h3.length]? = some (.lst acc) ∧ Gr h3 h' ∧ acc.all (plV 29) = true ∧ acc.isEmpty = ((rowsF w n).take j).all fun row => !metB n D L row) lx (fun _ _ h' i => has_lst (i.2.1.at er)) ⟨g_new, .app, rfl, rfl⟩ ?_ ?_
    · rintro j2 x acc h4 ev ⟨e4, g4, pl, em⟩
      obtain ⟨q2, row, rfl, eL, eq⟩ := (ra.gr g4).at ev
      obtain ⟨p1, p2, p3⟩ := (rowsF_mem w0 n0).1 (List.mem_of_getElem? eL)
      refine ⟨_, rfl, ?_⟩
      simp_all_arith
      refine W.th (lmet_ (k := k) ((a2.gr g3).gr g4) (.inr ⟨q2, rfl, eq⟩) g.len p1 hL (by omega)) ?_
      rintro _ h5 ⟨rfl, g5⟩
      cases mb : metB n D L row with
      | false =>
        simp_all_arith
        refine ⟨fun _ => ⟨g5.at e4, g4.tr g5, pl, ?_⟩, fun f => by simp at f⟩
        rw [em, List.take_succ, eL, List.all_append]
        simp [mb]
      | true =>
        simp_all_arith
        refine ⟨fun f => by simp at f, fun _ => ⟨g5.at e4, g_set (lt_of (g5.at e4)), (g4.tr g5).set (Nat.le_refl _), ?_, ?_⟩⟩
        · rw [List.all_append, pl]; rfl
        · rw [List.take_succ, eL, List.all_append]
          simp [mb]
    · rintro acc h4 ⟨e4, g4, pl, em⟩
      rw [ra.len, List.take_length] at em
      have e5 : (h4 ++ [IO.lst []])[h3.length]? = some (.lst acc) := Gr.app.at e4
      have gg : Gr h (h4 ++ [IO.lst []]) := (((g2.tr g3).tr g4).tr .app)
      have ev := eq_plN e5 g_new pl
      cases q5 : acc.isEmpty with
      | true =>
        rw [q5] at ev em
        simp_all_arith [ev]
        refine ⟨gg, ⟨_, _, rfl⟩, fun v f => ?_⟩
        have lv := lo v f
        have ne : v ≠ w := by
          rintro rfl
          obtain ⟨S, sf⟩ := f
          have m : S ∈ rowsF v n := (rowsF_mem w0 n0).2 ⟨sf.len, yv_nn.1 sf.nn, sf.sm⟩
          have := List.all_eq_true.1 em.symm S m
          rw [metB_t sf.met] at this
          exact nomatch this
        omega
      | false =>
        rw [q5] at ev em
        simp_all_arith [ev]
        refine ⟨gg, w, rfl, fun v => ⟨fun f => lo v f, fun le => fe_mono n0 ?_ le⟩⟩
        obtain ⟨row, m, e⟩ := List.all_eq_false.1 em.symm
        obtain ⟨p1, p2, p3⟩ := (rowsF_mem w0 n0).1 m
        refine ⟨row, p1, yv_nn.2 p2, p3, metB_iff.1 ?_⟩
        simpa using e
  · rintro s h2 ⟨g2, ⟨x1, y1, rfl⟩, lo⟩
    have := lo _ fs
    simp at this
    omega
  · rintro y h2 ⟨g2, m, rfl, il⟩
    simp_all_arith
    exact ⟨m, rfl, il, g2⟩


/-! the law's reading of a paper -/
def ss (st : List Nat) (i : Nat) : Int := (st.getD i 0 : Nat)
theorem stp_tot {n L : Nat} : ∀ (st : List Nat) (p : Nat), stp n L p st = tot (fun i => (L : Int) + (ss st i - (if i = 0 then (p : Int) else ss st (i - 1)) - L) % n) st.length
  | [], _ => rfl
  | b :: r, p => by
    rw [stp, stp_tot r b, List.length_cons, tot_cons]
    have e : tot (fun i => (L : Int) + (ss r i - (if i = 0 then (b : Int) else ss r (i - 1)) - L) % n) r.length = tot (fun i => (L : Int) + (ss (b :: r) (i + 1) - (if i + 1 = 0 then (p : Int) else ss (b :: r) (i + 1 - 1)) - L) % n) r.length := by
      refine tot_congr _ fun i _ => ?_
      cases i with
      | zero => simp [ss]
      | succ i => simp [ss]
    rw [e]
    simp [ss]
theorem lwhole_ {k : Nat} {i : Int} {h : IH} : cl (k + 1) 22 [.int i] h = .ok (.bl true) h := by
  rw [c22, d22]
  simp_all_arith
theorem st_ix {st : List Nat} {i : Nat} (l : i < st.length) : (st.map fun s : Nat => IV.int s)[i]? = some (.int (ss st i)) := by
  rw [List.getElem?_map, List.getElem?_eq_getElem l]
  simp [ss, l]
theorem ss_mem {st : List Nat} {i : Nat} (l : i < st.length) : ∃ s ∈ st, ss st i = s := ⟨st[i], List.getElem_mem l, by simp [ss, l]⟩
theorem ss_last {st : List Nat} (ne : st ≠ []) : ss st (st.length - 1) = st.getLast ne := by
  have : st.length - 1 < st.length := by have := List.length_pos_iff.2 ne; omega
  rw [List.getLast_eq_getElem]
  simp [ss, this]
theorem need_ {k n L r : Nat} {vd : IV} {D : List Int} {h : IH} {N R : Int} {st : List Nat} (a : LV vd D h) (g : GD n D) (h1 : 1 ≤ L) (hL : L ≤ n) (er : h[r]? = some (.lst (st.map fun s : Nat => IV.int s))) (p : Pap n D L N R st) (sl : st.length < 1000) (lR : R < 1000) :
    W (cl (k + 2) 27 [vd, .int L, .tup [.int R, .ref r]] h) fun y h' => y = .int (0 - (0 - (st.map (yv D)).sum) / R) ∧ Gr h h' := by
  have n0 := g.n1
  have n2 := g.n2
  have ln := a.len
  rw [g.len] at ln
  have r1 := p.r1
  have q1 : ¬ R < 1 := by omega
  have slp : 0 < st.length := List.length_pos_iff.2 p.ne
  have q2 : ¬ (st.length : Int) = 0 := by omega
  rw [c27, d27]
  simp_all_arith [ln, lwhole_, q1, er, q2]
  refine colM (l := st) (F := fun s : Nat => .int s) (fun _ => false) (fun s : Nat => .int s) (by omega) (fun _ => has_lstG er) (fun s ms t => ⟨_, rfl, ?_, fun f => nomatch f⟩) ?_
  · have l := p.lt s ms
    have l0 : (0 : Int) ≤ s := by omega
    have l1 : (s : Int) < n := by omega
    simp_all_arith [lwhole_, eq_true l0, eq_true l1]
  intro h2 e2 g2 l2
  have e4 : (st.filter fun _ => false).map (fun k : Nat => IV.int k) = [] := by simp
  rw [e4] at e2
  have f3 : (h2 ++ [IO.lst []])[h.length]? = some (.lst []) := Gr.app.at e2
  have gg : Gr h (h2 ++ [IO.lst []]) := g2.tr .app
  have er2 := gg.at er
  have a2 := a.gr gg
  have ev : eqI (.ref h.length) (.ref h2.length) (h2 ++ [IO.lst []]) = some true := eq_nil f3 g_new
  simp_all_arith [ev, er2]
  generalize h2 ++ [IO.lst []] = h3 at *
  clear ev
  have zst := stp_tot (n := n) (L := L) st (st.getLast p.ne)
  generalize hf : (fun i => (L : Int) + (ss st i - (if i = 0 then ((st.getLast p.ne : Nat) : Int) else ss st (i - 1)) - L) % n) = f at zst
  refine walkW (fun j s h4 => h4 = h3 ∧ ∃ x y z, s = [.v vd, .v (.int L), .v (.tup [.int R, .ref r]), .v (.int n), .v (.int R), .v (.ref r), .v (.int (tot f j)), x, y, z]) (fun _ _ => False) (fun _ _ => False) (by simp; omega) (fun _ _ _ _ => has_fix _ _) ⟨rfl, _, _, _, rfl⟩ ?_ ?_ (fun _ _ f => f.elim) (fun _ _ f => f.elim)
  · rintro j x s h4 ev ⟨rfl, x1, y1, z1, rfl⟩
    obtain ⟨lj, rfl⟩ := at_rng ev
    have i1 : (st.map fun s : Nat => IV.int s)[j]? = some (.int (ss st j)) := st_ix lj
    have nz : (n : Int) ≠ 0 := by omega
    refine ⟨_, rfl, ?_⟩
    by_cases q : j = 0
    · subst q
      have i2 : (st.map fun s : Nat => IV.int s)[(-1 + (st.length : Int)).toNat]? = some (.int (ss st (st.length - 1))) := by
        rw [show (-1 + (st.length : Int)).toNat = st.length - 1 by omega]
        exact st_ix (by omega)
      have tj : tot f 1 = tot f 0 + L + (ss st 0 - ss st (st.length - 1) - L) % n := by
        rw [ss_last p.ne, show tot f 1 = tot f 0 + f 0 from rfl, ← hf]
        simp [Int.add_assoc]
      simp_all_arith [er2, i1, i2]
      exact ⟨_, _, _, by rw [tj]⟩
    · have i2 : (st.map fun s : Nat => IV.int s)[((j : Int) - 1).toNat]? = some (.int (ss st (j - 1))) := by
        rw [show ((j : Int) - 1).toNat = j - 1 by omega]
        exact st_ix (by omega)
      have tj : tot f (j + 1) = tot f j + L + (ss st j - ss st (j - 1) - L) % n := by
        rw [tot, ← hf]
        simp [q, Int.add_assoc]
      simp_all_arith [er2, i1, i2]
      exact ⟨_, _, _, by rw [tj]⟩
  · rintro s h4 ⟨rfl, x1, y1, z1, rfl⟩
    rw [List.length_map, List.length_range, ← zst]
    have le := p.le
    have q3 : ¬ R * n < stp n L (st.getLast p.ne) st := by omega
    simp_all_arith [q3, er2]
    refine colA (l := st) (F := fun s : Nat => .int s) (fun s : Nat => .int (yv D s)) (by omega) (fun _ => has_lstG er2) (fun s ms t => ⟨_, rfl, by simp_all_arith, ?_⟩) ?_
    · have l := p.lt s ms
      have ix := (a2.gr (Gr.app (t := t))).ix (i := (s : Int)) (by omega) (by have := g.len; omega)
      rw [Int.toNat_natCast] at ix
      simp_all_arith [ix]
    · intro h5 e5 g5 l5
      have lv : LV (.ref h4.length) (st.map (yv D)) h5 := .inr ⟨_, rfl, by rw [e5, List.map_map]; rfl⟩
      have r0 : R ≠ 0 := by omega
      simp_all_arith [lv.sum]
      exact gg.tr g5

theorem pap_more {N R s : Int} (h : 1 ≤ R) (a : N * R < s) : N < 0 - (0 - s) / R := by
  have := Int.ediv_lt_of_lt_mul (a := 0 - s) (b := -N) (c := R) (by omega) (by rw [Int.neg_mul]; omega)
  omega


/-! asked -/
theorem dr_ {b K : Nat} {h : IH} (o : Bx K h b) : True := trivial
theorem lwholeV {k : Nat} {v : IV} {h : IH} (p : plV 29 v = true) : cl (k + 1) 22 [v] h = .ok (.bl (isW v)) h := by
  rw [c22, d22]
  cases v with
  | ref r => exact nomatch p
  | frz r => exact nomatch p
  | _ => simp_all_arith <;> rfl
/-- a value whose items are plain -/
structure JV (b : Nat) (v : IV) (h : IH) : Prop where
  nv : NV b h 3 v
  pl : ∀ xs, items v h = some xs → xs.all (plV 29) = true
theorem JV.gr {b : Nat} {v : IV} {h h' : IH} (a : JV b v h) (g : Gr h h') : JV b v h' := ⟨a.nv.gr g, fun xs e => a.pl xs (by rw [← nv_items_gr a.nv g]; exact e)⟩
theorem lis_staff_ {k n L b : Nat} {vd v : IV} {D : List Int} {h : IH} (a : LV vd D h) (g : GD n D) (h1 : 1 ≤ L) (hL : L ≤ n) (j : JV b v h) :
    W (cl (k + 2) 24 [vd, .int L, v] h) fun y h' => y = .bl (stO n D L (items v h)) ∧ Gr h h' := by
  have n2 := g.n2
  have ln := a.len
  rw [g.len] at ln
  rw [c24, d24]
  cases e : items v h with
  | none =>
    have fin : ∀ r : Itp.R IV, r = .ok (.bl false) h → W r fun y h' => y = .bl (stO n D L none) ∧ Gr h h' := fun r e => W.of e ⟨rfl, .rfl⟩
    apply fin
    cases v with
    | tup xs => simp [items] at e
    | frz xs => exact j.nv.elim
    | ref r =>
      rcases j.nv with ⟨_, ⟨ys, e2, l, a⟩ | e2⟩
      · simp [items, e2] at e
      · simp_all_arith [e2]
    | _ => simp_all_arith
  | some xs =>
    obtain ⟨l, al⟩ := nv_mem j.nv e
    have pl := j.pl _ e
    have it := nv_items j.nv e
    have main : ∀ (w : Wk) (hw : ∀ h', Gr h h' → w.has xs h'), xs.length = n → W (colle w (.nm 3) [.v vd, .v (.int L), .v v, .no] (evAll sg false (cl (k + 1)) (.cons (.or (.cons (.not (.val (.call 22 (.cons (.var 3) .nil) .nil []))) (.cons (.cmp .lt (.var 3) (.lit (.int 0))) .nil))) .nil)) (evE sg false (cl (k + 1)) (.var 3)) h.length FU 0 (h ++ [.lst []])) fun _ h' => h'[h.length]? = some (.lst (xs.filter fun x => !isCt x)) ∧ Gr h h' := by
      intro w hw lx
      refine colM (l := xs) (F := fun x => x) (fun x => !isCt x) (fun x => x) (by omega) (fun t => by rw [List.map_id']; exact hw _ .app) ?_ ?_
      · intro x m t
        have p := List.all_eq_true.1 pl x m
        refine ⟨_, rfl, ?_, fun _ => by simp_all_arith⟩
        cases x with
        | int i =>
          by_cases q : i < 0
          · have q' : isCt (.int i) = false := by simp [isCt]; omega
            simp_all_arith [lwhole_, q, q']
          · have q' : isCt (.int i) = true := by simp [isCt]; omega
            simp_all_arith [lwhole_, q, q']
        | ref _ => exact nomatch p
        | frz _ => exact nomatch p
        | _ =>
          have q' : ∀ z : IV, (∀ i, z ≠ .int i) → isCt z = false := fun z ne => by cases z <;> first | rfl | exact absurd rfl (ne _)
          rw [q' _ (by simp)]
          simp_all_arith [lwholeV p, isW]
      · intro h' e g _
        rw [List.map_id'] at e
        exact ⟨e, g⟩
    have ne : ∀ (h' : IH), h'[h.length]? = some (.lst (xs.filter fun x => !isCt x)) → eqI (.ref h.length) (.ref h'.length) (h' ++ [.lst []]) = some (xs.all isCt) := by
      intro h' e
      rw [eq_plN (Gr.app.at e) g_new (List.all_eq_true.2 fun x m => List.all_eq_true.1 pl x ((List.mem_filter.1 m).1))]
      congr 1
      cases c : xs.all isCt with
      | true =>
        have : xs.filter (fun x => !isCt x) = [] := List.filter_eq_nil_iff.2 fun x m => by simp [List.all_eq_true.1 c x m]
        rw [this]; rfl
      | false =>
        obtain ⟨x, m, f⟩ := List.all_eq_false.1 c
        have : x ∈ xs.filter (fun x => !isCt x) := List.mem_filter.2 ⟨m, by simpa using f⟩
        cases z : xs.filter (fun x => !isCt x) with
        | nil => rw [z] at this; simp at this
        | cons _ _ => rfl
    have done : ∀ h' : IH, Gr h h' → xs.length = n → xs.all isCt = true → W (cl (k + 1) 23 [vd, .int L, v] h') fun y h2 => y = .bl (stO n D L (some xs)) ∧ Gr h h2 := fun h' g' lx c => by
      refine W.th (lmet_ (k := k) (a.gr g') ((LV_of j.nv e c).gr g') g.len (by rw [List.length_map]; exact lx) hL (by omega)) ?_
      rintro _ h2 ⟨rfl, g2⟩
      refine ⟨?_, g'.tr g2⟩
      simp only [stO, c, decide_eq_true lx, Bool.true_and]
    have no1 : ¬ xs.length = n → stO n D L (some xs) = false := fun q => by simp only [stO, decide_eq_false q, Bool.and_false, Bool.false_and]
    have no2 : xs.all isCt = false → stO n D L (some xs) = false := fun q => by simp only [stO, q, Bool.false_and]
    by_cases lx : xs.length = n
    case neg =>
      have q : ¬ (xs.length : Int) = n := by omega
      rw [no1 lx]
      rcases it with rfl | ⟨r, rfl, er⟩
      · simp_all_arith [ln, q]
        exact .rfl
      · simp_all_arith [ln, q, er]
        exact .rfl
    have q : (xs.length : Int) = n := by omega
    rcases it with rfl | ⟨r, rfl, er⟩
    · simp_all_arith [ln, eq_true q]
      refine W.th (main _ (fun _ _ => has_fix _ _) lx) ?_
      rintro _ h2 ⟨e2, g2⟩
      have ev := ne h2 e2
      cases c : xs.all isCt with
      | true =>
        rw [c] at ev
        simp_all_arith [ev]
        refine W.th (done _ (g2.tr .app) lx c) ?_
        rintro _ h3 ⟨rfl, g3⟩
        first | exact ⟨rfl, g3⟩ | (simp_all_arith; exact g3)
      | false =>
        rw [c] at ev
        simp_all_arith [ev]
        exact ⟨by rw [no2 c], g2.tr .app⟩
    · simp_all_arith [ln, eq_true q, er]
      refine W.th (main _ (fun _ g => has_lst (g.at er)) lx) ?_
      rintro _ h2 ⟨e2, g2⟩
      have ev := ne h2 e2
      cases c : xs.all isCt with
      | true =>
        rw [c] at ev
        simp_all_arith [ev]
        refine W.th (done _ (g2.tr .app) lx c) ?_
        rintro _ h3 ⟨rfl, g3⟩
        first | exact ⟨rfl, g3⟩ | (simp_all_arith; exact g3)
      | false =>
        rw [c] at ev
        simp_all_arith [ev]
        exact ⟨by rw [no2 c], g2.tr .app⟩
/-! asked -/
abbrev tld : IV := .str "told"

/-! asked -/
theorem check_many_ {k n L : Nat} {v w : IV} {D : List Int} {h : IH} (a : LV v D h) (g : GD n D) (h1 : 1 ≤ L) (hL : L ≤ n) (Dw : ∀ u, Dv (h ++ u) w) :
    ∃ u, cl (k + 6) 14 [v, .int L, w] h = if isFT w 0 100000 = true then .ok .non (h ++ u) else .ex 1 w (h ++ u) := by
  obtain ⟨u, eu⟩ := check_staff_ (k := k) a g h1 hL
  refine ⟨u, ?_⟩
  rw [c14, d14]
  by_cases q : isFT w 0 100000 = true
  · simp_all_arith [eu, is_from_to_ (Dw u), q]
  · rw [Bool.not_eq_true] at q
    simp_all_arith [eu, is_from_to_ (Dw u), q]
theorem isFT_n {N : Int} (n0 : 0 ≤ N) (n1 : N ≤ 100000) : isFT (.int N) 0 100000 = true := by simp [isFT]; omega
theorem staff_of_ {k n L : Nat} {N : Int} {v : IV} {D : List Int} {h : IH} (a : LV v D h) (g : GD n D) (h1 : 1 ≤ L) (hL : L ≤ n) (n0 : 0 ≤ N) (n1 : N ≤ 100000) :
    W (cl (k + 7) 15 [v, .int L, .int N] h) fun y h' => ((y = .non ∧ ¬ Fe n D L N) ∨ (∃ r S, y = .ref r ∧ h.length ≤ r ∧ h'[r]? = some (.lst (S.map IV.int)) ∧ Sf n D L N S ∧ S = sby n (yv (rz n D L N).x) N)) ∧ Gr h h' := by
  obtain ⟨u, eu⟩ := check_many_ (k := k) (w := .int N) a g h1 hL (fun _ => Dv_i _ _)
  rw [if_pos (isFT_n n0 n1)] at eu
  rw [c15, d15]
  simp_all_arith [eu]
  refine W.th (people_at_ (k := k + 4) (N := N) (a.gr (Gr.app (t := u))) g.len g.n1 hL (by have := g.n2; omega)) ?_
  rintro y h2 ⟨⟨rfl, nf⟩ | ⟨r, S, rfl, l, e, f⟩, g2⟩
  · simp_all_arith
    exact ⟨.inl nf, Gr.app.tr g2⟩
  · simp_all_arith
    exact ⟨.inr ⟨r, S, rfl, by simp at l; omega, e, f⟩, Gr.app.tr g2⟩
theorem round_ring_ {k n L : Nat} {N : Int} {v : IV} {D : List Int} {h : IH} (a : LV v D h) (g : GD n D) (h1 : 1 ≤ L) (hL : L ≤ n) (n0 : 0 ≤ N) (n1 : N ≤ 100000) :
    W (cl (k + 7) 16 [v, .int L, .int N] h) fun y h' => ((y = .non ∧ Fe n D L N) ∨ (¬ Fe n D L N ∧ ∃ r R st, y = .tup [.int R, .ref r] ∧ h.length ≤ r ∧ h'[r]? = some (.lst (st.map fun s : Nat => IV.int s)) ∧ PA n D L N R st ∧ Pap n D L N R st ∧ (∀ M, Fe n D L M → (st.map (yv D)).sum ≤ M * R) ∧ st.length < 1000 ∧ R < 1000)) ∧ Gr h h' := by
  obtain ⟨u, eu⟩ := check_many_ (k := k) (w := .int N) a g h1 hL (fun _ => Dv_i _ _)
  rw [if_pos (isFT_n n0 n1)] at eu
  rw [c16, d16]
  simp_all_arith [eu]
  refine W.th (paper_at_ (k := k + 4) (N := N) (a.gr (Gr.app (t := u))) g.len g.n1 h1 hL (by have := g.n2; omega) n0) ?_
  rintro y h2 ⟨⟨rfl, f⟩ | ⟨nf, r, R, st, rfl, l, e, f⟩, g2⟩
  · simp_all_arith
    exact ⟨.inl f, Gr.app.tr g2⟩
  · simp_all_arith
    exact ⟨.inr ⟨nf, r, R, st, rfl, by simp at l; omega, e, f⟩, Gr.app.tr g2⟩
/-- a list of so many people -/
theorem ask_s {k n L : Nat} {N : Int} {v : IV} {D : List Int} {h : IH} {nm : Bool} (a : LV v D h) (g : GD n D) (h1 : 1 ≤ L) (hL : L ≤ n) (n0 : 0 ≤ N) (n1 : N ≤ 100000) :
    W (cl (k + 8) 30 [v, .int L, .int N, .bl false, .bl nm] h) fun y h' => ∃ r, y = .ref r ∧ h.length ≤ r ∧ ((¬ Fe n D L N ∧ h'[r]? = some (.lst [tld, .non])) ∨ (Fe n D L N ∧ ∃ q S, h'[r]? = some (.lst [tld, .ref q]) ∧ h.length ≤ q ∧ q < r ∧ h'[q]? = some (.lst (S.map IV.int)) ∧ Sf n D L N S ∧ S = sby n (yv (rz n D L N).x) N)) ∧ Gr h h' := by
  rw [c30, d30]
  cases nm <;> simp_all_arith
  all_goals
    refine WS.try ?_
    simp_all_arith
    refine W.th (staff_of_ (k := k) a g h1 hL n0 n1) ?_
    rintro y h2 ⟨⟨rfl, nf⟩ | ⟨q, S, rfl, l, e, f, se⟩, g2⟩
    · simp_all_arith
      exact ⟨_, rfl, g2.le, .inl ⟨nf, g_new⟩, g2.tr .app⟩
    · simp_all_arith
      exact ⟨_, rfl, g2.le, .inr ⟨⟨_, f⟩, q, S, g_new, l, lt_of e, Gr.app.at e, f, se⟩, g2.tr .app⟩
/-- a ring -/
theorem ask_r {k n L : Nat} {N : Int} {v : IV} {D : List Int} {h : IH} {nm : Bool} (a : LV v D h) (g : GD n D) (h1 : 1 ≤ L) (hL : L ≤ n) (n0 : 0 ≤ N) (n1 : N ≤ 100000) :
    W (cl (k + 8) 30 [v, .int L, .int N, .bl true, .bl nm] h) fun y h' => ∃ r, y = .ref r ∧ h.length ≤ r ∧ ((Fe n D L N ∧ h'[r]? = some (.lst [tld, .non])) ∨ (¬ Fe n D L N ∧ ∃ q R st, h'[r]? = some (.lst [tld, .tup [.int R, .ref q]]) ∧ h.length ≤ q ∧ q < r ∧ h'[q]? = some (.lst (st.map fun s : Nat => IV.int s)) ∧ PA n D L N R st ∧ Pap n D L N R st ∧ st.length < 1000 ∧ R < 1000)) ∧ Gr h h' := by
  rw [c30, d30]
  cases nm <;> simp_all_arith
  all_goals
    refine WS.try ?_
    simp_all_arith
    refine W.th (round_ring_ (k := k) a g h1 hL n0 n1) ?_
    rintro y h2 ⟨⟨rfl, nf⟩ | ⟨nf, q, R, st, rfl, l, e, pa, p, _, sl, rl⟩, g2⟩
    · simp_all_arith
      exact ⟨_, rfl, g2.le, .inl ⟨nf, g_new⟩, g2.tr .app⟩
    · simp_all_arith
      exact ⟨_, rfl, g2.le, .inr ⟨nf, q, R, st, g_new, l, lt_of e, Gr.app.at e, pa, p, sl, rl⟩, g2.tr .app⟩
theorem ask_xd {k b m : Nat} {vd w u : IV} {h : IH} {jd nm : Bool} (N : NV b h (m + 1) vd) (q : dmO (items vd h) = false) :
    W (cl (k + 8) 30 [vd, w, u, .bl jd, .bl nm] h) fun y h' => ∃ r, y = .ref r ∧ h'[r]? = some (.lst [.str "demands", vd]) ∧ Gr h h' := by
  obtain ⟨t, eu⟩ := check_staff_x1 (n := k) (w := w) N q
  have e0 : cl (k + 6) 14 [vd, w, u] h = .ex 2 vd (h ++ t) := by
    rw [c14, d14]
    simp_all_arith [eu]
  have e1 : cl (k + 7) 15 [vd, w, u] h = .ex 2 vd (h ++ t) := by
    rw [c15, d15]
    simp_all_arith [e0]
  have e2 : cl (k + 7) 16 [vd, w, u] h = .ex 2 vd (h ++ t) := by
    rw [c16, d16]
    simp_all_arith [e0]
  rw [c30, d30]
  cases jd <;> cases nm <;> simp_all_arith [e1, e2]
  all_goals exact ⟨_, rfl, g_new, Gr.app.tr .app⟩
theorem ask_xl {k n : Nat} {vd w u : IV} {D : List Int} {h : IH} {jd nm : Bool} (a : LV vd D h) (g : GD n D) (Dw : Dv h w) (q : isFT w 1 n = false) :
    W (cl (k + 8) 30 [vd, w, u, .bl jd, .bl nm] h) fun y h' => ∃ r, y = .ref r ∧ h'[r]? = some (.lst [.str "length", w]) ∧ Gr h h' := by
  obtain ⟨t, eu⟩ := check_staff_x2 (k := k) a g Dw q
  have e0 : cl (k + 6) 14 [vd, w, u] h = .ex 3 w (h ++ t) := by
    rw [c14, d14]
    simp_all_arith [eu]
  have e1 : cl (k + 7) 15 [vd, w, u] h = .ex 3 w (h ++ t) := by
    rw [c15, d15]
    simp_all_arith [e0]
  have e2 : cl (k + 7) 16 [vd, w, u] h = .ex 3 w (h ++ t) := by
    rw [c16, d16]
    simp_all_arith [e0]
  rw [c30, d30]
  cases jd <;> cases nm <;> simp_all_arith [e1, e2]
  all_goals exact ⟨_, rfl, g_new, Gr.app.tr .app⟩
theorem ask_xm {k n L : Nat} {vd u : IV} {D : List Int} {h : IH} {jd nm : Bool} (a : LV vd D h) (g : GD n D) (h1 : 1 ≤ L) (hL : L ≤ n) (Du : ∀ t, Dv (h ++ t) u) (q : isFT u 0 100000 = false) :
    W (cl (k + 8) 30 [vd, .int L, u, .bl jd, .bl nm] h) fun y h' => ∃ r, y = .ref r ∧ h'[r]? = some (.lst [.str "many", u]) ∧ Gr h h' := by
  obtain ⟨t, e0⟩ := check_many_ (k := k) (w := u) a g h1 hL Du
  rw [if_neg (by rw [q]; simp)] at e0
  have e1 : cl (k + 7) 15 [vd, .int L, u] h = .ex 1 u (h ++ t) := by
    rw [c15, d15]
    simp_all_arith [e0]
  have e2 : cl (k + 7) 16 [vd, .int L, u] h = .ex 1 u (h ++ t) := by
    rw [c16, d16]
    simp_all_arith [e0]
  rw [c30, d30]
  cases jd <;> cases nm <;> simp_all_arith [e1, e2]
  all_goals exact ⟨_, rfl, g_new, Gr.app.tr .app⟩


/-! told -/
theorem plW_told : plW 1 tld = true := by decide +kernel
theorem LV.jv {v : IV} {D : List Int} {h : IH} (a : LV v D h) (l : D.length < 1000000) : JV h.length v h := by
  refine ⟨(a.nv l).mono (by omega), fun xs e => ?_⟩
  rw [a.items] at e
  obtain rfl : D.map IV.int = xs := by simpa using e
  rw [List.all_map, List.all_eq_true]
  intro x _
  rfl
theorem sf_stO {n L : Nat} {D S : List Int} {m : Int} (sf : Sf n D L m S) : stO n D L (some (S.map IV.int)) = true := by
  have c : (S.map IV.int).all isCt = true := by
    rw [List.all_map, List.all_eq_true]
    intro x mx
    have := yv_nn.1 sf.nn x mx
    simp [isCt, this]
  have e : (S.map IV.int).map ival = S := by rw [List.map_map]; simp [Function.comp_def, ival]
  simp only [stO, c, List.length_map, sf.len, decide_true, Bool.true_and, e]
  exact metB_t sf.met
theorem bm_ins0 {q : Nat} {xs : List IV} {y : IV} {h : IH} (e : h[q]? = some (.lst xs)) (l : xs.length < 16777216) : bmF .insert (.ref q) [.int 0, y] h = .ok .non (h.set q (.lst (y :: xs))) := by
  simp only [bmF, e, bmL]
  rw [if_pos ⟨l, by omega, by omega⟩]
  rfl

/-! a list or a ring -/
theorem both_ {k n L rd : Nat} {N : Int} {D : List Int} {h : IH} {nm : Bool} (ed : h[rd]? = some (.lst (D.map IV.int))) (g : GD n D) (h1 : 1 ≤ L) (hL : L ≤ n) (n0 : 0 ≤ N) (n1 : N ≤ 100000) :
    W (cl (k + 9) 31 [.ref rd, .int L, .int N, .bl nm] h) fun y h' => ((y = .int 1 ∧ Fe n D L N) ∨ (y = .int 0 ∧ ¬ Fe n D L N)) ∧ Gr h h' := by
  have n2 := g.n2
  have lvd : LV (.ref rd) D h := .inr ⟨_, rfl, ed⟩
  have hlt := lt_of ed
  rw [c31, d31]
  have ls : biF .list [.ref rd] h = .ok (.ref h.length) (h ++ [.lst (D.map .int)]) := f_listR ed
  simp_all_arith [ls]
  have lv1 : LV (.ref h.length) D (h ++ [.lst (D.map .int)]) := .inr ⟨_, rfl, g_new⟩
  refine W.th (ask_s (k := k) lv1 g h1 hL n0 n1) ?_
  rintro _ h2 ⟨r, rfl, lr, z, g2⟩
  have gg := (Gr.app (h := h)).tr g2
  have ed2 := gg.at ed
  have tp : biF .tuple [.ref rd] h2 = .ok (.tup (D.map .int)) h2 := f_tupR ed2
  simp_all_arith [tp]
  refine W.th (ask_r (k := k) (v := .tup (D.map .int)) (.inl rfl) g h1 hL n0 n1) ?_
  rintro _ h3 ⟨r3, rfl, lr3, z3, g3⟩
  have G3 := gg.tr g3
  have ed3 := g3.at ed2
  have rb := lt_of ed3
  rcases z with ⟨nf, er⟩ | ⟨fe, q, S, er, lq, qr, eq, sf, se⟩
  · rcases z3 with ⟨fe, _⟩ | ⟨_, q, R, st, er3, lq, qr, eq, pa, p, sl, lR⟩
    · exact absurd fe nf
    have er2 := g3.at er
    simp_all_arith [er2, er3]
    refine W.th (need_ (k := k + 6) (lvd.gr G3) g h1 hL eq p sl lR) ?_
    rintro _ h4 ⟨rfl, g4⟩
    have more := pap_more p.r1 p.more
    have le : ¬ (0 - (0 - (st.map (yv D)).sum) / R ≤ N) := by omega
    have er4 := g4.at er3
    have eq4 := g4.at eq
    have ed4 := g4.at ed3
    have G4 := G3.tr g4
    have qb := lt_of eq4
    have lst4 : (st.map fun s : Nat => IV.int s).length < 16777216 := by rw [List.length_map]; omega
    have ls4 : biF .list [.ref q] h4 = .ok (.ref h4.length) (h4 ++ [.lst (st.map fun s : Nat => IV.int s)]) := f_listR eq4
    have er5 : (h4 ++ [IO.lst (st.map fun s : Nat => IV.int s)])[r3]? = _ := Gr.app.at er4
    have eq5 : (h4 ++ [IO.lst (st.map fun s : Nat => IV.int s)])[q]? = _ := Gr.app.at eq4
    have gl : h.length ≤ q := Nat.le_trans gg.le lq
    simp_all_arith [le, er4, eq4, ls4, er5, eq5, bm_ins0 eq5 lst4]
    have G6 : Gr h ((h4 ++ [IO.lst (st.map fun s : Nat => IV.int s)]).set q (.lst (.int 7 :: st.map fun s : Nat => IV.int s))) := (G4.tr .app).set gl
    have ec6 : ((h4 ++ [IO.lst (st.map fun s : Nat => IV.int s)]).set q (.lst (.int 7 :: st.map fun s : Nat => IV.int s)))[h4.length]? = some (.lst (st.map fun s : Nat => IV.int s)) := by rw [g_setn (by omega)]; exact g_new
    generalize (h4 ++ [IO.lst (st.map fun s : Nat => IV.int s)]).set q (.lst (.int 7 :: st.map fun s : Nat => IV.int s)) = h6 at *
    refine W.th (ask_r (k := k) (lvd.gr G6) g h1 hL n0 n1) ?_
    rintro _ h7 ⟨r7, rfl, lr7, z7, g7⟩
    rcases z7 with ⟨fe, _⟩ | ⟨_, q7, R7, st7, er7, lq7, qr7, eq7, pa7, p7, sl7, lR7⟩
    · exact absurd fe nf
    obtain ⟨rfl, rfl⟩ := pa.uniq pa7
    have ec7 := g7.at ec6
    simp_all_arith
    have e1 : (h7 ++ [IO.lst [IV.str "told", .tup [.int R, .ref h4.length]]])[r7]? = some (.lst [tld, .tup [.int R, .ref q7]]) := Gr.app.at er7
    have mp : (st.map fun s : Nat => IV.int s) = (st.map fun s : Nat => (s : Int)).map IV.int := by rw [List.map_map]; rfl
    rw [mp] at eq7 ec7
    refine W.th (same_eq (n := k + 4) (m := 4) (EQS.two e1 g_new (EQS.rfl (by decide +kernel)) (EQS.tup2 (EQS.rfl rfl) (EQS.ints (n := 0) (S := st.map fun s : Nat => (s : Int)) (Gr.app.at eq7) (Gr.app.at ec7) (by simp; omega)))) .rfl) ?_
    rintro _ h8 ⟨rfl, g8⟩
    simp_all_arith
    exact ⟨.inr nf, (G6.tr g7).tr (Gr.app.tr g8)⟩
  · rcases z3 with ⟨_, er3⟩ | ⟨nf, _⟩
    case inr => exact absurd fe nf
    have er2 := g3.at er
    have eq2 := g3.at eq
    simp_all_arith [er2, er3, eq2]
    have lvS : LV (.ref q) S h3 := .inr ⟨_, rfl, eq2⟩
    have lS : S.length < 1000000 := by rw [sf.len]; omega
    refine W.th (lis_staff_ (k := k + 6) (lvd.gr G3) g h1 hL (lvS.jv lS)) ?_
    rintro _ h4 ⟨rfl, g4⟩
    rw [lvS.items, sf_stO sf]
    have er4 := g4.at er2
    have eq4 := g4.at eq2
    have smS : biF .sum [.ref q] h4 = .ok (.int N) h4 := by rw [(lvS.gr g4).sum, sf.sm]
    have ls4 : biF .list [.ref q] h4 = .ok (.ref h4.length) (h4 ++ [.lst (S.map .int)]) := f_listR eq4
    have er5 : (h4 ++ [IO.lst (S.map IV.int)])[r]? = _ := Gr.app.at er4
    have eq5 : (h4 ++ [IO.lst (S.map IV.int)])[q]? = _ := Gr.app.at eq4
    have G4 := G3.tr g4
    have qb := lt_of eq4
    have gl : h.length ≤ q := by simp at lq; omega
    have lSm : (S.map IV.int).length < 16777216 := by rw [List.length_map]; omega
    simp_all_arith [er4, eq4, smS, ls4, er5, eq5, lSm]
    have G6 : Gr h ((h4 ++ [IO.lst (S.map IV.int)]).set q (.lst (S.map .int ++ [.str "spoilt"]))) := (G4.tr .app).set gl
    have ec6 : ((h4 ++ [IO.lst (S.map IV.int)]).set q (.lst (S.map .int ++ [.str "spoilt"])))[h4.length]? = some (.lst (S.map .int)) := by rw [g_setn (by omega)]; exact g_new
    generalize (h4 ++ [IO.lst (S.map IV.int)]).set q (.lst (S.map .int ++ [.str "spoilt"])) = h6 at *
    refine W.th (ask_s (k := k) (lvd.gr G6) g h1 hL n0 n1) ?_
    rintro _ h7 ⟨r7, rfl, lr7, z7, g7⟩
    rcases z7 with ⟨nf, _⟩ | ⟨_, q7, S7, er7, lq7, qr7, eq7, sf7, se7⟩
    · exact absurd fe nf
    rw [← se] at se7
    subst se7
    have ec7 := g7.at ec6
    simp_all_arith
    have e1 : (h7 ++ [IO.lst [IV.str "told", .ref h4.length]])[r7]? = some (.lst [tld, .ref q7]) := Gr.app.at er7
    refine W.th (same_eq (n := k + 5) (m := 3) (EQS.two e1 g_new (EQS.rfl (by decide +kernel)) (EQS.ints (n := 0) (S := S7) (Gr.app.at eq7) (Gr.app.at ec7) (by omega))) .rfl) ?_
    rintro _ h8 ⟨rfl, g8⟩
    simp_all_arith
    exact ⟨.inl fe, (G6.tr g7).tr (Gr.app.tr g8)⟩


/-! drawn demands -/
theorem all_ints {c : Int} : ∀ {acc : List IV}, (∀ y ∈ acc, ∃ i, y = .int i ∧ 0 ≤ i ∧ i ≤ c) → ∃ D : List Int, acc = D.map IV.int ∧ ∀ x ∈ D, 0 ≤ x ∧ x ≤ c
  | [], _ => ⟨[], rfl, by simp⟩
  | y :: acc, h => by
    obtain ⟨i, rfl, i0, i1⟩ := h y (by simp)
    obtain ⟨D, rfl, d⟩ := all_ints (acc := acc) fun y m => h y (by simp [m])
    refine ⟨i :: D, rfl, fun x m => ?_⟩
    rcases List.mem_cons.1 m with rfl | m
    · exact ⟨i0, i1⟩
    · exact d x m
theorem ldem_ {k n b : Nat} {most : Int} {h : IH} (o : Bx 50000000000 h b) (n1 : n ≤ 48) (m0 : 0 ≤ most) (m1 : most ≤ 1000) :
    W (cl (k + 2) 28 [.ref b, .int n, .int most] h) fun y h' => ∃ (r : Nat) (D : List Int), y = .ref r ∧ h.length ≤ r ∧ h'[r]? = some (.lst (D.map IV.int)) ∧ D.length = n ∧ (∀ x ∈ D, 0 ≤ x ∧ x ≤ most) ∧ Fr b 100 h h' := by
  have ob := o.lt
  rw [c28, d28]
  simp_all_arith
  refine W.th (tk_ (by and_intros) (by omega) (by omega)) ?_
  rintro _ h1 ⟨way, rfl, w0, w1, l1, f1⟩
  simp_all_arith
  refine W.th (tk_ (by and_intros) (by omega) (by omega)) ?_
  rintro _ h2 ⟨same, rfl, s0, s1, l2, f2⟩
  have b2 := f2.le
  have ff : Fr b 2 h h2 := f1.tr f2
  have o2 := ff.box _ o
  by_cases q0 : way = 0
  · simp_all_arith [eq_true q0]
    refine colA (l := List.range n) (F := fun k : Nat => .int k) (fun _ => .int same) (by simp; omega) (fun _ => has_fix _ _) (fun j _ t => ⟨_, rfl, by simp_all_arith, by simp_all_arith⟩) ?_
    intro h3 e3 g3 l3
    simp_all_arith
    refine ⟨_, List.replicate n same, rfl, by omega, by rw [e3]; simp [List.map_const'], by simp, fun x m => ?_, (ff.tr g3.fr).mono (by omega)⟩
    obtain ⟨_, rfl⟩ := List.mem_replicate.1 m
    omega
  by_cases q1 : way = 1
  · simp_all_arith [q0, eq_true q1]
    refine drawC (c := 2) (b := b) (fun y _ => ∃ i, y = .int i ∧ 0 ≤ i ∧ i ≤ most) (by simp; omega) (by omega) (fun _ _ _ => has_fix _ _) (fun _ _ _ _ p _ => p) ?_ ?_
    · intro j x h' ej lh f
      obtain ⟨lj, rfl⟩ := at_rng ej
      refine ⟨_, rfl, by simp_all_arith, ?_⟩
      have lj' : j < n := by omega
      simp_all_arith
      refine W.th (tk_ ((f.box _ o2).mono (by omega)) (by omega) (by omega)) ?_
      rintro _ h4 ⟨d, rfl, d0, d1, l4, f4⟩
      by_cases q2 : d = 0
      · simp_all_arith [eq_true q2]
        refine W.th (tk_ ((f4.box _ (f.box _ o2)).mono (by omega)) (by omega) (by omega)) ?_
        rintro _ h5 ⟨e, rfl, e0, e1, l5, f5⟩
        exact ⟨⟨e, rfl, by omega, by omega⟩, f4.tr f5⟩
      · simp_all_arith [q2]
        exact ⟨⟨0, rfl, by omega, by omega⟩, f4.mono (by omega)⟩
    · intro acc h' e la p lh f
      obtain ⟨D, rfl, d⟩ := all_ints p
      simp_all_arith
      refine ⟨_, D, rfl, by omega, e, by simpa using la, d, (ff.tr f).mono (by simp; omega)⟩
  · simp_all_arith [q0, q1]
    refine drawC (c := 1) (b := b) (fun y _ => ∃ i, y = .int i ∧ 0 ≤ i ∧ i ≤ most) (by simp; omega) (by omega) (fun _ _ _ => has_fix _ _) (fun _ _ _ _ p _ => p) ?_ ?_
    · intro j x h' ej lh f
      obtain ⟨lj, rfl⟩ := at_rng ej
      refine ⟨_, rfl, by simp_all_arith, ?_⟩
      have lj' : j < n := by omega
      simp_all_arith
      refine W.th (tk_ ((f.box _ o2).mono (by omega)) (by omega) (by omega)) ?_
      rintro _ h4 ⟨e, rfl, d0, d1, l4, f4⟩
      exact ⟨⟨e, rfl, by omega, by omega⟩, f4⟩
    · intro acc h' e la p lh f
      obtain ⟨D, rfl, d⟩ := all_ints p
      simp_all_arith
      refine ⟨_, D, rfl, by omega, e, by simpa using la, d, (ff.tr f).mono (by simp; omega)⟩


/-! the very value -/
theorem plW_grown : PyData.strOk "grown" = true := by decide +kernel
theorem very_p {k : Nat} {v : IV} {h : IH} (p : plW 3 v = true) : W (cl (k + 5) 21 [v, v] h) fun y h' => y = .bl true ∧ Gr h h' := by
  rw [c21, d21]
  have sm : W (cl (k + 4) 20 [v, v] h) fun y h' => y = .bl true ∧ Gr h h' := same_eq (n := k + 1) (m := 3) (EQS.rfl p) .rfl
  cases v with
  | ref _ => exact nomatch p
  | frz _ => exact nomatch p
  | _ =>
    simp_all_arith
    refine W.th sm ?_
    rintro _ h2 ⟨rfl, g2⟩
    simp_all_arith
    exact g2
theorem very_l {k r : Nat} {xs : List IV} {h : IH} (e : h[r]? = some (.lst xs)) (l : xs.length < 1000) : cl (k + 1) 21 [.ref r, .ref r] h = .ok (.bl true) (h.set r (.lst (xs ++ [.str "grown"]))) := by
  rw [c21, d21]
  have l1 : xs.length < 16777216 := by omega
  have lr := lt_of e
  have e2 : (h.set r (.lst (xs ++ [.str "grown"])))[r]? = some (.lst (xs ++ [.str "grown"])) := g_set lr
  have ix : (xs ++ [IV.str "grown"])[(-1 + ((xs ++ [IV.str "grown"]).length : Int)).toNat]? = some (.str "grown") := by
    rw [List.length_append, show (-1 + ((xs.length + [IV.str "grown"].length : Nat) : Int)).toNat = xs.length by simp; omega]
    simp
  have o := plW_grown
  simp_all_arith [e, l1, e2, ix]
theorem very_d {k r : Nat} {h : IH} (e : h[r]? = some (.dic [])) : cl (k + 1) 21 [.ref r, .ref r] h = .ok (.bl true) (h.set r (.dic [(.str "grown", .int 1)])) := by
  rw [c21, d21]
  have lr := lt_of e
  have e2 : (h.set r (.dic [(.str "grown", .int 1)]))[r]? = some (.dic [(.str "grown", .int 1)]) := g_set lr
  have o := plW_grown
  have i1 : inI (.str "grown") (.ref r) (h.set r (.dic [(.str "grown", .int 1)])) = some true := by
    simp only [inI, e2]
    simp [keyB, getK, keyEq]
  simp_all_arith [e, e2, i1]
/-! wrong demands -/
structure BV (a0 b : Nat) (v : IV) (h : IH) : Prop where
  nv : NV b h 3 v
  bad : dmO (items v h) = false
  nw : ∀ r, v = .ref r → a0 ≤ r
  kd : plW 3 v = true ∨ (∃ r xs, v = .ref r ∧ h[r]? = some (.lst xs) ∧ xs.length < 1000) ∨ (∃ r, v = .ref r ∧ h[r]? = some (.dic []))
theorem BV.gr {a0 b : Nat} {v : IV} {h h' : IH} (a : BV a0 b v h) (g : Gr h h') : BV a0 b v h' := by
  refine ⟨a.nv.gr g, by rw [nv_items_gr a.nv g]; exact a.bad, a.nw, ?_⟩
  rcases a.kd with p | ⟨r, xs, e, q, l⟩ | ⟨r, e, q⟩
  · exact .inl p
  · exact .inr (.inl ⟨r, xs, e, g.at q, l⟩)
  · exact .inr (.inr ⟨r, e, g.at q⟩)
theorem items_fr {b k n : Nat} {v : IV} {h h' : IH} (N : NV b h (n + 1) v) (f : Fr b k h h') : items v h' = items v h := by
  cases v with
  | ref r =>
    rcases N with ⟨nb, ⟨ys, e2, _, _⟩ | e2⟩
    · rw [it_ref (f.at e2 nb), it_ref e2]
    · simp [items, f.at e2 nb, e2]
  | _ => rfl
theorem BV.fr {a0 b k : Nat} {v : IV} {h h' : IH} (a : BV a0 b v h) (f : Fr b k h h') : BV a0 b v h' := by
  have nb : ∀ r, v = .ref r → r ≠ b := fun r e => by
    have := a.nv
    rw [e] at this
    exact this.1
  refine ⟨a.nv.fr f, by rw [items_fr a.nv f]; exact a.bad, a.nw, ?_⟩
  rcases a.kd with p | ⟨r, xs, e, q, l⟩ | ⟨r, e, q⟩
  · exact .inl p
  · exact .inr (.inl ⟨r, xs, e, f.at q (nb r e), l⟩)
  · exact .inr (.inr ⟨r, e, f.at q (nb r e)⟩)
/-- a number that is none -/
structure OD (x : IV) : Prop where
  pl : plW 2 x = true
  nv : ∀ b h, NV b h 2 x
  od : isCt x = false ∨ ∃ z, x = .int z ∧ 1000 < z
theorem dmO_od {xs : List IV} {x : IV} (m : x ∈ xs) (o : OD x) : dmO (some xs) = false := by
  simp only [dmO]
  rcases o.od with c | ⟨z, rfl, lz⟩
  · have : xs.all isCt = false := List.all_eq_false.2 ⟨x, m, by simp [c]⟩
    rw [this]; rfl
  · have : z ≤ mxD (xs.map ival) := mxD_ge (List.mem_map.2 ⟨_, m, rfl⟩)
    have q : ¬ mxD (xs.map ival) ≤ 1000 := by omega
    rw [decide_eq_false q, Bool.and_false]
theorem BV_sc {a0 b : Nat} {h : IH} {x : IV} (p : plW 3 x = true) (n : NV b h 3 x) (e : items x h = none) (r : ∀ r, x ≠ .ref r) : BV a0 b x h := ⟨n, by rw [e]; rfl, fun q z => absurd z (r q), .inl p⟩
theorem BV_new {a0 b : Nat} {xs : List IV} {h : IH} (bl : b < h.length) (la : a0 ≤ h.length) (l : xs.length < 1000) (n : ∀ x ∈ xs, NV b (h ++ [IO.lst xs]) 2 x) (q : dmO (some xs) = false) : BV a0 b (.ref h.length) (h ++ [.lst xs]) :=
  ⟨⟨by omega, .inl ⟨xs, g_new, by omega, n⟩⟩, by rw [it_ref g_new]; exact q, fun r z => by cases z; exact la, .inr (.inl ⟨_, xs, rfl, g_new, l⟩)⟩
theorem lbad_ {k b : Nat} {h : IH} (o : Bx 50000000000 h b) : W (cl (k + 2) 29 [.ref b] h) fun y h' => BV h.length b y h' ∧ Fr b 2 h h' := by
  have ob := o.lt
  rw [c29, d29]
  simp only [hidL_5]
  refine W.fin (WS.step (fun s' h' => ∃ x, s' = [.v (.ref b), .v x] ∧ OD x ∧ Fr b 1 h h') ?_ ?_)
  · simp_all_arith
    refine W.th (lstW (P := fun x _ => OD x) (fun x h1 h2 p g => p) (by simp [IA.ln]) ⟨?_, ?_, ?_, ?_, ?_, ?_, ?_, trivial⟩) ?_
    case refine_8 =>
      rintro _ h1 ⟨ys, rfl, e, l, n, a, g⟩
      have nq : h1.length - 1 ≠ b := by omega
      generalize h1.length - 1 = q at *
      simp_all_arith
      refine W.th (tk_ ((o.gr g).mono (by omega)) (by omega) (by omega)) ?_
      rintro _ h2 ⟨d, rfl, d0, d1, l2, f2⟩
      have e2 := f2.at e nq
      have n7 : ys.length = 7 := n
      have ld : d < (ys.length : Int) := by omega
      have ix := List.getElem?_eq_getElem (l := ys) (i := d.toNat) (by omega)
      simp_all_arith [e2, ix]
      exact ⟨_, _, rfl, _, rfl, a _ (List.getElem_mem _), (g.fr.tr f2).mono (by omega)⟩
    all_goals
      intro h1 g
      simp_all_arith
    · exact ⟨⟨rfl, fun _ _ => trivial, .inl rfl⟩, .rfl⟩
    · exact ⟨⟨rfl, fun _ _ => trivial, .inr ⟨_, rfl, by omega⟩⟩, .rfl⟩
    · exact ⟨⟨rfl, fun _ _ => trivial, .inl rfl⟩, .rfl⟩
    · exact ⟨⟨rfl, fun _ _ => trivial, .inl rfl⟩, .rfl⟩
    · have s1 : PyData.strOk "1" = true := by decide +kernel
      exact ⟨⟨by decide +kernel, fun _ _ => s1, .inl rfl⟩, .rfl⟩
    · exact ⟨⟨rfl, fun _ _ => ⟨by simp, by simp [NV]⟩, .inl rfl⟩, .rfl⟩
    · exact ⟨⟨rfl, fun _ _ => trivial, .inr ⟨_, rfl, by omega⟩⟩, .rfl⟩
  rintro _ h1 ⟨x, rfl, ox, f1⟩
  have o1 := f1.box _ o
  have b1 := o1.lt
  have le1 := f1.le
  simp_all_arith
  refine W.th (lstW (P := BV h.length b) (fun x h1 h2 p g => p.gr g) (by simp [IA.ln]) ⟨?_, ?_, ?_, ?_, ?_, ?_, ?_, ?_, ?_, ?_, ?_, ?_, trivial⟩) ?_
  case refine_13 =>
    rintro _ h2 ⟨ys, rfl, e, l, n, a, g⟩
    have nq : h2.length - 1 ≠ b := by omega
    generalize h2.length - 1 = q at *
    simp_all_arith
    refine W.th (tk_ ((o1.gr g).mono (by omega)) (by omega) (by omega)) ?_
    rintro _ h3 ⟨d, rfl, d0, d1, l3, f3⟩
    have e2 := f3.at e nq
    have n12 : ys.length = 12 := n
    have ld : d < (ys.length : Int) := by omega
    have ix := List.getElem?_eq_getElem (l := ys) (i := d.toNat) (by omega)
    simp_all_arith [e2, ix]
    exact ⟨(a _ (List.getElem_mem _)).fr f3, ((f1.tr g.fr).tr f3).mono (by omega)⟩
  all_goals
    intro h2 g
    have gl := g.le
    simp_all_arith
  · exact ⟨BV_new (by omega) (by omega) (by simp) (by simp) rfl, .app⟩
  · rw [flat1]
    exact ⟨BV_new (by simp only [List.length_append]; omega) (by simp only [List.length_append]; omega) (by simp) (fun y m => by obtain ⟨_, rfl⟩ := List.mem_replicate.1 m; trivial) rfl, Gr.app.tr .app⟩
  · exact ⟨BV_sc rfl trivial rfl (by simp), .rfl⟩
  · exact ⟨BV_sc rfl trivial rfl (by simp), .rfl⟩
  · have s1 : PyData.strOk "1 2" = true := by decide +kernel
    exact ⟨BV_sc (by decide +kernel) s1 rfl (by simp), .rfl⟩
  · exact ⟨⟨⟨by omega, .inr g_new⟩, by simp [items, dmO], fun r z => by cases z; omega, .inr (.inr ⟨_, rfl, g_new⟩)⟩, .app⟩
  · exact ⟨BV_new (by omega) (by omega) (by simp) (fun y m => by rw [List.mem_singleton.1 m]; exact ox.nv _ _) (dmO_od (by simp) ox), .app⟩
  · exact ⟨BV_new (by omega) (by omega) (by simp) (fun y m => by simp at m; rcases m with rfl | rfl | rfl <;> first | trivial | exact ox.nv _ _) (dmO_od (by simp) ox), .app⟩
  · exact ⟨BV_new (by omega) (by omega) (by simp) (fun y m => by simp at m; rcases m with rfl | rfl | rfl <;> first | trivial | exact ox.nv _ _) (dmO_od (by simp) ox), .app⟩
  · exact ⟨BV_sc rfl trivial rfl (by simp), .rfl⟩
  · exact ⟨⟨⟨by simp, by simp⟩, rfl, by simp, .inl rfl⟩, .rfl⟩
  · exact ⟨⟨⟨by simp, fun y m => by simp at m; rcases m with rfl | rfl <;> first | trivial | exact ox.nv _ _⟩, dmO_od (x := x) (by simp) ox, by simp, .inl (by show ([x, IV.int 1].all (plW 2) && decide ([x, IV.int 1].length < 1000000)) = true; simp only [List.all_cons, ox.pl]; rfl)⟩, .rfl⟩


/-! refused -/
/-- asking for the very value -/
theorem very_ {k a0 b : Nat} {v : IV} {h : IH} (la : ∀ r, v = .ref r → a0 ≤ r ∧ r ≠ b) (kd : plW 3 v = true ∨ (∃ r xs, v = .ref r ∧ h[r]? = some (.lst xs) ∧ xs.length < 1000) ∨ (∃ r, v = .ref r ∧ h[r]? = some (.dic []))) {h0 : IH} {K : Nat} (f : Fr b K h0 h) (l0 : h0.length ≤ a0) :
    W (cl (k + 5) 21 [v, v] h) fun y h' => y = .bl true ∧ Fr b K h0 h' := by
  rcases kd with p | ⟨r, xs, rfl, e, l⟩ | ⟨r, rfl, e⟩
  · exact (very_p p).th fun y h' ⟨e, g⟩ => ⟨e, f.trG g⟩
  · have := la r rfl
    exact W.of (very_l (k := k + 4) e l) ⟨rfl, f.set (by omega) this.2⟩
  · have := la r rfl
    exact W.of (very_d (k := k + 4) e) ⟨rfl, f.set (by omega) this.2⟩
structure LB (lo n : Int) (a0 b : Nat) (v : IV) (h : IH) : Prop where
  nv : NV b h 3 v
  bad : isFT v lo n = false
  nw : ∀ r, v = .ref r → a0 ≤ r
  kd : plW 3 v = true ∨ (∃ r xs, v = .ref r ∧ h[r]? = some (.lst xs) ∧ xs.length < 1000) ∨ (∃ r, v = .ref r ∧ h[r]? = some (.dic []))
theorem LB.fr {lo n : Int} {a0 b k : Nat} {v : IV} {h h' : IH} (a : LB lo n a0 b v h) (f : Fr b k h h') : LB lo n a0 b v h' := by
  have nb : ∀ r, v = .ref r → r ≠ b := fun r e => by
    have := a.nv
    rw [e] at this
    exact this.1
  refine ⟨a.nv.fr f, a.bad, a.nw, ?_⟩
  rcases a.kd with p | ⟨r, xs, e, q, l⟩ | ⟨r, e, q⟩
  · exact .inl p
  · exact .inr (.inl ⟨r, xs, e, f.at q (nb r e), l⟩)
  · exact .inr (.inr ⟨r, e, f.at q (nb r e)⟩)
theorem LB.gr {lo n : Int} {a0 b : Nat} {v : IV} {h h' : IH} (a : LB lo n a0 b v h) (g : Gr h h') : LB lo n a0 b v h' := a.fr g.fr
theorem LB_sc {lo n : Int} {a0 b : Nat} {h : IH} {x : IV} (p : plW 3 x = true) (v : NV b h 3 x) (e : isFT x lo n = false) (r : ∀ r, x ≠ .ref r) : LB lo n a0 b x h := ⟨v, e, fun q z => absurd z (r q), .inl p⟩
theorem lbadl_ {k b : Nat} {n : Nat} {jd nm : Sl} {x3 x6 : Sl} {h : IH} (o : Bx 50000000000 h b) (n1 : 1 ≤ n) (n2 : n ≤ 48) :
    WS (evS sg (cl (k + 8)) false (IB.nth (IS.b1 (d34.body.nth 0)) 4) [.v (.ref b), nm, jd, x3, x6, .v (.int n)] h) fun r => ∃ s' h', r = .nx s' h' ∧ ∃ v, s' = [.v (.ref b), nm, jd, .v v, x6, .v (.int n)] ∧ LB 1 n h.length b v h' ∧ Fr b 1 h h' := by
  have ob := o.lt
  simp only [IB.nth, IS.b1, d34, hidL_5]
  simp_all_arith
  refine W.th (lstW (P := LB 1 n h.length b) (fun x h1 h2 p g => p.gr g) (by simp [IA.ln]) ⟨?_, ?_, ?_, ?_, ?_, ?_, ?_, ?_, ?_, ?_, trivial⟩) ?_
  case refine_11 =>
    rintro _ h2 ⟨ys, rfl, e, l, nn, a, g⟩
    have nq : h2.length - 1 ≠ b := by omega
    generalize h2.length - 1 = q at *
    simp_all_arith
    refine W.th (tk_ ((o.gr g).mono (by omega)) (by omega) (by omega)) ?_
    rintro _ h3 ⟨d, rfl, d0, d1, l3, f3⟩
    have e2 := f3.at e nq
    have n12 : ys.length = 10 := nn
    have ld : d < (ys.length : Int) := by omega
    have ix := List.getElem?_eq_getElem (l := ys) (i := d.toNat) (by omega)
    simp_all_arith [e2, ix]
    exact ⟨_, _, rfl, _, rfl, (a _ (List.getElem_mem _)).fr f3, (g.fr.tr f3).mono (by omega)⟩
  all_goals
    intro h2 g
    have gl := g.le
    simp_all_arith
  · exact ⟨LB_sc rfl trivial (by simp [isFT]) (by simp), .rfl⟩
  · exact ⟨LB_sc rfl trivial (by simp [isFT]; omega) (by simp), .rfl⟩
  · exact ⟨LB_sc rfl trivial (by simp [isFT]) (by simp), .rfl⟩
  · exact ⟨LB_sc rfl trivial rfl (by simp), .rfl⟩
  · exact ⟨LB_sc rfl trivial rfl (by simp), .rfl⟩
  · have s1 : PyData.strOk "1" = true := by decide +kernel
    exact ⟨LB_sc (by decide +kernel) s1 rfl (by simp), .rfl⟩
  · exact ⟨LB_sc rfl ⟨by simp, by simp [NV]⟩ rfl (by simp), .rfl⟩
  · exact ⟨⟨⟨by omega, .inl ⟨_, g_new, by simp, by simp [NV]⟩⟩, rfl, fun r z => by cases z; omega, .inr (.inl ⟨_, _, rfl, g_new, by simp⟩)⟩, .app⟩
  · exact ⟨⟨⟨by omega, .inr g_new⟩, rfl, fun r z => by cases z; omega, .inr (.inr ⟨_, rfl, g_new⟩)⟩, .app⟩
  · exact ⟨LB_sc rfl trivial (by simp [isFT]; omega) (by simp), .rfl⟩
theorem lbadm_ {k b : Nat} {n : Nat} {jd nm : Sl} {x3 x6 : Sl} {h : IH} (o : Bx 50000000000 h b) :
    WS (evS sg (cl (k + 8)) false (IB.nth (IS.b1 (d34.body.nth 0)) 7) [.v (.ref b), nm, jd, x3, x6, .v (.int n)] h) fun r => ∃ s' h', r = .nx s' h' ∧ ∃ v, s' = [.v (.ref b), nm, jd, .v v, x6, .v (.int n)] ∧ LB 0 100000 h.length b v h' ∧ Fr b 1 h h' := by
  have ob := o.lt
  simp only [IB.nth, IS.b1, d34, hidL_5]
  simp_all_arith
  refine W.th (lstW (P := LB 0 100000 h.length b) (fun x h1 h2 p g => p.gr g) (by simp [IA.ln]) ⟨?_, ?_, ?_, ?_, ?_, ?_, ?_, ?_, ?_, ?_, trivial⟩) ?_
  case refine_11 =>
    rintro _ h2 ⟨ys, rfl, e, l, nn, a, g⟩
    have nq : h2.length - 1 ≠ b := by omega
    generalize h2.length - 1 = q at *
    simp_all_arith
    refine W.th (tk_ ((o.gr g).mono (by omega)) (by omega) (by omega)) ?_
    rintro _ h3 ⟨d, rfl, d0, d1, l3, f3⟩
    have e2 := f3.at e nq
    have n12 : ys.length = 10 := nn
    have ld : d < (ys.length : Int) := by omega
    have ix := List.getElem?_eq_getElem (l := ys) (i := d.toNat) (by omega)
    simp_all_arith [e2, ix]
    exact ⟨_, _, rfl, _, rfl, (a _ (List.getElem_mem _)).fr f3, (g.fr.tr f3).mono (by omega)⟩
  all_goals
    intro h2 g
    have gl := g.le
    simp_all_arith
  · exact ⟨LB_sc rfl trivial (by simp [isFT]) (by simp), .rfl⟩
  · exact ⟨LB_sc rfl trivial (by simp [isFT]) (by simp), .rfl⟩
  · exact ⟨LB_sc rfl trivial rfl (by simp), .rfl⟩
  · exact ⟨LB_sc rfl trivial rfl (by simp), .rfl⟩
  · have s1 : PyData.strOk "1" = true := by decide +kernel
    exact ⟨LB_sc (by decide +kernel) s1 rfl (by simp), .rfl⟩
  · exact ⟨LB_sc rfl ⟨by simp, by simp [NV]⟩ rfl (by simp), .rfl⟩
  · exact ⟨⟨⟨by omega, .inl ⟨_, g_new, by simp, by simp [NV]⟩⟩, rfl, fun r z => by cases z; omega, .inr (.inl ⟨_, _, rfl, g_new, by simp⟩)⟩, .app⟩
  · exact ⟨⟨⟨by omega, .inr g_new⟩, rfl, fun r z => by cases z; omega, .inr (.inr ⟨_, rfl, g_new⟩)⟩, .app⟩
  · exact ⟨LB_sc rfl trivial (by simp [isFT]) (by simp), .rfl⟩
  · exact ⟨LB_sc rfl trivial rfl (by simp), .rfl⟩


/-! small and great ones -/
theorem GD_of {n : Nat} {D : List Int} {c : Int} (l : D.length = n) (n1 : 1 ≤ n) (n2 : n ≤ 48) (d : ∀ x ∈ D, 0 ≤ x ∧ x ≤ c) (hc : c ≤ 1000) : GD n D := ⟨l, n1, n2, fun x m => (d x m).1, fun x m => by have := (d x m).2; omega⟩
theorem isL_le {n L : Nat} {D : List Int} {m : Int} (g : GD n D) (h1 : 1 ≤ L) (il : IsL n D L m) : m ≤ D.sum := (il _).1 (fe_sum g.n1 h1 g.len g.y0)
theorem both_1 {k n L rd : Nat} {N m : Int} {D : List Int} {h : IH} {nm : Bool} (ed : h[rd]? = some (.lst (D.map IV.int))) (g : GD n D) (h1 : 1 ≤ L) (hL : L ≤ n) (il : IsL n D L m) (n0 : m ≤ N) (n1 : N ≤ 100000) :
    W (cl (k + 9) 31 [.ref rd, .int L, .int N, .bl nm] h) fun y h' => y = .int 1 ∧ Gr h h' := by
  have m0 := (isL_0 hL il).1
  refine (both_ (k := k) (nm := nm) ed g h1 hL (by omega) n1).th ?_
  rintro y h' ⟨⟨rfl, _⟩ | ⟨rfl, nf⟩, gg⟩
  · exact ⟨rfl, gg⟩
  · exact absurd ((il N).2 n0) nf
theorem both_0 {k n L rd : Nat} {N m : Int} {D : List Int} {h : IH} {nm : Bool} (ed : h[rd]? = some (.lst (D.map IV.int))) (g : GD n D) (h1 : 1 ≤ L) (hL : L ≤ n) (il : IsL n D L m) (n0 : 0 ≤ N) (n1 : N < m) (n2 : N ≤ 100000) :
    W (cl (k + 9) 31 [.ref rd, .int L, .int N, .bl nm] h) fun y h' => y = .int 0 ∧ Gr h h' := by
  refine (both_ (k := k) (nm := nm) ed g h1 hL n0 n2).th ?_
  rintro y h' ⟨⟨rfl, fe⟩ | ⟨rfl, nf⟩, gg⟩
  · have := (il N).1 fe; omega
  · exact ⟨rfl, gg⟩
theorem small_tail {k n L b rd : Nat} {nm : Bool} {D : List Int} {h : IH} (o : Bx 20000000 h b) (n1 : 1 ≤ n) (n5 : n ≤ 5) (h1 : 1 ≤ L) (hL : L ≤ n) (ed : h[rd]? = some (.lst (D.map IV.int))) (nd : rd ≠ b) (lD : D.length = n) (d : ∀ x ∈ D, 0 ≤ x ∧ x ≤ 3) :
    WS (evB sg (cl (k + 9)) false (.cons (IB.nth d32.body 2) (.cons (IB.nth d32.body 3) (.cons (IB.nth d32.body 4) .nil))) [.v (.ref b), .v (.bl nm), .v (.int n), .v (.int L), .v (.ref rd), .no, .no] h) (fnQ fun y h' => y = .bl true ∧ Fr b 10 h h') := by
  have g : GD n D := GD_of lD n1 (by omega) d (by omega)
  have sm : D.sum ≤ 15 := by
    have := sum_bd fun x m => (d x m).2
    have z : (D.length : Int) * 3 ≤ 5 * 3 := Int.mul_le_mul_of_nonneg_right (by omega) (by omega)
    omega
  have lvd : LV (.ref rd) D h := .inr ⟨_, rfl, ed⟩
  have ob := o.lt
  simp only [IB.nth, d32]
  simp_all_arith
  refine W.th (least_ (k := k + 7) lvd g (by omega) (by omega) h1 hL) ?_
  rintro _ h2 ⟨m, rfl, il, g2⟩
  have m0 := (isL_0 hL il).1
  have m1 := isL_le g h1 il
  have c0 : 0 ≤ m + 3 := by omega
  have c1 : m + 3 < 4611686018427387904 := by omega
  simp_all_arith [c0, c1]
  refine walkW (fun j s h3 => Gr h h3 ∧ ∃ (nm' : Bool) (x : Sl), s = [.v (.ref b), .v (.bl nm'), .v (.int n), .v (.int L), .v (.ref rd), .v (.int m), x]) (fun _ _ => False) (fun _ _ => False) (by simp; omega) (fun _ _ _ _ => has_fix _ _) ⟨g2, nm, _, rfl⟩ ?_ ?_ (fun _ _ f => f.elim) (fun _ _ f => f.elim)
  · rintro j x s h3 ev ⟨g3, nm', x6, rfl⟩
    obtain ⟨lj, rfl⟩ := at_rng ev
    have ed3 := g3.at ed
    refine ⟨_, rfl, ?_⟩
    by_cases q : m ≤ (j : Int)
    · simp_all_arith
      refine W.th (both_1 (k := k) ed3 g h1 hL il q (by omega)) ?_
      rintro _ h4 ⟨rfl, g4⟩
      simp_all_arith [eq_true q]
      exact ⟨g3.tr g4, _, _, rfl⟩
    · simp_all_arith
      refine W.th (both_0 (k := k) ed3 g h1 hL il (by omega) (by omega) (by omega)) ?_
      rintro _ h4 ⟨rfl, g4⟩
      simp_all_arith [q]
      exact ⟨g3.tr g4, _, _, rfl⟩
  · rintro s h3 ⟨g3, nm', x6, rfl⟩
    have b3 := (o.gr g3).lt
    have ed3 := g3.at ed
    simp_all_arith
    refine W.th (tk_ ((o.gr g3).app.mono (by omega)) (by omega) (by omega)) ?_
    rintro _ h4 ⟨i, rfl, i0, i1, l4, f4⟩
    have nb : h3.length ≠ b := by omega
    have e4 : h4[h3.length]? = some (.lst [.int 100000, .int 50000, .int (m + 7)]) := f4.at g_new nb
    have F : Fr b 1 h3 h4 := ((Gr.app.fr).tr f4).mono (by omega)
    have ed4 := F.at ed3 nd
    have F4 : Fr b 1 h h4 := (g3.fr.tr F).mono (by omega)
    have cs : i = 0 ∨ i = 1 ∨ i = 2 := by omega
    rcases cs with rfl | rfl | rfl
    all_goals
      simp_all_arith [e4]
      refine W.th (both_1 (k := k) ed4 g h1 hL il (by omega) (by omega)) ?_
      rintro _ h5 ⟨rfl, g5⟩
      simp_all_arith
      exact (F4.trG g5).mono (by omega)
theorem small_ {k b : Nat} {h : IH} {nm : Bool} (o : Bx 10000000 h b) : W (cl (k + 10) 32 [.ref b, .bl nm] h) fun y h' => y = .bl true ∧ Fr b 2000 h h' := by
  have ob := o.lt
  rw [c32, d32]
  refine W.fin (WS.step (fun s' h' => ∃ n : Nat, 1 ≤ n ∧ n ≤ 5 ∧ s' = [.v (.ref b), .v (.bl nm), .v (.int n), .no, .no, .no, .no] ∧ Fr b 1 h h') ?_ ?_)
  · simp_all_arith
    refine W.th (tk_ (o.mono (by omega)) (by omega) (by omega)) ?_
    rintro _ h1 ⟨d, rfl, d0, d1, l1, f1⟩
    obtain ⟨n, en⟩ := Int.eq_ofNat_of_zero_le (show 0 ≤ 1 + d by omega)
    simp_all_arith [en]
    exact ⟨_, _, rfl, n, by omega, by omega, rfl, f1⟩
  rintro _ h1 ⟨n, n1, n5, rfl, f1⟩
  have o1 := f1.box _ o
  refine WS.step (fun s' h' => ∃ (L rd : Nat) (D : List Int), 1 ≤ L ∧ L ≤ n ∧ s' = [.v (.ref b), .v (.bl nm), .v (.int n), .v (.int L), .v (.ref rd), .no, .no] ∧ h'[rd]? = some (.lst (D.map IV.int)) ∧ rd ≠ b ∧ D.length = n ∧ (∀ x ∈ D, 0 ≤ x ∧ x ≤ 3) ∧ Fr b 101 h1 h') ?_ ?_
  · simp_all_arith
    refine W.th (tk_ (o1.mono (by omega)) (by omega) (by omega)) ?_
    rintro _ h2 ⟨d, rfl, d0, d1, l2, f2⟩
    obtain ⟨L, eL⟩ := Int.eq_ofNat_of_zero_le (show 0 ≤ 1 + d by omega)
    have o2 := f2.box _ o1
    have b2 := o2.lt
    by_cases q6 : (n : Int) < 5
    · simp_all_arith [eq_true q6, eL]
      refine W.th (ldem_ (o2.mono (by omega)) (by omega) (by omega) (by omega)) ?_
      rintro _ h3 ⟨r, D, rfl, lr, e, lD, d, f3⟩
      simp_all_arith
      exact ⟨_, _, rfl, L, r, D, by omega, by omega, rfl, e, by omega, lD, d, (f2.tr f3).mono (by omega)⟩
    · simp_all_arith [q6, eL]
      refine W.th (ldem_ (o2.mono (by omega)) (by omega) (by omega) (by omega)) ?_
      rintro _ h3 ⟨r, D, rfl, lr, e, lD, d, f3⟩
      simp_all_arith
      exact ⟨_, _, rfl, L, r, D, by omega, by omega, rfl, e, by omega, lD, fun x m => by have := d x m; omega, (f2.tr f3).mono (by omega)⟩
  rintro _ h2 ⟨L, rd, D, L1, hL, rfl, ed, nd, lD, d, f2⟩
  refine WS.th (small_tail (k := k) (nm := nm) ((f2.box _ o1).mono (by omega)) n1 n5 L1 hL ed nd lD d) ?_
  intro r q
  cases r with
  | rt v h' => exact ⟨q.1, ((f1.tr f2).tr q.2).mono (by omega)⟩
  | nx s h' => exact ⟨q.1, ((f1.tr f2).tr q.2).mono (by omega)⟩
  | _ => exact q


/-! great ones -/
theorem great_tail {k n L b rd : Nat} {nm : Bool} {D : List Int} {h : IH} (o : Bx 20000000 h b) (g : GD n D) (h1 : 1 ≤ L) (hL : L ≤ n) (ed : h[rd]? = some (.lst (D.map IV.int))) (nd : rd ≠ b) :
    WS (evB sg (cl (k + 9)) false (.cons (IB.nth d33.body 3) (.cons (IB.nth d33.body 4) (.cons (IB.nth d33.body 5) (.cons (IB.nth d33.body 6) (.cons (IB.nth d33.body 7) (.cons (IB.nth d33.body 8) .nil)))))) [.v (.ref b), .v (.bl nm), .v (.int n), .v (.int L), .v (.ref rd), .no, .no] h) (fnQ fun y h' => y = .bl true ∧ Fr b 10 h h') := by
  have lvd : LV (.ref rd) D h := .inr ⟨_, rfl, ed⟩
  have ob := o.lt
  have n1 := g.n1
  have n2 := g.n2
  refine WS.step (fun s' h' => ∃ (m : Int) (r : Nat) (S : List Int), s' = [.v (.ref b), .v (.bl nm), .v (.int n), .v (.int L), .v (.ref rd), .v (.tup [.int m, .ref r]), .no] ∧ h'[r]? = some (.lst (S.map IV.int)) ∧ Sf n D L m S ∧ IsL n D L m ∧ Gr h h') ?_ ?_
  · simp only [IB.nth, d33]
    cases nm <;> simp_all_arith
    all_goals
      refine W.th (staff_ (k := k + 3) lvd g h1 hL) ?_
      rintro _ h2 ⟨m, r, S, rfl, lr, er, sf, _, il, g2⟩
      simp_all_arith
      exact ⟨_, _, rfl, m, r, S, rfl, er, sf, il, g2⟩
  rintro _ h2 ⟨m, r, S, rfl, er, sf, il, g2⟩
  have m0 := (isL_0 hL il).1
  have m1 := isL_le g h1 il
  have sb : D.sum ≤ 48000 := by
    have := sum_bd g.mx
    have a := g.len
    omega
  have ed2 := g2.at ed
  have lv2 := lvd.gr g2
  have lvS : LV (.ref r) S h2 := .inr ⟨_, rfl, er⟩
  have lS : S.length < 1000000 := by rw [sf.len]; omega
  simp only [IB.nth, d33]
  simp_all_arith [er]
  refine W.th (lis_staff_ (k := k + 7) lv2 g h1 hL (lvS.jv lS)) ?_
  rintro _ h3 ⟨rfl, g3⟩
  rw [lvS.items, sf_stO sf]
  have smS : biF .sum [.ref r] h3 = .ok (.int m) h3 := by rw [(lvS.gr g3).sum, sf.sm]
  simp_all_arith [smS]
  refine W.th (same_eq (n := k + 6) (m := 3) (EQS.rfl rfl) .rfl) ?_
  rintro _ h4 ⟨rfl, g4⟩
  have G4 := (g2.tr g3).tr g4
  have ed4 := G4.at ed
  have mx := (lvd.gr G4).mx (by have := g.len; omega)
  by_cases q : 0 < mxD D
  · have mp : 0 < m := by
      have e := mxD_mem (D := D) (by have := g.len; omega)
      obtain ⟨i, l, ei⟩ := List.getElem_of_mem e
      have z := (isL_0 hL il).2 i (by have := g.len; omega)
      rw [yv, List.getD_eq_getElem?_getD, List.getElem?_eq_getElem l, ei] at z
      simp at z
      omega
    simp_all_arith [eq_true mp]
    refine W.th (both_0 (k := k) ed4 g h1 hL il (by omega) (by omega) (by omega)) ?_
    rintro _ h5 ⟨rfl, g5⟩
    have G5 := G4.tr g5
    have mx5 := (lvd.gr G5).mx (by have := g.len; omega)
    simp_all_arith [mx5, eq_true q]
    refine W.th (both_0 (k := k) (G5.at ed) g h1 hL il (by omega) mp (by omega)) ?_
    rintro _ h6 ⟨rfl, g6⟩
    simp_all_arith
    have G9 := G5.tr g6
    refine W.th (both_1 (k := k) (G9.at ed) g h1 hL il (Int.le_refl _) (by omega)) ?_
    rintro _ h6 ⟨rfl, g6⟩
    have G6 := G9.tr g6
    simp_all_arith
    refine W.th (tk_ ((o.gr G6).mono (by omega)) (by omega) (by omega)) ?_
    rintro _ h7 ⟨d, rfl, d0, d1, l7, f7⟩
    have q7 : m + d < 100000 := by omega
    have F7 : Fr b 1 h h7 := (G6.fr.tr f7).mono (by omega)
    simp_all_arith [q7]
    refine W.th (both_1 (k := k) (F7.at ed nd) g h1 hL il (by omega) (by omega)) ?_
    rintro _ h8 ⟨rfl, g8⟩
    simp_all_arith
    exact (F7.trG g8).mono (by omega)
  · have mz : ¬ 0 < m := by
      have z : Fe n D L 0 := by
        have e := fe_sum (L := L) (by omega) h1 g.len g.y0
        have : D.sum = 0 := by
          have u := sum_bd (D := D) (b := 0) fun x mm => by have := mxD_ge mm; omega
          have v := (fe_max hL e).1
          omega
        rwa [this] at e
      have := (il 0).1 z
      omega
    simp_all_arith [mz, mx, q]
    have G9 := G4
    refine W.th (both_1 (k := k) (G9.at ed) g h1 hL il (Int.le_refl _) (by omega)) ?_
    rintro _ h6 ⟨rfl, g6⟩
    have G6 := G9.tr g6
    simp_all_arith
    refine W.th (tk_ ((o.gr G6).mono (by omega)) (by omega) (by omega)) ?_
    rintro _ h7 ⟨d, rfl, d0, d1, l7, f7⟩
    have q7 : m + d < 100000 := by omega
    have F7 : Fr b 1 h h7 := (G6.fr.tr f7).mono (by omega)
    simp_all_arith [q7]
    refine W.th (both_1 (k := k) (F7.at ed nd) g h1 hL il (by omega) (by omega)) ?_
    rintro _ h8 ⟨rfl, g8⟩
    simp_all_arith
    exact (F7.trG g8).mono (by omega)
theorem great_ {k b : Nat} {h : IH} {nm : Bool} (o : Bx 10000000 h b) : W (cl (k + 10) 33 [.ref b, .bl nm] h) fun y h' => y = .bl true ∧ Fr b 2000 h h' := by
  have ob := o.lt
  rw [c33, d33]
  refine W.fin (WS.step (fun s' h' => ∃ n : Nat, 6 ≤ n ∧ n ≤ 48 ∧ s' = [.v (.ref b), .v (.bl nm), .v (.int n), .no, .no, .no, .no] ∧ Fr b 1 h h') ?_ ?_)
  · simp_all_arith
    refine W.th (tk_ (o.mono (by omega)) (by omega) (by omega)) ?_
    rintro _ h1 ⟨d, rfl, d0, d1, l1, f1⟩
    obtain ⟨n, en⟩ := Int.eq_ofNat_of_zero_le (show 0 ≤ 6 + d by omega)
    simp_all_arith [en]
    exact ⟨_, _, rfl, n, by omega, by omega, rfl, f1⟩
  rintro _ h1 ⟨n, n1, n6, rfl, f1⟩
  have o1 := f1.box _ o
  refine WS.step (fun s' h' => ∃ L : Nat, 1 ≤ L ∧ L ≤ n ∧ s' = [.v (.ref b), .v (.bl nm), .v (.int n), .v (.int L), .no, .no, .no] ∧ Fr b 3 h1 h') ?_ ?_
  · simp_all_arith
    refine W.th (tk_ (o1.mono (by omega)) (by omega) (by omega)) ?_
    rintro _ h2 ⟨d, rfl, d0, d1, l2, f2⟩
    have o2 := f2.box _ o1
    simp_all_arith
    refine W.th (tk_ (o2.mono (by omega)) (by omega) (by omega)) ?_
    rintro _ h3 ⟨e, rfl, e0, e1, l3, f3⟩
    have o3 := f3.box _ o2
    have b3 := o3.lt
    simp_all_arith
    refine W.th (tk_ (o3.app.mono (by omega)) (by omega) (by omega)) ?_
    rintro _ h4 ⟨i, rfl, i0, i1, l4, f4⟩
    have nb : h3.length ≠ b := by omega
    have e4 : h4[h3.length]? = some (.lst [.int 1, .int n, .int (1 + d), .int (2 + e)]) := f4.at g_new nb
    have F : Fr b 3 h1 h4 := (((f2.tr f3).app).tr f4)
    have cs : i = 0 ∨ i = 1 ∨ i = 2 ∨ i = 3 := by omega
    obtain ⟨L2, eL2⟩ := Int.eq_ofNat_of_zero_le (show 0 ≤ 1 + d by omega)
    obtain ⟨L3, eL3⟩ := Int.eq_ofNat_of_zero_le (show 0 ≤ 2 + e by omega)
    rcases cs with rfl | rfl | rfl | rfl
    · by_cases q : (1 : Int) < n
      · simp_all_arith [e4, eq_true q]
        exact ⟨_, _, rfl, 1, by omega, by omega, rfl, F⟩
      · simp_all_arith [e4, q]
        exact ⟨_, _, rfl, n, by omega, by omega, rfl, F⟩
    · have q : ¬ (n : Int) < n := by omega
      simp_all_arith [e4, q]
      exact ⟨_, _, rfl, n, by omega, by omega, by simp, F⟩
    · by_cases q : (L2 : Int) < n
      · simp_all_arith [e4, eq_true q, eL2]
        exact ⟨_, _, rfl, L2, by omega, by omega, rfl, F⟩
      · simp_all_arith [e4, q, eL2]
        exact ⟨_, _, rfl, n, by omega, by omega, rfl, F⟩
    · by_cases q : (L3 : Int) < n
      · simp_all_arith [e4, eq_true q, eL3]
        exact ⟨_, _, rfl, L3, by omega, by omega, rfl, F⟩
      · simp_all_arith [e4, q, eL3]
        exact ⟨_, _, rfl, n, by omega, by omega, rfl, F⟩
  rintro _ h2' ⟨L, L1, hL, rfl, f2⟩
  have o2 := f2.box _ o1
  refine WS.step (fun s' h' => ∃ (rd : Nat) (D : List Int), s' = [.v (.ref b), .v (.bl nm), .v (.int n), .v (.int L), .v (.ref rd), .no, .no] ∧ h'[rd]? = some (.lst (D.map IV.int)) ∧ rd ≠ b ∧ D.length = n ∧ (∀ x ∈ D, 0 ≤ x ∧ x ≤ 1000) ∧ Fr b 101 h2' h') ?_ ?_
  · have b2 := o2.lt
    simp_all_arith
    refine W.th (tk_ (o2.app.mono (by omega)) (by omega) (by omega)) ?_
    rintro _ h3 ⟨i, rfl, i0, i1, l3, f3⟩
    have nb : h2'.length ≠ b := by omega
    have e3 : h3[h2'.length]? = some (.lst [.int 3, .int 20, .int 1000]) := f3.at g_new nb
    have F : Fr b 1 h2' h3 := (Gr.app.fr).tr f3 |>.mono (by omega)
    have o3 := F.box _ o2
    have le3 := F.le
    have cs : i = 0 ∨ i = 1 ∨ i = 2 := by omega
    rcases cs with rfl | rfl | rfl
    all_goals
      simp_all_arith [e3]
      refine W.th (ldem_ (o3.mono (by omega)) (by omega) (by omega) (by omega)) ?_
      rintro _ h4 ⟨r, D, rfl, lr, e, lD, d, f4⟩
      simp_all_arith
      exact ⟨_, _, rfl, r, D, rfl, e, by omega, lD, fun x m => by have := d x m; omega, (F.tr f4).mono (by omega)⟩
  rintro _ h3 ⟨rd, D, rfl, ed, nd, lD, d, f3⟩
  refine WS.th (great_tail (k := k) (nm := nm) ((f3.box _ o2).mono (by omega)) (GD_of lD (by omega) n6 d (by omega)) L1 hL ed nd) ?_
  intro r q
  cases r with
  | rt v h' => exact ⟨q.1, (((f1.tr f2).tr f3).tr q.2).mono (by omega)⟩
  | nx s h' => exact ⟨q.1, (((f1.tr f2).tr f3).tr q.2).mono (by omega)⟩
  | _ => exact q


theorem GD_2 {n : Nat} (n1 : 1 ≤ n) (n2 : n ≤ 48) : GD n (List.replicate n 2) := ⟨by simp, n1, n2, fun x m => by obtain ⟨_, rfl⟩ := List.mem_replicate.1 m; omega, fun x m => by obtain ⟨_, rfl⟩ := List.mem_replicate.1 m; omega⟩
theorem nw_b {a0 b : Nat} {v : IV} {h : IH} (bv : BV a0 b v h) : ∀ r, v = .ref r → r ≠ b := fun r e => by
  have := bv.nv
  rw [e] at this
  exact this.1
theorem nl_b {lo n : Int} {a0 b : Nat} {v : IV} {h : IH} (bv : LB lo n a0 b v h) : ∀ r, v = .ref r → r ≠ b := fun r e => by
  have := bv.nv
  rw [e] at this
  exact this.1
theorem rf0 {k b : Nat} {h : IH} {jd nm : Bool} {x3 x4 x5 : Sl} (o : Bx 40000000000 h b) :
    WS (evS sg (cl (k + 8)) false (IB.nth (IS.b1 (d34.body.nth 0)) 0) [.v (.ref b), .v (.bl nm), .v (.bl jd), x3, x4, x5] h) fun r => ∃ s' h', r = .nx s' h' ∧ ∃ v, s' = [.v (.ref b), .v (.bl nm), .v (.bl jd), .v v, x4, x5] ∧ BV h.length b v h' ∧ Fr b 2 h h' := by
  simp only [IB.nth, IS.b1, d34, hidL_5]
  simp_all_arith
  refine W.th (lbad_ (k := k + 6) (o.mono (by omega))) ?_
  rintro v h1 ⟨bv, f1⟩
  simp_all_arith
  exact ⟨_, _, rfl, v, rfl, bv, f1⟩
theorem rf1 {k b a0 : Nat} {v : IV} {h : IH} {jd nm : Bool} {x4 x5 : Sl} (o : Bx 50000000000 h b) (bv : BV a0 b v h) :
    WS (evS sg (cl (k + 8)) false (IB.nth (IS.b1 (d34.body.nth 0)) 1) [.v (.ref b), .v (.bl nm), .v (.bl jd), .v v, x4, x5] h) fun r => ∃ s' h', r = .nx s' h' ∧ ∃ r, s' = [.v (.ref b), .v (.bl nm), .v (.bl jd), .v v, .v (.ref r), x5] ∧ h'[r]? = some (.lst [.str "demands", v]) ∧ BV a0 b v h' ∧ Fr b 2 h h' := by
  have ob := o.lt
  simp only [IB.nth, IS.b1, d34, hidL_5]
  simp_all_arith
  refine W.th (tk_ (o.app.mono (by omega)) (by omega) (by omega)) ?_
  rintro _ h2 ⟨d, rfl, d0, d1, l2, f2⟩
  have nb : h.length ≠ b := by omega
  have e2 : h2[h.length]? = some (.lst [.int 1, .non]) := f2.at g_new nb
  have F2 : Fr b 1 h h2 := (Gr.app.fr.tr f2).mono (by omega)
  have o2 := F2.box _ o
  have b2 := o2.lt
  have cs : d = 0 ∨ d = 1 := by omega
  rcases cs with rfl | rfl
  all_goals
    simp_all_arith [e2]
    refine W.th (tk_ (o2.app.mono (by omega)) (by omega) (by omega)) ?_
    rintro _ h3 ⟨d, rfl, d0, d1, l3, f3⟩
    have nb3 : h2.length ≠ b := by omega
    have e3 : h3[h2.length]? = some (.lst [.int 1, .non]) := f3.at g_new nb3
    have F3 : Fr b 2 h h3 := (F2.tr (Gr.app.fr.tr f3)).mono (by omega)
    have bv3 := bv.fr F3
    have cs : d = 0 ∨ d = 1 := by omega
    rcases cs with rfl | rfl
    all_goals
      simp_all_arith [e3]
      refine W.th (ask_xd (k := k) (m := 2) bv3.nv bv3.bad) ?_
      rintro _ h4 ⟨r, rfl, e4, g4⟩
      simp_all_arith
      exact ⟨_, _, rfl, r, rfl, e4, bv3.gr g4, F3.trG g4⟩
theorem rf2 {k b a0 r K : Nat} {v : IV} {h0 h : IH} {jd nm : Bool} {x5 : Sl} (bv : BV a0 b v h) (er : h[r]? = some (.lst [.str "demands", v])) (f : Fr b K h0 h) (l0 : h0.length ≤ a0) :
    WS (evS sg (cl (k + 8)) false (IB.nth (IS.b1 (d34.body.nth 0)) 2) [.v (.ref b), .v (.bl nm), .v (.bl jd), .v v, .v (.ref r), x5] h) fun r' => ∃ s' h', r' = .nx s' h' ∧ s' = [.v (.ref b), .v (.bl nm), .v (.bl jd), .v v, .v (.ref r), x5] ∧ Fr b K h0 h' := by
  have nb2 := nw_b bv
  simp only [IB.nth, IS.b1, d34, hidL_5]
  simp_all_arith [er]
  refine W.th (very_ (k := k + 3) (fun q e => ⟨bv.nw q e, nb2 q e⟩) bv.kd f l0) ?_
  rintro _ h3 ⟨rfl, f3⟩
  simp_all_arith
  exact ⟨_, _, rfl, rfl, f3⟩
theorem rf3 {k b : Nat} {h : IH} {x1 x2 x3 x4 x5 : Sl} (o : Bx 50000000000 h b) :
    WS (evS sg (cl (k + 8)) false (IB.nth (IS.b1 (d34.body.nth 0)) 3) [.v (.ref b), x1, x2, x3, x4, x5] h) fun r => ∃ s' h', r = .nx s' h' ∧ ∃ n : Nat, 1 ≤ n ∧ n ≤ 48 ∧ s' = [.v (.ref b), x1, x2, x3, x4, .v (.int n)] ∧ Fr b 1 h h' := by
  have ob := o.lt
  simp only [IB.nth, IS.b1, d34, hidL_5]
  simp_all_arith
  refine W.th (tk_ (o.app.mono (by omega)) (by omega) (by omega)) ?_
  rintro _ h4 ⟨i, rfl, i0, i1, l4, f4⟩
  have nb : h.length ≠ b := by omega
  have e4 : h4[h.length]? = some (.lst [.int 1, .int 3, .int 48]) := f4.at g_new nb
  have F4 : Fr b 1 h h4 := (Gr.app.fr.tr f4).mono (by omega)
  have cs : i = 0 ∨ i = 1 ∨ i = 2 := by omega
  rcases cs with rfl | rfl | rfl
  · simp_all_arith [e4]
    exact ⟨_, _, rfl, 1, by omega, by omega, rfl, F4⟩
  · simp_all_arith [e4]
    exact ⟨_, _, rfl, 3, by omega, by omega, rfl, F4⟩
  · simp_all_arith [e4]
    exact ⟨_, _, rfl, 48, by omega, by omega, rfl, F4⟩
theorem rf5 {k b a0 n : Nat} {w : IV} {h : IH} {jd nm : Bool} {x4 : Sl} (o : Bx 50000000000 h b) (n1 : 1 ≤ n) (n2 : n ≤ 48) (lb : LB 1 n a0 b w h) :
    WS (evS sg (cl (k + 8)) false (IB.nth (IS.b1 (d34.body.nth 0)) 5) [.v (.ref b), .v (.bl nm), .v (.bl jd), .v w, x4, .v (.int n)] h) fun r => ∃ s' h', r = .nx s' h' ∧ ∃ q, s' = [.v (.ref b), .v (.bl nm), .v (.bl jd), .v w, .v (.ref q), .v (.int n)] ∧ h'[q]? = some (.lst [.str "length", w]) ∧ LB 1 n a0 b w h' ∧ Fr b 1 h h' := by
  have ob := o.lt
  have l1 : (1 : Nat) * n ≤ 16777216 := by omega
  simp only [IB.nth, IS.b1, d34, hidL_5]
  simp_all_arith [l1]
  rw [flat1]
  refine W.th (tk_ ((o.gr (by repeat (first | exact Gr.app | refine Gr.tr ?_ Gr.app))).mono (by omega)) (by omega) (by omega)) ?_
  rintro _ h2 ⟨d, rfl, d0, d1, l2, f2⟩
  have e2 : h2[(h ++ [IO.lst [.int 2]] ++ [IO.lst (List.replicate n (.int 2))]).length]? = some (.lst [.int 1, .non]) := f2.at g_new (by simp only [List.length_append]; omega)
  have eD : h2[(h ++ [IO.lst [.int 2]]).length]? = some (.lst (List.replicate n (.int 2))) := f2.at (by repeat (first | exact g_new | refine Gr.app.at ?_)) (by simp only [List.length_append]; omega)
  have F2 : Fr b 1 h h2 := ((show Gr h _ by repeat (first | exact Gr.app | refine Gr.tr ?_ Gr.app)).fr.tr f2).mono (by omega)
  have lb2 := lb.fr F2
  have cs : d = 0 ∨ d = 1 := by omega
  rcases cs with rfl | rfl
  all_goals
    simp_all_arith [e2]
    refine W.th (ask_xl (k := k) (D := List.replicate n 2) (.inr ⟨_, rfl, by rw [List.map_replicate]; first | exact eD | simpa using eD⟩) (GD_2 n1 n2) lb2.nv.dv lb2.bad) ?_
    rintro _ h3 ⟨q, rfl, eq, g3⟩
    simp_all_arith
    exact ⟨_, _, rfl, q, rfl, eq, lb2.gr g3, F2.trG g3⟩
theorem rf6 {k b a0 r K : Nat} {lo m : Int} {v : IV} {h0 h : IH} {jd nm : Bool} {x5 : Sl} (bv : LB lo m a0 b v h) (er : h[r]? = some (.lst [.str "length", v])) (f : Fr b K h0 h) (l0 : h0.length ≤ a0) :
    WS (evS sg (cl (k + 8)) false (IB.nth (IS.b1 (d34.body.nth 0)) 6) [.v (.ref b), .v (.bl nm), .v (.bl jd), .v v, .v (.ref r), x5] h) fun r' => ∃ s' h', r' = .nx s' h' ∧ s' = [.v (.ref b), .v (.bl nm), .v (.bl jd), .v v, .v (.ref r), x5] ∧ Fr b K h0 h' := by
  have nb2 := nl_b bv
  simp only [IB.nth, IS.b1, d34, hidL_5]
  simp_all_arith [er]
  refine W.th (very_ (k := k + 3) (fun q e => ⟨bv.nw q e, nb2 q e⟩) bv.kd f l0) ?_
  rintro _ h3 ⟨rfl, f3⟩
  simp_all_arith
  exact ⟨_, _, rfl, rfl, f3⟩
theorem rf8 {k b a0 n : Nat} {w : IV} {h : IH} {jd nm : Bool} {x4 : Sl} (n1 : 1 ≤ n) (n2 : n ≤ 48) (lb : LB 0 100000 a0 b w h) :
    WS (evS sg (cl (k + 8)) false (IB.nth (IS.b1 (d34.body.nth 0)) 8) [.v (.ref b), .v (.bl nm), .v (.bl jd), .v w, x4, .v (.int n)] h) fun r => ∃ s' h', r = .nx s' h' ∧ ∃ q, s' = [.v (.ref b), .v (.bl nm), .v (.bl jd), .v w, .v (.ref q), .v (.int n)] ∧ h'[q]? = some (.lst [.str "many", w]) ∧ LB 0 100000 a0 b w h' ∧ Gr h h' := by
  have l1 : (1 : Nat) * n ≤ 16777216 := by omega
  simp only [IB.nth, IS.b1, d34, hidL_5]
  simp_all_arith [l1]
  rw [flat1]
  refine W.th (ask_xm (k := k) (D := List.replicate n 2) (.inr ⟨_, rfl, ?_⟩) (GD_2 n1 n2) n1 (Nat.le_refl _) (fun t => Dv_app (lb.gr (by repeat (first | exact Gr.app | refine Gr.tr ?_ Gr.app))).nv.dv) lb.bad) ?_
  · rw [List.map_replicate]
    repeat (first | exact g_new | refine Gr.app.at ?_)
  rintro _ h2 ⟨q, rfl, eq, g2⟩
  have g3 : Gr h h2 := Gr.tr (by repeat (first | exact Gr.app | refine Gr.tr ?_ Gr.app)) g2
  simp_all_arith
  exact ⟨_, _, rfl, q, rfl, eq, lb.gr g3, g3⟩
theorem rf9 {k b a0 r K : Nat} {lo m : Int} {v : IV} {h0 h : IH} {jd nm : Bool} {x5 : Sl} (bv : LB lo m a0 b v h) (er : h[r]? = some (.lst [.str "many", v])) (f : Fr b K h0 h) (l0 : h0.length ≤ a0) :
    WS (evS sg (cl (k + 8)) false (IB.nth (IS.b1 (d34.body.nth 0)) 9) [.v (.ref b), .v (.bl nm), .v (.bl jd), .v v, .v (.ref r), x5] h) fun r' => ∃ s' h', r' = .nx s' h' ∧ s' = [.v (.ref b), .v (.bl nm), .v (.bl jd), .v v, .v (.ref r), x5] ∧ Fr b K h0 h' := by
  have nb2 := nl_b bv
  simp only [IB.nth, IS.b1, d34, hidL_5]
  simp_all_arith [er]
  refine W.th (very_ (k := k + 3) (fun q e => ⟨bv.nw q e, nb2 q e⟩) bv.kd f l0) ?_
  rintro _ h3 ⟨rfl, f3⟩
  simp_all_arith
  exact ⟨_, _, rfl, rfl, f3⟩
theorem ref_body {k b : Nat} {h : IH} {jd nm : Bool} {x3 x4 x5 : Sl} (o : Bx 40000000000 h b) :
    WS (evB sg (cl (k + 8)) false (IS.b1 (d34.body.nth 0)) [.v (.ref b), .v (.bl nm), .v (.bl jd), x3, x4, x5] h) fun r => ∃ s' h', r = .nx s' h' ∧ (∃ y3 y4 y5, s' = [.v (.ref b), .v (.bl nm), .v (.bl jd), y3, y4, y5]) ∧ Fr b 20 h h' := by
  have ob := o.lt
  refine WS.step (fun s' h' => ∃ v, s' = [.v (.ref b), .v (.bl nm), .v (.bl jd), .v v, x4, x5] ∧ BV h.length b v h' ∧ Fr b 2 h h') (rf0 o) ?_
  rintro _ h1 ⟨v, rfl, bv, f1⟩
  have o1 := f1.box _ o
  refine WS.step (fun s' h' => ∃ r, s' = [.v (.ref b), .v (.bl nm), .v (.bl jd), .v v, .v (.ref r), x5] ∧ h'[r]? = some (.lst [.str "demands", v]) ∧ BV h.length b v h' ∧ Fr b 2 h1 h') (rf1 (o1.mono (by omega)) bv) ?_
  rintro _ h2 ⟨r, rfl, er, bv2, f2⟩
  have F2 : Fr b 4 h h2 := f1.tr f2
  refine WS.step (fun s' h' => s' = [.v (.ref b), .v (.bl nm), .v (.bl jd), .v v, .v (.ref r), x5] ∧ Fr b 4 h h') (rf2 bv2 er F2 (Nat.le_refl _)) ?_
  rintro _ h3 ⟨rfl, f3⟩
  have o3 := f3.box _ o
  refine WS.step (fun s' h' => ∃ n : Nat, 1 ≤ n ∧ n ≤ 48 ∧ s' = [.v (.ref b), .v (.bl nm), .v (.bl jd), .v v, .v (.ref r), .v (.int n)] ∧ Fr b 1 h3 h') (rf3 (o3.mono (by omega))) ?_
  rintro _ h4 ⟨n, n1, n2, rfl, f4⟩
  have o4 := f4.box _ o3
  refine WS.step (fun s' h' => ∃ w, s' = [.v (.ref b), .v (.bl nm), .v (.bl jd), .v w, .v (.ref r), .v (.int n)] ∧ LB 1 n h4.length b w h' ∧ Fr b 1 h4 h') (lbadl_ (k := k) (o4.mono (by omega)) n1 n2) ?_
  rintro _ h5 ⟨w, rfl, lb, f5⟩
  have o5 := f5.box _ o4
  refine WS.step (fun s' h' => ∃ q, s' = [.v (.ref b), .v (.bl nm), .v (.bl jd), .v w, .v (.ref q), .v (.int n)] ∧ h'[q]? = some (.lst [.str "length", w]) ∧ LB 1 n h4.length b w h' ∧ Fr b 1 h5 h') (rf5 (o5.mono (by omega)) n1 n2 lb) ?_
  rintro _ h6 ⟨q, rfl, eq, lb6, f6⟩
  refine WS.step (fun s' h' => s' = [.v (.ref b), .v (.bl nm), .v (.bl jd), .v w, .v (.ref q), .v (.int n)] ∧ Fr b 2 h4 h') (rf6 lb6 eq (f5.tr f6) (Nat.le_refl _)) ?_
  rintro _ h7 ⟨rfl, f7⟩
  have F7 : Fr b 7 h h7 := (f3.tr f4).tr f7
  have o7 := F7.box _ o
  refine WS.step (fun s' h' => ∃ w, s' = [.v (.ref b), .v (.bl nm), .v (.bl jd), .v w, .v (.ref q), .v (.int n)] ∧ LB 0 100000 h7.length b w h' ∧ Fr b 1 h7 h') (lbadm_ (k := k) (n := n) (o7.mono (by omega))) ?_
  rintro _ h8 ⟨w, rfl, lb, f8⟩
  refine WS.step (fun s' h' => ∃ q, s' = [.v (.ref b), .v (.bl nm), .v (.bl jd), .v w, .v (.ref q), .v (.int n)] ∧ h'[q]? = some (.lst [.str "many", w]) ∧ LB 0 100000 h7.length b w h' ∧ Gr h8 h') (rf8 n1 n2 lb) ?_
  rintro _ h9 ⟨q, rfl, eq, lb9, g9⟩
  refine WS.step (fun s' h' => s' = [.v (.ref b), .v (.bl nm), .v (.bl jd), .v w, .v (.ref q), .v (.int n)] ∧ Fr b 1 h7 h') (rf9 lb9 eq (f8.trG g9) (Nat.le_refl _)) ?_
  rintro _ h10 ⟨rfl, f10⟩
  simp_all_arith
  exact ⟨_, _, rfl, ⟨_, _, _, rfl⟩, (F7.tr f10).mono (by omega)⟩
theorem lref_ {k b : Nat} {h : IH} {nm : Bool} (o : Bx 30000000000 h b) : W (cl (k + 9) 34 [.ref b, .bl nm] h) fun y h' => y = .bl true ∧ Fr b 50 h h' := by
  have ob := o.lt
  rw [c34, d34]
  simp_all_arith
  have nb : h.length ≠ b := by omega
  refine walkW (xs := [.bl false, .bl true]) (fun j s h' => ∃ x2 x3 x4 x5, s = [.v (.ref b), .v (.bl nm), x2, x3, x4, x5] ∧ Fr b (20 * j) (h ++ [.lst [.bl false, .bl true]]) h') (fun _ _ => False) (fun _ _ => False) (by simp) (fun j s h' ⟨_, _, _, _, _, f⟩ => has_lst (f.at g_new nb)) ⟨_, _, _, _, rfl, Fr.refl⟩ ?_ ?_ (fun _ _ f => f.elim) (fun _ _ f => f.elim)
  · rintro j x s h1 ev ⟨x2, x3, x4, x5, rfl, f1⟩
    have : ∃ jd, x = .bl jd := by
      have m := List.mem_of_getElem? ev
      simp at m
      rcases m with rfl | rfl <;> exact ⟨_, rfl⟩
    obtain ⟨jd, rfl⟩ := this
    have lj : j < 2 := (List.getElem?_eq_some_iff.1 ev).1
    refine ⟨_, rfl, ?_⟩
    have o1 := f1.box _ o.app
    refine WS.th (ref_body (k := k) (jd := jd) (nm := nm) (o1.mono (by omega))) ?_
    rintro _ ⟨s', h', rfl, ⟨y3, y4, y5, rfl⟩, f2⟩
    exact ⟨_, _, _, _, rfl, (f1.tr f2).mono (by omega)⟩
  · rintro s h1 ⟨x2, x3, x4, x5, rfl, f1⟩
    simp_all_arith
    exact (Gr.app.fr.tr f1).mono (by simp)


theorem law0 : ∀ ns : List Int, ns.length ≤ 63 → (∀ k ∈ ns, PySem.Builtin.Int.intBits k ≤ 1048576) → ∃ h, cl 20 35 [.frz (ns.map IV.int)] [] = .ok (.bl true) h := by
  intro ns hl _
  have key : W (cl 20 35 [.frz (ns.map IV.int)] []) fun v _ => v = .bl true := by
    rw [c35, d35]
    simp_all_arith [cut_map, intsOf_map]
    generalize hM : (if (if (ns.length : Int) < 4 then (ns.length : Int) else 4) > 2 then (if (ns.length : Int) < 4 then (ns.length : Int) else 4) else 2) = M
    have M0 : 0 ≤ M := by subst hM; repeat' split <;> omega
    have M1 : M < 1000 := by subst hM; repeat' split <;> omega
    generalize (cut ns none (some 1)).sum = S
    generalize decide (S % 2 = 1) = gr
    refine walkW (xs := (List.range M.toNat).map fun k : Nat => IV.int k) (fun k s h' => ∃ y2 y3 y4 y5, s = [.v (.frz (ns.map IV.int)), .v (.bl gr), y2, y3, y4, y5]) (fun _ _ => False) (fun _ _ => False)
      (by simp; omega) (fun _ _ _ _ => has_fix _ _) ⟨_, _, _, _, rfl⟩ ?_ ?_ (fun _ _ f => f.elim) (fun _ _ f => f.elim)
    case refine_2 =>
      rintro s h' ⟨y2, y3, y4, y5, rfl⟩
      simp_all_arith
    rintro k v s h3 ev ⟨y2, y3, y4, y5, rfl⟩
    obtain ⟨hk, rfl⟩ := at_rng ev
    refine ⟨_, rfl, ?_⟩
    simp_all_arith
    refine W.th (cell_ (n := 18)) ?_
    rintro _ h4 ⟨⟨z, rfl⟩, g4⟩
    simp_all_arith
    refine W.th (box_ (n := 18)) ?_
    rintro _ h5 ⟨rfl, g5, l5, B5⟩
    clear g4 g5
    generalize h4.length = b at *
    simp_all_arith
    refine W.th (take_ B5 (by omega) (by omega) (by omega)) ?_
    rintro _ h6 ⟨d, rfl, d0, d1, l6, f6⟩
    have B6 := f6.box _ B5
    simp_all_arith
    refine WS.try ?_
    generalize decide (d = 0) = nm
    simp_all_arith
    refine W.th (small_ (k := 9) (B6.mono (by omega))) ?_
    rintro _ h7 ⟨rfl, f7⟩
    have B7 := f7.box _ B6
    have fin : ∀ (N : Nat) (t : IH), N ≤ 5000 → Bx N t b → W (cl 19 34 [.ref b, .bl nm] t) fun y h' => y = .bl true := fun N t l B => (lref_ (k := 10) (B.mono (by omega))).th fun y h' e => e.1
    cases gr with
    | false =>
      simp_all_arith
      refine W.th (fin _ _ (by omega) B7) ?_
      rintro _ h8 rfl
      simp_all_arith
      exact ⟨_, _, _, _, rfl⟩
    | true =>
      by_cases q : (k : Int) > 0
      · simp_all_arith [eq_true q]
        refine W.th (fin _ _ (by omega) B7) ?_
        rintro _ h8 rfl
        simp_all_arith
        exact ⟨_, _, _, _, rfl⟩
      · simp_all_arith [q]
        refine W.th (great_ (k := 9) (B7.mono (by omega))) ?_
        rintro _ h8 ⟨rfl, f8⟩
        have B8 := f8.box _ B7
        simp_all_arith
        refine W.th (fin _ _ (by omega) B8) ?_
        rintro _ h9 rfl
        simp_all_arith
        exact ⟨_, _, _, _, rfl⟩
  obtain ⟨v, h, e, rfl⟩ := key.ex
  exact ⟨h, e⟩


def deep : Nat := 20
theorem law : ∀ ns : List Int, ns.length ≤ 63 → (∀ k ∈ ns, PySem.Builtin.Int.intBits k ≤ 1048576) → ∃ h, callI (prOf c.P) false deep 35 [.frz (ns.map IV.int)] [] = .ok (.bl true) h := law0
end Lw
namespace Lw
open PySem PySem.Spec PyProof.Rows L2 Itp
theorem room : RoomI (2 * deep + 1) callerA := ⟨⟨rfl, by decide +kernel, by decide +kernel⟩, rfl⟩
end Lw
open PySem PySem.W PySem.Calls PyProof.Rows
theorem PySem.Challenge.cw_clockshifts_k39_whole_fixed_numbers_or_a_holds : PySem.Challenge.rw_clockshifts_k39_whole_fixed_numbers_or_a.Holds := by
  w_on; o_law
  refine HandSHeadRun.head_any (r := OpenLaw.row PySem.Challenge.rw_clockshifts_k39_whole_fixed_numbers_or_a) (q := view (OpenLaw.row PySem.Challenge.rw_clockshifts_k39_whole_fixed_numbers_or_a).prog [47]) (H := Lw.hk) (ob := Lw.ob) (M := 4000) (loose := Lw.names) (d := HandSHeadRun.topDef (OpenLaw.row PySem.Challenge.rw_clockshifts_k39_whole_fixed_numbers_or_a).prog 47) (kwd := []) Lw.ob_eq
    (by kernel_rfl) (fun s => by kernel_rfl) Lw.run (by kernel_rfl) (by kernel_rfl) (by kernel_rfl) (by rfl) (by first | assumption | decide +kernel) (by decide +kernel) ⟨rfl, rfl, rfl, rfl, rfl, by decide +kernel⟩ ?hw ?hc
  case hw => w_witness2
  case hc =>
    exact Itp.done_I (m := 63) (n := Lw.deep) (k := 6) (c := Lw.c) (li := 35) (dl := Lw.d35) (x := "script") (dd := Lw.q35) rfl (by decide) (by kernel_rfl) Lw.room rfl rfl (by kernel_rfl) (by kernel_rfl) rfl Lw.sta Lw.bds Lw.rbs Lw.dn (fun K fd F => Itp.bind_law F fun _ _ _ _ _ _ u => rfl) Lw.law
