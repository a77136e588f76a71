import PyProof.Rows.All
import HandS.ForMost
import HandS.Wide
import HandS.TupAny
import HandS.TupMul
import HandS.IsInst
import HandS.Star
import HandS.Deep
import HandS.Flow
import HandS.Zip
import HandS.Walk
import HandS.Defaults
import HandS.Exc
import HandS.More
import HandS.TupLe
import HandS.SortRule
import HandS.SortInts
import HandS.SortKw
import HandS.Style
import HandS.CallSlots
import HandS.ExcOwn
import HandS.MakeKw
import HandS.MakeKwOnly
import HandS.Property
import HandS.CallRecv
import HandS.ClsMeth
import KE.KDictPairs
import HandS.ExcInit
import KE.KExcSuper
import HandS.ExcValue
import HandS.ExcIs
import HandS.ExcField
import KE.KUnpackStar
import HandS.HeadEnd
import HandS.Head2
import HandS.HeadHook2
import HandS.EndBits
import Wide.Once
import HandS.HeadHook3
import HandS.HeadHook4
import HandS.Codes
import Wide.All
import OpenK.AllK
import Wide.FinOn
import KE.KStateDown
import PySem.Challenge.RW_lightabove_k01_errors_by_themselves
set_option Elab.async false
set_option linter.all false
set_option maxRecDepth 100000
set_option maxHeartbeats 0
/-! MvA: codes, values, stores; the evaluator. -/
namespace Mv
open PySem (Str PyData)

/-- values. fz: a list that is never written again; wr: one that was there ahead of the law; ref: a cell of the store; ob: an instance that never changes; er: an exception -/
inductive Val where
  | non | bl (b : Bool) | int (i : Int) | str (s : Str) | tup (vs : List Val) | ref (k : Nat) | ty (n : String) | fz (vs : List Val) | wr (vs : List Val)
  | ob (c : Str) (ks : List Str) (vs : List Val) | er (c : Str) (ks : List Str) (vs : List Val)
  | dc (ks : List Str) (vs : List Val) | tud (vs : List Val)
instance : Inhabited Val := ⟨.non⟩
inductive Ob where
  | lst (vs : List Val)
  | ins (c : Str) (ks : List Str) (vs : List Val)
def Ob.vals : Ob → List Val
  | .lst vs => vs
  | .ins _ _ vs => vs
/-- what is raised: its class, its attributes -/
structure Exc where
  c : Str
  ks : List Str
  vs : List Val
abbrev Store := List Ob
abbrev Rho := List (Option Val)
inductive Out (α : Type) where
  | ok (a : α) (S : Store)
  | ex (e : Exc) (S : Store)
  | no
/-- how a statement ends -/
inductive SO where
  | nx (r : Rho) (S : Store)
  | rt (v : Val) (S : Store)
  | bk (r : Rho) (S : Store)
  | ct (r : Rho) (S : Store)
  | ex (e : Exc) (r : Rho) (S : Store)
  | no
namespace Out
def bind {α β : Type} (o : Out α) (f : α → Store → Out β) : Out β := match o with
  | .ok a S => f a S
  | .ex e S => .ex e S
  | .no => .no
/-- nothing may be raised -/
def bindN {α β : Type} (o : Out α) (f : α → Store → Out β) : Out β := match o with
  | .ok a S => f a S
  | .ex _ _ => .no
  | .no => .no
@[simp] theorem bind_ok {α β : Type} (a : α) (S : Store) (f : α → Store → Out β) : (Out.ok a S).bind f = f a S := rfl
@[simp] theorem bind_ex {α β : Type} (e : Exc) (S : Store) (f : α → Store → Out β) : (Out.ex e S : Out α).bind f = .ex e S := rfl
@[simp] theorem bind_no {α β : Type} (f : α → Store → Out β) : (Out.no : Out α).bind f = .no := rfl
@[simp] theorem bindN_ok {α β : Type} (a : α) (S : Store) (f : α → Store → Out β) : (Out.ok a S).bindN f = f a S := rfl
end Out
namespace SO
def bind (o : SO) (f : Rho → Store → SO) : SO := match o with
  | .nx r S => f r S
  | .rt v S => .rt v S
  | .bk r S => .bk r S
  | .ct r S => .ct r S
  | .ex e r S => .ex e r S
  | .no => .no
@[simp] theorem bind_nx (r : Rho) (S : Store) (f : Rho → Store → SO) : (SO.nx r S).bind f = f r S := rfl
@[simp] theorem bind_rt (v : Val) (S : Store) (f : Rho → Store → SO) : (SO.rt v S).bind f = .rt v S := rfl
@[simp] theorem bind_bk (r : Rho) (S : Store) (f : Rho → Store → SO) : (SO.bk r S).bind f = .bk r S := rfl
@[simp] theorem bind_ct (r : Rho) (S : Store) (f : Rho → Store → SO) : (SO.ct r S).bind f = .ct r S := rfl
@[simp] theorem bind_ex (e : Exc) (r : Rho) (S : Store) (f : Rho → Store → SO) : (SO.ex e r S).bind f = .ex e r S := rfl
@[simp] theorem bind_no (f : Rho → Store → SO) : SO.no.bind f = .no := rfl
end SO
def lift {α : Type} (r : Rho) (o : Out α) (f : α → Store → SO) : SO := match o with
  | .ok a S => f a S
  | .ex e S => .ex e r S
  | .no => .no
@[simp] theorem lift_ok {α : Type} (r : Rho) (a : α) (S : Store) (f : α → Store → SO) : lift r (Out.ok a S) f = f a S := rfl
@[simp] theorem lift_ex {α : Type} (r : Rho) (e : Exc) (S : Store) (f : α → Store → SO) : lift r (Out.ex e S : Out α) f = .ex e r S := rfl
@[simp] theorem lift_no {α : Type} (r : Rho) (f : α → Store → SO) : lift r (Out.no : Out α) f = .no := rfl
def ofO {α : Type} (S : Store) : Option α → Out α
  | some a => .ok a S
  | none => .no
@[simp] theorem ofO_some {α : Type} (S : Store) (a : α) : ofO S (some a) = .ok a S := rfl
@[simp] theorem ofO_none {α : Type} (S : Store) : ofO S (none : Option α) = .no := rfl

inductive Bop where | add | sub | mul | fdiv | mod | pow
inductive Cop where | eq | ne | lt | le | gt | ge | inn | nin | is | isn
/-- where a parameter's value comes from: a positional value, a keyword's, a default -/
inductive Src where | p (i : Nat) | k (i : Nat) | d (v : Val)
def Src.get (vs ws : List Val) : Src → Option Val
  | .p i => vs[i]?
  | .k i => ws[i]?
  | .d v => some v
/-- what an exception's __init__ stores: a parameter's value, a text -/
abbrev ASrc := Str ⊕ Str
/-- codes: expressions, lists of them, targets, iterables, statements. m: whether a new list is a cell -/
inductive C where
  | nil | cons (a b : C)
  | var (i : Nat) | kint (i : Int) | kstr (s : Str) | kbl (b : Bool) | knon | kval (x : Str) | kty (n : String)
  | tup (es : C) | lst (m : Bool) (es : C) | star (e : C)
  | bin (op : Bop) (a b : C) | cat (a b : C) | neg (a : C)
  | cmp (op : Cop) (a b : C) | chain (op op' : Cop) (a b c : C)
  | and_ (a b : C) | or_ (a b : C) | not_ (a : C) | ife (t a b : C)
  | idx (a i : C) | sl (m : Bool) (a lo hi : C) | rev (m : Bool) (a : C)
  | call (f : Nat) (es : C) | calld (f : Nat) (es : C) (ds : List Val) | callk (f : Nat) (es : C) (src : List Src) (ws : C)
  | blt (b : String) (es : C) | mth (m : String) (o es : C)
  | lof (m : Bool) (e : C) | srt (m rv : Bool) (e : C)
  | lc (m : Bool) (elt tg it ifs : C) (own : List Nat)
  | tof (e : C) | dct (e : C) | dget (d a b : C)
  | mke (c : Str) (ps : List Str) (l : List (Str × ASrc)) (es : C) | erf (f : Str) (cs : List Str) (o : C) | isc (e : C) (t : List (Str × Bool))
  | bad | fld (c f : Str) (o : C) | mc (c m : Str) (f : Nat) (o es : C) | prp (c m : Str) (f : Nat) (o : C) | mkc (c : Str) (f : Nat) (es : C) | mkk (c : Str) (f : Nat) (es : C) (src : List Src) (ws : C)
  | irng (a : C) | irng2 (a b : C) | ienum (e : C) | izip (a b : C)
  | tn (i : Nat) | tt (ts : C) | tts (i : Nat) (ts : C) | tsub (o i : C) | par (is : List Nat) (es : C)
  | sat (c f : Str) (o e : C) | asg (tg e : C) | expr (e : C) | ret (e : C) | retn | iff (t a b : C) | forr (tg it body : C) | whl (t body : C) | brk | cont | pass

/-! ### data -/
def SZ : Nat := 16777216
def seqAt (S : Store) (k : Nat) : Option (List Val) := match S[k]? with
  | some (.lst vs) => some vs
  | _ => none
/-- a list's items -/
def lstV (S : Store) : Val → Option (List Val)
  | .ref k => seqAt S k
  | .fz vs => some vs
  | _ => none
/-- a list's, a tuple's items -/
def sqV (S : Store) : Val → Option (List Val)
  | .ref k => seqAt S k
  | .fz vs => some vs
  | .tup vs => some vs
  | .tud vs => some vs
  | _ => none
/-- a list's items, those of a tuple that is known to have no attributes -/
def sqdV (S : Store) : Val → Option (List Val)
  | .tud vs => some vs
  | v => lstV S v
def mapO {α β : Type} (f : α → Option β) : List α → Option (List β)
  | [] => some []
  | a :: as => match f a with
    | some b => match mapO f as with
      | some bs => some (b :: bs)
      | none => none
    | none => none
def scalD : Val → Option PyData
  | .non => some .none
  | .bl b => some (.bool b)
  | .int i => some (.int i)
  | .str x => if PyData.strOk x = true then some (.str x) else none
  | _ => none
/-- a value's data, of nesting at most n -/
def toD (S : Store) : Nat → Val → Option PyData
  | 0, v => scalD v
  | n + 1, .tup vs => (mapO (toD S n) vs).map .tuple
  | n + 1, .tud vs => (mapO (toD S n) vs).map .tuple
  | n + 1, .fz vs => (mapO (toD S n) vs).map .list
  | n + 1, .ref k => (seqAt S k).bind fun vs => (mapO (toD S n) vs).map .list
  | _ + 1, v => scalD v
/-- the sixty levels that a comparison may go down -/
def datV (S : Store) (v : Val) : Option PyData := toD S 60 v

/-! ### dicts with text keys that are never written -/
def keyP : Val → Option (Str × Val)
  | .tup [.str k, v] => some (k, v)
  | _ => none
/-- dict(..) of pairs with unlike keys -/
def dctV (vs : List Val) : Option Val := match mapO keyP vs with
  | some qs => if (qs.map (·.1)).Nodup ∧ qs.length ≤ SZ then some (.dc (qs.map (·.1)) (qs.map (·.2))) else none
  | none => none
def dgetV (ks : List Str) (vs : List Val) (v w : Val) : Option Val := match v with
  | .str z => some (((ks.zip vs).lookup z).getD w)
  | _ => none

/-! ### truth, operators -/
def tru (S : Store) : Val → Option Bool
  | .non => some false
  | .bl b => some b
  | .int i => some (i != 0)
  | .str x => if x.length ≤ SZ then some (x.length != 0) else none
  | .tup vs => some (!vs.isEmpty)
  | .tud vs => some (!vs.isEmpty)
  | .fz vs => some (!vs.isEmpty)
  | .ref k => (seqAt S k).map fun vs => !vs.isEmpty
  | _ => none
/-- a new object -/
def new (S : Store) (o : Ob) : Out Val := .ok (.ref S.length) (S ++ [o])
/-- a new list -/
def mkL (m : Bool) (S : Store) (vs : List Val) : Out Val := match m with
  | true => new S (.lst vs)
  | false => .ok (.fz vs) S
def newL (m : Bool) (S : Store) (vs : List Val) : Out Val := if vs.length ≤ SZ then mkL m S vs else .no
/-- two lists' items as a new cell -/
def catV (S : Store) (v w : Val) : Out Val := match lstV S v, lstV S w with
  | some xs, some ys => if xs.length + ys.length ≤ SZ then new S (.lst (xs ++ ys)) else .no
  | _, _ => .no
def binV (S : Store) : Bop → Val → Val → Out Val
  | .add, .int i, .int j => .ok (.int (i + j)) S
  | .add, .str x, .str y => if x.length + y.length ≤ SZ then .ok (.str (x ++ y)) S else .no
  | .add, .tup xs, .tup ys => if xs.length + ys.length ≤ SZ then .ok (.tup (xs ++ ys)) S else .no
  | .add, v, w => match lstV S v, lstV S w with
    | some xs, some ys => if xs.length + ys.length ≤ SZ then .ok (.fz (xs ++ ys)) S else .no
    | _, _ => .no
  | .sub, .int i, .int j => .ok (.int (i - j)) S
  | .mul, .int i, .int j => if (-(2 ^ 64) < i ∧ i < 2 ^ 64) ∨ (-(2 ^ 64) < j ∧ j < 2 ^ 64) then .ok (.int (i * j)) S else .no
  | .mul, .tup xs, .int n => if xs ≠ [] ∧ 2 ≤ n ∧ n ≤ 1000 ∧ xs.length ≤ 1000 then .ok (.tup (List.replicate n.toNat xs).flatten) S else .no
  | .mul, v, .int n => match lstV S v with
    | some xs => if -(2 ^ 63) ≤ n ∧ n < 2 ^ 63 ∧ xs.length * n.toNat ≤ SZ then .ok (.fz (List.replicate n.toNat xs).flatten) S else .no
    | _ => .no
  | .fdiv, .int i, .int j => if 0 < j ∧ j.natAbs.log2 < 9000 then .ok (.int (i / j)) S else .no
  | .mod, .int i, .int j => if 0 < j then .ok (.int (i % j)) S else .no
  | .pow, .int i, .int j => if 0 ≤ j ∧ j ≤ 1000000 ∧ i.natAbs < 2 ^ 64 then .ok (.int (i ^ j.toNat)) S else .no
  | _, _, _ => .no
/-- a text's signs -/
def signs (x : Str) : List Nat := x.cps.toList
def sign (c : Nat) : Str := ⟨#[c]⟩
def inV (S : Store) (v w : Val) : Option Bool := match w with
  | .str z => match v with
    | .str y => (match signs y with
      | [c] => some (decide (c ∈ signs z))
      | _ => none)
    | _ => none
  | .tup vs => match datV S v, mapO (toD S 59) vs with
    | some d, some ds => some (ds.any fun z => PyData.eqv z d)
    | _, _ => none
  | w => match lstV S w with
    | some vs => match datV S v, mapO (toD S 59) vs with
      | some d, some ds => some (ds.any fun z => PyData.eqv z d)
      | _, _ => none
    | none => none
/-- a tuple of whole numbers -/
def intOf : Val → Option Int
  | .int i => some i
  | _ => none
def intsOf : Val → Option (List Int)
  | .tup vs => mapO intOf vs
  | _ => none
def cmpV (S : Store) : Cop → Val → Val → Option Bool
  | .eq, v, w => match datV S v, datV S w with
    | some d, some e => some (PyData.eqv d e)
    | _, _ => none
  | .ne, v, w => match datV S v, datV S w with
    | some d, some e => some (!PyData.eqv d e)
    | _, _ => none
  | .lt, .int i, .int j => some (decide (i < j))
  | .le, .int i, .int j => some (decide (i ≤ j))
  | .gt, .int i, .int j => some (decide (j < i))
  | .ge, .int i, .int j => some (decide (j ≤ i))
  | .lt, v, w => match intsOf v, intsOf w with
    | some is, some js => some (HT.lexLt is js)
    | _, _ => none
  | .ge, v, w => match intsOf v, intsOf w with
    | some is, some js => some (!HT.lexLt is js)
    | _, _ => none
  | .inn, v, w => inV S v w
  | .nin, v, w => (inV S v w).map (!·)
  | .is, .bl a, .bl b => some (decide (a = b))
  | .isn, .bl a, .bl b => some (!decide (a = b))
  | .is, .non, .non => some true
  | .is, _, .non => some false
  | .isn, .non, .non => some false
  | .isn, _, .non => some true
  | _, _, _ => none
def idxV (S : Store) : Val → Val → Option Val
  | .tup vs, .int i => L2.atI vs i
  | .str z, .int i => if z.length ≤ SZ then (L2.atI (signs z) i).map fun c => .str (sign c) else none
  | .dc ks vs, .str z => (ks.zip vs).lookup z
  | v, .int i => (lstV S v).bind fun vs => L2.atI vs i
  | _, _ => none
def cut {α : Type} (xs : List α) (lo hi : Option Int) : List α := (xs.drop (HT.sIx xs.length 0 lo)).take (HT.sIx xs.length xs.length hi - HT.sIx xs.length 0 lo)
def slV (m : Bool) (S : Store) (v : Val) (lo hi : Option Int) : Out Val := match v with
  | .tup vs => .ok (.tup (cut vs lo hi)) S
  | .str z => if z.length ≤ SZ then .ok (.str (L2.cutS z lo hi)) S else .no
  | .wr vs => mkL m S (cut vs lo hi)
  | v => match lstV S v with
    | some vs => mkL m S (cut vs lo hi)
    | none => .no
/-- x[::-1] -/
def revV (m : Bool) (S : Store) (v : Val) : Out Val := match lstV S v with
  | some vs => mkL m S vs.reverse
  | none => .no

/-! ### built-in functions and methods -/
def tyN (S : Store) : Val → Option String
  | .non => some "NoneType"
  | .bl _ => some "bool"
  | .int _ => some "int"
  | .str _ => some "str"
  | .tup _ => some "tuple"
  | .tud _ => some "tuple"
  | .fz _ => some "list"
  | .ref k => (seqAt S k).map fun _ => "list"
  | _ => none
def isIn (t : String) : List Val → Option Bool
  | [] => some false
  | .ty n :: vs => match L2.kitB t n, isIn t vs with
    | some a, some b => some (a || b)
    | _, _ => none
  | _ :: _ => none
def blOf : Val → Option Bool
  | .bl b => some b
  | _ => none
def strOf : Val → Option Str
  | .str b => some b
  | _ => none
/-- pairs of whole numbers -/
def pairOf : Val → Option (Int × Int)
  | .tup [.int i, .int j] => some (i, j)
  | _ => none
def pairV (p : Int × Int) : Val := .tup [.int p.1, .int p.2]
def ltPr (p q : Int × Int) : Bool := decide (p.1 < q.1) || (decide (p.1 = q.1) && decide (p.2 < q.2))
def insB {α : Type} (lt : α → α → Bool) (x : α) : List α → List α
  | [] => [x]
  | y :: ys => if lt y x then y :: insB lt x ys else x :: y :: ys
def srtB {α : Type} (lt : α → α → Bool) : List α → List α
  | [] => []
  | x :: xs => insB lt x (srtB lt xs)
/-- sorted lists of whole numbers, of pairs of them -/
def srtL (vs : List Val) : Option (List Val) := match mapO intOf vs with
  | some is => some ((srtB (fun i j => decide (i < j)) is).map .int)
  | none => (mapO pairOf vs).map fun ps => (srtB ltPr ps).map pairV
def srtV (m rv : Bool) (S : Store) (v : Val) : Out Val := match (lstV S v).bind srtL with
  | some vs => mkL m S (if rv = true then vs.reverse else vs)
  | none => .no
def bltV (S : Store) (b : String) (vs : List Val) : Out Val :=
  if b = "len" then match vs with
    | [.tup xs] => .ok (.int xs.length) S
    | [.tud xs] => .ok (.int xs.length) S
    | [.str x] => if x.length ≤ SZ then .ok (.int x.length) S else .no
    | [.wr xs] => .ok (.int xs.length) S
    | [v] => match lstV S v with
      | some xs => .ok (.int xs.length) S
      | none => .no
    | _ => .no
  else if b = "tuple" then match vs with
    | [.tup xs] => .ok (.tup xs) S
    | [v] => match lstV S v with
      | some xs => .ok (.tup xs) S
      | none => .no
    | _ => .no
  else if b = "int" then match vs with
    | [.int i] => .ok (.int i) S
    | [.bl k] => .ok (.int (if k then 1 else 0)) S
    | _ => .no
  else if b = "isinstance" then match vs with
    | [v, .ty n] => match tyN S v with
      | some t => ofO S ((L2.kitB t n).map .bl)
      | none => .no
    | [v, .tup cs] => match tyN S v with
      | some t => ofO S ((isIn t cs).map .bl)
      | none => .no
    | _ => .no
  else if b = "all" then match vs with
    | [v] => match (lstV S v).bind (mapO blOf) with
      | some bs => .ok (.bl (bs.all id)) S
      | none => .no
    | _ => .no
  else if b = "any" then match vs with
    | [v] => match (lstV S v).bind (mapO blOf) with
      | some bs => .ok (.bl (bs.any id)) S
      | none => .no
    | _ => .no
  else if b = "max" then match vs with
    | [.int i, .int j] => .ok (.int (if j > i then j else i)) S
    | _ => .no
  else if b = "min" then match vs with
    | [.int i, .int j] => .ok (.int (if j < i then j else i)) S
    | _ => .no
  else .no
def firstIx (ds : List PyData) (d : PyData) : Option Nat := ds.findIdx? fun z => PyData.eqv z d
def mthL (S : Store) (m : String) (o : Val) (vs : List Val) : Out Val :=
  if m = "append" then match o, vs with
    | .ref k, [v] => match S[k]? with
      | some (.lst xs) => if xs.length < SZ then .ok .non (S.set k (.lst (xs ++ [v]))) else .no
      | _ => .no
    | _, _ => .no
  else if m = "clear" then match o, vs with
    | .ref k, [] => match S[k]? with
      | some (.lst xs) => .ok .non (S.set k (.lst []))
      | _ => .no
    | _, _ => .no
  else if m = "index" then match vs with
    | [v] => match datV S o, datV S v with
      | some (.list ds), some d => ofO S ((firstIx ds d).map fun j => .int (j : Nat))
      | _, _ => .no
    | _ => .no
  else .no
def mthS (S : Store) (m : String) (o : Val) (vs : List Val) : Out Val :=
  if m = "join" then match o, vs with
    | .str a, [v] => match (lstV S v).bind (mapO strOf) with
      | some ys => if (ys.map (·.length)).sum + ys.length * a.length ≤ 16777216 then .ok (.str (PySem.Txt.join a ys)) S else .no
      | none => .no
    | _, _ => .no
  else if m = "upper" then match o, vs with
    | .str a, [] => if a.length ≤ 5592405 then .ok (.str (PySem.Txt.upper a)) S else .no
    | _, _ => .no
  else .no
/-- the method m of a value of type T -/
def mthV (S : Store) (T m : String) (o : Val) (vs : List Val) : Out Val :=
  if T = "list" then mthL S m o vs else if T = "str" then mthS S m o vs else .no

def mthHas (T m : String) : Bool := (T == "list" && (m == "append" || m == "clear" || m == "index")) || (T == "str" && (m == "join" || m == "upper"))
/-- the built-in type by which a method is called -/
def mthT (S : Store) (v : Val) (m : String) : Option String := match tyN S v with
  | some T => if mthHas T m = true then some T else none
  | none => none

/-! ### instances -/
/-- an instance's class, attributes -/
def insV (S : Store) : Val → Option (Str × List Str × List Val)
  | .ref k => match S[k]? with
    | some (.ins c ks vs) => some (c, ks, vs)
    | _ => none
  | .ob c ks vs => some (c, ks, vs)
  | _ => none
def fldV (S : Store) (c f : Str) (v : Val) : Option Val := match insV S v with
  | some (d, ks, vs) => if d = c then (ks.zip vs).lookup f else none
  | none => none
/-- an attribute is written -/
def putO (f : Str) (v : Val) : List Str → List Val → List Str × List Val
  | k :: ks, w :: ws => if k = f then (k :: ks, v :: ws) else (k :: (putO f v ks ws).1, w :: (putO f v ks ws).2)
  | _, _ => ([f], [v])
/-- whether the class c's method m is the one that is called -/
def metB (S : Store) (c m : Str) (v : Val) : Bool := match insV S v with
  | some (d, ks, _) => decide (d = c) && decide (m ∉ ks)
  | none => false
def satV (S : Store) (c f : Str) (u v : Val) (r : Rho) : SO := match u with
  | .ref k => match S[k]? with
    | some (.ins d ks vs) => if d = c ∧ ks.length < 1000 then .nx r (S.set k (.ins d (putO f v ks vs).1 (putO f v ks vs).2)) else .no
    | _ => .no
  | _ => .no
/-- a new instance, its __init__ -/
def mkJ (R : List Val → Store → Out Val) (c : Str) (vs : List Val) (S : Store) : Out Val := (R vs (S ++ [.ins c [] []])).bind fun v S1 => match v with
  | .non => .ok (.ref S.length) S1
  | _ => .no
def mkI (R : List Val → Store → Out Val) (c : Str) (vs : List Val) (S : Store) : Out Val := mkJ R c (.ref S.length :: vs) S

/-! ### exceptions -/
def avl (ps : List Str) (vs : List Val) : ASrc → Val
  | .inl x => ((ps.zip vs).lookup x).getD .non
  | .inr z => .str z
/-- a new exception: the last stored attribute first -/
def erV (c : Str) (ps : List Str) (l : List (Str × ASrc)) (vs : List Val) : Val := .er c (l.map (·.1)).reverse (l.map fun q => avl ps vs q.2).reverse
def erfV (f : Str) (cs : List Str) : Val → Option Val
  | .er c ks vs => if c ∈ cs then (ks.zip vs).lookup f else none
  | _ => none
def iscV (t : List (Str × Bool)) : Val → Option Bool
  | .er c _ _ => t.lookup c
  | _ => none

/-! ### what is walked -/
inductive Itr where
  | its (vs : List Val)
  | live (k : Nat)
  | enm (k : Nat)
  | zip (k l : Nat)
def enumL (vs : List Val) : List Val := vs.mapIdx fun i v => .tup [.int (i : Nat), v]
def Itr.at_ (S : Store) : Itr → Nat → Option (Option Val)
  | .its vs, i => some vs[i]?
  | .live k, i => (seqAt S k).map fun vs => vs[i]?
  | .enm k, i => (seqAt S k).map fun vs => vs[i]?.map fun v => .tup [.int (i : Nat), v]
  | .zip k l, i => match seqAt S k, seqAt S l with
    | some xs, some ys => some (match xs[i]?, ys[i]? with
      | some x, some y => some (.tup [x, y])
      | _, _ => none)
    | _, _ => none
/-- a walk's turns: n at most -/
def forN (it : Itr) (body : Val → Rho → Store → SO) : Nat → Nat → Rho → Store → SO
  | 0, _, _, _ => .no
  | n + 1, i, r, S => match it.at_ S i with
    | none => .no
    | some none => .nx r S
    | some (some v) => match body v r S with
      | .nx r' S' => forN it body n (i + 1) r' S'
      | .ct r' S' => forN it body n (i + 1) r' S'
      | .bk r' S' => .nx r' S'
      | .rt w S' => .rt w S'
      | .ex e r' S' => .ex e r' S'
      | .no => .no
def lcN (it : Itr) (body : Val → Store → Out (Option Val)) : Nat → Nat → List Val → Store → Out (List Val)
  | 0, _, _, _ => .no
  | n + 1, i, acc, S => match it.at_ S i with
    | none => .no
    | some none => .ok acc S
    | some (some v) => (body v S).bindN fun y S' => match y with
      | none => lcN it body n (i + 1) acc S'
      | some y => if acc.length < SZ then lcN it body n (i + 1) (acc ++ [y]) S' else .no
def whlN (t : Rho → Store → Out Bool) (body : Rho → Store → SO) : Nat → Rho → Store → SO
  | 0, _, _ => .no
  | n + 1, r, S => match t r S with
    | .ok true S' => (match body r S' with
      | .nx r' S'' => whlN t body n r' S''
      | .ct r' S'' => whlN t body n r' S''
      | .bk r' S'' => .nx r' S''
      | .rt w S'' => .rt w S''
      | .ex e r' S'' => .ex e r' S''
      | .no => .no)
    | .ok false S' => .nx r S'
    | .ex e S' => .ex e r S'
    | .no => .no
def wipe (r : Rho) (own : List Nat) : Rho := own.foldr (fun i r => r.set i none) r
/-- the most turns of a walk -/
def TURNS : Nat := 20000000

def lenC : C → Nat
  | .cons _ b => lenC b + 1
  | _ => 0
/-- n targets, the i-th starred -/
def starL (n i : Nat) (vs : List Val) : List Val := vs.take i ++ [.fz ((vs.drop i).take (vs.length + 1 - n))] ++ (vs.drop i).drop (vs.length + 1 - n)
/-! ### the evaluator -/
structure Cfg where
  R : Nat → List Val → Store → Out Val
  kv : Str → Option Val
mutual
def evE (g : Cfg) : C → Rho → Store → Out Val
  | .var i, r, S => match r[i]? with
    | some (some v) => .ok v S
    | _ => .no
  | .kint i, _, S => .ok (.int i) S
  | .kstr x, _, S => .ok (.str x) S
  | .kbl b, _, S => .ok (.bl b) S
  | .knon, _, S => .ok .non S
  | .kval x, _, S => ofO S (g.kv x)
  | .kty n, _, S => .ok (.ty n) S
  | .tup es, r, S => (evEs g es r S).bind fun vs S1 => if vs.length ≤ SZ then .ok (.tup vs) S1 else .no
  | .lst m es, r, S => (evEs g es r S).bind fun vs S1 => newL m S1 vs
  | .bin op a b, r, S => (evE g a r S).bind fun v S1 => (evE g b r S1).bind fun w S2 => binV S2 op v w
  | .cat a b, r, S => (evE g a r S).bind fun v S1 => (evE g b r S1).bind fun w S2 => catV S2 v w
  | .neg a, r, S => (evE g a r S).bind fun v S1 => match v with
    | .int i => .ok (.int (-i)) S1
    | _ => .no
  | .cmp op a b, r, S => (evE g a r S).bind fun v S1 => (evE g b r S1).bind fun w S2 => ofO S2 ((cmpV S2 op v w).map .bl)
  | .chain op op' a b c, r, S => (evE g a r S).bind fun v S1 => (evE g b r S1).bind fun w S2 => match cmpV S2 op v w with
    | some true => (evE g c r S2).bind fun u S3 => ofO S3 ((cmpV S3 op' w u).map .bl)
    | some false => .ok (.bl false) S2
    | none => .no
  | .and_ a b, r, S => (evE g a r S).bind fun v S1 => match tru S1 v with
    | some true => evE g b r S1
    | some false => .ok v S1
    | none => .no
  | .or_ a b, r, S => (evE g a r S).bind fun v S1 => match tru S1 v with
    | some true => .ok v S1
    | some false => evE g b r S1
    | none => .no
  | .not_ a, r, S => (evE g a r S).bind fun v S1 => ofO S1 ((tru S1 v).map fun b => .bl (!b))
  | .ife t a b, r, S => (evT g t r S).bind fun c S1 => match c with
    | true => evE g a r S1
    | false => evE g b r S1
  | .idx a i, r, S => (evE g a r S).bind fun v S1 => (evE g i r S1).bind fun w S2 => ofO S2 (idxV S2 v w)
  | .sl m a lo hi, r, S => (evE g a r S).bind fun v S1 => (evO g lo r S1).bind fun l S2 => (evO g hi r S2).bind fun h S3 => slV m S3 v l h
  | .rev m a, r, S => (evE g a r S).bind fun v S1 => revV m S1 v
  | .call f es, r, S => (evEs g es r S).bind fun vs S1 => g.R f vs S1
  | .calld f es ds, r, S => (evEs g es r S).bind fun vs S1 => g.R f (vs ++ ds) S1
  | .callk f es src ws, r, S => (evEs g es r S).bind fun vs S1 => (evEs g ws r S1).bind fun us S2 => match mapO (Src.get vs us) src with
    | some as => g.R f as S2
    | none => .no
  | .fld c f o, r, S => (evE g o r S).bind fun v S1 => ofO S1 (fldV S1 c f v)
  | .mc c m f o es, r, S => (evE g o r S).bind fun v S1 => if metB S1 c m v = true then (evEs g es r S1).bind fun vs S2 => g.R f (v :: vs) S2 else .no
  | .prp c _ f o, r, S => (evE g o r S).bind fun v S1 => match insV S1 v with
    | some (d, _, _) => if d = c then g.R f [v] S1 else .no
    | none => .no
  | .mkc c f es, r, S => (evEs g es r S).bind fun vs S1 => mkI (g.R f) c vs S1
  | .mkk c f es src ws, r, S => (evEs g es r S).bind fun vs S1 => (evEs g ws r S1).bind fun us S2 => match mapO (Src.get (.ref S2.length :: vs) us) src with
    | some as => mkJ (g.R f) c as S2
    | none => .no
  | .tof e, r, S => (evE g e r S).bind fun v S1 => match lstV S1 v with
    | some vs => .ok (.tud vs) S1
    | none => .no
  | .dct e, r, S => (evE g e r S).bind fun v S1 => match sqdV S1 v with
    | some vs => ofO S1 (dctV vs)
    | none => .no
  | .dget d a b, r, S => (evE g d r S).bind fun v S1 => match v with
    | .dc ks vs => (evE g a r S1).bind fun x S2 => (evE g b r S2).bind fun y S3 => ofO S3 (dgetV ks vs x y)
    | _ => .no
  | .mke c ps l es, r, S => (evEs g es r S).bind fun vs S1 => if vs.length = ps.length then .ok (erV c ps l vs) S1 else .no
  | .erf f cs o, r, S => (evE g o r S).bind fun v S1 => ofO S1 (erfV f cs v)
  | .isc e t, r, S => (evE g e r S).bind fun v S1 => ofO S1 ((iscV t v).map .bl)
  | .blt b es, r, S => (evEs g es r S).bind fun vs S1 => bltV S1 b vs
  | .mth m o es, r, S => (evE g o r S).bind fun v S1 => match mthT S1 v m with
    | some T => (evEs g es r S1).bind fun vs S2 => mthV S2 T m v vs
    | none => .no
  | .lof m e, r, S => (evE g e r S).bind fun v S1 => match sqV S1 v with
    | some vs => mkL m S1 vs
    | none => .no
  | .srt m rv e, r, S => (evE g e r S).bind fun v S1 => srtV m rv S1 v
  | .lc m elt tg it ifs own, r, S => (evI g it r S).bind fun j S1 => (lcN j (fun v S2 => (evG g tg v (wipe r own) S2).bind fun r1 S3 => (evF g ifs r1 S3).bind fun b S4 => match b with
    | true => (evE g elt r1 S4).bind fun y S5 => .ok (some y) S5
    | false => .ok none S4) TURNS 0 [] S1).bind fun vs S2 => mkL m S2 vs
  | _, _, _ => .no
/-- a test -/
def evT (g : Cfg) : C → Rho → Store → Out Bool
  | .not_ a, r, S => (evT g a r S).bind fun b S1 => .ok (!b) S1
  | .and_ a b, r, S => (evT g a r S).bind fun c S1 => match c with
    | true => evT g b r S1
    | false => .ok false S1
  | .or_ a b, r, S => (evT g a r S).bind fun c S1 => match c with
    | true => .ok true S1
    | false => evT g b r S1
  | .ife t a b, r, S => (evT g t r S).bind fun c S1 => match c with
    | true => evT g a r S1
    | false => evT g b r S1
  | c, r, S => (evE g c r S).bind fun v S1 => ofO S1 (tru S1 v)
/-- an optional part of a slice -/
def evO (g : Cfg) : C → Rho → Store → Out (Option Int)
  | .nil, _, S => .ok none S
  | c, r, S => (evE g c r S).bind fun v S1 => match v with
    | .int i => .ok (some i) S1
    | _ => .no
def evEs (g : Cfg) : C → Rho → Store → Out (List Val)
  | .nil, _, S => .ok [] S
  | .cons (.star e) es, r, S => (evE g e r S).bind fun v S1 => match sqV S1 v with
    | some xs => (evEs g es r S1).bind fun vs S2 => .ok (xs ++ vs) S2
    | none => .no
  | .cons e es, r, S => (evE g e r S).bind fun v S1 => (evEs g es r S1).bind fun vs S2 => .ok (v :: vs) S2
  | _, _, _ => .no
/-- the tests of a comprehension: none or one -/
def evF (g : Cfg) : C → Rho → Store → Out Bool
  | .nil, _, S => .ok true S
  | .cons t .nil, r, S => evT g t r S
  | _, _, _ => .no
/-- what is walked -/
def evI (g : Cfg) : C → Rho → Store → Out Itr
  | .irng a, r, S => (evE g a r S).bind fun v S1 => match v with
    | .int j => if -(2 ^ 62) ≤ j ∧ j < 2 ^ 62 then .ok (.its ((List.range j.toNat).map fun (i : Nat) => .int (i : Int))) S1 else .no
    | _ => .no
  | .irng2 a b, r, S => (evE g a r S).bind fun v S1 => (evE g b r S1).bind fun w S2 => match v, w with
    | .int i, .int j => if -(2 ^ 62) ≤ i ∧ i < 2 ^ 62 ∧ -(2 ^ 62) ≤ j ∧ j < 2 ^ 62 then .ok (.its ((List.range (j - i).toNat).map fun (n : Nat) => .int (i + (n : Int)))) S2 else .no
    | _, _ => .no
  | .ienum e, r, S => (evE g e r S).bind fun v S1 => match v with
    | .ref k => match seqAt S1 k with
      | some _ => .ok (.enm k) S1
      | none => .no
    | .fz vs => .ok (.its (enumL vs)) S1
    | _ => .no
  | .izip a b, r, S => (evE g a r S).bind fun v S1 => (evE g b r S1).bind fun w S2 => match v, w with
    | .ref k, .ref l => match seqAt S2 k, seqAt S2 l with
      | some _, some _ => .ok (.zip k l) S2
      | _, _ => .no
    | .fz xs, .fz ys => .ok (.its (List.zipWith (fun x y => .tup [x, y]) xs ys)) S2
    | .tup xs, .tup ys => .ok (.its (List.zipWith (fun x y => .tup [x, y]) xs ys)) S2
    | _, _ => .no
  | c, r, S => (evE g c r S).bind fun v S1 => match v with
    | .ref k => match seqAt S1 k with
      | some _ => .ok (.live k) S1
      | none => .no
    | .fz vs => .ok (.its vs) S1
    | .tup vs => .ok (.its vs) S1
    | .tud vs => .ok (.its vs) S1
    | .str x => .ok (.its ((signs x).map fun c => .str (sign c))) S1
    | _ => .no
/-- a target takes a value -/
def evG (g : Cfg) : C → Val → Rho → Store → Out Rho
  | .tn i, v, r, S => .ok (r.set i (some v)) S
  | .tt ts, v, r, S => match v with
    | .tup vs => evGs g ts vs r S
    | _ => .no
  | .tts i ts, v, r, S => match sqV S v with
    | some vs => if lenC ts ≤ vs.length + 1 then evGs g ts (starL (lenC ts) i vs) r S else .no
    | none => .no
  | .tsub o i, v, r, S => (evE g o r S).bindN fun x S1 => (evE g i r S1).bindN fun j S2 => match x, j with
    | .ref k, .int n => match S2[k]? with
      | some (.lst xs) => match L2.ixN xs.length n with
        | some m => .ok r (S2.set k (.lst (xs.set m v)))
        | none => .no
      | _ => .no
    | _, _ => .no
  | _, _, _, _ => .no
def evGs (g : Cfg) : C → List Val → Rho → Store → Out Rho
  | .nil, [], r, S => .ok r S
  | .cons t ts, v :: vs, r, S => (evG g t v r S).bind fun r1 S1 => evGs g ts vs r1 S1
  | _, _, _, _ => .no
end
mutual
def evS (g : Cfg) : C → Rho → Store → SO
  | .asg tg e, r, S => lift r (evE g e r S) fun v S1 => lift r (evG g tg v r S1) .nx
  | .par is es, r, S => lift r (evEs g es r S) fun vs S1 => if vs.length = is.length then .nx ((is.zip vs).foldl (fun r q => r.set q.1 (some q.2)) r) S1 else .no
  | .sat c f o e, r, S => lift r (evE g e r S) fun v S1 => lift r (evE g o r S1) fun u S2 => satV S2 c f u v r
  | .expr e, r, S => lift r (evE g e r S) fun _ S1 => .nx r S1
  | .ret e, r, S => lift r (evE g e r S) .rt
  | .retn, _, S => .rt .non S
  | .iff t a b, r, S => lift r (evT g t r S) fun c S1 => match c with
    | true => evSs g a r S1
    | false => evSs g b r S1
  | .forr tg it body, r, S => lift r (evI g it r S) fun j S1 => forN j (fun v r S => lift r (evG g tg v r S) fun r1 S1 => evSs g body r1 S1) TURNS 0 r S1
  | .whl t body, r, S => whlN (evT g t) (evSs g body) TURNS r S
  | .brk, r, S => .bk r S
  | .cont, r, S => .ct r S
  | .pass, r, S => .nx r S
  | _, _, _ => .no
def evSs (g : Cfg) : C → Rho → Store → SO
  | .nil, r, S => .nx r S
  | .cons s ss, r, S => (evS g s r S).bind fun r1 S1 => evSs g ss r1 S1
  | _, _, _ => .no
end
/-! ### defs -/
mutual
/-- no cell is named -/
def pur : Val → Bool
  | .ref _ => false
  | .tup vs => purs vs
  | .fz vs => purs vs
  | .wr _ => false
  | .ob _ _ vs => purs vs
  | .er _ _ vs => purs vs
  | .dc _ vs => purs vs
  | .tud vs => purs vs
  | _ => true
def purs : List Val → Bool
  | [] => true
  | v :: vs => pur v && purs vs
end
/-- v behind a call whose cells (from n on) are given up: lists and instances of its own are never written again -/
def frzV (S : Store) (n : Nat) : Nat → Val → Option Val
  | 0, v => if pur v = true then some v else none
  | d + 1, v => if pur v = true then some v else match v with
    | .ref k => if k < n then some (.ref k) else match S[k]? with
      | some (.lst vs) => (mapO (frzV S n d) vs).map .fz
      | some (.ins c ks vs) => (mapO (frzV S n d) vs).map (.ob c ks)
      | none => none
    | .tup vs => (mapO (frzV S n d) vs).map .tup
    | .fz vs => (mapO (frzV S n d) vs).map .fz
    | .ob c ks vs => (mapO (frzV S n d) vs).map (.ob c ks)
    | .er c ks vs => (mapO (frzV S n d) vs).map (.er c ks)
    | .dc ks vs => (mapO (frzV S n d) vs).map (.dc ks)
    | .tud vs => (mapO (frzV S n d) vs).map .tud
    | _ => none
/-- no cell from n on is named -/
def clV (n : Nat) : Nat → Val → Bool
  | 0, v => pur v
  | d + 1, v => pur v || (match v with
    | .ref k => decide (k < n)
    | .tup vs => vs.all (clV n d)
    | .fz vs => vs.all (clV n d)
    | .ob _ _ vs => vs.all (clV n d)
    | .er _ _ vs => vs.all (clV n d)
    | .dc _ vs => vs.all (clV n d)
    | .tud vs => vs.all (clV n d)
    | _ => false)
def clS (n : Nat) (S : Store) : Bool := (S.take n).all fun o => o.vals.all (clV n 20)
def gcV (n : Nat) : Out Val → Out Val
  | .ok v S => if S.length ≤ n then .ok v S else if clS n S = true then (match frzV S n 20 v with
    | some w => .ok w (S.take n)
    | none => .no) else .no
  | .ex e S => if S.length ≤ n then .ex e S else if clS n S = true ∧ purs e.vs = true then .ex e (S.take n) else .no
  | .no => .no
/-- a def: its parameters, its number of slots, its body; gc: whether its own cells are given up at its end; va: whether the last parameter takes what is left -/
structure Fn where
  ar : Nat
  slots : Nat
  gc : Bool
  va : Bool
  body : C
def startR (n : Nat) (vs : List Val) : Rho := vs.map some ++ List.replicate (n - vs.length) none
def endR : SO → Out Val
  | .nx _ S => .ok .non S
  | .rt v S => .ok v S
  | .ex e _ S => .ex e S
  | _ => .no
/-- the defs of a text -/
structure Tab where
  fn : Nat → Option Fn
  kv : Str → Option Val
def fin (gc : Bool) (n : Nat) (o : Out Val) : Out Val := match gc with
  | true => gcV n o
  | false => o
/-- the arguments as the parameters take them -/
def Fn.args (d : Fn) (vs : List Val) : Option (List Val) := match d.va with
  | true => if d.ar ≤ vs.length + 1 ∧ 1 ≤ d.ar ∧ vs.length ≤ SZ then some (vs.take (d.ar - 1) ++ [.tup (vs.drop (d.ar - 1))]) else none
  | false => if vs.length = d.ar then some vs else none
def Tab.run (T : Tab) : Nat → Nat → List Val → Store → Out Val
  | 0, _, _, _ => .no
  | n + 1, f, vs, S => match T.fn f with
    | some d => match d.args vs with
      | some ws => fin d.gc S.length (endR (evSs ⟨T.run n, T.kv⟩ d.body (startR d.slots ws) S))
      | none => .no
    | none => .no
end Mv

/-! MvB: values and stores against the abstract heap. -/
namespace Mv
open PySem PySem.Spec PyProof.Rows L2

theorem sz_eq : SZ = sizeLine := by rw [sizeLine_eq] <;> rfl
theorem sz_le {n : Nat} (h : n ≤ SZ) : n ≤ sizeLine := by rw [← sz_eq]; exact h
theorem sz_lt {n : Nat} (h : n < SZ) : n < sizeLine := by rw [← sz_eq]; exact h

/-- the written part, the module's names -/
structure Pm where
  K : PySem.W.Frag
  mg : Str → Option Value
  w : World
abbrev pm (X : Cx) : Pm := ⟨X.K, X.mg, X.w⟩
section
variable (K : Pm) (hs : List Addr)
/-- neither a cell nor hidden -/
def Nm (as : List Addr) (a : Addr) : Prop := a ∉ as ∧ a ∉ hs
/-- a tuple, tracked or written -/
def TupAt (H : Hp) (as : List Addr) (a : Addr) (xs : List V) : Prop :=
  (H a = some (.tup xs) ∧ Nm hs as a) ∨ ∃ (o : Obj) (its : Array Value) (n : Nat), K.K.lookup a = some o ∧ o.cls = .type "tuple" ∧ o.data = .seq its n ∧ its.size ≤ sizeLine ∧ Vals xs its.toList
/-- a list that is never written again -/
def FzAt (H : Hp) (as : List Addr) (a : Addr) (xs : List V) : Prop := H a = some (.lst xs) ∧ Nm hs as a
/-- a list that was there ahead of the law -/
def WrAt (H : Hp) (as : List Addr) (a : Addr) (xs : List V) : Prop :=
  (∃ o, H a = some (.frz o (.lst xs)) ∧ Nm hs as a) ∨ ∃ (o : Obj) (its : Array Value) (n : Nat), K.K.lookup a = some o ∧ o.cls = .type "list" ∧ o.dict = none ∧ o.data = .seq its n ∧ its.size ≤ sizeLine ∧ Vals xs its.toList
/-- an instance that is never written again -/
def ObAt (H : Hp) (as : List Addr) (c : Str) (ks : List Str) (a : Addr) (xs : List V) : Prop :=
  ∃ C dx, K.mg c = some (.ref C) ∧ H a = some (.ins C dx (ks.zip xs)) ∧ H dx = some (.own a) ∧ ks.length = xs.length ∧ Nm hs as a ∧ Nm hs as dx
/-- what is known of an exception's object -/
def exPhi (a C d : Addr) : Heap → Prop := fun h => ∃ oe vs, h.get? a = some oe ∧ oe.cls = .ref C ∧ oe.dict = some d ∧ oe.data = .fields vs ∧ vs[1]? = some .none
def ErAt (H : Hp) (as : List Addr) (c : Str) (ks : List Str) (a : Addr) (xs : List V) : Prop :=
  ∃ C d, K.mg c = some (.ref C) ∧ H a = some (.ext (exPhi a C d)) ∧ H d = some (.xd (ks.zip xs)) ∧ ks.length = xs.length ∧ Nm hs as a ∧ Nm hs as d
/-- a tuple that is known to have no attributes -/
def TudAt (H : Hp) (as : List Addr) (a : Addr) (xs : List V) : Prop := ∃ o : Obj, H a = some (.frz o (.tup xs)) ∧ o.cls = .type "tuple" ∧ o.dict = none ∧ Nm hs as a
/-- a dict with text keys that is never written -/
def DcAt (H : Hp) (as : List Addr) (ks : List Str) (a : Addr) (xs : List V) : Prop :=
  ks.length = xs.length ∧ ((∃ kvs, H a = some (.dK kvs) ∧ Nm hs as a ∧ ∀ z, valV kvs (.inr z) = (ks.zip xs).lookup z) ∨
    ∃ es n, KDict K.K K.w a es n ∧ ∀ z, ∃ r, PySem.W.nsIn K.K a z = some r ∧ RelO ((ks.zip xs).lookup z) r)
end
section
variable {K : Pm} {hs : List Addr} {H : Hp} {as : List Addr} {a : Addr} {xs : List V}
theorem TupAt.sq (h : TupAt K hs H as a xs) : SqT K.K H a xs := by
  rcases h with ⟨h, _⟩ | h
  · exact .inl (.inl h)
  · exact .inr h
theorem TudAt.sq (h : TudAt hs H as a xs) : SqT K.K H a xs := by
  obtain ⟨o, h, _⟩ := h
  exact .inl (.inr ⟨o, h⟩)
theorem FzAt.sq {K : Pm} (h : FzAt hs H as a xs) : SqL K.K H a xs := .inl (.inl h.1)
theorem WrAt.sq (h : WrAt K hs H as a xs) : SqL K.K H a xs := by
  rcases h with ⟨o, h, _⟩ | h
  · exact .inl (.inr ⟨o, h⟩)
  · exact .inr h
end
section
variable (K : Pm) (hs : List Addr)
mutual
/-- a value of the store's against one of the layer's -/
inductive RV (H : Hp) (as : List Addr) : Val → V → Prop
  | non : RV H as .non .non
  | bl (b : Bool) : RV H as (.bl b) (.bl b)
  | int (i : Int) : RV H as (.int i) (.int i)
  | str (x : Str) : RV H as (.str x) (.str x)
  | ty (n : String) : RV H as (.ty n) (.ty n)
  | ref {k : Nat} {a : Addr} : as[k]? = some a → RV H as (.ref k) (.ref a)
  | tup {vs : List Val} {a : Addr} {xs : List V} : TupAt K hs H as a xs → RVs H as vs xs → RV H as (.tup vs) (.ref a)
  | fz {vs : List Val} {a : Addr} {xs : List V} : FzAt hs H as a xs → RVs H as vs xs → RV H as (.fz vs) (.ref a)
  | wr {vs : List Val} {a : Addr} {xs : List V} : WrAt K hs H as a xs → RVs H as vs xs → RV H as (.wr vs) (.ref a)
  | ob {c : Str} {ks : List Str} {vs : List Val} {a : Addr} {xs : List V} : ObAt K hs H as c ks a xs → RVs H as vs xs → RV H as (.ob c ks vs) (.ref a)
  | er {c : Str} {ks : List Str} {vs : List Val} {a : Addr} {xs : List V} : ErAt K hs H as c ks a xs → RVs H as vs xs → RV H as (.er c ks vs) (.ref a)
  | tud {vs : List Val} {a : Addr} {xs : List V} : TudAt hs H as a xs → RVs H as vs xs → RV H as (.tud vs) (.ref a)
  | dc {ks : List Str} {vs : List Val} {a : Addr} {xs : List V} : DcAt K hs H as ks a xs → RVs H as vs xs → RV H as (.dc ks vs) (.ref a)
inductive RVs (H : Hp) (as : List Addr) : List Val → List V → Prop
  | nil : RVs H as [] []
  | cons {v : Val} {x : V} {vs : List Val} {xs : List V} : RV H as v x → RVs H as vs xs → RVs H as (v :: vs) (x :: xs)
end
/-- an object of the store's at its address -/
def RO (H : Hp) (as : List Addr) (a : Addr) : Ob → Prop
  | .lst vs => ∃ xs, H a = some (.lst xs) ∧ RVs K hs H as vs xs
  | .ins c ks vs => ∃ C dx xs, K.mg c = some (.ref C) ∧ H a = some (.ins C dx (ks.zip xs)) ∧ H dx = some (.own a) ∧ ks.length = xs.length ∧ Nm hs as dx ∧ RVs K hs H as vs xs
structure RS (H : Hp) (as : List Addr) (S : Store) : Prop where
  len : as.length = S.length
  nd : as.Nodup
  at_ : ∀ (k : Nat) (a : Addr) (o : Ob), as[k]? = some a → S[k]? = some o → RO K hs H as a o
  hid : ∀ h ∈ hs, ∃ o, H h = some o
  dis : ∀ a ∈ as, a ∉ hs
def RR (H : Hp) (as : List Addr) : Rho → L2.St → Prop := fun r σ => r.length = σ.length ∧ ∀ (i : Nat) v, r[i]? = some (some v) → ∃ x, σ[i]? = some (some x) ∧ RV K hs H as v x
/-- an exception: its class, its own dict -/
def RX (H : Hp) (as : List Addr) (e : Exc) (C d : Addr) : Prop := K.mg e.c = some (.ref C) ∧ ∃ xs, H d = some (.xd (e.ks.zip xs)) ∧ e.ks.length = xs.length ∧ Nm hs as d ∧ RVs K hs H as e.vs xs
end
/-- an object stays; a table may grow -/
def Ke (o : HO) (u : Option HO) : Prop := u = some o ∨ ∃ ps qs, o = .tbl ps ∧ u = some (.tbl qs)
/-- all but cells and what is hidden stays; new cells are new objects -/
structure Kp (hs as bs : List Addr) (H H' : Hp) : Prop where
  keep : ∀ a o, H a = some o → a ∉ as → a ∉ hs → Ke o (H' a)
  fresh : ∀ a ∈ bs, a ∈ as ∨ H a = none
abbrev Ks := Kp []
section
variable {K : Pm} {hs hs' : List Addr} {H H' H'' : Hp} {as bs cs : List Addr} {S S' : Store} {v w : Val} {x y : V} {vs : List Val} {xs : List V} {r : Rho} {σ : L2.St}
theorem Ke.is {o : HO} {u : Option HO} (h : Ke o u) : ∃ q, u = some q := by
  rcases h with h | ⟨_, qs, _, h⟩
  · exact ⟨_, h⟩
  · exact ⟨_, h⟩
theorem Ke.get {o : HO} {u : Option HO} (h : Ke o u) (t : ∀ ps, o ≠ .tbl ps) : u = some o := by
  rcases h with h | ⟨ps, _, e, _⟩
  · exact h
  · exact absurd e (t ps)
theorem Kp.refl : Kp hs as as H H := ⟨fun _ _ h _ _ => .inl h, fun _ h => .inl h⟩
theorem Kp.gone (k : Kp hs as bs H H') {q : Addr} (n : q ∉ as) (m : q ∉ hs) (e : H' q = none) : H q = none := by
  cases h : H q with
  | none => rfl
  | some o =>
    obtain ⟨u, hu⟩ := (k.keep q o h n m).is
    rw [hu] at e
    cases e
/-- what is no cell becomes none -/
theorem Kp.out (k : Kp hs as bs H H') {q : Addr} {o : HO} (e : H q = some o) (n : q ∉ as) : q ∉ bs := fun m => (k.fresh q m).elim n fun z => by rw [z] at e; cases e
theorem Kp.trans (a : Kp hs as bs H H') (b : Kp hs bs cs H' H'') (d : ∀ q ∈ cs, q ∉ hs) : Kp hs as cs H H'' := by
  refine ⟨fun q o e n m => ?_, fun q hq => ?_⟩
  · have h1 := a.keep q o e n m
    rcases h1 with h1 | ⟨ps, qs, e1, h1⟩
    · exact b.keep q o h1 (a.out e n) m
    · subst e1
      rcases b.keep q _ h1 (a.out e n) m with h2 | ⟨ps', qs', e2, h2⟩
      · exact .inr ⟨ps, qs, rfl, h2⟩
      · exact .inr ⟨ps, qs', rfl, h2⟩
  · rcases b.fresh q hq with h | h
    · exact a.fresh q h
    · by_cases z : q ∈ as
      · exact .inl z
      · exact .inr (a.gone z (d q hq) h)
theorem Ks.trans (a : Ks as bs H H') (b : Ks bs cs H' H'') : Ks as cs H H'' := Kp.trans a b fun _ _ => by simp
theorem Ks.to (k : Ks as bs H H') : Kp hs as bs H H' := ⟨fun a o e n m => k.keep a o e n (by simp), k.fresh⟩
theorem Kp.nm (k : Kp hs as bs H H') {a : Addr} {o : HO} (e : H a = some o) (n : Nm hs as a) : Nm hs bs a := ⟨k.out e n.1, n.2⟩
theorem Kp.get (k : Kp hs as bs H H') {a : Addr} {o : HO} (e : H a = some o) (n : Nm hs as a) (t : ∀ ps, o ≠ .tbl ps := by intro _ h; cases h) : H' a = some o := (k.keep a o e n.1 n.2).get t
theorem Kp.tupAt (k : Kp hs as bs H H') {a : Addr} {xs : List V} (h : TupAt K hs H as a xs) : TupAt K hs H' bs a xs := by
  rcases h with ⟨h, n⟩ | h
  · exact .inl ⟨k.get h n, k.nm h n⟩
  · exact .inr h
theorem Kp.fzAt (k : Kp hs as bs H H') {a : Addr} {xs : List V} (h : FzAt hs H as a xs) : FzAt hs H' bs a xs := ⟨k.get h.1 h.2, k.nm h.1 h.2⟩
theorem Kp.wrAt (k : Kp hs as bs H H') {a : Addr} {xs : List V} (h : WrAt K hs H as a xs) : WrAt K hs H' bs a xs := by
  rcases h with ⟨o, h, n⟩ | h
  · exact .inl ⟨o, k.get h n, k.nm h n⟩
  · exact .inr h
theorem Kp.obAt (k : Kp hs as bs H H') {c : Str} {ks : List Str} {a : Addr} {xs : List V} (h : ObAt K hs H as c ks a xs) : ObAt K hs H' bs c ks a xs := by
  obtain ⟨C, dx, h1, h2, h3, h4, n1, n2⟩ := h
  exact ⟨C, dx, h1, k.get h2 n1, k.get h3 n2, h4, k.nm h2 n1, k.nm h3 n2⟩
theorem Kp.erAt (k : Kp hs as bs H H') {c : Str} {ks : List Str} {a : Addr} {xs : List V} (h : ErAt K hs H as c ks a xs) : ErAt K hs H' bs c ks a xs := by
  obtain ⟨C, d, h1, h2, h3, h4, n1, n2⟩ := h
  exact ⟨C, d, h1, k.get h2 n1, k.get h3 n2, h4, k.nm h2 n1, k.nm h3 n2⟩
theorem Kp.tudAt (k : Kp hs as bs H H') {a : Addr} {xs : List V} (h : TudAt hs H as a xs) : TudAt hs H' bs a xs := by
  obtain ⟨o, h1, h2, h3, n⟩ := h
  exact ⟨o, k.get h1 n, h2, h3, k.nm h1 n⟩
theorem Kp.dcAt (k : Kp hs as bs H H') {ks : List Str} {a : Addr} {xs : List V} (h : DcAt K hs H as ks a xs) : DcAt K hs H' bs ks a xs := by
  obtain ⟨l, ⟨kvs, h1, n1, h2⟩ | h⟩ := h
  · exact ⟨l, .inl ⟨kvs, k.get h1 n1, k.nm h1 n1, h2⟩⟩
  · exact ⟨l, .inr h⟩
theorem pre_get (p : as <+: bs) {k : Nat} {a : Addr} (h : as[k]? = some a) : bs[k]? = some a := by
  obtain ⟨t, rfl⟩ := p
  obtain ⟨hk, _⟩ := List.getElem?_eq_some_iff.mp h
  rw [List.getElem?_append_left hk]
  exact h
mutual
theorem RV.mono (p : as <+: bs) (k : Kp hs as bs H H') : ∀ {v : Val} {x : V}, RV K hs H as v x → RV K hs H' bs v x
  | _, _, .non => .non
  | _, _, .bl b => .bl b
  | _, _, .int i => .int i
  | _, _, .str z => .str z
  | _, _, .ty n => .ty n
  | _, _, .ref h => .ref (pre_get p h)
  | _, _, .tup h t => .tup (k.tupAt h) (RVs.mono p k t)
  | _, _, .fz h t => .fz (k.fzAt h) (RVs.mono p k t)
  | _, _, .wr h t => .wr (k.wrAt h) (RVs.mono p k t)
  | _, _, .ob h t => .ob (k.obAt h) (RVs.mono p k t)
  | _, _, .er h t => .er (k.erAt h) (RVs.mono p k t)
  | _, _, .dc h t => .dc (k.dcAt h) (RVs.mono p k t)
  | _, _, .tud h t => .tud (k.tudAt h) (RVs.mono p k t)
theorem RVs.mono (p : as <+: bs) (k : Kp hs as bs H H') : ∀ {vs : List Val} {xs : List V}, RVs K hs H as vs xs → RVs K hs H' bs vs xs
  | _, _, .nil => .nil
  | _, _, .cons h t => .cons (RV.mono p k h) (RVs.mono p k t)
end
/-- other things hidden -/
def Hd (hs hs' : List Addr) (H : Hp) : Prop := ∀ a o, H a = some o → a ∉ hs → a ∉ hs'
theorem Hd.nm (f : Hd hs hs' H) {a : Addr} {o : HO} (e : H a = some o) (n : Nm hs as a) : Nm hs' as a := ⟨n.1, f a o e n.2⟩
mutual
theorem RV.re (f : Hd hs hs' H) : ∀ {v : Val} {x : V}, RV K hs H as v x → RV K hs' H as v x
  | _, _, .non => .non
  | _, _, .bl b => .bl b
  | _, _, .int i => .int i
  | _, _, .str z => .str z
  | _, _, .ty n => .ty n
  | _, _, .ref h => .ref h
  | _, _, .tup h t => .tup (h.elim (fun h => .inl ⟨h.1, f.nm h.1 h.2⟩) .inr) (RVs.re f t)
  | _, _, .fz h t => .fz ⟨h.1, f.nm h.1 h.2⟩ (RVs.re f t)
  | _, _, .wr h t => .wr (h.elim (fun ⟨o, h, n⟩ => .inl ⟨o, h, f.nm h n⟩) .inr) (RVs.re f t)
  | _, _, .ob ⟨C, dx, h1, h2, h3, h4, n1, n2⟩ t => .ob ⟨C, dx, h1, h2, h3, h4, f.nm h2 n1, f.nm h3 n2⟩ (RVs.re f t)
  | _, _, .er ⟨C, dx, h1, h2, h3, h4, n1, n2⟩ t => .er ⟨C, dx, h1, h2, h3, h4, f.nm h2 n1, f.nm h3 n2⟩ (RVs.re f t)
  | _, _, .tud ⟨o, h1, h2, h3, n⟩ t => .tud ⟨o, h1, h2, h3, f.nm h1 n⟩ (RVs.re f t)
  | _, _, .dc ⟨l, h⟩ t => .dc ⟨l, h.elim (fun ⟨kvs, h1, n1, h2⟩ => .inl ⟨kvs, h1, f.nm h1 n1, h2⟩) .inr⟩ (RVs.re f t)
theorem RVs.re (f : Hd hs hs' H) : ∀ {vs : List Val} {xs : List V}, RVs K hs H as vs xs → RVs K hs' H as vs xs
  | _, _, .nil => .nil
  | _, _, .cons h t => .cons (RV.re f h) (RVs.re f t)
end
theorem RVs.length : ∀ {vs : List Val} {xs : List V}, RVs K hs H as vs xs → vs.length = xs.length
  | _, _, .nil => rfl
  | _, _, .cons _ t => congrArg Nat.succ (RVs.length t)
theorem RVs.get : ∀ {vs : List Val} {xs : List V}, RVs K hs H as vs xs → ∀ {i : Nat} {v : Val}, vs[i]? = some v → ∃ x, xs[i]? = some x ∧ RV K hs H as v x
  | _, _, .nil, i, v, h => by simp at h
  | _, _, .cons h _, 0, v, e => by
    simp at e
    subst e
    exact ⟨_, rfl, h⟩
  | _, _, .cons _ t, i + 1, v, e => by
    obtain ⟨x, h1, h2⟩ := RVs.get t (i := i) (v := v) (by simpa using e)
    exact ⟨x, by simpa using h1, h2⟩
theorem RVs.none_of (h : RVs K hs H as vs xs) {i : Nat} (e : vs[i]? = none) : xs[i]? = none := by
  have l := h.length
  rw [List.getElem?_eq_none_iff] at e ⊢
  omega
theorem RVs.append : ∀ {vs : List Val} {xs : List V}, RVs K hs H as vs xs → ∀ {ws : List Val} {ys : List V}, RVs K hs H as ws ys → RVs K hs H as (vs ++ ws) (xs ++ ys)
  | _, _, .nil, _, _, t => t
  | _, _, .cons h t, _, _, u => .cons h (RVs.append t u)
theorem RVs.take : ∀ {vs : List Val} {xs : List V} (n : Nat), RVs K hs H as vs xs → RVs K hs H as (vs.take n) (xs.take n)
  | _, _, 0, _ => .nil
  | _, _, _ + 1, .nil => .nil
  | _, _, n + 1, .cons h t => .cons h (RVs.take n t)
theorem RVs.drop : ∀ {vs : List Val} {xs : List V} (n : Nat), RVs K hs H as vs xs → RVs K hs H as (vs.drop n) (xs.drop n)
  | _, _, 0, h => h
  | _, _, _ + 1, .nil => .nil
  | _, _, n + 1, .cons h t => RVs.drop n t
theorem RVs.reverse : ∀ {vs : List Val} {xs : List V}, RVs K hs H as vs xs → RVs K hs H as vs.reverse xs.reverse
  | _, _, .nil => .nil
  | _, _, .cons h t => by
    rw [List.reverse_cons, List.reverse_cons]
    exact (RVs.reverse t).append (.cons h .nil)
theorem RVs.set (h : RV K hs H as v x) : ∀ {vs : List Val} {xs : List V} (i : Nat), RVs K hs H as vs xs → RVs K hs H as (vs.set i v) (xs.set i x)
  | _, _, _, .nil => .nil
  | _, _, 0, .cons _ t => .cons h t
  | _, _, i + 1, .cons q t => .cons q (RVs.set h i t)
theorem RVs.rep (h : RVs K hs H as vs xs) : ∀ n : Nat, RVs K hs H as (List.replicate n vs).flatten (List.replicate n xs).flatten
  | 0 => .nil
  | n + 1 => by
    rw [List.replicate_succ, List.replicate_succ, List.flatten_cons, List.flatten_cons]
    exact h.append (RVs.rep h n)
theorem RVs.ints : ∀ (ns : List Int), RVs K hs H as (ns.map .int) (ns.map .int)
  | [] => .nil
  | n :: ns => .cons (.int n) (RVs.ints ns)
theorem RO.mono (p : as <+: bs) (k : Kp hs as bs H H') {a : Addr} (e : H' a = H a) : ∀ {o : Ob}, RO K hs H as a o → RO K hs H' bs a o
  | .lst _, ⟨xs, h, t⟩ => ⟨xs, e.trans h, t.mono p k⟩
  | .ins _ _ _, ⟨C, dx, xs, h1, h2, h3, h4, n, t⟩ => ⟨C, dx, xs, h1, e.trans h2, k.get h3 n, h4, k.nm h3 n, t.mono p k⟩
theorem RO.some {a : Addr} : ∀ {o : Ob}, RO K hs H as a o → ∃ h, H a = some h
  | .lst _, ⟨_, h, _⟩ => ⟨_, h⟩
  | .ins _ _ _, ⟨_, _, _, _, h, _⟩ => ⟨_, h⟩
theorem RO.re (f : Hd hs hs' H) {a : Addr} : ∀ {o : Ob}, RO K hs H as a o → RO K hs' H as a o
  | .lst _, ⟨xs, h, t⟩ => ⟨xs, h, t.re f⟩
  | .ins _ _ _, ⟨C, dx, xs, h1, h2, h3, h4, n, t⟩ => ⟨C, dx, xs, h1, h2, h3, h4, f.nm h3 n, t.re f⟩
theorem RS.get (rs : RS K hs H as S) {k : Nat} {o : Ob} (h : S[k]? = Option.some o) : ∃ a, as[k]? = Option.some a ∧ RO K hs H as a o := by
  obtain ⟨hk, _⟩ := List.getElem?_eq_some_iff.mp h
  have hk2 : k < as.length := by rw [rs.len]; exact hk
  exact ⟨as[k], List.getElem?_eq_getElem hk2, rs.at_ k _ o (List.getElem?_eq_getElem hk2) h⟩
theorem RS.get' (rs : RS K hs H as S) {k : Nat} {a : Addr} (h : as[k]? = Option.some a) : ∃ o, S[k]? = Option.some o ∧ RO K hs H as a o := by
  obtain ⟨hk, _⟩ := List.getElem?_eq_some_iff.mp h
  have hk2 : k < S.length := by rw [← rs.len]; exact hk
  exact ⟨S[k], List.getElem?_eq_getElem hk2, rs.at_ k a _ h (List.getElem?_eq_getElem hk2)⟩
theorem RS.dom (rs : RS K hs H as S) {p : Addr} (hp : p ∈ as) : ∃ o, H p = some o := by
  obtain ⟨k, hk, e⟩ := List.getElem_of_mem hp
  obtain ⟨o, _, ro⟩ := rs.get' (k := k) (a := p) (by rw [← e]; exact List.getElem?_eq_getElem hk)
  exact ro.some
/-- nothing of the store lies at a free address -/
theorem RS.free (rs : RS K hs H as S) {p : Addr} (h : H p = none) : p ∉ as := fun hp => by
  obtain ⟨u, hu⟩ := rs.dom hp
  rw [h] at hu
  cases hu
theorem RS.nohid (rs : RS K hs H as S) {p : Addr} (h : H p = none) : p ∉ hs := fun hp => by
  obtain ⟨u, hu⟩ := rs.hid p hp
  rw [h] at hu
  cases hu
theorem RS.nm (rs : RS K hs H as S) {p : Addr} (h : H p = none) : Nm hs as p := ⟨rs.free h, rs.nohid h⟩
theorem Kp.write {p : Addr} {o : HO} (h : p ∈ as) : Kp hs as as H (upd H p o) := ⟨fun a u e n m => by
  rw [upd_ne (fun z => n (by rw [z]; exact h))]
  exact .inl e, fun _ h => .inl h⟩
theorem Kp.writeH {p : Addr} {o : HO} (h : p ∈ hs) : Kp hs as as H (upd H p o) := ⟨fun a u e n m => by
  rw [upd_ne (fun z => m (by rw [z]; exact h))]
  exact .inl e, fun _ h => .inl h⟩
theorem Kp.new {p : Addr} {o : HO} (h : H p = none) : Kp hs as as H (upd H p o) := ⟨fun a u e n m => by
  rw [upd_ne (fun z => by rw [z, h] at e; cases e)]
  exact .inl e, fun _ h => .inl h⟩
theorem Kp.newC {p : Addr} {o : HO} (h : H p = none) : Kp hs as (as ++ [p]) H (upd H p o) := ⟨(Kp.new h).keep, fun q hq => by
  rcases List.mem_append.mp hq with z | z
  · exact .inl z
  · rw [List.mem_singleton.mp z]
    exact .inr h⟩
/-- cells as they were over another heap -/
theorem RS.mono (rs : RS K hs H as S) (k : Ks as as H H') (e : ∀ a ∈ as, H' a = H a) : RS K hs H' as S := by
  refine ⟨rs.len, rs.nd, fun j a o hk ho => (rs.at_ j a o hk ho).mono (List.prefix_refl _) k.to (e a (List.mem_of_getElem? hk)), fun h hh => ?_, rs.dis⟩
  obtain ⟨o, ho⟩ := rs.hid h hh
  by_cases z : h ∈ as
  · exact absurd hh (rs.dis h z)
  · exact (k.keep h o ho z (by simp)).is
theorem RS.new (rs : RS K hs H as S) {p : Addr} {o : HO} (h : H p = none) : RS K hs (upd H p o) as S := rs.mono (Kp.new h) fun a ha => upd_ne fun z => rs.free h (by rw [← z]; exact ha)
/-- a new object -/
theorem RS.push (rs : RS K hs H as S) {p : Addr} {o : HO} {ob : Ob} (h : H p = none) (new : RO K hs (L2.upd H p o) (as ++ [p]) p ob) : RS K hs (L2.upd H p o) (as ++ [p]) (S ++ [ob]) := by
  have np := rs.free h
  refine ⟨by simp [rs.len], ?_, fun k a u hk hu => ?_, fun q hq => ?_, fun a ha => ?_⟩
  · rw [List.nodup_append]
    refine ⟨rs.nd, by simp, fun a ha b hb => ?_⟩
    rw [List.mem_singleton] at hb
    rintro rfl
    exact np (hb ▸ ha)
  · by_cases hlt : k < as.length
    · rw [List.getElem?_append_left hlt] at hk
      rw [List.getElem?_append_left (by rw [← rs.len]; exact hlt)] at hu
      have ro := rs.at_ k a u hk hu
      have hne : a ≠ p := fun e => np (e ▸ List.mem_of_getElem? hk)
      exact ro.mono (List.prefix_append _ _) (Kp.newC h) (upd_ne hne)
    · have hle : as.length ≤ k := Nat.le_of_not_lt hlt
      rw [List.getElem?_append_right hle] at hk
      rw [List.getElem?_append_right (by rw [← rs.len]; exact hle)] at hu
      have e0 : k - as.length = 0 := by
        by_cases z : k - as.length = 0
        · exact z
        · obtain ⟨m, hm⟩ := Nat.exists_eq_succ_of_ne_zero z
          rw [hm] at hk
          simp at hk
      have e1 : k - S.length = 0 := by rw [← rs.len]; exact e0
      rw [e0] at hk
      rw [e1] at hu
      cases hk
      cases hu
      exact new
  · obtain ⟨u, hu⟩ := rs.hid q hq
    rw [upd_ne (fun z => rs.nohid h (by rw [← z]; exact hq))]
    exact ⟨u, hu⟩
  · rcases List.mem_append.mp ha with z | z
    · exact rs.dis a z
    · rw [List.mem_singleton.mp z]
      exact rs.nohid h
theorem RS.uniq (rs : RS K hs H as S) {k j : Nat} {a : Addr} (hk : as[k]? = Option.some a) (hj : as[j]? = Option.some a) : k = j := by
  obtain ⟨h1, e1⟩ := List.getElem?_eq_some_iff.mp hk
  obtain ⟨h2, e2⟩ := List.getElem?_eq_some_iff.mp hj
  have pw := List.pairwise_iff_getElem.mp rs.nd
  rcases Nat.lt_trichotomy k j with q | q | q
  · exact absurd (e1.trans e2.symm) (pw k j h1 h2 q)
  · exact q
  · exact absurd (e2.trans e1.symm) (pw j k h2 h1 q)
/-- a cell is written -/
theorem RS.put (rs : RS K hs H as S) {k : Nat} {a : Addr} {o : HO} {ob : Ob} (hk : as[k]? = Option.some a) (h : RO K hs (upd H a o) as a ob) : RS K hs (upd H a o) as (S.set k ob) := by
  have ha : a ∈ as := List.mem_of_getElem? hk
  have kp : Kp hs as as H (upd H a o) := Kp.write ha
  refine ⟨by simp [rs.len], rs.nd, fun j b u hj hu => ?_, fun q hq => ?_, rs.dis⟩
  · by_cases e : k = j
    · subst e
      rw [hk] at hj
      cases hj
      obtain ⟨hl, _⟩ := List.getElem?_eq_some_iff.mp hu
      rw [List.length_set] at hl
      rw [List.getElem?_set_self hl] at hu
      cases hu
      exact h
    · rw [List.getElem?_set_ne e] at hu
      have ne : b ≠ a := fun z => e (rs.uniq hk (z ▸ hj))
      exact (rs.at_ j b u hj hu).mono (List.prefix_refl _) kp (upd_ne ne)
  · obtain ⟨u, hu⟩ := rs.hid q hq
    rw [upd_ne (fun z => rs.dis a ha (by rw [← z]; exact hq))]
    exact ⟨u, hu⟩
/-- a list is written -/
theorem RS.write (rs : RS K hs H as S) {k : Nat} {a : Addr} {zs : List V} (hk : as[k]? = Option.some a) {ws : List Val} (h : RVs K hs H as ws zs) : RS K hs (L2.upd H a (.lst zs)) as (S.set k (.lst ws)) :=
  rs.put hk ⟨zs, upd_same, h.mono (List.prefix_refl _) (Kp.write (List.mem_of_getElem? hk))⟩
theorem RS.re (f : Hd hs hs' H) (hd : ∀ h ∈ hs', ∃ o, H h = some o) (rs : RS K hs H as S) : RS K hs' H as S := ⟨rs.len, rs.nd, fun k a o hk ho => (rs.at_ k a o hk ho).re f, hd, fun a ha => by
  obtain ⟨o, ho⟩ := rs.dom ha
  exact f a o ho (rs.dis a ha)⟩
theorem RR.mono (p : as <+: bs) (k : Kp hs as bs H H') (h : RR K hs H as r σ) : RR K hs H' bs r σ := ⟨h.1, fun i v e => by
  obtain ⟨x, h1, h2⟩ := h.2 i v e
  exact ⟨x, h1, h2.mono p k⟩⟩
theorem RR.re (f : Hd hs hs' H) (h : RR K hs H as r σ) : RR K hs' H as r σ := ⟨h.1, fun i v e => by
  obtain ⟨x, h1, h2⟩ := h.2 i v e
  exact ⟨x, h1, h2.re f⟩⟩
theorem RR.set (h : RR K hs H as r σ) (hv : RV K hs H as v x) (i : Nat) : RR K hs H as (r.set i (some v)) (σ.set i (some x)) := by
  refine ⟨by simp [h.1], fun j w e => ?_⟩
  by_cases q : i = j
  · subst q
    obtain ⟨hl, e2⟩ := List.getElem?_eq_some_iff.mp e
    rw [List.length_set] at hl
    rw [List.getElem?_set_self hl] at e
    cases e
    exact ⟨x, List.getElem?_set_self (by rw [← h.1]; exact hl), hv⟩
  · rw [List.getElem?_set_ne q] at e ⊢
    exact h.2 j w e
theorem RR.wipe (h : RR K hs H as r σ) : ∀ own : List Nat, RR K hs H as (Mv.wipe r own) (L2.wipe σ own)
  | [] => h
  | i :: own => by
    have q := RR.wipe h own
    show RR K hs H as ((Mv.wipe r own).set i none) ((L2.wipe σ own).set i none)
    refine ⟨by simp [q.1], fun j w e => ?_⟩
    by_cases z : i = j
    · subst z
      obtain ⟨hl, e2⟩ := List.getElem?_eq_some_iff.mp e
      rw [List.length_set] at hl
      rw [List.getElem?_set_self hl] at e
      cases e
    · rw [List.getElem?_set_ne z] at e ⊢
      exact q.2 j w e
end

/-! ### what an outcome promises -/
section
variable (K : Pm) (hs : List Addr)
def Fin {α β : Type} (W : XK) (Rel : Hp → List Addr → α → β → Prop) (as : List Addr) (H : Hp) (o : Out α) (Q : β → Hp → Prop) : Prop := match o with
  | .ok a S' => ∀ bs H' b, as <+: bs → Ks as bs H H' → RS K hs H' bs S' → Rel H' bs a b → Q b H'
  | .ex e S' => ∀ bs H' C d, as <+: bs → Ks as bs H H' → RS K hs H' bs S' → RX K hs H' bs e C d → W (.ref C) (some d) H'
  | .no => False
abbrev FinV (W : XK) := Fin K hs W (RV K hs)
abbrev FinB (W : XK) := Fin K hs W (fun _ _ (a b : Bool) => a = b)
abbrev FinA (W : XK) := Fin K hs W (RVs K hs)
abbrev FinO (W : XK) := Fin K hs W (fun _ _ (a b : Option Int) => a = b)
end
section
variable {K : Pm} {hs : List Addr} {W : XK} {α β γ : Type} {Rel : Hp → List Addr → α → β → Prop} {as bs : List Addr} {H H' : Hp} {o : Out α} {Q : β → Hp → Prop} {S : Store}
theorem Fin.mono (p : as <+: bs) (k : Ks as bs H H') (h : Fin K hs W Rel as H o Q) : Fin K hs W Rel bs H' o Q := by
  cases o with
  | ok a S' => exact fun cs H2 b p2 k2 rs r => h cs H2 b (p.trans p2) (k.trans k2) rs r
  | ex e S' => exact fun cs H2 C d p2 k2 rs r => h cs H2 C d (p.trans p2) (k.trans k2) rs r
  | no => exact h
theorem Fin.ok {a : α} {b : β} (h : Fin K hs W Rel as H (.ok a S) Q) (rs : RS K hs H as S) (r : Rel H as a b) : Q b H := h as H b (List.prefix_refl _) Kp.refl rs r
/-- an object that is no cell is made -/
theorem Fin.new {a : α} {b : β} {p : Addr} {ho : HO} (h : Fin K hs W Rel as H (.ok a S) Q) (rs : RS K hs H as S) (hp : H p = none) (r : Rel (upd H p ho) as a b) : Q b (upd H p ho) := h as _ b (List.prefix_refl _) (Kp.new hp) (rs.new hp) r
/-- a new list -/
theorem fin_mk {m : Bool} {vs : List Val} {xs : List V} {Q : V → Hp → Prop} (h : FinV K hs W as H (mkL m S vs) Q) (rs : RS K hs H as S) (r : RVs K hs H as vs xs) (p : Addr) (hp : H p = none) : Q (.ref p) (upd H p (.lst xs)) := by
  cases m with
  | true =>
    have kp : Kp hs as (as ++ [p]) H (upd H p (.lst xs)) := Kp.newC hp
    refine h (as ++ [p]) _ (.ref p) (List.prefix_append _ _) (Kp.newC hp) (rs.push hp ⟨xs, upd_same, r.mono (List.prefix_append _ _) kp⟩) (.ref ?_)
    rw [← rs.len, List.getElem?_append_right (Nat.le_refl _), Nat.sub_self]
    rfl
  | false => exact Fin.new h rs hp (.fz ⟨upd_same, rs.nm hp⟩ (r.mono (List.prefix_refl _) (Kp.new hp)))
theorem fin_fz {vs : List Val} {xs : List V} {Q : V → Hp → Prop} (h : FinV K hs W as H (.ok (.fz vs) S) Q) (rs : RS K hs H as S) (r : RVs K hs H as vs xs) (p : Addr) (hp : H p = none) : Q (.ref p) (upd H p (.lst xs)) := fin_mk (m := false) h rs r p hp
/-- a new tuple -/
theorem fin_tup {vs : List Val} {xs : List V} {Q : V → Hp → Prop} (h : FinV K hs W as H (.ok (.tup vs) S) Q) (rs : RS K hs H as S) (r : RVs K hs H as vs xs) (p : Addr) (hp : H p = none) : Q (.ref p) (upd H p (.tup xs)) :=
  Fin.new h rs hp (.tup (.inl ⟨upd_same, rs.nm hp⟩) (r.mono (List.prefix_refl _) (Kp.new hp)))
/-- a list of the store's -/
theorem RS.seq (rs : RS K hs H as S) {k : Nat} {a : Addr} {vs : List Val} (h : seqAt S k = some vs) (hk : as[k]? = some a) : ∃ xs, H a = some (.lst xs) ∧ RVs K hs H as vs xs := by
  unfold seqAt at h
  split at h
  · rename_i ws e
    cases h
    exact rs.at_ k a _ hk e
  · cases h
theorem RS.lst (rs : RS K hs H as S) {k : Nat} {a : Addr} {vs : List Val} (h : S[k]? = some (.lst vs)) (hk : as[k]? = some a) : ∃ xs, H a = some (.lst xs) ∧ RVs K hs H as vs xs := rs.at_ k a _ hk h
theorem RS.lstV (rs : RS K hs H as S) {v : Val} {x : V} {vs : List Val} (h : Mv.lstV S v = some vs) (r : RV K hs H as v x) : ∃ a xs, x = .ref a ∧ H a = some (.lst xs) ∧ RVs K hs H as vs xs := by
  cases r with
  | ref hk =>
    obtain ⟨xs, h1, t⟩ := rs.seq (show seqAt S _ = some vs from h) hk
    exact ⟨_, xs, rfl, h1, t⟩
  | fz hk t =>
    cases h
    exact ⟨_, _, rfl, hk.1, t⟩
  | _ => cases h
theorem RS.sqV (rs : RS K hs H as S) {v : Val} {x : V} {vs : List Val} (h : Mv.sqV S v = some vs) (r : RV K hs H as v x) : ∃ a xs, x = .ref a ∧ (SqT K.K H a xs ∨ SqL K.K H a xs) ∧ RVs K hs H as vs xs := by
  cases r with
  | ref hk =>
    obtain ⟨xs, h1, t⟩ := rs.seq (show seqAt S _ = some vs from h) hk
    exact ⟨_, xs, rfl, .inr (SqL.of h1), t⟩
  | fz hk t =>
    cases h
    exact ⟨_, _, rfl, .inr hk.sq, t⟩
  | tup hk t =>
    cases h
    exact ⟨_, _, rfl, .inl hk.sq, t⟩
  | tud hk t =>
    cases h
    exact ⟨_, _, rfl, .inl hk.sq, t⟩
  | _ => cases h
end

/-! ### data -/
section
variable {K : Pm} {hs : List Addr} {as : List Addr} {H : Hp} {S : Store}
theorem mapO_length {α β : Type} {f : α → Option β} : ∀ {xs : List α} {ys : List β}, mapO f xs = some ys → ys.length = xs.length
  | [], ys, h => by cases h; rfl
  | x :: xs, ys, h => by
    unfold mapO at h
    cases e : f x with
    | none => rw [e] at h; cases h
    | some b =>
      rw [e] at h
      cases e2 : mapO f xs with
      | none => rw [e2] at h; cases h
      | some bs =>
        rw [e2] at h
        cases h
        exact congrArg Nat.succ (mapO_length e2)
theorem mapO_cons {α β : Type} {f : α → Option β} {x : α} {xs : List α} {ys : List β} (h : mapO f (x :: xs) = some ys) : ∃ b bs, ys = b :: bs ∧ f x = some b ∧ mapO f xs = some bs := by
  unfold mapO at h
  cases e : f x with
  | none => rw [e] at h; cases h
  | some b =>
    rw [e] at h
    cases e2 : mapO f xs with
    | none => rw [e2] at h; cases h
    | some bs =>
      rw [e2] at h
      cases h
      exact ⟨b, bs, rfl, rfl, rfl⟩
theorem scalD_dp {v : Val} {x : V} {d : PyData} (h : scalD v = some d) (r : RV K hs H as v x) : Dp K.K H x d ∧ d.canLay0 = true ∧ d.depth = 0 := by
  cases r with
  | non => cases h; exact ⟨.non, by simp [PyData.canLay0], by simp [PyData.depth]⟩
  | bl b => cases h; exact ⟨.bl b, by simp [PyData.canLay0], by simp [PyData.depth]⟩
  | int i => cases h; exact ⟨.int i, by simp [PyData.canLay0], by simp [PyData.depth]⟩
  | str z =>
    have h : (if PyData.strOk z = true then some (PyData.str z) else none) = some d := h
    by_cases hz : PyData.strOk z = true
    · rw [if_pos hz] at h
      cases h
      exact ⟨.str z, by simpa [PyData.canLay0] using hz, by simp [PyData.depth]⟩
    · rw [if_neg hz] at h
      cases h
  | _ => cases h
theorem all_dp {f : Val → Option PyData} {n : Nat} (hf : ∀ {v : Val} {x : V} {d : PyData}, f v = some d → RV K hs H as v x → Dp K.K H x d ∧ d.canLay0 = true ∧ d.depth ≤ n) :
    ∀ {vs : List Val} {xs : List V} {ds : List PyData}, mapO f vs = some ds → RVs K hs H as vs xs → DpAll K.K H xs ds ∧ PyData.canLayAll0 ds = true ∧ PyData.depthAll ds ≤ n
  | _, _, ds, h, .nil => by
    cases h
    exact ⟨.nil, by simp [PyData.canLayAll0], by simp [PyData.depthAll]⟩
  | _, _, ds, h, .cons r t => by
    obtain ⟨b, bs, rfl, h1, h2⟩ := mapO_cons h
    obtain ⟨a1, a2, a3⟩ := hf h1 r
    obtain ⟨b1, b2, b3⟩ := all_dp hf h2 t
    exact ⟨.cons a1 b1, by simp [PyData.canLayAll0, a2, b2], by simp only [PyData.depthAll]; omega⟩
def flatB : Val → Bool
  | .tup _ => false
  | .tud _ => false
  | .fz _ => false
  | .ref _ => false
  | _ => true
theorem toD_scal (S : Store) {n : Nat} {v : Val} (h : flatB v = true) : toD S n v = scalD v := by
  cases n <;> cases v <;> first | rfl | cases h
theorem toD_dp (rs : RS K hs H as S) : ∀ (n : Nat) {v : Val} {x : V} {d : PyData}, toD S n v = some d → RV K hs H as v x → Dp K.K H x d ∧ d.canLay0 = true ∧ d.depth ≤ n
  | 0, v, x, d, h, r => by
    obtain ⟨a, b, c⟩ := scalD_dp (show scalD v = some d from h) r
    exact ⟨a, b, Nat.le_of_eq c⟩
  | n + 1, v, x, d, h, r => by
    have sc : flatB v = true → Dp K.K H x d ∧ d.canLay0 = true ∧ d.depth ≤ n + 1 := fun q => by
      obtain ⟨a, b, c⟩ := scalD_dp (show scalD v = some d from (toD_scal S q).symm.trans h) r
      exact ⟨a, b, by omega⟩
    cases r with
    | @tup vs a xs hs ht =>
      have h : (mapO (toD S n) vs).map PyData.tuple = some d := h
      cases e : mapO (toD S n) vs with
      | none => rw [e] at h; cases h
      | some ds =>
        rw [e] at h
        cases h
        obtain ⟨a1, a2, a3⟩ := all_dp (fun h r => toD_dp rs n h r) e ht
        exact ⟨.tup hs.sq a1, by simpa [PyData.canLay0] using a2, by simp only [PyData.depth]; omega⟩
    | @tud vs a xs hs ht =>
      have h : (mapO (toD S n) vs).map PyData.tuple = some d := h
      cases e : mapO (toD S n) vs with
      | none => rw [e] at h; cases h
      | some ds =>
        rw [e] at h
        cases h
        obtain ⟨a1, a2, a3⟩ := all_dp (fun h r => toD_dp rs n h r) e ht
        exact ⟨.tup hs.sq a1, by simpa [PyData.canLay0] using a2, by simp only [PyData.depth]; omega⟩
    | @fz vs a xs hs ht =>
      have h : (mapO (toD S n) vs).map PyData.list = some d := h
      cases e : mapO (toD S n) vs with
      | none => rw [e] at h; cases h
      | some ds =>
        rw [e] at h
        cases h
        obtain ⟨a1, a2, a3⟩ := all_dp (fun h r => toD_dp rs n h r) e ht
        exact ⟨.lst hs.sq a1, by simpa [PyData.canLay0] using a2, by simp only [PyData.depth]; omega⟩
    | @ref k a hk =>
      have h : ((seqAt S k).bind fun vs => (mapO (toD S n) vs).map PyData.list) = some d := h
      cases e0 : seqAt S k with
      | none => rw [e0] at h; cases h
      | some vs =>
        rw [e0] at h
        have h : (mapO (toD S n) vs).map PyData.list = some d := h
        cases e : mapO (toD S n) vs with
        | none => rw [e] at h; cases h
        | some ds =>
          rw [e] at h
          cases h
          obtain ⟨xs, hs, ht⟩ := rs.seq e0 hk
          obtain ⟨a1, a2, a3⟩ := all_dp (fun h r => toD_dp rs n h r) e ht
          exact ⟨.lst (SqL.of hs) a1, by simpa [PyData.canLay0] using a2, by simp only [PyData.depth]; omega⟩
    | _ => exact sc rfl
theorem datV_dp (rs : RS K hs H as S) {v : Val} {x : V} {d : PyData} (h : datV S v = some d) (r : RV K hs H as v x) : Dp K.K H x d ∧ SeqAt.shaped d = true := by
  obtain ⟨a, b, c⟩ := toD_dp rs 60 h r
  refine ⟨a, ?_⟩
  show (d.canLay0 && decide (d.depth ≤ 64)) = true
  rw [b, Bool.true_and]
  exact decide_eq_true (by omega)
theorem look_zip {f : Str} : ∀ {ks : List Str} {vs : List Val} {xs : List V} {v : Val}, RVs K hs H as vs xs → (ks.zip vs).lookup f = some v → ∃ x, (ks.zip xs).lookup f = some x ∧ RV K hs H as v x
  | [], vs, xs, v, t, h => by cases h
  | k :: ks, _, _, v, .nil, h => by cases h
  | k :: ks, _, _, v, .cons r t, h => by
    rw [List.zip_cons_cons, List.lookup_cons] at h
    rw [List.zip_cons_cons, List.lookup_cons]
    cases e : f == k with
    | true =>
      rw [e] at h
      cases h
      exact ⟨_, rfl, r⟩
    | false =>
      rw [e] at h
      exact look_zip t h
end
end Mv

/-! MvC: each operation of the evaluator by the hand layer's rule. -/
namespace Mv
open PySem PySem.Spec PyProof.Rows L2

def opOf : Bop → Operator
  | .add => .Add | .sub => .Sub | .mul => .Mult | .fdiv => .FloorDiv | .mod => .Mod | .pow => .Pow
def copOf : Cop → CmpOp
  | .eq => .Eq | .ne => .NotEq | .lt => .Lt | .le => .LtE | .gt => .Gt | .ge => .GtE | .inn => .In | .nin => .NotIn | .is => .Is | .isn => .IsNot
section
variable (K : Pm)
def rBin (op : Bop) : R2 := fun x y H Q => ∃ hs W as S v w, RS K hs H as S ∧ RV K hs H as v x ∧ RV K hs H as w y ∧ FinV K hs W as H (binV S op v w) Q
def rCat : R2 := fun x y H Q => ∃ hs W as S v w, RS K hs H as S ∧ RV K hs H as v x ∧ RV K hs H as w y ∧ FinV K hs W as H (catV S v w) Q
def rCmp (op : Cop) : R2 := fun x y H Q => ∃ hs as S v w b, RS K hs H as S ∧ RV K hs H as v x ∧ RV K hs H as w y ∧ cmpV S op v w = some b ∧ Q (.bl b) H
def rIdx : R2 := fun x y H Q => ∃ hs W as S v w, RS K hs H as S ∧ RV K hs H as v x ∧ RV K hs H as w y ∧ FinV K hs W as H (ofO S (idxV S v w)) Q
def rSlc (m : Bool) : V → Option Int → Option Int → Hp → VK → Prop := fun x lo hi H Q => ∃ hs W as S v, RS K hs H as S ∧ RV K hs H as v x ∧ FinV K hs W as H (slV m S v lo hi) Q
def rBlt (b : String) : List V → Hp → VK → Prop := fun xs H Q => ∃ hs W as S vs, RS K hs H as S ∧ RVs K hs H as vs xs ∧ FinV K hs W as H (bltV S b vs) Q
def rMth (T m : String) : V → List V → Hp → VK → Prop := fun x xs H Q => ∃ hs W as S v vs, RS K hs H as S ∧ RV K hs H as v x ∧ RVs K hs H as vs xs ∧ FinV K hs W as H (mthV S T m v vs) Q
end
section
variable {X : Cx}
theorem op_catC : OpR X (binaryOp .Add) (rCat (pm X)) := by
  intro pins s σ H x y v u Q I rx ry h
  obtain ⟨hs, W, as, S, a, b, rs, ra, rb, fin⟩ := h
  unfold catV at fin
  split at fin
  · rename_i e1 e2
    obtain ⟨a1, xs, rfl, h1, t1⟩ := rs.lstV e1 ra
    obtain ⟨a2, ys, rfl, h2, t2⟩ := rs.lstV e2 rb
    split at fin
    · rename_i hz
      have l1 := t1.length
      have l2 := t2.length
      exact op_cat pins s σ H _ _ v u Q I rx ry ⟨_, _, _, _, rfl, rfl, h1, h2, sz_le (by omega), fun p hp => fin_mk (m := true) fin rs (t1.append t2) p hp⟩
    · exact fin.elim
  · exact fin.elim
theorem op_bin {op : Bop} : OpR X (binaryOp (opOf op)) (rBin (pm X) op) := by
  intro pins s σ H x y v u Q I rx ry h
  obtain ⟨hs, W, as, S, a, b, rs, ra, rb, fin⟩ := h
  cases op with
  | add =>
    unfold binV at fin
    split at fin <;> first | contradiction | skip
    · cases ra; cases rb
      exact op_add pins s σ H _ _ v u Q I rx ry ⟨_, _, rfl, rfl, fin.ok rs (.int _)⟩
    · cases ra; cases rb
      split at fin
      · rename_i hz
        exact op_add_str pins s σ H _ _ v u Q I rx ry ⟨_, _, rfl, rfl, sz_le hz, fin.ok rs (.str _)⟩
      · exact fin.elim
    · cases ra with
      | tup ha ta =>
        cases rb with
        | tup hb tb =>
          split at fin
          · rename_i hz
            have l1 := ta.length
            have l2 := tb.length
            refine op_catA pins s σ H _ _ v u Q I rx ry ⟨_, _, _, _, rfl, rfl, ha.sq, hb.sq, sz_le (by omega), fun e => ?_, fun e e2 => ?_, fun e e2 p hp => ?_⟩
            · subst e
              cases ta
              exact fin.ok rs (.tup hb tb)
            · subst e2
              cases tb
              rw [List.append_nil] at fin
              exact fin.ok rs (.tup ha ta)
            · exact fin_tup fin rs (ta.append tb) p hp
          · exact fin.elim
    · split at fin
      · rename_i e1 e2
        obtain ⟨a1, xs, rfl, h1, t1⟩ := rs.lstV e1 ra
        obtain ⟨a2, ys, rfl, h2, t2⟩ := rs.lstV e2 rb
        split at fin
        · rename_i hz
          have l1 := t1.length
          have l2 := t2.length
          exact op_cat pins s σ H _ _ v u Q I rx ry ⟨_, _, _, _, rfl, rfl, h1, h2, sz_le (by omega), fun p hp => fin_fz fin rs (t1.append t2) p hp⟩
        · exact fin.elim
      · exact fin.elim
  | sub =>
    unfold binV at fin
    split at fin <;> first | contradiction | skip
    · cases ra; cases rb
      exact op_sub pins s σ H _ _ v u Q I rx ry ⟨_, _, rfl, rfl, fin.ok rs (.int _)⟩
    all_goals exact fin.elim
  | mul =>
    unfold binV at fin
    split at fin <;> first | contradiction | skip
    · cases ra; cases rb
      split at fin
      · rename_i hz
        exact op_mul pins s σ H _ _ v u Q I rx ry ⟨_, _, rfl, rfl, hz, fin.ok rs (.int _)⟩
      · exact fin.elim
    · cases ra with
      | tup ha ta =>
        cases rb
        split at fin
        · rename_i hz
          have l1 := ta.length
          refine op_repT pins s σ H _ _ v u Q I rx ry ⟨_, _, _, rfl, rfl, ha.sq, fun e => hz.1 ?_, hz.2.1, hz.2.2.1, by rw [← l1]; exact hz.2.2.2, fun p hp => fin_tup fin rs (ta.rep _) p hp⟩
          rw [e] at l1
          exact List.eq_nil_of_length_eq_zero l1
        · exact fin.elim
    · cases rb
      split at fin
      · rename_i e1
        obtain ⟨a1, xs, rfl, h1, t1⟩ := rs.lstV e1 ra
        split at fin
        · rename_i hz
          have l1 := t1.length
          exact op_rep pins s σ H _ _ v u Q I rx ry ⟨_, _, _, rfl, rfl, h1, hz.1, hz.2.1, sz_le (by rw [← l1]; exact hz.2.2), fun p hp => fin_fz fin rs (t1.rep _) p hp⟩
        · exact fin.elim
      · exact fin.elim
    all_goals exact fin.elim
  | fdiv =>
    unfold binV at fin
    split at fin <;> first | contradiction | skip
    · cases ra; cases rb
      split at fin
      · rename_i hz
        exact op_fdivW pins s σ H _ _ v u Q I rx ry ⟨_, _, rfl, rfl, hz, fin.ok rs (.int _)⟩
      · exact fin.elim
    all_goals exact fin.elim
  | mod =>
    unfold binV at fin
    split at fin <;> first | contradiction | skip
    · cases ra; cases rb
      split at fin
      · rename_i hz
        exact op_mod pins s σ H _ _ v u Q I rx ry ⟨_, _, rfl, rfl, hz, fin.ok rs (.int _)⟩
      · exact fin.elim
    all_goals exact fin.elim
  | pow =>
    unfold binV at fin
    split at fin <;> first | contradiction | skip
    · cases ra; cases rb
      split at fin
      · rename_i hz
        exact op_pow pins s σ H _ _ v u Q I rx ry ⟨_, _, rfl, rfl, hz, fin.ok rs (.int _)⟩
      · exact fin.elim
    all_goals exact fin.elim
theorem sign_of {y : Str} {c : Nat} (h : signs y = [c]) : y = ⟨#[c]⟩ := by
  obtain ⟨a⟩ := y
  have e : a.toList = [c] := h
  have e2 : a = #[c] := by
    rw [← Array.toArray_toList (xs := a), e]
  rw [e2]
section
variable {K : Pm} {hs : List Addr} {H : Hp} {as : List Addr} {S : Store}
/-- a list's or a tuple's data -/
theorem seq_dp {n : Nat} (rs : RS K hs H as S) {vs : List Val} {xs : List V} {ds : List PyData} (h : mapO (toD S n) vs = some ds) (t : RVs K hs H as vs xs) : DpAll K.K H xs ds ∧ PyData.canLayAll0 ds = true ∧ PyData.depthAll ds ≤ n :=
  all_dp (fun h r => toD_dp rs n h r) h t
theorem shaped_of {d : PyData} (h1 : d.canLay0 = true) (h2 : d.depth ≤ 64) : SeqAt.shaped d = true := by
  show (d.canLay0 && decide (d.depth ≤ 64)) = true
  rw [h1, Bool.true_and]
  exact decide_eq_true h2
end
theorem tup_dp {K : Pm} {hs : List Addr} {H : Hp} {as : List Addr} {S : Store} (rs : RS K hs H as S) {vs : List Val} {y : V} {ds : List PyData} (r : RV K hs H as (.tup vs) y) (h : mapO (toD S 59) vs = some ds) : Dp K.K H y (.tuple ds) ∧ SeqAt.shaped (.tuple ds) = true := by
  cases r with
  | tup hk t =>
    obtain ⟨a1, a2, a3⟩ := seq_dp rs h t
    exact ⟨.tup hk.sq a1, shaped_of (by simpa [PyData.canLay0] using a2) (by simp only [PyData.depth]; omega)⟩
theorem lst_dp {K : Pm} {hs : List Addr} {H : Hp} {as : List Addr} {S : Store} (rs : RS K hs H as S) {w : Val} {vs : List Val} {y : V} {ds : List PyData} (r : RV K hs H as w y) (e : lstV S w = some vs) (h : mapO (toD S 59) vs = some ds) : Dp K.K H y (.list ds) ∧ SeqAt.shaped (.list ds) = true := by
  obtain ⟨a, xs, rfl, h1, t⟩ := rs.lstV e r
  obtain ⟨a1, a2, a3⟩ := seq_dp rs h t
  exact ⟨.lst (SqL.of h1) a1, shaped_of (by simpa [PyData.canLay0] using a2) (by simp only [PyData.depth]; omega)⟩
theorem op_inT (hu : X.A.units + 65 < cLine) : OpR X (compareOp .In) (fun x y H Q => ∃ d ds, Dp X.K H x d ∧ Dp X.K H y (.tuple ds) ∧ SeqAt.shaped d = true ∧ SeqAt.shaped (.tuple ds) = true ∧ Q (.bl (ds.any fun z => PyData.eqv z d)) H) := by
  intro pins s σ H x y v u Q I rx ry h
  obtain ⟨d, ds, hd, he, sd, se, q⟩ := h
  obtain ⟨as, r1⟩ := Dp.reads I d x v hd rx
  obtain ⟨bs, r2⟩ := Dp.reads I (.tuple ds) y u he ry
  exact SeqAt.in_tuple_reads r2 r1 (by have := SeqAt.canLay_of_shaped se; simpa [PyData.canLay0] using this) (SeqAt.canLay_of_shaped sd) (room_in_shaped sd hu) ⟨.bl _, H, I, rfl, q⟩
theorem op_notInT (hu : X.A.units + 65 < cLine) : OpR X (compareOp .NotIn) (fun x y H Q => ∃ d ds, Dp X.K H x d ∧ Dp X.K H y (.tuple ds) ∧ SeqAt.shaped d = true ∧ SeqAt.shaped (.tuple ds) = true ∧ Q (.bl (!ds.any fun z => PyData.eqv z d)) H) := by
  intro pins s σ H x y v u Q I rx ry h
  obtain ⟨d, ds, hd, he, sd, se, q⟩ := h
  obtain ⟨as, r1⟩ := Dp.reads I d x v hd rx
  obtain ⟨bs, r2⟩ := Dp.reads I (.tuple ds) y u he ry
  exact SeqAt.notIn_tuple_reads r2 r1 (by have := SeqAt.canLay_of_shaped se; simpa [PyData.canLay0] using this) (SeqAt.canLay_of_shaped sd) (room_in_shaped sd hu) ⟨.bl _, H, I, rfl, q⟩
theorem op_in (hu : X.A.units + 65 < cLine) : OpR X (compareOp .In) (rCmp (pm X) .inn) := by
  intro pins s σ H x y v u Q I rx ry h
  obtain ⟨hs, as, S, a, b, c, rs, ra, rb, e, q⟩ := h
  have e : Mv.inV S a b = some c := by cases a <;> cases b <;> exact e
  unfold Mv.inV at e
  split at e
  · cases rb
    split at e
    · cases ra
      split at e
      · rename_i hc
        cases e
        exact op_in_sign pins s σ H _ _ v u Q I rx ry ⟨_, _, by rw [sign_of hc], rfl, q⟩
      · cases e
    · cases e
  · split at e
    · rename_i d ds h1 h2
      cases e
      obtain ⟨d1, s1⟩ := datV_dp rs h1 ra
      obtain ⟨d2, s2⟩ := tup_dp rs rb h2
      exact op_inT hu pins s σ H _ _ v u Q I rx ry ⟨_, _, d1, d2, s1, s2, q⟩
    · cases e
  · split at e
    · rename_i e0
      split at e
      · rename_i d ds h1 h2
        cases e
        obtain ⟨d1, s1⟩ := datV_dp rs h1 ra
        obtain ⟨d2, s2⟩ := lst_dp rs rb e0 h2
        exact op_inD hu pins s σ H _ _ v u Q I rx ry ⟨_, _, d1, d2, s1, s2, q⟩
      · cases e
    · cases e
theorem op_nin (hu : X.A.units + 65 < cLine) : OpR X (compareOp .NotIn) (rCmp (pm X) .nin) := by
  intro pins s σ H x y v u Q I rx ry h
  obtain ⟨hs, as, S, a, b, c, rs, ra, rb, e, q⟩ := h
  replace e : (Mv.inV S a b).map (!·) = some c := by cases a <;> cases b <;> exact e
  rw [Option.map_eq_some_iff] at e
  obtain ⟨c', e, ec⟩ := e
  subst ec
  unfold Mv.inV at e
  split at e
  · cases rb
    split at e
    · cases ra
      split at e
      · rename_i hc
        obtain rfl := Option.some.inj e
        exact op_notIn_sign pins s σ H _ _ v u Q I rx ry ⟨_, _, by rw [sign_of hc], rfl, q⟩
      · cases e
    · cases e
  · split at e
    · rename_i d ds h1 h2
      obtain rfl := Option.some.inj e
      obtain ⟨d1, s1⟩ := datV_dp rs h1 ra
      obtain ⟨d2, s2⟩ := tup_dp rs rb h2
      exact op_notInT hu pins s σ H _ _ v u Q I rx ry ⟨_, _, d1, d2, s1, s2, q⟩
    · cases e
  · split at e
    · rename_i e0
      split at e
      · rename_i d ds h1 h2
        obtain rfl := Option.some.inj e
        obtain ⟨d1, s1⟩ := datV_dp rs h1 ra
        obtain ⟨d2, s2⟩ := lst_dp rs rb e0 h2
        exact op_notInD hu pins s σ H _ _ v u Q I rx ry ⟨_, _, d1, d2, s1, s2, q⟩
      · cases e
    · cases e
theorem rv_non {K : Pm} {hs : List Addr} {H : Hp} {as : List Addr} {v : Val} {x : V} (r : RV K hs H as v x) (h : v ≠ .non) : x ≠ .non := by
  cases r <;> first | exact absurd rfl h | (intro z; cases z)
/-! ### tuples of whole numbers by order -/
theorem ints_rv {K : Pm} {hs : List Addr} {H : Hp} {as : List Addr} : ∀ {vs : List Val} {xs : List V} {is : List Int}, mapO intOf vs = some is → RVs K hs H as vs xs → xs = is.map V.int
  | _, _, is, h, .nil => by cases h; rfl
  | _, _, is, h, .cons r t => by
    obtain ⟨b, bs, rfl, h1, h2⟩ := mapO_cons h
    rw [ints_rv h2 t]
    cases r <;> first | (cases h1; rfl) | cases h1
theorem intsOf_rv {K : Pm} {hs : List Addr} {H : Hp} {as : List Addr} {v : Val} {x : V} {is : List Int} (h : intsOf v = some is) (r : RV K hs H as v x) : ∃ a, x = .ref a ∧ SqT K.K H a (is.map V.int) := by
  cases r with
  | tup hk t =>
    have h : mapO intOf _ = some is := h
    rw [ints_rv h t] at hk
    exact ⟨_, rfl, hk.sq⟩
  | _ => cases h
theorem lexAt_shift (e r : Nat → Bool) (z : Bool) : ∀ (k i : Nat), Ob.lexAt e r z (i + 1) k = Ob.lexAt (fun j => e (j + 1)) (fun j => r (j + 1)) z i k
  | 0, _ => rfl
  | k + 1, i => by rw [Ob.lexAt_succ, Ob.lexAt_succ, lexAt_shift e r z k (i + 1)]
theorem lex_ge : ∀ (ns ms : List Int), Ob.lexAt (fun j => decide (ns.getD j 0 = ms.getD j 0)) (fun j => decide (ms.getD j 0 ≤ ns.getD j 0)) (decide (ns.length ≥ ms.length)) 0 (min ns.length ms.length) = !HT.lexLt ns ms
  | [], [] => rfl
  | [], _ :: _ => rfl
  | _ :: _, [] => rfl
  | n :: ns, m :: ms => by
    rw [List.length_cons, List.length_cons, Nat.succ_min_succ, Ob.lexAt_succ, lexAt_shift, HT.lexLt_cons]
    have ih := lex_ge ns ms
    have e1 : decide (ns.length + 1 ≥ ms.length + 1) = decide (ns.length ≥ ms.length) := by
      congr 1
      apply propext
      constructor <;> intro h <;> omega
    rw [e1]
    simp only [List.getD_cons_succ, List.getD_cons_zero]
    rw [ih]
    by_cases q : n = m
    · simp [q]
    · simp only [q, decide_false, Bool.false_eq_true, if_false]
      by_cases z : n < m
      · first
          | (simp [z]; done)
          | (simp [z]; omega)
      · first
          | (simp [z]; done)
          | (simp [z]; omega)
theorem op_geT (hu : X.A.units < cLine) : OpR X (compareOp .GtE) (fun x y H Q => ∃ (a b : Addr) (ns ms : List Int), x = .ref a ∧ y = .ref b ∧ SqT X.K H a (ns.map V.int) ∧ SqT X.K H b (ms.map V.int) ∧ Q (.bl (!HT.lexLt ns ms)) H) := by
  intro pins s σ H x y v u Q I rx ry h
  obtain ⟨a, b, ns, ms, rfl, rfl, ha, hb, q⟩ := h
  cases rx
  cases ry
  obtain ⟨its, r1, p1, _⟩ := I.tuple ha
  obtain ⟨its2, r2, p2, _⟩ := I.tuple hb
  have i1 : IntsAre its ns := Vals.ints r1
  have i2 : IntsAre its2 ms := Vals.ints r2
  have e1 : its.toArray.size = ns.length := by rw [List.size_toArray]; exact i1.length
  have e2 : its2.toArray.size = ms.length := by rw [List.size_toArray]; exact i2.length
  have at1 : ∀ j (h1 : j < its.toArray.size), ∃ t, its.toArray[j] = .int (ns.getD j 0) t := fun j h1 => PyProof.Rows.IntsAre.int_at i1 _ _ (by simp at h1; simp [h1])
  have at2 : ∀ j (h1 : j < its2.toArray.size), ∃ t, its2.toArray[j] = .int (ms.getD j 0) t := fun j h1 => PyProof.Rows.IntsAre.int_at i2 _ _ (by simp at h1; simp [h1])
  have R := Ob.RcOp.tuples_ge (A := X.A) (s := s) (e := fun j => decide (ns.getD j 0 = ms.getD j 0)) (r := fun j => decide (ms.getD j 0 ≤ ns.getD j 0)) p1 p2 hu (fun j h1 h2 => by
    obtain ⟨t, et⟩ := at1 j h1
    obtain ⟨t', et'⟩ := at2 j h2
    rw [et, et']
    have z : (ns.getD j 0 == ms.getD j 0) = decide (ns.getD j 0 = ms.getD j 0) := by
      by_cases q : ns.getD j 0 = ms.getD j 0
      · rw [decide_eq_true q]; exact beq_iff_eq.mpr q
      · rw [decide_eq_false q]; exact beq_eq_false_iff_ne.mpr q
    rw [← z]
    exact SeqAt.EqAt.int_int _ _ _ _) (fun j h1 h2 _ => by
    obtain ⟨t, et⟩ := at1 j h1
    obtain ⟨t', et'⟩ := at2 j h2
    rw [et, et']
    exact Ob.RcOp.ge_int _ _ _ _)
  rw [e1, e2, lex_ge] at R
  exact R X.prog X.w _ _ ⟨.bl _, H, I, rfl, q⟩
theorem op_cmp (hu : X.A.units + 65 < cLine) {op : Cop} : OpR X (compareOp (copOf op)) (rCmp (pm X) op) := by
  cases op with
  | inn => exact op_in hu
  | nin => exact op_nin hu
  | eq =>
    intro pins s σ H x y v u Q I rx ry h
    obtain ⟨hs, as, S, a, b, c, rs, ra, rb, e, q⟩ := h
    have e : (match datV S a, datV S b with
      | some d, some e => some (PyData.eqv d e)
      | _, _ => none) = some c := by cases a <;> cases b <;> exact e
    split at e
    · rename_i h1 h2
      cases e
      obtain ⟨d1, s1⟩ := datV_dp rs h1 ra
      obtain ⟨d2, s2⟩ := datV_dp rs h2 rb
      exact op_eqD (by omega) pins s σ H _ _ v u Q I rx ry ⟨_, _, d1, d2, s1, s2, q⟩
    · cases e
  | ne =>
    intro pins s σ H x y v u Q I rx ry h
    obtain ⟨hs, as, S, a, b, c, rs, ra, rb, e, q⟩ := h
    have e : (match datV S a, datV S b with
      | some d, some e => some (!PyData.eqv d e)
      | _, _ => none) = some c := by cases a <;> cases b <;> exact e
    split at e
    · rename_i h1 h2
      cases e
      obtain ⟨d1, s1⟩ := datV_dp rs h1 ra
      obtain ⟨d2, s2⟩ := datV_dp rs h2 rb
      exact op_neD (by omega) pins s σ H _ _ v u Q I rx ry ⟨_, _, d1, d2, s1, s2, q⟩
    · cases e
  | lt =>
    intro pins s σ H x y v u Q I rx ry h
    obtain ⟨hs, as, S, a, b, c, rs, ra, rb, e, q⟩ := h
    unfold cmpV at e
    split at e <;> first | contradiction | skip
    · cases ra; cases rb
      cases e
      exact op_lt pins s σ H _ _ v u Q I rx ry ⟨_, _, rfl, rfl, q⟩
    · split at e
      · rename_i h1 h2
        cases e
        obtain ⟨p, rfl, t1⟩ := intsOf_rv h1 ra
        obtain ⟨p2, rfl, t2⟩ := intsOf_rv h2 rb
        exact op_ltT (by omega) pins s σ H _ _ v u Q I rx ry ⟨_, _, _, _, rfl, rfl, t1, t2, q⟩
      · cases e
  | le =>
    intro pins s σ H x y v u Q I rx ry h
    obtain ⟨hs, as, S, a, b, c, rs, ra, rb, e, q⟩ := h
    cases ra <;> cases rb <;> first | (cases e; exact op_le pins s σ H _ _ v u Q I rx ry ⟨_, _, rfl, rfl, q⟩) | cases e
  | gt =>
    intro pins s σ H x y v u Q I rx ry h
    obtain ⟨hs, as, S, a, b, c, rs, ra, rb, e, q⟩ := h
    cases ra <;> cases rb <;> first | (cases e; exact op_gt pins s σ H _ _ v u Q I rx ry ⟨_, _, rfl, rfl, q⟩) | cases e
  | ge =>
    intro pins s σ H x y v u Q I rx ry h
    obtain ⟨hs, as, S, a, b, c, rs, ra, rb, e, q⟩ := h
    unfold cmpV at e
    split at e <;> first | contradiction | skip
    · cases ra; cases rb
      cases e
      exact op_ge pins s σ H _ _ v u Q I rx ry ⟨_, _, rfl, rfl, q⟩
    · split at e
      · rename_i h1 h2
        cases e
        obtain ⟨p, rfl, t1⟩ := intsOf_rv h1 ra
        obtain ⟨p2, rfl, t2⟩ := intsOf_rv h2 rb
        exact op_geT (by omega) pins s σ H _ _ v u Q I rx ry ⟨_, _, _, _, rfl, rfl, t1, t2, q⟩
      · cases e
  | is =>
    intro pins s σ H x y v u Q I rx ry h
    obtain ⟨hs, as, S, a, b, c, rs, ra, rb, e, q⟩ := h
    cases ra <;> cases rb <;> first
      | (cases e; exact op_is_bl pins s σ H _ _ v u Q I rx ry ⟨_, _, rfl, rfl, q⟩)
      | (refine op_isN pins s σ H _ _ v u Q I rx ry ⟨rfl, ?_⟩
         cases e; first | exact q | (rw [decide_eq_false (by intro z; cases z)]; exact q))
      | cases e
  | isn =>
    intro pins s σ H x y v u Q I rx ry h
    obtain ⟨hs, as, S, a, b, c, rs, ra, rb, e, q⟩ := h
    cases ra <;> cases rb <;> first
      | (cases e; exact op_isnot_bl pins s σ H _ _ v u Q I rx ry ⟨_, _, rfl, rfl, q⟩)
      | (refine op_notN pins s σ H _ _ v u Q I rx ry ⟨rfl, ?_⟩
         cases e; first | exact q | (rw [decide_eq_false (by intro z; cases z)]; exact q))
      | cases e
end
end Mv

/-! MvD: truth, subscripts, slices, built-in functions, methods. -/
namespace Mv
open PySem PySem.Spec PyProof.Rows L2
section
variable {K : Pm} {hs : List Addr} {as : List Addr} {H : Hp} {S : Store}
theorem isEmpty_rvs {vs : List Val} {xs : List V} (t : RVs K hs H as vs xs) : (!vs.isEmpty) = !xs.isEmpty := by
  cases t <;> rfl
theorem tru_ok' (rs : RS K hs H as S) {v : Val} {x : V} {b : Bool} (h : tru S v = some b) (r : RV K hs H as v x) : TruV K.K x H b := by
  cases r with
  | non => cases h; rfl
  | bl b => cases h; rfl
  | int i => cases h; rfl
  | str z =>
    have h : (if z.length ≤ SZ then some (z.length != 0) else none) = some b := h
    by_cases hz : z.length ≤ SZ
    · rw [if_pos hz] at h
      cases h
      refine ⟨sz_le hz, ?_⟩
      rw [Bool.eq_iff_iff]
      simp only [bne_iff_ne, ne_eq]
      omega
    · rw [if_neg hz] at h
      cases h
  | ref hk =>
    have h : (seqAt S _).map (fun vs => !vs.isEmpty) = some b := h
    rw [Option.map_eq_some_iff] at h
    obtain ⟨vs, e, eb⟩ := h
    subst eb
    obtain ⟨xs, hs, t⟩ := rs.seq e hk
    exact .inl ⟨xs, SqL.of hs, isEmpty_rvs t⟩
  | tup hs t =>
    cases h
    exact .inr (.inl ⟨_, hs.sq, isEmpty_rvs t⟩)
  | tud hs t =>
    cases h
    exact .inr (.inl ⟨_, hs.sq, isEmpty_rvs t⟩)
  | fz hs t =>
    cases h
    exact .inl ⟨_, hs.sq, isEmpty_rvs t⟩
  | _ => cases h
theorem atI_rvs {vs : List Val} {xs : List V} (t : RVs K hs H as vs xs) {i : Int} {v : Val} (h : atI vs i = some v) : ∃ x, atI xs i = some x ∧ RV K hs H as v x := by
  unfold atI at h ⊢
  have l := t.length
  rw [← l]
  cases e : ixN vs.length i with
  | none =>
    rw [e] at h
    cases h
  | some j =>
    rw [e] at h
    exact t.get h
end
section
variable {X : Cx}
theorem ix_ok : IxR X (rIdx (pm X)) := by
  intro value slice pins s σ H x y v u Q I rx ry h hs
  obtain ⟨hh, W, as, S, a, b, rs, ra, rb, fin⟩ := h
  unfold idxV at fin
  split at fin
  · cases ra with
    | tup hk t =>
      cases rb
      cases e2 : atI _ _ with
      | none =>
        rw [e2] at fin
        exact fin.elim
      | some w =>
        rw [e2] at fin
        obtain ⟨z, h2, r⟩ := atI_rvs t e2
        exact ix_seq value slice pins s σ H _ _ v u Q I rx ry (.inr (.inl ⟨_, _, _, _, rfl, rfl, hk.sq, h2, fin.ok rs r⟩)) hs
  · cases ra
    cases rb
    split at fin
    · rename_i hz
      cases e2 : atI (signs _) _ with
      | none =>
        rw [e2] at fin
        exact fin.elim
      | some c =>
        rw [e2] at fin
        exact ix_seq value slice pins s σ H _ _ v u Q I rx ry (.inr (.inr ⟨_, _, c, rfl, rfl, sz_le hz, e2, fin.ok rs (.str _)⟩)) hs
    · exact fin.elim
  · rename_i ks vs z0
    cases ra with
    | dc hk t =>
      cases rb
      cases e2 : (ks.zip vs).lookup z0 with
      | none =>
        rw [e2] at fin
        exact fin.elim
      | some w =>
        rw [e2] at fin
        obtain ⟨z, h2, r⟩ := look_zip t e2
        have q := fin.ok rs r
        obtain ⟨l, ⟨kvs, h1, n1, h3⟩ | ⟨es, n, D, h3⟩⟩ := hk
        · obtain rfl : v = Value.ref _ := rx
          obtain ⟨t', rfl⟩ := (show ∃ t', u = Value.str _ t' from ry)
          obtain ⟨_, _, us, kv, dd⟩ := dk_rd I.hok (.inl h1)
          have h4 := kv.val (.inr z0)
          rw [h3, h2] at h4
          cases e5 : valueAt us (.inr z0) with
          | none =>
            rw [e5] at h4
            exact h4.elim
          | some u0 =>
            rw [e5] at h4
            exact tail_any dd.mapOf.typeIs slot_dict_getitem.lookup (wpAny_getItem_of (kV_is (P := X.prog) (w := X.w) (show RelV (kV (.inr z0)) (Value.str z0 t') from ⟨t', rfl⟩)) dd.mapOf e5 ⟨z, H, I.tok _, h4, q⟩) hs
        · obtain ⟨r0, h4, h5⟩ := h3 _
          rw [h2] at h5
          cases r0 with
          | none => exact h5.elim
          | some u0 => exact ix_kdict value slice pins s σ H _ _ v u Q I rx ry ⟨_, _, z, rfl, rfl, ⟨es, n, u0, D.at_, D.lit, h4, h5⟩, q⟩ hs
  · cases rb
    cases e : lstV S _ with
    | none =>
      rw [e] at fin
      exact fin.elim
    | some vs =>
      rw [e] at fin
      have fin : FinV (pm X) hh W as H (ofO S (atI vs _)) Q := fin
      cases e2 : atI vs _ with
      | none =>
        rw [e2] at fin
        exact fin.elim
      | some w =>
        rw [e2] at fin
        obtain ⟨p, xs, rfl, h1, t⟩ := rs.lstV e ra
        obtain ⟨z, h2, r⟩ := atI_rvs t e2
        exact ix_seq value slice pins s σ H _ _ v u Q I rx ry (.inl ⟨_, _, _, _, rfl, rfl, SqL.of h1, h2, fin.ok rs r⟩) hs
  · exact fin.elim
theorem cut_rvs {K : Pm} {hs : List Addr} {as : List Addr} {H : Hp} {vs : List Val} {xs : List V} (t : RVs K hs H as vs xs) (lo hi : Option Int) : RVs K hs H as (cut vs lo hi) (cutV xs lo hi) := by
  unfold cut cutV
  rw [t.length]
  exact (t.drop _).take _
theorem cut_all {α : Type} {xs : List α} {lo hi : Option Int} (h : HT.sIx xs.length 0 lo = 0 ∧ HT.sIx xs.length xs.length hi = xs.length) : cut xs lo hi = xs := by
  unfold cut
  rw [h.1, h.2, List.drop_zero, Nat.sub_zero, List.take_length]
theorem sl_ok {m : Bool} : SlR X (rSlc (pm X) m) := by
  intro pins s σ H x v vl vu lo hi sl Q I rx hs pl pu h
  obtain ⟨hh, W, as, S, a, rs, ra, fin⟩ := h
  unfold slV at fin
  split at fin
  · cases ra with
    | tup hk t =>
      have l := t.length
      refine sl_tupA pins s σ H _ v vl vu lo hi sl Q I rx hs pl pu ⟨_, _, rfl, hk.sq, fun e => ?_, fun e p hp => fin_tup fin rs (cut_rvs t lo hi) p hp⟩
      rw [← l] at e
      rw [cut_all e] at fin
      exact fin.ok rs (.tup hk t)
  · cases ra
    split at fin
    · rename_i hz
      exact sl_str pins s σ H _ v vl vu lo hi sl Q I rx hs pl pu ⟨_, rfl, sz_le hz, fin.ok rs (.str _)⟩
    · exact fin.elim
  · cases ra with
    | wr hk t => exact sl_list pins s σ H _ v vl vu lo hi sl Q I rx hs pl pu ⟨_, _, rfl, hk.sq, fun p hp => fin_mk fin rs (cut_rvs t lo hi) p hp⟩
  · split at fin
    · rename_i e
      obtain ⟨p, xs, rfl, h1, t⟩ := rs.lstV e ra
      exact sl_list pins s σ H _ v vl vu lo hi sl Q I rx hs pl pu ⟨_, xs, rfl, SqL.of h1, fun p hp => fin_mk fin rs (cut_rvs t lo hi) p hp⟩
    · exact fin.elim
end

/-! ### built-in functions -/
/-- the value that a built-in name stands for -/
def bltF (b : String) : Value := if b = "list" then .type "list" else if b = "tuple" then .type "tuple" else if b = "int" then .type "int" else .builtin b
section
variable {K : Pm} {hs : List Addr} {as : List Addr} {H : Hp} {S : Store}
theorem tyN_ok (rs : RS K hs H as S) {v : Val} {x : V} {t : String} (h : tyN S v = some t) (r : RV K hs H as v x) : TyX K.K H x (.type t) := by
  cases r with
  | non => cases h; exact .base .non
  | bl b => cases h; exact .base (.bl b)
  | int i => cases h; exact .base (.int i)
  | str z => cases h; exact .base (.str z)
  | @ref k a hk =>
    have h : (seqAt S k).map (fun _ => "list") = some t := h
    rw [Option.map_eq_some_iff] at h
    obtain ⟨vs, e, eb⟩ := h
    subst eb
    obtain ⟨xs, h1, _⟩ := rs.seq e hk
    exact .base (.lst h1)
  | tup hs t =>
    cases h
    rcases hs with ⟨h, _⟩ | ⟨o, its, n, hk, hc, _⟩
    · exact .base (.tup h)
    · exact .kTuple hk hc
  | tud hs t =>
    cases h
    obtain ⟨o, h1, h2, h3, _⟩ := hs
    exact .fTuple h1
  | fz hs t =>
    cases h
    exact .base (.lst hs.1)
  | _ => cases h
theorem isIn_ok {t : String} : ∀ {cs : List Val} {xs : List V} {b : Bool}, isIn t cs = some b → RVs K hs H as cs xs → ∃ us, Paired ClsV xs us ∧ PySem.W.kitAny K.K (.type t) us = some b
  | _, _, b, h, .nil => by
    cases h
    exact ⟨[], .nil, rfl⟩
  | _, _, b, h, .cons r rest => by
    cases r with
    | ty n =>
      rename_i cs xs
      have h : (match kitB t n, isIn t cs with
        | some a, some b => some (a || b)
        | _, _ => none) = some b := h
      cases e : kitB t n with
      | none =>
        rw [e] at h
        cases h
      | some c =>
        rw [e] at h
        cases e2 : isIn t cs with
        | none =>
          rw [e2] at h
          cases h
        | some d =>
          rw [e2] at h
          cases h
          obtain ⟨us, p, k⟩ := isIn_ok e2 rest
          refine ⟨.type n :: us, .cons (.ty n) p, kitAny_cons (kit_ty e) (fun z => ?_) (fun z => ?_)⟩
          · rw [z, k]
            rfl
          · rw [z]
            rfl
    | _ => cases h
theorem bls_of : ∀ {vs : List Val} {xs : List V} {bs : List Bool}, mapO blOf vs = some bs → RVs K hs H as vs xs → xs = bs.map V.bl
  | _, _, bs, h, .nil => by cases h; rfl
  | _, _, bs, h, .cons r t => by
    obtain ⟨b, bs, rfl, h1, h2⟩ := mapO_cons h
    rw [bls_of h2 t]
    cases r <;> first | (cases h1; rfl) | cases h1
theorem strs_of : ∀ {vs : List Val} {xs : List V} {bs : List Str}, mapO strOf vs = some bs → RVs K hs H as vs xs → xs = bs.map V.str
  | _, _, bs, h, .nil => by cases h; rfl
  | _, _, bs, h, .cons r t => by
    obtain ⟨b, bs, rfl, h1, h2⟩ := mapO_cons h
    rw [strs_of h2 t]
    cases r <;> first | (cases h1; rfl) | cases h1
theorem lst_by {α : Type} {f : Val → Option α} {v : Val} {x : V} {bs : List α} (rs : RS K hs H as S) (h : (lstV S v).bind (mapO f) = some bs) (r : RV K hs H as v x) : ∃ a vs xs, x = .ref a ∧ H a = some (.lst xs) ∧ RVs K hs H as vs xs ∧ mapO f vs = some bs ∧ lstV S v = some vs := by
  cases e : lstV S v with
  | none =>
    rw [e] at h
    cases h
  | some vs =>
    rw [e] at h
    obtain ⟨a, xs, rfl, h1, t⟩ := rs.lstV e r
    exact ⟨a, vs, xs, rfl, h1, t, h, rfl⟩
end

section
variable {X : Cx}
theorem one_rv {K : Pm} {hs : List Addr} {as : List Addr} {H : Hp} {v : Val} {xs : List V} (h : RVs K hs H as [v] xs) : ∃ x, xs = [x] ∧ RV K hs H as v x := by
  cases h with
  | cons r t =>
    cases t
    exact ⟨_, rfl, r⟩
theorem two_rv {K : Pm} {hs : List Addr} {as : List Addr} {H : Hp} {v w : Val} {xs : List V} (h : RVs K hs H as [v, w] xs) : ∃ x y, xs = [x, y] ∧ RV K hs H as v x ∧ RV K hs H as w y := by
  cases h with
  | cons r t =>
    obtain ⟨y, rfl, q⟩ := one_rv t
    exact ⟨_, y, rfl, r, q⟩
theorem blt_len : CallR X (.builtin "len") (rBlt (pm X) "len") := by
  intro pins s σ H xs us Q I rx h
  obtain ⟨hs, W, as, S, vs, rs, ra, fin⟩ := h
  simp only [bltV, ↓reduceIte] at fin
  split at fin
  · obtain ⟨x, rfl, r⟩ := one_rv ra
    cases r with
    | tup hk t =>
      have l := t.length
      rw [l] at fin
      exact call_len_seq pins s σ H _ us Q I rx ⟨_, _, rfl, .inr hk.sq, fin.ok rs (.int _)⟩
  · obtain ⟨x, rfl, r⟩ := one_rv ra
    cases r with
    | tud hk t =>
      have l := t.length
      rw [l] at fin
      exact call_len_seq pins s σ H _ us Q I rx ⟨_, _, rfl, .inr (TudAt.sq (K := pm X) hk), fin.ok rs (.int _)⟩
  · obtain ⟨x, rfl, r⟩ := one_rv ra
    cases r
    split at fin
    · rename_i hz
      exact call_len_str pins s σ H _ us Q I rx ⟨_, rfl, sz_le hz, fin.ok rs (.int _)⟩
    · exact fin.elim
  · obtain ⟨x, rfl, r⟩ := one_rv ra
    cases r with
    | wr hk t =>
      have l := t.length
      rw [l] at fin
      exact call_len_seq pins s σ H _ us Q I rx ⟨_, _, rfl, .inl hk.sq, fin.ok rs (.int _)⟩
  · obtain ⟨x, rfl, r⟩ := one_rv ra
    split at fin
    · rename_i e
      obtain ⟨a, ys, rfl, h1, t⟩ := rs.lstV e r
      have l := t.length
      rw [l] at fin
      exact call_len_seq pins s σ H _ us Q I rx ⟨_, ys, rfl, .inl (SqL.of h1), fin.ok rs (.int _)⟩
    · exact fin.elim
  · exact fin.elim
theorem blt_tuple : CallR X (.type "tuple") (rBlt (pm X) "tuple") := by
  intro pins s σ H xs us Q I rx h
  obtain ⟨hs, W, as, S, vs, rs, ra, fin⟩ := h
  simp only [bltV, String.reduceEq, ↓reduceIte] at fin
  split at fin
  · obtain ⟨x, rfl, r⟩ := one_rv ra
    cases r with
    | tup hk t => exact call_tuple_of pins s σ H _ us Q I rx ⟨_, _, rfl, .inr ⟨hk.sq, fin.ok rs (.tup hk t)⟩⟩
  · obtain ⟨x, rfl, r⟩ := one_rv ra
    split at fin
    · rename_i e
      obtain ⟨a, ys, rfl, h1, t⟩ := rs.lstV e r
      exact call_tuple_of pins s σ H _ us Q I rx ⟨_, ys, rfl, .inl ⟨SqL.of h1, fun p hp => fin_tup fin rs t p hp⟩⟩
    · exact fin.elim
  · exact fin.elim
theorem blt_int : CallR X (.type "int") (rBlt (pm X) "int") := by
  intro pins s σ H xs us Q I rx h
  obtain ⟨hs, W, as, S, vs, rs, ra, fin⟩ := h
  simp only [bltV, String.reduceEq, ↓reduceIte] at fin
  split at fin
  · obtain ⟨x, rfl, r⟩ := one_rv ra
    cases r
    exact call_int1 pins s σ H _ us Q I rx (.inl ⟨_, rfl, fin.ok rs (.int _)⟩)
  · obtain ⟨x, rfl, r⟩ := one_rv ra
    cases r
    exact call_int1 pins s σ H _ us Q I rx (.inr ⟨_, rfl, fin.ok rs (.int _)⟩)
  · exact fin.elim
theorem blt_isinstance : CallR X (.builtin "isinstance") (rBlt (pm X) "isinstance") := by
  intro pins s σ H xs us Q I rx h
  obtain ⟨hs, W, as, S, vs, rs, ra, fin⟩ := h
  simp only [bltV, String.reduceEq, ↓reduceIte] at fin
  split at fin
  · obtain ⟨x, y, rfl, r, q⟩ := two_rv ra
    cases q
    split at fin
    · rename_i e
      cases e2 : kitB _ _ with
      | none =>
        rw [e2] at fin
        exact fin.elim
      | some b =>
        rw [e2] at fin
        exact call_isi pins s σ H _ us Q I rx ⟨_, _, _, _, b, rfl, .ty _, tyN_ok rs e r, kit_ty e2, fin.ok rs (.bl b)⟩
    · exact fin.elim
  · obtain ⟨x, y, rfl, r, q⟩ := two_rv ra
    cases q with
    | tup hk t =>
      split at fin
      · rename_i e
        cases e2 : isIn _ _ with
        | none =>
          rw [e2] at fin
          exact fin.elim
        | some b =>
          rw [e2] at fin
          obtain ⟨ws, p, k⟩ := isIn_ok e2 t
          rcases hk with ⟨hk, _⟩ | ⟨o, its, n, lk, hc, hd, hz, hv⟩
          · exact call_isiT pins s σ H _ us Q I rx ⟨_, _, _, _, ws, b, rfl, hk, p, tyN_ok rs e r, k, fin.ok rs (.bl b)⟩
          · have e3 := ClsV.all p hv
            obtain ⟨oc, od, dt, sl⟩ := o
            simp only at hc hd
            subst hc
            subst hd
            have e4 : its = ws.toArray := by rw [← e3] <;> simp
            subst e4
            exact call_isiK pins s σ H _ us Q I rx ⟨_, _, _, ws, _, _, _, b, rfl, lk, tyN_ok rs e r, k, fin.ok rs (.bl b)⟩
      · exact fin.elim
  · exact fin.elim
theorem blt_all (hc : X.calm = true) : CallR X (.builtin "all") (rBlt (pm X) "all") := by
  intro pins s σ H xs us Q I rx h
  obtain ⟨hs, W, as, S, vs, rs, ra, fin⟩ := h
  simp only [bltV, String.reduceEq, ↓reduceIte] at fin
  split at fin
  · obtain ⟨x, rfl, r⟩ := one_rv ra
    split at fin
    · rename_i e
      obtain ⟨a, ws, ys, rfl, h1, t, h2, _⟩ := lst_by rs e r
      rw [bls_of h2 t] at h1
      exact cr_all hc pins s σ H _ us Q I rx ⟨_, _, rfl, SqL.of h1, fin.ok rs (.bl _)⟩
    · exact fin.elim
  · exact fin.elim
theorem blt_any (hc : X.calm = true) : CallR X (.builtin "any") (rBlt (pm X) "any") := by
  intro pins s σ H xs us Q I rx h
  obtain ⟨hs, W, as, S, vs, rs, ra, fin⟩ := h
  simp only [bltV, String.reduceEq, ↓reduceIte] at fin
  split at fin
  · obtain ⟨x, rfl, r⟩ := one_rv ra
    split at fin
    · rename_i e
      obtain ⟨a, ws, ys, rfl, h1, t, h2, _⟩ := lst_by rs e r
      rw [bls_of h2 t] at h1
      exact cr_any hc pins s σ H _ us Q I rx ⟨_, _, rfl, SqL.of h1, fin.ok rs (.bl _)⟩
    · exact fin.elim
  · exact fin.elim
theorem blt_max (hc : X.calm = true) : CallR X (.builtin "max") (rBlt (pm X) "max") := by
  intro pins s σ H xs us Q I rx h
  obtain ⟨hs, W, as, S, vs, rs, ra, fin⟩ := h
  simp only [bltV, String.reduceEq, ↓reduceIte] at fin
  split at fin
  · obtain ⟨x, y, rfl, r, q⟩ := two_rv ra
    cases r
    cases q
    exact call_max2 hc pins s σ H _ us Q I rx ⟨_, _, rfl, fin.ok rs (.int _)⟩
  · exact fin.elim
theorem blt_min (hc : X.calm = true) : CallR X (.builtin "min") (rBlt (pm X) "min") := by
  intro pins s σ H xs us Q I rx h
  obtain ⟨hs, W, as, S, vs, rs, ra, fin⟩ := h
  simp only [bltV, String.reduceEq, ↓reduceIte] at fin
  split at fin
  · obtain ⟨x, y, rfl, r, q⟩ := two_rv ra
    cases r
    cases q
    exact call_min2 hc pins s σ H _ us Q I rx ⟨_, _, rfl, fin.ok rs (.int _)⟩
  · exact fin.elim
/-- list(..) -/
def rLof (K : Pm) (m : Bool) : List V → Hp → VK → Prop := fun xs H Q => ∃ hs W as S v, ∃ x, xs = [x] ∧ RS K hs H as S ∧ RV K hs H as v x ∧ FinV K hs W as H (match sqV S v with
    | some vs => mkL m S vs
    | none => .no) Q
theorem blt_list {m : Bool} : CallR X (.type "list") (rLof (pm X) m) := by
  intro pins s σ H xs us Q I rx h
  obtain ⟨hs, W, as, S, v, x, rfl, rs, r, fin⟩ := h
  split at fin
  · rename_i e
    obtain ⟨a, ys, rfl, h1, t⟩ := rs.sqV e r
    exact call_list_of pins s σ H _ us Q I rx ⟨_, ys, rfl, h1.symm, fun p hp => fin_mk fin rs t p hp⟩
  · exact fin.elim
/-! ### methods of built-in types -/
theorem nil_rv {K : Pm} {hs : List Addr} {as : List Addr} {H : Hp} {xs : List V} (h : RVs K hs H as [] xs) : xs = [] := by
  cases h
  rfl
theorem m_append : MtR X "list.append" (rMth (pm X) "list" "append") := by
  intro pins s σ H x xs v us Q I rx rxs h
  obtain ⟨hs, W, as, S, w, ws, rs, rw_, ra, fin⟩ := h
  simp only [mthV, mthL, mthS, String.reduceEq, ↓reduceIte] at fin
  split at fin
  · cases rw_ with
    | ref hk =>
      obtain ⟨y, rfl, r⟩ := one_rv ra
      split at fin
      · rename_i e
        obtain ⟨zs, h1, t⟩ := rs.lst e hk
        split at fin
        · rename_i hz
          have l := t.length
          refine mt_append pins s σ H _ _ v us Q I rx rxs ⟨_, zs, y, rfl, rfl, h1, sz_lt (by omega), ?_⟩
          exact fin as _ .non (List.prefix_refl _) (Kp.write (List.mem_of_getElem? hk)) (rs.write hk (t.append (.cons r .nil))) .non
        · exact fin.elim
      · exact fin.elim
  · exact fin.elim
theorem m_clear : MtR X "list.clear" (rMth (pm X) "list" "clear") := by
  intro pins s σ H x xs v us Q I rx rxs h
  obtain ⟨hs, W, as, S, w, ws, rs, rw_, ra, fin⟩ := h
  simp only [mthV, mthL, mthS, String.reduceEq, ↓reduceIte] at fin
  split at fin
  · cases rw_ with
    | ref hk =>
      obtain rfl := nil_rv ra
      split at fin
      · rename_i e
        obtain ⟨zs, h1, t⟩ := rs.lst e hk
        refine mt_clear pins s σ H _ _ v us Q I rx rxs ⟨_, zs, rfl, rfl, h1, ?_⟩
        exact fin as _ .non (List.prefix_refl _) (Kp.write (List.mem_of_getElem? hk)) (rs.write hk .nil) .non
      · exact fin.elim
  · exact fin.elim
theorem m_index (hu : X.A.units + 65 < cLine) : MtR X "list.index" (rMth (pm X) "list" "index") := by
  intro pins s σ H x xs v us Q I rx rxs h
  obtain ⟨hs, W, as, S, w, ws, rs, rw_, ra, fin⟩ := h
  simp only [mthV, mthL, mthS, String.reduceEq, ↓reduceIte] at fin
  split at fin
  · obtain ⟨y, rfl, r⟩ := one_rv ra
    split at fin
    · rename_i ds d e1 e2
      obtain ⟨d1, s1⟩ := datV_dp rs e1 rw_
      obtain ⟨d2, s2⟩ := datV_dp rs e2 r
      obtain ⟨a, rfl⟩ : ∃ a, x = .ref a := by cases d1; exact ⟨_, rfl⟩
      cases e3 : firstIx ds d with
      | none =>
        rw [e3] at fin
        exact fin.elim
      | some j =>
        rw [e3] at fin
        unfold firstIx at e3
        rw [List.findIdx?_eq_some_iff_getElem] at e3
        obtain ⟨hj, h1, h2⟩ := e3
        refine mt_indexD hu pins s σ H _ _ v us Q I rx rxs ⟨_, y, d, ds, j, ds[j], rfl, rfl, d1, d2, s1, s2, List.getElem?_eq_getElem hj, h1, fun m z hm hz => ?_, fin.ok rs (.int _)⟩
        obtain ⟨hm2, e4⟩ := List.getElem?_eq_some_iff.mp hz
        have h3 := h2 m hm
        rw [e4] at h3
        simpa using h3
    · exact fin.elim
  · exact fin.elim
theorem m_join : MtR X "str.join" (rMth (pm X) "str" "join") := by
  intro pins s σ H x xs v us Q I rx rxs h
  obtain ⟨hs, W, as, S, w, ws, rs, rw_, ra, fin⟩ := h
  simp only [mthV, mthL, mthS, String.reduceEq, ↓reduceIte] at fin
  split at fin
  · cases rw_
    obtain ⟨y, rfl, r⟩ := one_rv ra
    split at fin
    · rename_i e
      obtain ⟨a, vs, ys, rfl, h1, t, h2, _⟩ := lst_by rs e r
      rw [strs_of h2 t] at h1
      split at fin
      · rename_i hz
        exact mt_join pins s σ H _ _ v us Q I rx rxs ⟨_, _, _, rfl, rfl, .inl (SqL.of h1), hz, fin.ok rs (.str _)⟩
      · exact fin.elim
    · exact fin.elim
  · exact fin.elim
theorem m_upper : MtR X "str.upper" (rMth (pm X) "str" "upper") := by
  intro pins s σ H x xs v us Q I rx rxs h
  obtain ⟨hs, W, as, S, w, ws, rs, rw_, ra, fin⟩ := h
  simp only [mthV, mthL, mthS, String.reduceEq, ↓reduceIte] at fin
  split at fin
  · cases rw_
    obtain rfl := nil_rv ra
    split at fin
    · rename_i hz
      exact mt_upper pins s σ H _ _ v us Q I rx rxs ⟨_, rfl, rfl, hz, fin.ok rs (.str _)⟩
    · exact fin.elim
  · exact fin.elim
end
end Mv

/-! MvS: sorted. -/
namespace Mv
open PySem PySem.Spec PyProof.Rows L2
section
variable {α : Type} {lt : α → α → Bool}
theorem insB_perm (x : α) : ∀ ys : List α, (insB lt x ys).Perm (x :: ys)
  | [] => .refl _
  | y :: ys => by
    unfold insB
    split
    · exact ((insB_perm x ys).cons y).trans (.swap x y ys)
    · exact .refl _
theorem srtB_perm : ∀ xs : List α, (srtB lt xs).Perm xs
  | [] => .refl _
  | x :: xs => (insB_perm x (srtB lt xs)).trans ((srtB_perm xs).cons x)
theorem insB_srtd (O : SrtO.Swo lt) (x : α) : ∀ {ys : List α}, SrtO.Srtd lt ys → SrtO.Srtd lt (insB lt x ys)
  | [], _ => List.pairwise_singleton _ _
  | y :: ys, h => by
    have h1 := List.pairwise_cons.mp h
    unfold insB
    split
    · rename_i q
      refine List.pairwise_cons.mpr ⟨fun z hz => ?_, insB_srtd O x h1.2⟩
      rcases List.mem_cons.mp ((insB_perm x ys).mem_iff.mp hz) with e | e
      · rw [e]
        exact O.asym _ _ q
      · exact h1.1 z e
    · rename_i q
      have q : lt y x = false := by simpa using q
      refine List.pairwise_cons.mpr ⟨fun z hz => ?_, h⟩
      rcases List.mem_cons.mp hz with e | e
      · rw [e]
        exact q
      · exact O.tr x y z q (h1.1 z e)
theorem srtB_srtd (O : SrtO.Swo lt) : ∀ xs : List α, SrtO.Srtd lt (srtB lt xs)
  | [] => .nil
  | x :: xs => insB_srtd O x (srtB_srtd O xs)
/-- the sorted rearrangement is one -/
theorem srtB_uniq (O : SrtO.Swo lt) (anti : ∀ a b, lt a b = false → lt b a = false → a = b) {xs ys : List α} (h : SrtO.Srtd lt ys) (p : ys.Perm xs) : ys = srtB lt xs :=
  List.Perm.eq_of_pairwise (le := fun x y => lt y x = false) (fun a b _ _ h1 h2 => anti a b h2 h1) h (srtB_srtd O xs) (p.trans (srtB_perm xs).symm)
end
def ltI (i j : Int) : Bool := decide (i < j)
theorem swo_ltI : SrtO.Swo ltI := ⟨fun x y h => by simp [ltI] at *; omega, fun x y z h1 h2 => by simp [ltI] at *; omega⟩
theorem anti_ltI (a b : Int) (h1 : ltI a b = false) (h2 : ltI b a = false) : a = b := by simp [ltI] at *; omega
theorem ltPr_iff {p q : Int × Int} : ltPr p q = true ↔ p.1 < q.1 ∨ (p.1 = q.1 ∧ p.2 < q.2) := by simp [ltPr]
theorem ltPr_no {p q : Int × Int} : ltPr p q = false ↔ ¬(p.1 < q.1 ∨ (p.1 = q.1 ∧ p.2 < q.2)) := by
  rw [← ltPr_iff]
  cases ltPr p q <;> simp
theorem swo_ltPr : SrtO.Swo ltPr := ⟨fun x y h => by
  have a := ltPr_iff.mp h
  refine ltPr_no.mpr ?_
  omega, fun x y z h1 h2 => by
  have a := ltPr_no.mp h1
  have b := ltPr_no.mp h2
  refine ltPr_no.mpr ?_
  omega⟩
theorem anti_ltPr (p q : Int × Int) (h1 : ltPr p q = false) (h2 : ltPr q p = false) : p = q := by
  have a := ltPr_no.mp h1
  have b := ltPr_no.mp h2
  apply Prod.ext <;> omega
theorem lexB_eq : SrtO.lexB = ltPr := by
  funext p q
  cases h : ltPr p q with
  | true => exact SrtO.lexB_iff.mpr (ltPr_iff.mp h)
  | false => exact SrtO.lexB_no.mpr (ltPr_no.mp h)
theorem ints_uniq {b : Bool} {ns ns' : List Int} (p : ns'.Perm ns) (h : OrdB b ns') : ns' = if b = true then (srtB ltI ns).reverse else srtB ltI ns := by
  cases b with
  | false =>
    rw [if_neg Bool.false_ne_true]
    refine srtB_uniq swo_ltI anti_ltI ?_ p
    have h : ns'.Pairwise (· ≤ ·) := h
    exact h.imp fun {a b} q => by simp [ltI]; omega
  | true =>
    rw [if_pos rfl]
    have h : ns'.Pairwise (· ≥ ·) := h
    have e : ns'.reverse = srtB ltI ns := srtB_uniq swo_ltI anti_ltI (List.pairwise_reverse.mpr (h.imp fun {a b} q => by simp [ltI]; omega)) ((List.reverse_perm _).trans p)
    rw [← e, List.reverse_reverse]
section
variable (K : Pm)
def rSrt (m rv : Bool) : List V → Hp → VK → Prop := fun xs H Q => ∃ hs W as S v, ∃ x, xs = [x] ∧ RS K hs H as S ∧ RV K hs H as v x ∧ FinV K hs W as H (srtV m rv S v) Q
end
section
variable {K : Pm} {hs : List Addr} {as : List Addr} {H : Hp} {S : Store}
theorem pairOf_eq {v : Val} {p : Int × Int} (h : pairOf v = some p) : v = pairV p := by
  unfold pairOf at h
  split at h
  · cases h
    rfl
  · cases h
theorem pair_rv {v : Val} {x : V} {p : Int × Int} (h : pairOf v = some p) (r : RV K hs H as v x) : ∃ t, x = .ref t ∧ SqT K.K H t [.int p.1, .int p.2] := by
  rw [pairOf_eq h] at r
  cases r with
  | tup hk t =>
    cases t with
    | cons r1 t =>
      cases t with
      | cons r2 t =>
        cases t
        cases r1
        cases r2
        exact ⟨_, rfl, hk.sq⟩
theorem pairs_mem : ∀ {vs : List Val} {xs : List V} {ps : List (Int × Int)}, mapO pairOf vs = some ps → RVs K hs H as vs xs → ∀ x ∈ xs, ∃ p, RV K hs H as (pairV p) x
  | _, _, _, _, .nil, x, hx => by cases hx
  | _, _, ps, h, .cons r t, x, hx => by
    obtain ⟨b, bs, rfl, h1, h2⟩ := mapO_cons h
    rcases List.mem_cons.mp hx with e | hx
    · subst e
      rw [pairOf_eq h1] at r
      exact ⟨b, r⟩
    · exact pairs_mem h2 t x hx
theorem rvs_map {f : V → Val} : ∀ {ys : List V}, (∀ y ∈ ys, RV K hs H as (f y) y) → RVs K hs H as (ys.map f) ys
  | [], _ => .nil
  | y :: ys, h => .cons (h y (List.mem_cons_self ..)) (rvs_map fun z hz => h z (List.mem_cons_of_mem _ hz))
end
section
variable {X : Cx} {m : Bool}
open Classical in
/-- the pair at a reference -/
noncomputable def kOf (K : PySem.W.Frag) (H : Hp) (x : V) : Int × Int := if h : ∃ p : Int × Int, ∃ t, x = .ref t ∧ SqT K H t [.int p.1, .int p.2] then h.choose else (0, 0)
theorem kOf_eq {pins : List (Addr × Obj)} {σ : L2.St} {H : Hp} {s : Shared} (I : Inv X pins σ H s) {x : V} {p : Int × Int} {t : Addr} (e : x = .ref t) (h : SqT X.K H t [.int p.1, .int p.2]) : kOf X.K H x = p := by
  have hx : ∃ p : Int × Int, ∃ t, x = .ref t ∧ SqT X.K H t [.int p.1, .int p.2] := ⟨p, t, e, h⟩
  unfold kOf
  rw [dif_pos hx]
  obtain ⟨t2, e2, h2⟩ := hx.choose_spec
  rw [e] at e2
  cases e2
  have := I.tuple_inj h2 h
  injection this with a b
  injection a with a
  injection b with b
  injection b with b
  exact Prod.ext a b
theorem map_kOf {pins : List (Addr × Obj)} {σ : L2.St} {H : Hp} {s : Shared} (I : Inv X pins σ H s) {hs as : List Addr} : ∀ {vs : List Val} {xs : List V} {ps : List (Int × Int)}, mapO pairOf vs = some ps → RVs (pm X) hs H as vs xs → xs.map (kOf X.K H) = ps
  | _, _, _, h, .nil => by cases h; rfl
  | _, _, ps, h, .cons r t => by
    obtain ⟨b, bs, rfl, h1, h2⟩ := mapO_cons h
    obtain ⟨u, e, q⟩ := pair_rv h1 r
    rw [List.map_cons, kOf_eq I e q, map_kOf I h2 t]
/-- what the sort of pairs needs -/
theorem pairs_ready {pins : List (Addr × Obj)} {σ : L2.St} {H : Hp} {s : Shared} (I : Inv X pins σ H s) {hs as : List Addr} {vs : List Val} {xs : List V} {ps : List (Int × Int)} (h : mapO pairOf vs = some ps) (t : RVs (pm X) hs H as vs xs) {its : List Value} (rv : Vals xs its) :
    xs = its.map backV ∧ (∀ u ∈ its, ∃ a, u = Value.ref a) ∧ ∀ v ∈ its, Srt.IsPair s.heap v (kOf X.K H (backV v)).1 (kOf X.K H (backV v)).2 := by
  obtain ⟨e1, e2⟩ := refs_back rv fun x m => by
    obtain ⟨p, r⟩ := pairs_mem h t x m
    obtain ⟨u, e, _⟩ := pair_rv (p := p) rfl r
    exact ⟨u, e⟩
  refine ⟨e1, e2, fun v hv => ?_⟩
  obtain ⟨a, rfl⟩ := e2 v hv
  have hm : V.ref a ∈ xs := by rw [e1]; exact List.mem_map.mpr ⟨_, hv, rfl⟩
  obtain ⟨p, r⟩ := pairs_mem h t _ hm
  obtain ⟨u, e, q⟩ := pair_rv (p := p) rfl r
  cases e
  have ek : kOf X.K H (backV (.ref a)) = p := kOf_eq I rfl q
  rw [ek]
  obtain ⟨its2, r2, ⟨o, ho, hc, n, hd⟩, _⟩ := I.tuple q
  obtain ⟨u1, u2, rfl, ri, rj⟩ := vals2 r2
  obtain ⟨t1, rfl⟩ := ri
  obtain ⟨t2, rfl⟩ := rj
  exact ⟨a, o, t1, t2, n, rfl, ho, hc, hd⟩
/-- the sorted list of pairs -/
theorem pairs_done {pins : List (Addr × Obj)} {σ : L2.St} {H : Hp} {s : Shared} (I : Inv X pins σ H s) {hs as : List Addr} {vs : List Val} {xs : List V} {ps : List (Int × Int)} (h : mapO pairOf vs = some ps) (t : RVs (pm X) hs H as vs xs) {ys : List V} (p : ys.Perm xs) (q : SrtO.Srtd (fun v u => ltPr (kOf X.K H v) (kOf X.K H u)) ys) :
    RVs (pm X) hs H as ((srtB ltPr ps).map pairV) ys := by
  have e : ys.map (kOf X.K H) = srtB ltPr ps := srtB_uniq swo_ltPr anti_ltPr (List.pairwise_map.mpr q) (by
    rw [← map_kOf I h t]
    exact p.map _)
  rw [← e, List.map_map]
  refine rvs_map fun y hy => ?_
  obtain ⟨z, r⟩ := pairs_mem h t y (p.mem_iff.mp hy)
  obtain ⟨u, e1, q1⟩ := pair_rv (p := z) rfl r
  show RV _ _ _ _ (pairV (kOf X.K H y)) y
  rw [kOf_eq I e1 q1]
  exact r
theorem blt_sorted : CallR X (.builtin "sorted") (rSrt (pm X) m false) := by
  intro pins s σ H xs us Q I rx h
  obtain ⟨hs, W, as, S, v, x, rfl, rs, r, fin⟩ := h
  unfold srtV at fin
  split at fin
  · rename_i ws e
    cases e0 : lstV S v with
    | none =>
      rw [e0] at e
      cases e
    | some vs =>
      rw [e0] at e
      have e : srtL vs = some ws := e
      obtain ⟨a, ys, rfl, h1, t⟩ := rs.lstV e0 r
      unfold srtL at e
      split at e
      · rename_i is ei
        cases e
        have ex := ints_rv ei t
        subst ex
        refine cr_sortedI pins s σ H _ us Q I rx ⟨a, is, rfl, SqL.of h1, fun ns' p hp ho hn => ?_⟩
        have := ints_uniq (b := false) hp ho
        rw [if_neg Bool.false_ne_true] at this
        subst this
        rw [if_neg Bool.false_ne_true] at fin
        exact fin_mk fin rs (RVs.ints _) p hn
      · rw [Option.map_eq_some_iff] at e
        obtain ⟨ps, ep, ee⟩ := e
        subst ee
        rw [if_neg Bool.false_ne_true] at fin
        obtain ⟨its, rv, hl, hz⟩ := I.list (SqL.of h1)
        obtain ⟨u, rfl, ru⟩ := vals1 rx
        obtain rfl : u = Value.ref a := ru
        obtain ⟨e1, e2, e3⟩ := pairs_ready I ep t rv
        refine SrtO.sorted_pairsO (k := fun u => kOf X.K H (backV u)) hl.isList (by rw [← rv.length]; exact hz) e3 fun h' d out q1 q2 kp hd hn => ?_
        have h3 : ∀ u ∈ out, ∃ a, u = Value.ref a := fun u hu => e2 u (q2.perm.mem_iff.mp hu)
        have hb : (out.map backV).Perm ys := by
          rw [e1]
          exact q2.perm.map backV
        obtain ⟨n, hn⟩ := hn
        have hf := I.hok.fresh hd
        rw [lexB_eq] at q1
        have rr := pairs_done I ep t hb (List.pairwise_map.mpr q1)
        refine ⟨.ref d, upd H d (.lst (out.map backV)), I.laid (t' := s.toks) kp hd ⟨?_, out, n, vals_back h3, hn⟩, rfl, fin_mk fin rs rr d hf⟩
        rw [hb.length_eq]
        exact hz
  · exact fin.elim
/-- sorted(.., reverse=True) -/
theorem blt_sortedR : CallRK X (.builtin "sorted") [Str.ofString "reverse"] (fun vs zs H Q => zs = [.bl true] ∧ rSrt (pm X) m true vs H Q) := by
  intro pins s σ H xs zs us ws Q I rx rz h
  obtain ⟨rfl, hs, W, as, S, v, x, rfl, rs, r, fin⟩ := h
  unfold srtV at fin
  split at fin
  · rename_i ws e
    cases e0 : lstV S v with
    | none =>
      rw [e0] at e
      cases e
    | some vs =>
      rw [e0] at e
      have e : srtL vs = some ws := e
      obtain ⟨a, ys, rfl, h1, t⟩ := rs.lstV e0 r
      unfold srtL at e
      split at e
      · rename_i is ei
        cases e
        have ex := ints_rv ei t
        subst ex
        refine cr_sortedRev (b := true) pins s σ H _ _ us _ Q I rx rz ⟨a, is, rfl, rfl, SqL.of h1, fun ns' p hp ho hn => ?_⟩
        have := ints_uniq (b := true) hp ho
        rw [if_pos rfl] at this
        subst this
        rw [if_pos rfl, ← List.map_reverse] at fin
        exact fin_mk fin rs (RVs.ints _) p hn
      · rw [Option.map_eq_some_iff] at e
        obtain ⟨ps, ep, ee⟩ := e
        subst ee
        rw [if_pos rfl] at fin
        obtain ⟨its, rv, hl, hz⟩ := I.list (SqL.of h1)
        obtain ⟨u, rfl, ru⟩ := vals1 rx
        obtain rfl : u = Value.ref a := ru
        obtain ⟨w1, rfl, ew⟩ := vals1 rz
        obtain rfl : w1 = Value.bool true := ew
        obtain ⟨e1, e2, e3⟩ := pairs_ready I ep t rv
        refine SrtR.sorted_ordK (b := true) (fun _ => rfl) (PyProof.Rows.args_sorted_rev _ _) (fun _ => PyProof.Rows.args_list_sort_rev _ _) (SrtO.swo_lex fun u => kOf X.K H (backV u)) hl.isList (by rw [← rv.length]; exact hz)
          (fun h2 h₁ a' ha kk => SrtO.pairs_sortableO (s := { s with heap := h₁ }) (by omega) (fun v hm => (e3 v hm).keeps fun b o e _ => (kk b o e).2) fun o e => ?_) fun out q1 q2 => ?_
        · have e' : some o = some (seqObj "list" its.toArray 0) := e.symm.trans ha
          cases e'
          intro c
          exact absurd (Value.type.inj c) (by decide)
        · rw [if_pos rfl] at q2
          have q2p : out.Perm its := q2.perm.trans (List.reverse_perm _)
          have h3 : ∀ u ∈ out, ∃ a, u = Value.ref a := fun u hu => e2 u (q2p.mem_iff.mp hu)
          have h4 : ∀ u ∈ out.reverse, ∃ a, u = Value.ref a := fun u hu => h3 u (List.mem_reverse.mp hu)
          have hb : (out.map backV).Perm ys := by
            rw [e1]
            exact q2p.map backV
          obtain ⟨ep2, he'⟩ := PyProof.Rows.sortedAll_at s.heap its (if true = true then out.toArray.reverse else out.toArray)
          rw [lexB_eq] at q1
          have rr := (pairs_done I ep t hb (List.pairwise_map.mpr q1)).reverse
          have er : (out.map backV).reverse = out.reverse.map backV := by rw [List.map_reverse]
          have ea : (if true = true then out.toArray.reverse else out.toArray) = out.reverse.toArray := by
            rw [if_pos rfl]
            apply Array.ext'
            rw [Array.toList_reverse]
          have hf : H (s.heap.objs.size + 1) = none := I.hok.fresh (Nat.le_succ _)
          refine ⟨.ref _, upd H (s.heap.objs.size + 1) (.lst (out.map backV).reverse), I.laid (t' := s.toks) (fun _ _ => PyProof.Rows.sortedAll_old) (Nat.le_succ _) ⟨?_, out.reverse, ep2, by rw [er]; exact vals_back h4, ?_⟩, rfl, fin_mk fin rs rr _ hf⟩
          · rw [List.length_reverse, hb.length_eq]
            exact hz
          · rw [← ea]
            exact he'
  · exact fin.elim
end
end Mv

/-! MvE: readings by the evaluator; expressions. -/
namespace Mv
open PySem PySem.Spec PyProof.Rows L2

section
variable {K : Pm} {hs : List Addr} {W : XK} {α β γ δ : Type} {Rel : Hp → List Addr → α → β → Prop} {Rel2 : Hp → List Addr → γ → δ → Prop} {as bs : List Addr} {H H' : Hp} {Q : δ → Hp → Prop} {P : β → Hp → Prop} {S : Store}
theorem Fin.bind {o : Out α} {f : α → Store → Out γ} (h : Fin K hs W Rel2 as H (o.bind f) Q)
    (k : ∀ a S' bs H' b, as <+: bs → Ks as bs H H' → RS K hs H' bs S' → Rel H' bs a b → Fin K hs W Rel2 bs H' (f a S') Q → P b H') : Fin K hs W Rel as H o P := by
  cases o with
  | ok a S' => exact fun bs H' b p kp rs r => k a S' bs H' b p kp rs r (Fin.mono p kp.to h)
  | ex e S' => exact h
  | no => exact h
end
/-- what is wanted of an exception, by the slots -/
abbrev WS := L2.St → XK
abbrev WS.x (W : WS) : WX := fun cls d σ H => W σ cls d H
section
variable (K : Pm) (W : WS)
def tE (ev : Rho → Store → Out Val) : TE := fun σ H Q => ∃ hs as S r, RS K hs H as S ∧ RR K hs H as r σ ∧ FinV K hs (W σ) as H (ev r S) Q
def tT (ev : Rho → Store → Out Bool) : TT := fun σ H Q => ∃ hs as S r, RS K hs H as S ∧ RR K hs H as r σ ∧ FinB K hs (W σ) as H (ev r S) Q
def tA (ev : Rho → Store → Out (List Val)) : TA := fun σ H Q => ∃ hs as S r, RS K hs H as S ∧ RR K hs H as r σ ∧ FinA K hs (W σ) as H (ev r S) Q
def tOp (ev : Rho → Store → Out (Option Int)) : TO := fun σ H Q => ∃ hs as S r, RS K hs H as S ∧ RR K hs H as r σ ∧ FinO K hs (W σ) as H (ev r S) Q
/-- a walk of the evaluator's against one of the layer's -/
def ItOk (hs : List Addr) (H0 : Hp) (as0 : List Addr) (j : Mv.Itr) (J : It) : Prop := ∀ hs' bs H S i, as0 <+: bs → Kp hs' as0 bs H0 H → RS K hs' H bs S → Hd hs hs' H0 →
  (j.at_ S i = some none → J.stop i H) ∧ ∀ v, j.at_ S i = some (some v) → J.go i H ∧ ∀ x H', J.yld i H x H' → Ks bs bs H H' ∧ (∀ a ∈ bs, H' a = H a) ∧ RV K hs' H' bs v x
def tI (ev : Rho → Store → Out Mv.Itr) : TI := fun σ H R => ∃ hs as S r, RS K hs H as S ∧ RR K hs H as r σ ∧ Fin K hs (W σ) (ItOk K hs) as H (ev r S) R
def sets (σ : L2.St) (us : List (Nat × V)) : L2.St := us.foldl (fun s u => s.set u.1 (some u.2)) σ
def FinG (hs : List Addr) (sl : List Nat) (σ : L2.St) (as : List Addr) (H : Hp) (o : Out Rho) (Q : L2.St → Hp → Prop) : Prop := match o with
  | .ok r S => ∀ bs H' us, as <+: bs → Ks as bs H H' → RS K hs H' bs S → (∀ u ∈ us, u.1 ∈ sl) → RR K hs H' bs r (sets σ us) → Q (sets σ us) H'
  | _ => False
def tG (ev : Val → Rho → Store → Out Rho) (sl : List Nat) : TG := fun x σ H Q => ∃ hs as S r v, RS K hs H as S ∧ RR K hs H as r σ ∧ RV K hs H as v x ∧ FinG K hs sl σ as H (ev v r S) Q
def tGs (ev : List Val → Rho → Store → Out Rho) (sl : List Nat) : TGs := fun xs σ H Q => ∃ hs as S r vs, RS K hs H as S ∧ RR K hs H as r σ ∧ RVs K hs H as vs xs ∧ FinG K hs sl σ as H (ev vs r S) Q
def FinS (hs : List Addr) (as : List Addr) (H : Hp) (o : SO) (D : Ends) : Prop := match o with
  | .nx r S => ∀ bs H' σ', as <+: bs → Ks as bs H H' → RS K hs H' bs S → RR K hs H' bs r σ' → D.nx σ' H'
  | .rt v S => ∀ bs H' x, as <+: bs → Ks as bs H H' → RS K hs H' bs S → RV K hs H' bs v x → D.rt x H'
  | .bk r S => ∀ bs H' σ', as <+: bs → Ks as bs H H' → RS K hs H' bs S → RR K hs H' bs r σ' → D.bk σ' H'
  | .ct r S => ∀ bs H' σ', as <+: bs → Ks as bs H H' → RS K hs H' bs S → RR K hs H' bs r σ' → D.ct σ' H'
  | .ex e r S => ∀ bs H' σ' C d, as <+: bs → Ks as bs H H' → RS K hs H' bs S → RR K hs H' bs r σ' → RX K hs H' bs e C d → W σ' (.ref C) (some d) H'
  | .no => False
def tS (ev : Rho → Store → SO) : TS := fun D σ H => ∃ hs as S r, RS K hs H as S ∧ RR K hs H as r σ ∧ FinS K W hs as H (ev r S) D
end
section
variable {X : Cx} {e a b c : Expr} {pos : Pos}
theorem _root_.L2.PE.imp7 {t t' : TE} (h : PE X e t) (k : ∀ σ H Q, t' σ H Q → t σ H Q) : PE X e t' := ⟨fun pins s σ H Q I hw => h.run pins s σ H Q I (k σ H Q hw)⟩
theorem _root_.L2.PT.imp7 {t t' : TT} (h : PT X e t) (k : ∀ σ H Q, t' σ H Q → t σ H Q) : PT X e t' := ⟨fun pins s σ H Q I hw => h.run pins s σ H Q I (k σ H Q hw)⟩
theorem _root_.L2.PW.imp7 {t t' : TT} (h : PW X e t) (k : ∀ σ H Q, t' σ H Q → t σ H Q) : PW X e t' := ⟨fun wh pins s σ H Q I hw => h.run wh pins s σ H Q I (k σ H Q hw)⟩
theorem _root_.L2.PA.imp7 {es : List Expr} {t t' : TA} (h : PA X es t) (k : ∀ σ H Q, t' σ H Q → t σ H Q) : PA X es t' := ⟨fun pos pins s σ H Q I hw => h.run pos pins s σ H Q I (k σ H Q hw)⟩
theorem _root_.L2.PK.imp7 {ks : List Keyword} {t t' : TA} (h : PK X ks t) (k : ∀ σ H Q, t' σ H Q → t σ H Q) : PK X ks t' := ⟨fun pos pins s σ H Q I hw => h.run pos pins s σ H Q I (k σ H Q hw)⟩
theorem _root_.L2.PO.imp7 {o : Option Expr} {t t' : TO} (h : PO X o t) (k : ∀ σ H Q, t' σ H Q → t σ H Q) : PO X o t' := ⟨fun pins s σ H Q I hw => h.run pins s σ H Q I (k σ H Q hw)⟩
theorem _root_.L2.PG.imp7 {t t' : TG} (h : PG X e t) (k : ∀ x σ H Q, t' x σ H Q → t x σ H Q) : PG X e t' := ⟨fun pins s σ H v u Q I r hw => h.run pins s σ H v u Q I r (k v σ H Q hw)⟩
theorem _root_.L2.PGs.imp7 {es : List Expr} {t t' : TGs} (h : PGs X es t) (k : ∀ x σ H Q, t' x σ H Q → t x σ H Q) : PGs X es t' := ⟨fun pins s σ H v u Q I r hw => h.run pins s σ H v u Q I r (k v σ H Q hw)⟩
theorem _root_.L2.PI.imp7 {tg it : Expr} {t t' : TI} (h : PI X tg it t) (k : ∀ σ H R, t' σ H R → t σ H R) : PI X tg it t' := ⟨fun pins s σ H R I hw => h.run pins s σ H R I (k σ H R hw)⟩
theorem _root_.L2.PS.imp7 {st : Stmt} {t t' : TS} (h : PS X st t) (k : ∀ D σ H, t' D σ H → t D σ H) : PS X st t' := ⟨fun pins s σ H D I hw => h.run pins s σ H D I (k D σ H hw)⟩
theorem _root_.L2.PSs.imp7 {st : List Stmt} {t t' : TS} (h : PSs X st t) (k : ∀ D σ H, t' D σ H → t D σ H) : PSs X st t' := ⟨fun pins s σ H D I hw => h.run pins s σ H D I (k D σ H hw)⟩
theorem _root_.L2.PI.or7 {tg it : Expr} {t t' : TI} (h : PI X tg it t) (h' : PI X tg it t') : PI X tg it (fun σ H R => t σ H R ∨ t' σ H R) := ⟨fun pins s σ H R I hw => by
  rcases hw with hw | hw
  · exact h.run pins s σ H R I hw
  · exact h'.run pins s σ H R I hw⟩

variable {g : Cfg} {W : WS} {ca cb cc : C} {op op' : Cop}
abbrev SE (X : Cx) (W : WS) (g : Cfg) (e : Expr) (c : C) : Prop := PE X e (tE (pm X) W (evE g c))
abbrev ST (X : Cx) (W : WS) (g : Cfg) (e : Expr) (c : C) : Prop := PT X e (tT (pm X) W (evT g c))
theorem s_var {i : Nat} {x : Str} (hN : X.N[i]? = some x) (hv : Vis X.env.scope x) (hd : (x == ("__debug__" : Str)) = false) (hcd : (x == ("__classdict__" : Str)) = false) : SE X W g (.Name x pos) (.var i) :=
  (pe_var hN hv hd hcd).imp7 fun σ H Q ⟨hs, as, S, r, rs, rr, fin⟩ => by
    rw [evE] at fin
    split at fin
    · rename_i v e
      obtain ⟨y, h1, h2⟩ := rr.2 i v e
      exact ⟨y, h1, fin.ok rs h2⟩
    · exact fin.elim
theorem s_int {i : Int} {j : Nat} : SE X W g (.Constant (.int i) j pos) (.kint i) := pe_int.imp7 fun σ H Q ⟨hs, as, S, r, rs, rr, fin⟩ => by
  rw [evE] at fin
  exact fin.ok rs (.int i)
theorem s_str {i : Str} {j : Nat} : SE X W g (.Constant (.str i) j pos) (.kstr i) := pe_str.imp7 fun σ H Q ⟨hs, as, S, r, rs, rr, fin⟩ => by
  rw [evE] at fin
  exact fin.ok rs (.str i)
theorem s_bl {i : Bool} {j : Nat} : SE X W g (.Constant (.bool i) j pos) (.kbl i) := pe_bl.imp7 fun σ H Q ⟨hs, as, S, r, rs, rr, fin⟩ => by
  rw [evE] at fin
  exact fin.ok rs (.bl i)
theorem s_non {j : Nat} : SE X W g (.Constant .none j pos) .knon := pe_non.imp7 fun σ H Q ⟨hs, as, S, r, rs, rr, fin⟩ => by
  rw [evE] at fin
  exact fin.ok rs .non
theorem s_kty {n : String} {x : Str} (hg : Gl X x) (hm : X.mg x = none) (hv : bootBuiltins x = some (.type n)) (hn : x ≠ "__name__") (hd : (x == ("__debug__" : Str)) = false) : SE X W g (.Name x pos) (.kty n) :=
  (pe_bltn (v := .ty n) hg hm hv rfl hn hd).imp7 fun σ H Q ⟨hs, as, S, r, rs, rr, fin⟩ => by
    rw [evE] at fin
    exact fin.ok rs (.ty n)
theorem s_kval {x : Str} {v : Val} {y : V} {u : Value} (hv : g.kv x = some v) (hg : Gl X x) (hm : X.mg x = some u) (ru : RelV y u) (hr : ∀ hs H as, RV (pm X) hs H as v y) (hd : (x == ("__debug__" : Str)) = false) : SE X W g (.Name x pos) (.kval x) :=
  (pe_glob hg hm ru hd).imp7 fun σ H Q ⟨hs, as, S, r, rs, rr, fin⟩ => by
    rw [evE, hv] at fin
    exact fin.ok rs (hr hs H as)
theorem s_tup {es : List Expr} {k : Nat} {cs : C} (h : PA X es (tA (pm X) W (evEs g cs))) : SE X W g (.Tuple es k pos) (.tup cs) := (pe_tup h).imp7 fun σ H Q ⟨hs, as, S, r, rs, rr, fin⟩ => by
  rw [evE] at fin
  refine ⟨hs, as, S, r, rs, rr, fin.bind fun vs S1 bs H1 xs p kp rs1 rv f1 => ?_⟩
  split at f1
  · rename_i hz
    exact ⟨by rw [← rv.length]; exact sz_le hz, fun p hp => fin_tup f1 rs1 rv p hp⟩
  · exact f1.elim
theorem s_lst {m : Bool} {es : List Expr} {cs : C} (h : PA X es (tA (pm X) W (evEs g cs))) : SE X W g (.List es pos) (.lst m cs) := (pe_lst h).imp7 fun σ H Q ⟨hs, as, S, r, rs, rr, fin⟩ => by
  rw [evE] at fin
  refine ⟨hs, as, S, r, rs, rr, fin.bind fun vs S1 bs H1 xs p kp rs1 rv f1 => ?_⟩
  unfold newL at f1
  split at f1
  · rename_i hz
    exact ⟨by rw [← rv.length]; exact sz_le hz, fun p hp => fin_mk f1 rs1 rv p hp⟩
  · exact f1.elim
theorem s_bin {o : Bop} (ha : SE X W g a ca) (hb : SE X W g b cb) : SE X W g (.BinOp a (opOf o) b pos) (.bin o ca cb) := (pe_op op_bin ha hb).imp7 fun σ H Q ⟨hs, as, S, r, rs, rr, fin⟩ => by
  rw [evE] at fin
  exact ⟨hs, as, S, r, rs, rr, fin.bind fun v S1 bs H1 x p kp rs1 rv f1 => ⟨hs, bs, S1, r, rs1, rr.mono p kp.to, f1.bind fun w S2 cs H2 y p2 kp2 rs2 rw_ f2 => ⟨hs, _, cs, S2, v, w, rs2, rv.mono p2 kp2.to, rw_, f2⟩⟩⟩
theorem s_cat (ha : SE X W g a ca) (hb : SE X W g b cb) : SE X W g (.BinOp a .Add b pos) (.cat ca cb) := (pe_op op_catC ha hb).imp7 fun σ H Q ⟨hs, as, S, r, rs, rr, fin⟩ => by
  rw [evE] at fin
  exact ⟨hs, as, S, r, rs, rr, fin.bind fun v S1 bs H1 x p kp rs1 rv f1 => ⟨hs, bs, S1, r, rs1, rr.mono p kp.to, f1.bind fun w S2 cs H2 y p2 kp2 rs2 rw_ f2 => ⟨hs, _, cs, S2, v, w, rs2, rv.mono p2 kp2.to, rw_, f2⟩⟩⟩
theorem s_neg (ha : SE X W g a ca) : SE X W g (.UnaryOp .USub a pos) (.neg ca) := (pe_un un_neg ha).imp7 fun σ H Q ⟨hs, as, S, r, rs, rr, fin⟩ => by
  rw [evE] at fin
  refine ⟨hs, as, S, r, rs, rr, fin.bind fun v S1 bs H1 x p kp rs1 rv f1 => ?_⟩
  split at f1
  · cases rv
    exact ⟨_, rfl, f1.ok rs1 (.int _)⟩
  · exact f1.elim
/-- how a comparison of two values ends -/
theorem cmp_fin {K : Pm} {hs : List Addr} {W : XK} {as : List Addr} {H : Hp} {S : Store} {v w : Val} {x y : V} {Q : VK} (rs : RS K hs H as S) (rv : RV K hs H as v x) (rw_ : RV K hs H as w y) (fin : FinV K hs W as H (ofO S ((cmpV S op v w).map .bl)) Q) : rCmp K op x y H Q := by
  cases e : cmpV S op v w with
  | none =>
    rw [e] at fin
    exact fin.elim
  | some b =>
    rw [e] at fin
    exact ⟨hs, as, S, v, w, b, rs, rv, rw_, e, fin.ok rs (.bl b)⟩
theorem s_cmp (hu : X.A.units + 65 < cLine) (ha : SE X W g a ca) (hb : SE X W g b cb) (hm : behindInMarks (copOf op) b = false) : SE X W g (.Compare a [copOf op] [b] pos) (.cmp op ca cb) := (pe_cmpR (op_cmp hu) ha hb hm).imp7 fun σ H Q ⟨hs, as, S, r, rs, rr, fin⟩ => by
  rw [evE] at fin
  exact ⟨hs, as, S, r, rs, rr, fin.bind fun v S1 bs H1 x p kp rs1 rv f1 => ⟨hs, bs, S1, r, rs1, rr.mono p kp.to, f1.bind fun w S2 cs H2 y p2 kp2 rs2 rw_ f2 => cmp_fin rs2 (rv.mono p2 kp2.to) rw_ f2⟩⟩
theorem t_cmp (hu : X.A.units + 65 < cLine) (ha : SE X W g a ca) (hb : SE X W g b cb) (hm : behindInMarks (copOf op) b = false) : ST X W g (.Compare a [copOf op] [b] pos) (.cmp op ca cb) := (pt_cmpR (op_cmp hu) ha hb hm).imp7 fun σ H Q ⟨hs, as, S, r, rs, rr, fin⟩ => by
  have e0 : evT g (.cmp op ca cb) r S = (evE g (.cmp op ca cb) r S).bind fun v S1 => ofO S1 (tru S1 v) := by rw [evT] <;> intros <;> contradiction
  rw [e0, evE] at fin
  refine ⟨hs, as, S, r, rs, rr, ?_⟩
  cases ea : evE g ca r S with
  | no =>
    rw [ea] at fin
    exact fin.elim
  | ex e1 S1 =>
    rw [ea] at fin
    exact fin
  | ok v S1 =>
    rw [ea] at fin
    intro bs H1 x p kp rs1 rv
    refine ⟨hs, bs, S1, r, rs1, rr.mono p kp.to, ?_⟩
    have fin : FinB (pm X) hs (W σ) as H (((evE g cb r S1).bind fun w S2 => ofO S2 ((cmpV S2 op v w).map .bl)).bind fun v S1 => ofO S1 (tru S1 v)) Q := fin
    cases eb : evE g cb r S1 with
    | no =>
      rw [eb] at fin
      exact fin.elim
    | ex e1 S2 =>
      rw [eb] at fin
      exact Fin.mono p kp (o := .ex e1 S2) (Rel := fun _ _ (a b : Bool) => a = b) fin
    | ok w S2 =>
      rw [eb] at fin
      intro cs H2 y p2 kp2 rs2 rw_
      have fin : FinB (pm X) hs (W σ) as H ((ofO S2 ((cmpV S2 op v w).map .bl)).bind fun v S1 => ofO S1 (tru S1 v)) Q := fin
      cases ec : cmpV S2 op v w with
      | none =>
        rw [ec] at fin
        exact fin.elim
      | some k =>
        rw [ec] at fin
        exact ⟨hs, cs, S2, v, w, k, rs2, rv.mono p2 kp2.to, rw_, ec, k, rfl, (Fin.mono (p.trans p2) (kp.trans kp2) fin).ok rs2 rfl⟩
theorem s_not (ha : SE X W g a ca) : SE X W g (.UnaryOp .Not a pos) (.not_ ca) := (pe_notT ha).imp7 fun σ H Q ⟨hs, as, S, r, rs, rr, fin⟩ => by
  rw [evE] at fin
  refine ⟨hs, as, S, r, rs, rr, fin.bind fun v S1 bs H1 x p kp rs1 rv f1 => ?_⟩
  cases e : tru S1 v with
  | none =>
    rw [e] at f1
    exact f1.elim
  | some b =>
    rw [e] at f1
    exact ⟨b, tru_ok' rs1 e rv, f1.ok rs1 (.bl _)⟩
theorem t_not (ha : ST X W g a ca) : ST X W g (.UnaryOp .Not a pos) (.not_ ca) := (pt_not ha).imp7 fun σ H Q ⟨hs, as, S, r, rs, rr, fin⟩ => by
  rw [evT] at fin
  refine ⟨hs, as, S, r, rs, rr, fin.bind fun v S1 bs H1 x p kp rs1 rv f1 => ?_⟩
  subst rv
  exact f1.ok rs1 rfl
theorem s_and {rest : List Expr} (ha : SE X W g a ca) (hb : SE X W g (.BoolOp .And (b :: rest) pos) cb) : SE X W g (.BoolOp .And (a :: b :: rest) pos) (.and_ ca cb) := (pe_andT ha hb).imp7 fun σ H Q ⟨hs, as, S, r, rs, rr, fin⟩ => by
  rw [evE] at fin
  refine ⟨hs, as, S, r, rs, rr, fin.bind fun v S1 bs H1 x p kp rs1 rv f1 => ?_⟩
  split at f1
  · rename_i e
    exact ⟨true, tru_ok' rs1 e rv, by rw [if_pos rfl]; exact ⟨hs, bs, S1, r, rs1, rr.mono p kp.to, f1⟩⟩
  · rename_i e
    exact ⟨false, tru_ok' rs1 e rv, by rw [if_neg Bool.false_ne_true]; exact f1.ok rs1 rv⟩
  · exact f1.elim
theorem s_or {rest : List Expr} (ha : SE X W g a ca) (hb : SE X W g (.BoolOp .Or (b :: rest) pos) cb) : SE X W g (.BoolOp .Or (a :: b :: rest) pos) (.or_ ca cb) := (pe_orT ha hb).imp7 fun σ H Q ⟨hs, as, S, r, rs, rr, fin⟩ => by
  rw [evE] at fin
  refine ⟨hs, as, S, r, rs, rr, fin.bind fun v S1 bs H1 x p kp rs1 rv f1 => ?_⟩
  split at f1
  · rename_i e
    exact ⟨true, tru_ok' rs1 e rv, by rw [if_pos rfl]; exact f1.ok rs1 rv⟩
  · rename_i e
    exact ⟨false, tru_ok' rs1 e rv, by rw [if_neg Bool.false_ne_true]; exact ⟨hs, bs, S1, r, rs1, rr.mono p kp.to, f1⟩⟩
  · exact f1.elim
theorem w_and {rest : List Expr} (ha : ST X W g a ca) (hb : PW X (.BoolOp .And (b :: rest) pos) (tT (pm X) W (evT g cb))) : PW X (.BoolOp .And (a :: b :: rest) pos) (tT (pm X) W (evT g (.and_ ca cb))) := (pw_and ha hb).imp7 fun σ H Q ⟨hs, as, S, r, rs, rr, fin⟩ => by
  rw [evT] at fin
  refine ⟨hs, as, S, r, rs, rr, fin.bind fun v S1 bs H1 x p kp rs1 rv f1 => ?_⟩
  subst rv
  cases v with
  | true => rw [if_pos rfl]; exact ⟨hs, bs, S1, r, rs1, rr.mono p kp.to, f1⟩
  | false => rw [if_neg Bool.false_ne_true]; exact f1.ok rs1 rfl
theorem w_or {rest : List Expr} (ha : ST X W g a ca) (hb : PW X (.BoolOp .Or (b :: rest) pos) (tT (pm X) W (evT g cb))) : PW X (.BoolOp .Or (a :: b :: rest) pos) (tT (pm X) W (evT g (.or_ ca cb))) := (pw_or ha hb).imp7 fun σ H Q ⟨hs, as, S, r, rs, rr, fin⟩ => by
  rw [evT] at fin
  refine ⟨hs, as, S, r, rs, rr, fin.bind fun v S1 bs H1 x p kp rs1 rv f1 => ?_⟩
  subst rv
  cases v with
  | true => rw [if_pos rfl]; exact f1.ok rs1 rfl
  | false => rw [if_neg Bool.false_ne_true]; exact ⟨hs, bs, S1, r, rs1, rr.mono p kp.to, f1⟩
theorem s_ife (ht : ST X W g c cc) (ha : SE X W g a ca) (hb : SE X W g b cb) : SE X W g (.IfExp c a b pos) (.ife cc ca cb) := (pe_ifExp ht ha hb).imp7 fun σ H Q ⟨hs, as, S, r, rs, rr, fin⟩ => by
  rw [evE] at fin
  refine ⟨hs, as, S, r, rs, rr, fin.bind fun v S1 bs H1 x p kp rs1 rv f1 => ?_⟩
  subst rv
  cases v with
  | true => rw [if_pos rfl]; exact ⟨hs, bs, S1, r, rs1, rr.mono p kp.to, f1⟩
  | false => rw [if_neg Bool.false_ne_true]; exact ⟨hs, bs, S1, r, rs1, rr.mono p kp.to, f1⟩
theorem s_idx (ha : SE X W g a ca) (hb : SE X W g b cb) (hx : PlainIx b) : SE X W g (.Subscript a b pos) (.idx ca cb) := (pe_ix ix_ok ha hb hx).imp7 fun σ H Q ⟨hs, as, S, r, rs, rr, fin⟩ => by
  rw [evE] at fin
  exact ⟨hs, as, S, r, rs, rr, fin.bind fun v S1 bs H1 x p kp rs1 rv f1 => ⟨hs, bs, S1, r, rs1, rr.mono p kp.to, f1.bind fun w S2 cs H2 y p2 kp2 rs2 rw_ f2 => ⟨hs, _, cs, S2, v, w, rs2, rv.mono p2 kp2.to, rw_, f2⟩⟩⟩
theorem o_none : PO X none (tOp (pm X) W (evO g .nil)) := po_none.imp7 fun σ H Q ⟨hs, as, S, r, rs, rr, fin⟩ => by
  rw [evO] at fin
  exact fin.ok rs rfl
theorem o_some (hn : ca ≠ .nil) (ha : SE X W g a ca) : PO X (some a) (tOp (pm X) W (evO g ca)) := (po_some ha).imp7 fun σ H Q ⟨hs, as, S, r, rs, rr, fin⟩ => by
  rw [evO] at fin
  · refine ⟨hs, as, S, r, rs, rr, fin.bind fun v S1 bs H1 x p kp rs1 rv f1 => ?_⟩
    split at f1
    · cases rv
      exact ⟨_, rfl, f1.ok rs1 rfl⟩
    · exact f1.elim
  · exact hn
theorem s_sl {m : Bool} {lo hi : Option Expr} {cl ch : C} {p2 : Pos} (ha : SE X W g a ca) (hl : PO X lo (tOp (pm X) W (evO g cl))) (hh : PO X hi (tOp (pm X) W (evO g ch))) : SE X W g (.Subscript a (.Slice lo hi none p2) pos) (.sl m ca cl ch) := (pe_slice sl_ok ha hl hh).imp7 fun σ H Q ⟨hs, as, S, r, rs, rr, fin⟩ => by
  rw [evE] at fin
  refine ⟨hs, as, S, r, rs, rr, fin.bind fun v S1 bs H1 x p kp rs1 rv f1 => ⟨hs, bs, S1, r, rs1, rr.mono p kp.to, f1.bind fun l S2 cs H2 l' p2 kp2 rs2 rl f2 => ⟨hs, cs, S2, r, rs2, (rr.mono p kp.to).mono p2 kp2.to, f2.bind fun h S3 ds H3 h' p3 kp3 rs3 rh f3 => ?_⟩⟩⟩
  subst rl rh
  exact ⟨hs, _, ds, S3, v, rs3, (rv.mono p2 kp2.to).mono p3 kp3.to, f3⟩
end
end Mv

/-! MvF: lists of arguments, calls, walks, comprehensions, targets. -/
namespace Mv
open PySem PySem.Spec PyProof.Rows L2

section
variable {X : Cx} {e a b c : Expr} {es : List Expr} {pos : Pos} {g : Cfg} {W : WS} {ca cb cc cs : C}
def notStar : Expr → Bool
  | .Starred _ _ => false
  | _ => true
theorem starEach_plain {env : Env} (h : notStar e = true) : starEach (e :: es) env = (false, eval e env) :: starEach es env := by
  cases e <;> first | rfl | cases h
theorem stars_plain {env : Env} {pos : Pos} : ∀ {es : List Expr}, es.all notStar = true → (backTo pos (starEach es env)).any (·.1) = false
  | [], _ => rfl
  | e :: es, h => by
    rw [List.all_cons, Bool.and_eq_true] at h
    rw [starEach_plain h.1]
    show (false || (backTo pos (starEach es env)).any (·.1)) = false
    rw [stars_plain h.2]
    rfl
abbrev SA (X : Cx) (W : WS) (g : Cfg) (es : List Expr) (c : C) : Prop := PA X es (tA (pm X) W (evEs g c))
theorem a_nil : SA X W g [] .nil := pa_nil.imp7 fun σ H Q ⟨hs, as, S, r, rs, rr, fin⟩ => by
  rw [evEs] at fin
  exact fin.ok rs .nil
def noStarC : C → Bool
  | .star _ => false
  | _ => true
theorem a_cons (hn : notStar e = true) (hc : noStarC ca = true) (h : SE X W g e ca) (t : SA X W g es cs) : SA X W g (e :: es) (.cons ca cs) := (pa_cons h t (starEach_plain hn)).imp7 fun σ H Q ⟨hs, as, S, r, rs, rr, fin⟩ => by
  rw [evEs] at fin
  · refine ⟨hs, as, S, r, rs, rr, fin.bind fun v S1 bs H1 x p kp rs1 rv f1 => ⟨hs, bs, S1, r, rs1, rr.mono p kp.to, f1.bind fun vs S2 ds H2 xs p2 kp2 rs2 rvs f2 => ?_⟩⟩
    exact f2.ok rs2 (.cons (rv.mono p2 kp2.to) rvs)
  · rintro e rfl
    cases hc
theorem a_star {p : Pos} (h : SE X W g e ca) (t : SA X W g es cs) : SA X W g (.Starred e p :: es) (.cons (.star ca) cs) := (StX.pa_star h t rfl).imp7 fun σ H Q ⟨hs, as, S, r, rs, rr, fin⟩ => by
  rw [evEs] at fin
  refine ⟨hs, as, S, r, rs, rr, fin.bind fun v S1 bs H1 x p kp rs1 rv f1 => ?_⟩
  cases e1 : sqV S1 v with
  | none =>
    simp only [e1] at f1
    exact f1.elim
  | some vs =>
    simp only [e1] at f1
    obtain ⟨a, xs, rfl, h1, t1⟩ := rs1.sqV e1 rv
    refine ⟨a, xs, rfl, h1, hs, bs, S1, r, rs1, rr.mono p kp.to, f1.bind fun ws S2 ds H2 ys p2 kp2 rs2 rvs f2 => ?_⟩
    exact f2.ok rs2 ((t1.mono p2 kp2.to).append rvs)
/-- the values of keywords -/
theorem k_nil : PK X [] (tA (pm X) W (evEs g .nil)) := pk_nil.imp7 fun σ H Q ⟨hs, as, S, r, rs, rr, fin⟩ => by
  rw [evEs] at fin
  exact fin.ok rs .nil
theorem k_cons {nm : Option Str} {kpos : Pos} {kws : List Keyword} (hc : noStarC ca = true) (h : SE X W g e ca) (t : PK X kws (tA (pm X) W (evEs g cs))) : PK X (⟨nm, e, kpos⟩ :: kws) (tA (pm X) W (evEs g (.cons ca cs))) := (pk_cons h t).imp7 fun σ H Q ⟨hs, as, S, r, rs, rr, fin⟩ => by
  rw [evEs] at fin
  · refine ⟨hs, as, S, r, rs, rr, fin.bind fun v S1 bs H1 x p kp rs1 rv f1 => ⟨hs, bs, S1, r, rs1, rr.mono p kp.to, f1.bind fun vs S2 ds H2 xs p2 kp2 rs2 rvs f2 => ?_⟩⟩
    exact f2.ok rs2 (.cons (rv.mono p2 kp2.to) rvs)
  · rintro e rfl
    cases hc

/-! ### calls of defs -/
/-- a def's promise by its run -/
def spF (K : Pm) (m : Nat) (R : List Val → Store → Out Val) : Sp := fun vs H Q E => vs.length = m ∧ ∃ hs as S ws, RS K hs H as S ∧ RVs K hs H as ws vs ∧ FinV K hs E as H (R ws S) Q
/-- the same, of any number of arguments -/
def spR (K : Pm) (R : List Val → Store → Out Val) : Sp := fun vs H Q E => ∃ hs as S ws, RS K hs H as S ∧ RVs K hs H as ws vs ∧ FinV K hs E as H (R ws S) Q
section
variable {X : Cx} {k n : Nat} {f : Addr} {fd : FuncData} {ps ks : List Str} {sp : Sp} {E : L2.St → XK} {x : Str} {p pos sp_ : Pos} {e : Expr} {es : List Expr} {te : TE} {t tk : TA} {kws : List Keyword} {CX : CXT} {gg : List Value → List Value → List Value} {gV : List V → List V → List V}
theorem run_fnRS {pins : List (Addr × Obj)} {σ : L2.St} {H : Hp} {s : Shared} {Q : VK} {us : List Value} {vs : List V} (F : FnR X.prog X.w X.K X.mg X.base CX k f sp) (hr : Room k X.A) (hx : PassesAt CX X σ (E σ)) (I : Inv X pins σ H s) (r : Vals vs us) (h : sp vs H Q (E σ)) :
    wpAny (model X.prog X.w) X.A (call (.ref f) us) (EP X pins σ Q) X.xe s := by
  refine wpAny_call (codeAny_mono (F X.A X.stack s H us vs Q (E σ) hr I.env0 r h) fun r s' hq => ?_)
  cases r with
  | error e => exact hx pins H s e s' I hq
  | ok fl =>
    cases fl with
    | ret u => exact I.after hq
    | next => exact False.elim hq
    | brk => exact False.elim hq
    | cont => exact False.elim hq
def tCallR (sp : Sp) (E : L2.St → XK) (t : TA) : TE := fun σ H Q => t σ H fun vs H1 => sp vs H1 Q (E σ)
theorem pe_callR (F : FnR X.prog X.w X.K X.mg X.base CX k f sp) (hr : Room k X.A) (hg : Gl X x) (hm : X.mg x = some (.ref f)) (hk : PySem.W.keepIn X.K (.ref f) = true) (hx : ∀ σ, PassesAt CX X σ (E σ))
    (ha : PA X (e :: es) t) (hdb : (x == ("__debug__" : Str)) = false) (he : starEach (e :: es) X.env = (false, eval e X.env) :: starEach es X.env) :
    PE X (.Call (.Name x p) (e :: es) [] pos) (tCallR sp E t) := by
  refine ⟨fun pins s σ H Q I h => ?_⟩
  refine wpAny_Call_Name_kw (ld_glob I hg hm ?_ hdb)
  cases hst : (backTo pos (starEach es X.env)).any (·.1) with
  | false =>
    refine PySem.W.callWith_K (h₀ := X.base) I.ok.mod.kin hk (thn (ha.run pos pins s σ H _ I h) fun us s1 ⟨vs, H1, I1, r, q⟩ => ⟨I1.kIn, ?_⟩) he hst
    exact run_fnRS F hr (hx σ) I1 r q
  | true =>
    refine PySem.W.callWith_S2 (h₀ := X.base) I.ok.mod.kin hk (thn (ha.run pos pins s σ H _ I h) fun us s1 ⟨vs, H1, I1, r, q⟩ => ⟨I1.kIn, ?_⟩) he hst
    exact run_fnRS F hr (hx σ) I1 r q
theorem pe_callR0 (F : FnR X.prog X.w X.K X.mg X.base CX k f sp) (hr : Room k X.A) (hg : Gl X x) (hm : X.mg x = some (.ref f)) (hk : PySem.W.keepIn X.K (.ref f) = true) (hx : ∀ σ, PassesAt CX X σ (E σ)) (hdb : (x == ("__debug__" : Str)) = false) :
    PE X (.Call (.Name x p) [] [] pos) (tCallR sp E tNil) := by
  refine ⟨fun pins s σ H Q I h => ?_⟩
  refine wpAny_Call_Name_kw (ld_glob I hg hm ?_ hdb)
  exact PySem.W.callWith_K0 I.kIn hk (run_fnRS (us := []) F hr (hx σ) I .nil h)
theorem pe_callR1 (F : FnR X.prog X.w X.K X.mg X.base CX k f sp) (hr : Room k X.A) (hg : Gl X x) (hm : X.mg x = some (.ref f)) (hk : PySem.W.keepIn X.K (.ref f) = true) (hx : ∀ σ, PassesAt CX X σ (E σ)) (he : PE X e te) (hdb : (x == ("__debug__" : Str)) = false) :
    PE X (.Call (.Name x p) [.Starred e sp_] [] pos) (fun σ H Q => te σ H fun y H1 => ∃ a xs, y = V.ref a ∧ (SqT X.K H1 a xs ∨ SqL X.K H1 a xs) ∧ sp xs H1 Q (E σ)) := by
  refine ⟨fun pins s σ H Q I h => ?_⟩
  refine wpAny_Call_Name_kw (ld_glob I hg hm ?_ hdb)
  refine PySem.W.callWith_S (h₀ := X.base) I.ok.mod.kin hk (thn (he.run pins s σ H _ I h) fun v s1 ⟨y, H1, I1, ry, a, xs, ey, hxs, q⟩ => ?_) rfl
  subst ey
  obtain rfl : v = Value.ref a := ry
  exact StX.star_any I1 hxs fun us s2 I2 rv => ⟨I2.kIn, run_fnRS F hr (hx σ) I2 rv q⟩
theorem run_fnNS {pins : List (Addr × Obj)} {σ : L2.St} {H : Hp} {s : Shared} {Q : VK} {us ws : List Value} {vs zs : List V} (F : FnOk X.prog X.w X.K X.mg X.base CX k f fd ps sp) (hr : Room k X.A) (hb : KBn X.K fd ps n ks gg gV) (hx : PassesAt CX X σ (E σ))
    (I : Inv X pins σ H s) (r : Vals vs us) (rz : Vals zs ws) (l1 : vs.length = n) (l2 : zs.length = ks.length) (h : sp (gV vs zs) H Q (E σ)) : wpAny (model X.prog X.w) X.A (call (.ref f) us (ks.zip ws)) (EP X pins σ Q) X.xe s := by
  have r2 := hb.rel r rz
  refine wpAny_call (codeAny_mono (F.run X.A X.stack s H ⟨us, ks.zip ws⟩ (gg us ws) (gV vs zs) Q (E σ) hr I.env0 (hb.to s us ws I.kIn (r.length.symm.trans l1) (rz.length.symm.trans l2)) r2 h) fun r s' hq => ?_)
  cases r with
  | error e => exact hx pins H s e s' I hq
  | ok fl =>
    cases fl with
    | ret u => exact I.after hq
    | next => exact False.elim hq
    | brk => exact False.elim hq
    | cont => exact False.elim hq
def tCallNS (n m : Nat) (sp : Sp) (gV : List V → List V → List V) (E : L2.St → XK) (t tk : TA) : TE := fun σ H Q => t σ H fun vs H1 => tk σ H1 fun zs H2 => vs.length = n ∧ zs.length = m ∧ sp (gV vs zs) H2 Q (E σ)
theorem pe_callNS (F : FnOk X.prog X.w X.K X.mg X.base CX k f fd ps sp) (hr : Room k X.A) (hg : Gl X x) (hm : X.mg x = some (.ref f)) (hk : PySem.W.keepIn X.K (.ref f) = true) (hb : KBn X.K fd ps n ks gg gV) (hx : ∀ σ, PassesAt CX X σ (E σ))
    (ha : PA X (e :: es) t) (hkw : PK X kws tk) (hall : (backToKw pos (keywordEach kws X.env)).all (·.1.isSome) = true) (hks : (backToKw pos (keywordEach kws X.env)).filterMap (·.1) = ks)
    (hdb : (x == ("__debug__" : Str)) = false) (he : starEach (e :: es) X.env = (false, eval e X.env) :: starEach es X.env)
    (hpl : ((backTo pos (starEach (e :: es) X.env)).any (·.1) || (backToKw pos (keywordEach kws X.env)).any (·.1.isNone)) = false) :
    PE X (.Call (.Name x p) (e :: es) kws pos) (tCallNS n ks.length sp gV E t tk) := by
  refine ⟨fun pins s σ H Q I h => ?_⟩
  refine wpAny_Call_Name_kw (ld_glob I hg hm ?_ hdb)
  refine PySem.W.callWith_KW (h₀ := X.base) I.ok.mod.kin hk hall (thn (ha.run pos pins s σ H _ I h) fun us s1 ⟨vs, H1, I1, r, q⟩ => ?_) hpl he
  refine thn (hkw.run pos pins s1 σ H1 _ I1 q) fun ws s2 ⟨zs, H2, I2, rz, l1, l2, q2⟩ => ⟨I2.kIn, ?_⟩
  rw [hks]
  exact run_fnNS F hr hb (hx σ) I2 r rz l1 l2 q2
theorem pe_callNS0 (F : FnOk X.prog X.w X.K X.mg X.base CX k f fd ps sp) (hr : Room k X.A) (hg : Gl X x) (hm : X.mg x = some (.ref f)) (hk : PySem.W.keepIn X.K (.ref f) = true)
    (hb : KBn X.K fd ps 0 ks gg gV) (hx : ∀ σ, PassesAt CX X σ (E σ)) (hkw : PK X kws tk) (hall : (backToKw pos (keywordEach kws X.env)).all (·.1.isSome) = true) (hks : (backToKw pos (keywordEach kws X.env)).filterMap (·.1) = ks)
    (hdb : (x == ("__debug__" : Str)) = false) (hpl : ((backTo pos (starEach [] X.env)).any (·.1) || (backToKw pos (keywordEach kws X.env)).any (·.1.isNone)) = false) :
    PE X (.Call (.Name x p) [] kws pos) (tCallNS 0 ks.length sp gV E tNil tk) := by
  refine ⟨fun pins s σ H Q I h => ?_⟩
  refine wpAny_Call_Name_kw (ld_glob I hg hm ?_ hdb)
  refine PySem.W.callWith_KW0 (h₀ := X.base) I.ok.mod.kin hk hall ?_ hpl
  refine thn (hkw.run pos pins s σ H _ I h) fun ws s2 ⟨zs, H2, I2, rz, l1, l2, q2⟩ => ⟨I2.kIn, ?_⟩
  rw [hks]
  exact run_fnNS (us := []) (vs := []) F hr hb (hx σ) I2 .nil rz rfl l2 q2
end
variable {x : Str} {p : Pos} {f : Nat} {fa : Addr} {fd : FuncData} {ps : List Str} {k m : Nat} {CX : CXT}
theorem s_call (F : FnR X.prog X.w X.K X.mg X.base CX k fa (spR (pm X) (g.R f))) (hr : Room k X.A) (hg : Gl X x) (hm : X.mg x = some (.ref fa)) (hk : PySem.W.keepIn X.K (.ref fa) = true) (hx : ∀ σ, PassesAt CX X σ (W σ))
    (hn : notStar e = true) (ha : SA X W g (e :: es) cs) (hdb : (x == ("__debug__" : Str)) = false) : SE X W g (.Call (.Name x p) (e :: es) [] pos) (.call f cs) := by
  refine (pe_callR F hr hg hm hk hx ha hdb (starEach_plain hn)).imp7 fun σ H Q ⟨hs, as, S, r, rs, rr, fin⟩ => ?_
  rw [evE] at fin
  exact ⟨hs, as, S, r, rs, rr, fin.bind fun vs S1 bs H1 xs p1 kp1 rs1 rv f1 => ⟨hs, bs, S1, vs, rs1, rv, f1⟩⟩
theorem s_call0 (F : FnR X.prog X.w X.K X.mg X.base CX k fa (spR (pm X) (g.R f))) (hr : Room k X.A) (hg : Gl X x) (hm : X.mg x = some (.ref fa)) (hk : PySem.W.keepIn X.K (.ref fa) = true) (hx : ∀ σ, PassesAt CX X σ (W σ))
    (hdb : (x == ("__debug__" : Str)) = false) : SE X W g (.Call (.Name x p) [] [] pos) (.call f .nil) := by
  refine (pe_callR0 F hr hg hm hk hx hdb).imp7 fun σ H Q ⟨hs, as, S, r, rs, rr, fin⟩ => ?_
  rw [evE, evEs] at fin
  exact ⟨hs, as, S, [], rs, .nil, fin⟩
theorem s_call1 {sp_ : Pos} (F : FnR X.prog X.w X.K X.mg X.base CX k fa (spR (pm X) (g.R f))) (hr : Room k X.A) (hg : Gl X x) (hm : X.mg x = some (.ref fa)) (hk : PySem.W.keepIn X.K (.ref fa) = true) (hx : ∀ σ, PassesAt CX X σ (W σ))
    (ha : SE X W g e ca) (hdb : (x == ("__debug__" : Str)) = false) : SE X W g (.Call (.Name x p) [.Starred e sp_] [] pos) (.call f (.cons (.star ca) .nil)) := by
  refine (pe_callR1 F hr hg hm hk hx ha hdb).imp7 fun σ H Q ⟨hs, as, S, r, rs, rr, fin⟩ => ?_
  rw [evE, evEs] at fin
  refine ⟨hs, as, S, r, rs, rr, ?_⟩
  cases ev : evE g ca r S with
  | no =>
    rw [ev] at fin
    exact fin.elim
  | ex e1 S1 =>
    rw [ev] at fin
    exact fin
  | ok v S1 =>
    rw [ev] at fin
    intro bs H1 y p1 kp1 rs1 rv
    simp only [Out.bind_ok] at fin
    cases e1 : sqV S1 v with
    | none =>
      rw [e1] at fin
      exact fin.elim
    | some ys =>
      rw [e1] at fin
      simp only [evEs, Out.bind_ok, List.append_nil] at fin
      obtain ⟨a, xs, rfl, h1, t1⟩ := rs1.sqV e1 rv
      exact ⟨a, xs, rfl, h1, hs, bs, S1, ys, rs1, t1, Fin.mono p1 kp1 fin⟩
theorem s_calld {ds : List Val} {dvs : List V} (F : FnR X.prog X.w X.K X.mg X.base CX k fa (fun vs H Q E => spF (pm X) m (g.R f) (vs ++ dvs) H Q E)) (hr : Room k X.A) (hg : Gl X x) (hm : X.mg x = some (.ref fa)) (hk : PySem.W.keepIn X.K (.ref fa) = true) (hx : ∀ σ, PassesAt CX X σ (W σ))
    (hds : ∀ hs H as, RVs (pm X) hs H as ds dvs) (hn : notStar e = true) (hL : ∀ ws S, ws.length ≠ m → g.R f ws S = .no) (ha : SA X W g (e :: es) cs) (hdb : (x == ("__debug__" : Str)) = false) : SE X W g (.Call (.Name x p) (e :: es) [] pos) (.calld f cs ds) := by
  refine (pe_callR F hr hg hm hk hx ha hdb (starEach_plain hn)).imp7 fun σ H Q ⟨hs, as, S, r, rs, rr, fin⟩ => ?_
  rw [evE] at fin
  refine ⟨hs, as, S, r, rs, rr, fin.bind fun vs S1 bs H1 xs p1 kp1 rs1 rv f1 => ?_⟩
  have rv2 := rv.append (hds hs H1 bs)
  refine ⟨?_, hs, bs, S1, vs ++ ds, rs1, rv2, f1⟩
  rw [← rv2.length]
  by_cases hq : (vs ++ ds).length = m
  · exact hq
  · rw [hL _ S1 hq] at f1
    exact f1.elim
theorem s_calld0 {ds : List Val} {dvs : List V} (F : FnR X.prog X.w X.K X.mg X.base CX k fa (fun vs H Q E => spF (pm X) m (g.R f) (vs ++ dvs) H Q E)) (hr : Room k X.A) (hg : Gl X x) (hm : X.mg x = some (.ref fa)) (hk : PySem.W.keepIn X.K (.ref fa) = true) (hx : ∀ σ, PassesAt CX X σ (W σ))
    (hds : ∀ hs H as, RVs (pm X) hs H as ds dvs) (hL : ∀ ws S, ws.length ≠ m → g.R f ws S = .no) (hdb : (x == ("__debug__" : Str)) = false) : SE X W g (.Call (.Name x p) [] [] pos) (.calld f .nil ds) := by
  refine (pe_callR0 F hr hg hm hk hx hdb).imp7 fun σ H Q ⟨hs, as, S, r, rs, rr, fin⟩ => ?_
  rw [evE, evEs] at fin
  have fin : FinV (pm X) hs (W σ) as H (g.R f ds S) Q := fin
  refine ⟨?_, hs, as, S, ds, rs, hds hs H as, fin⟩
  show ([] ++ dvs).length = m
  rw [List.nil_append, ← (hds hs H as).length]
  by_cases hq : ds.length = m
  · exact hq
  · rw [hL _ S hq] at fin
    exact fin.elim
theorem kws_plain {env : Env} {pos : Pos} {kws : List Keyword} (h : kws.all (fun k => k.arg.isSome) = true) : (backToKw pos (keywordEach kws env)).all (·.1.isSome) = true ∧ (backToKw pos (keywordEach kws env)).any (·.1.isNone) = false ∧ (backToKw pos (keywordEach kws env)).filterMap (·.1) = kws.filterMap (·.arg) := by
  induction kws with
  | nil => exact ⟨rfl, rfl, rfl⟩
  | cons q kws ih =>
    obtain ⟨n, v, p⟩ := q
    rw [List.all_cons, Bool.and_eq_true] at h
    obtain ⟨i1, i2, i3⟩ := ih h.2
    cases n with
    | none => cases h.1
    | some n =>
      refine ⟨?_, ?_, ?_⟩
      · show (true && (backToKw pos (keywordEach kws env)).all (·.1.isSome)) = true
        rw [i1]
        rfl
      · show (false || (backToKw pos (keywordEach kws env)).any (·.1.isNone)) = false
        rw [i2]
        rfl
      · show n :: (backToKw pos (keywordEach kws env)).filterMap (·.1) = n :: kws.filterMap (·.arg)
        rw [i3]
/-- what a keyword call binds -/
def KwRel (K : Pm) (n : Nat) (ks : List Str) (src : List Src) (gV : List V → List V → List V) : Prop := ∀ hs H as vs xs ws zs us, vs.length = n → ws.length = ks.length → mapO (Src.get vs ws) src = some us → RVs K hs H as vs xs → RVs K hs H as ws zs → RVs K hs H as us (gV xs zs)
theorem s_callk {kws : List Keyword} {ks : List Str} {cw : C} {src : List Src} {n : Nat} {gg : List Value → List Value → List Value} {gV : List V → List V → List V} (F : FnOk X.prog X.w X.K X.mg X.base CX k fa fd ps (spF (pm X) m (g.R f))) (hr : Room k X.A) (hg : Gl X x) (hm : X.mg x = some (.ref fa))
    (hk : PySem.W.keepIn X.K (.ref fa) = true) (hx : ∀ σ, PassesAt CX X σ (W σ)) (hb : KBn X.K fd ps n ks gg gV) (hgv : KwRel (pm X) n ks src gV)
    (hn : (e :: es).all notStar = true) (hkw : kws.all (fun k => k.arg.isSome) = true) (hks : kws.filterMap (·.arg) = ks) (hL : ∀ ws S, ws.length ≠ m → g.R f ws S = .no)
    (hl1 : ∀ r S vs S', evEs g cs r S = .ok vs S' → vs.length = n) (hl2 : ∀ r S vs S', evEs g cw r S = .ok vs S' → vs.length = ks.length)
    (ha : SA X W g (e :: es) cs) (hw : PK X kws (tA (pm X) W (evEs g cw))) (hdb : (x == ("__debug__" : Str)) = false) : SE X W g (.Call (.Name x p) (e :: es) kws pos) (.callk f cs src cw) := by
  rw [List.all_cons, Bool.and_eq_true] at hn
  obtain ⟨k1, k2, k3⟩ := kws_plain (env := X.env) (pos := pos) hkw
  have hpl : ((backTo pos (starEach (e :: es) X.env)).any (·.1) || (backToKw pos (keywordEach kws X.env)).any (·.1.isNone)) = false := by
    rw [k2, stars_plain (by rw [List.all_cons, hn.1, hn.2]; rfl)]
    rfl
  refine (pe_callNS F hr hg hm hk hb hx ha hw k1 (k3.trans hks) hdb (starEach_plain hn.1) hpl).imp7 fun σ H Q ⟨hs, as, S, r, rs, rr, fin⟩ => ?_
  rw [evE] at fin
  refine ⟨hs, as, S, r, rs, rr, ?_⟩
  cases ev : evEs g cs r S with
  | no =>
    rw [ev] at fin
    exact fin.elim
  | ex e1 S1 =>
    rw [ev] at fin
    exact fin
  | ok vs S1 =>
    rw [ev] at fin
    intro bs H1 xs p1 kp1 rs1 rv
    refine ⟨hs, bs, S1, r, rs1, rr.mono p1 kp1.to, ?_⟩
    have fin : FinV (pm X) hs (W σ) as H ((evEs g cw r S1).bind fun us S2 => match mapO (Src.get vs us) src with
      | some as => g.R f as S2
      | none => .no) Q := fin
    cases ew : evEs g cw r S1 with
    | no =>
      rw [ew] at fin
      exact fin.elim
    | ex e1 S2 =>
      rw [ew] at fin
      exact Fin.mono p1 kp1 (o := .ex e1 S2) (Rel := RVs (pm X) hs) fin
    | ok ws S2 =>
      rw [ew] at fin
      intro ds H2 zs p2 kp2 rs2 rw_
      have l1 := hl1 _ _ _ _ ev
      have l2 := hl2 _ _ _ _ ew
      have fin : FinV (pm X) hs (W σ) as H (match mapO (Src.get vs ws) src with
        | some as => g.R f as S2
        | none => .no) Q := fin
      cases em : mapO (Src.get vs ws) src with
      | none =>
        rw [em] at fin
        exact fin.elim
      | some us =>
        rw [em] at fin
        have fin : FinV (pm X) hs (W σ) as H (g.R f us S2) Q := fin
        have ru := hgv hs H2 ds vs xs ws zs us l1 l2 em (rv.mono p2 kp2.to) rw_
        refine ⟨by rw [← rv.length]; exact l1, by rw [← rw_.length]; exact l2, ?_, hs, ds, S2, us, rs2, ru, Fin.mono (p1.trans p2) (kp1.trans kp2) fin⟩
        rw [← ru.length]
        by_cases hq : us.length = m
        · exact hq
        · rw [hL _ S2 hq] at fin
          exact fin.elim
theorem s_callk0 {kws : List Keyword} {ks : List Str} {cw : C} {src : List Src} {gg : List Value → List Value → List Value} {gV : List V → List V → List V} (F : FnOk X.prog X.w X.K X.mg X.base CX k fa fd ps (spF (pm X) m (g.R f))) (hr : Room k X.A) (hg : Gl X x) (hm : X.mg x = some (.ref fa))
    (hk : PySem.W.keepIn X.K (.ref fa) = true) (hx : ∀ σ, PassesAt CX X σ (W σ)) (hb : KBn X.K fd ps 0 ks gg gV) (hgv : KwRel (pm X) 0 ks src gV)
    (hkw : kws.all (fun k => k.arg.isSome) = true) (hks : kws.filterMap (·.arg) = ks) (hL : ∀ ws S, ws.length ≠ m → g.R f ws S = .no)
    (hl2 : ∀ r S vs S', evEs g cw r S = .ok vs S' → vs.length = ks.length)
    (hw : PK X kws (tA (pm X) W (evEs g cw))) (hdb : (x == ("__debug__" : Str)) = false) : SE X W g (.Call (.Name x p) [] kws pos) (.callk f .nil src cw) := by
  obtain ⟨k1, k2, k3⟩ := kws_plain (env := X.env) (pos := pos) hkw
  have hpl : ((backTo pos (starEach [] X.env)).any (·.1) || (backToKw pos (keywordEach kws X.env)).any (·.1.isNone)) = false := by
    rw [k2]
    rfl
  refine (pe_callNS0 F hr hg hm hk hb hx hw k1 (k3.trans hks) hdb hpl).imp7 fun σ H Q ⟨hs, as, S, r, rs, rr, fin⟩ => ?_
  rw [evE, evEs] at fin
  simp only [Out.bind_ok] at fin
  refine ⟨hs, as, S, r, rs, rr, ?_⟩
  cases ew : evEs g cw r S with
  | no =>
    rw [ew] at fin
    exact fin.elim
  | ex e1 S2 =>
    rw [ew] at fin
    exact fin
  | ok ws S2 =>
    rw [ew] at fin
    simp only [Out.bind_ok] at fin
    intro ds H2 zs p2 kp2 rs2 rw_
    have l2 := hl2 _ _ _ _ ew
    cases em : mapO (Src.get [] ws) src with
    | none =>
      rw [em] at fin
      exact fin.elim
    | some us =>
      rw [em] at fin
      have fin : FinV (pm X) hs (W σ) as H (g.R f us S2) Q := fin
      have ru := hgv hs H2 ds [] [] ws zs us rfl l2 em .nil rw_
      refine ⟨rfl, by rw [← rw_.length]; exact l2, ?_, hs, ds, S2, us, rs2, ru, Fin.mono p2 kp2 fin⟩
      rw [← ru.length]
      by_cases hq : us.length = m
      · exact hq
      · rw [hL _ S2 hq] at fin
        exact fin.elim

/-! ### built-in functions, methods -/
theorem s_bltB {b : String} (hc : CallR X (.builtin b) (rBlt (pm X) b)) (hg : Gl X x) (hm : X.mg x = none) (hv : bootBuiltins x = some (.builtin b)) (hn : (e :: es).all notStar = true) (ha : SA X W g (e :: es) cs) (hnm : x ≠ "__name__") (hdb : (x == ("__debug__" : Str)) = false) : SE X W g (.Call (.Name x p) (e :: es) [] pos) (.blt b cs) := by
  rw [List.all_cons, Bool.and_eq_true] at hn
  refine (pe_callB hc hg hm hv ha hnm hdb (starEach_plain hn.1) (stars_plain hn.2)).imp7 fun σ H Q ⟨hs, as, S, r, rs, rr, fin⟩ => ?_
  rw [evE] at fin
  exact ⟨hs, as, S, r, rs, rr, fin.bind fun vs S1 bs H1 xs p1 kp1 rs1 rv f1 => ⟨hs, _, bs, S1, vs, rs1, rv, f1⟩⟩
theorem s_bltT {b : String} (hc : CallR X (.type b) (rBlt (pm X) b)) (hg : Gl X x) (hm : X.mg x = none) (hv : bootBuiltins x = some (.type b)) (hn : (e :: es).all notStar = true) (ha : SA X W g (e :: es) cs) (hnm : x ≠ "__name__") (hdb : (x == ("__debug__" : Str)) = false) : SE X W g (.Call (.Name x p) (e :: es) [] pos) (.blt b cs) := by
  rw [List.all_cons, Bool.and_eq_true] at hn
  refine (pe_callTy hc hg hm hv ha hnm hdb (starEach_plain hn.1) (stars_plain hn.2)).imp7 fun σ H Q ⟨hs, as, S, r, rs, rr, fin⟩ => ?_
  rw [evE] at fin
  exact ⟨hs, as, S, r, rs, rr, fin.bind fun vs S1 bs H1 xs p1 kp1 rs1 rv f1 => ⟨hs, _, bs, S1, vs, rs1, rv, f1⟩⟩
def superOk (o : Expr) : Bool := match o with
  | .Call (.Name id _) [] [] _ => decide (id ≠ "super")
  | _ => true
theorem notSuper {o : Expr} {nm : Str} {env : Env} (h : superOk o = true) : attributeBase o nm env (eval o env) = eval o env := by
  unfold superOk at h
  unfold attributeBase
  split
  · have h : decide (_ ≠ _) = true := h
    have h := of_decide_eq_true h
    simp [h]
  · rfl
/-- x[::-1] -/
theorem s_rev {mm : Bool} {kk : Nat} {p1 p2 p3 : Pos} (h : SE X W g e ca) : SE X W g (.Subscript e (.Slice none none (some (.UnaryOp .USub (.Constant (.int 1) kk p1) p2)) p3) pos) (.rev mm ca) := (pe_revL h).imp7 fun σ H Q ⟨hs, as, S, r, rs, rr, fin⟩ => by
  rw [evE] at fin
  refine ⟨hs, as, S, r, rs, rr, fin.bind fun v S1 bs H1 x p kp rs1 rv f1 => ?_⟩
  unfold revV at f1
  split at f1
  · rename_i e1
    obtain ⟨a, xs, rfl, h1, t⟩ := rs1.lstV e1 rv
    exact ⟨a, xs, rfl, SqL.of h1, fun p hp => fin_mk f1 rs1 t.reverse p hp⟩
  · exact f1.elim
/-- list(..) -/
theorem s_lof {mm : Bool} (hg : Gl X "list") (hm : X.mg "list" = none) (hn : notStar e = true) (ha : SE X W g e ca) (hc : noStarC ca = true) : SE X W g (.Call (.Name "list" p) [e] [] pos) (.lof mm ca) := by
  refine (pe_callTy (blt_list (m := mm)) hg hm PyProof.Rows.boot_list (pa_cons ha pa_nil (starEach_plain hn)) (by decide) (by decide) (starEach_plain hn) rfl).imp7 fun σ H Q ⟨hs, as, S, r, rs, rr, fin⟩ => ?_
  rw [evE] at fin
  exact ⟨hs, as, S, r, rs, rr, fin.bind fun v S1 bs H1 y p1 kp1 rs1 rv f1 => ⟨hs, _, bs, S1, v, y, rfl, rs1, rv, f1⟩⟩
theorem s_srt {mm : Bool} (hg : Gl X "sorted") (hm : X.mg "sorted" = none) (hn : notStar e = true) (ha : SE X W g e ca) : SE X W g (.Call (.Name "sorted" p) [e] [] pos) (.srt mm false ca) := by
  refine (pe_callB (blt_sorted (m := mm)) hg hm PyProof.Rows.boot_sorted (pa_cons ha pa_nil (starEach_plain hn)) (by decide) (by decide) (starEach_plain hn) rfl).imp7 fun σ H Q ⟨hs, as, S, r, rs, rr, fin⟩ => ?_
  rw [evE] at fin
  exact ⟨hs, as, S, r, rs, rr, fin.bind fun v S1 bs H1 y p1 kp1 rs1 rv f1 => ⟨hs, _, bs, S1, v, y, rfl, rs1, rv, f1⟩⟩
theorem s_srtR {mm : Bool} {kk : Nat} {p1 p2 : Pos} (hg : Gl X "sorted") (hm : X.mg "sorted" = none) (hn : notStar e = true) (ha : SE X W g e ca) : SE X W g (.Call (.Name "sorted" p) [e] [⟨some "reverse", .Constant (.bool true) kk p1, p2⟩] pos) (.srt mm true ca) := by
  refine (pe_callBK (blt_sortedR (m := mm)) hg hm PyProof.Rows.boot_sorted (pa_cons ha pa_nil (starEach_plain hn)) (pk_cons pe_bl pk_nil) (by decide) (by decide) (by rw [starEach_plain hn]; rfl) (by rw [starEach_plain hn]; rfl) rfl rfl rfl).imp7 fun σ H Q ⟨hs, as, S, r, rs, rr, fin⟩ => ?_
  rw [evE] at fin
  exact ⟨hs, as, S, r, rs, rr, fin.bind fun v S1 bs H1 y p1 kp1 rs1 rv f1 => ⟨rfl, hs, _, bs, S1, v, y, rfl, rs1, rv, f1⟩⟩
/-- a value's type -/
theorem tyN_tyV {K : Pm} {hs : List Addr} {as : List Addr} {H : Hp} {S : Store} (rs : RS K hs H as S) {v : Val} {x : V} {T : String} (h : tyN S v = some T) (r : RV K hs H as v x) (hT : T = "list" ∨ T = "str") : tyV K.K T x H := by
  cases r with
  | @ref k a hk =>
    have h : (seqAt S k).map (fun _ => "list") = some T := h
    rw [Option.map_eq_some_iff] at h
    obtain ⟨vs, e, eb⟩ := h
    obtain ⟨xs, hs, t⟩ := rs.seq e hk
    exact .inl ⟨eb.symm, xs, SqL.of hs⟩
  | fz hk t =>
    cases h
    exact .inl ⟨rfl, _, hk.sq⟩
  | str z =>
    cases h
    rfl
  | non =>
    cases h
    rcases hT with z | z <;> exact absurd z (by decide)
  | bl _ =>
    cases h
    rcases hT with z | z <;> exact absurd z (by decide)
  | int _ =>
    cases h
    rcases hT with z | z <;> exact absurd z (by decide)
  | tup _ _ =>
    cases h
    rcases hT with z | z <;> exact absurd z (by decide)
  | tud _ _ =>
    cases h
    rcases hT with z | z <;> exact absurd z (by decide)
  | _ => cases h
theorem mthT_some {S : Store} {v : Val} {m T : String} (h : mthT S v m = some T) : tyN S v = some T ∧ mthHas T m = true := by
  unfold mthT at h
  split at h
  · rename_i e
    split at h
    · rename_i q
      cases h
      exact ⟨e, q⟩
    · cases h
  · cases h
theorem mthHas_ty {T m : String} (h : mthHas T m = true) : T = "list" ∨ T = "str" := by
  unfold mthHas at h
  simp only [Bool.or_eq_true, Bool.and_eq_true, beq_iff_eq] at h
  rcases h with ⟨h, _⟩ | ⟨h, _⟩
  · exact .inl h
  · exact .inr h
/-- a built-in type's method: its rule -/
structure MthOk (X : Cx) (T : String) (name : Str) (m : String) : Prop where
  pa : PlainAttrs T
  ex : ∃ id, Slot T name id ∧ typeOf (.builtin id) = pure (.type "method_descriptor") ∧ MtR X id (rMth (pm X) T m)
def lineOk (a b : Pos) : Bool := a.endLine == b.line
variable {o : Expr} {co : C} {name : Str} {m : String} {apos : Pos}
/-- the reading of a method's call, the receiver's type T -/
def tMth (K : Pm) (W : WS) (g : Cfg) (T m : String) (co cs : C) : TE := fun σ H Q => ∃ hs as S r, RS K hs H as S ∧ RR K hs H as r σ ∧ (∀ v S1, evE g co r S = .ok v S1 → mthT S1 v m = some T) ∧ FinV K hs (W σ) as H (evE g (.mth m co cs) r S) Q
theorem s_mthT {T : String} (hT : T = "list" ∨ T = "str") (M : MthOk X T name m) (ho : SE X W g o co) (hn : (e :: es).all notStar = true) (hlen : (e :: es).length < 30) (ha : SA X W g (e :: es) cs) (hsup : superOk o = true) (hl : lineOk apos pos = true) : PE X (.Call (.Attribute o name apos) (e :: es) [] pos) (tMth (pm X) W g T m co cs) := by
  rw [List.all_cons, Bool.and_eq_true] at hn
  obtain ⟨pa, id, sl, ty, hm⟩ := M
  have hfew : ((backTo pos (starEach (e :: es) X.env)).all (fun x => !x.1) && (backToKw pos (keywordEach [] X.env)).all (fun x => x.1.isSome)
      && decide ((e :: es).length + ([] : List Keyword).length + (if ([] : List Keyword).isEmpty then 0 else 1) < 30)) = true := by
    have h1 := stars_plain (env := X.env) (pos := pos) (es := e :: es) (by rw [List.all_cons, hn.1, hn.2]; rfl)
    rw [Bool.and_eq_true, Bool.and_eq_true]
    refine ⟨⟨?_, rfl⟩, decide_eq_true (by simpa using hlen)⟩
    rw [List.all_eq_true]
    intro y hy
    have h2 := List.any_eq_false.mp h1 y hy
    cases hy1 : y.1
    · rfl
    · exact absurd hy1 h2
  refine (pe_bm pa sl ty hm ho ha (notSuper hsup) hfew hl (starEach_plain hn.1) (stars_plain hn.2)).imp7 fun σ H Q ⟨hs, as, S, r, rs, rr, hty, fin⟩ => ?_
  rw [evE] at fin
  refine ⟨hs, as, S, r, rs, rr, ?_⟩
  cases ev : evE g co r S with
  | no =>
    rw [ev] at fin
    exact fin.elim
  | ex e1 S1 =>
    rw [ev] at fin
    exact fin
  | ok v S1 =>
    rw [ev] at fin
    intro bs H1 x p1 kp1 rs1 rv
    have tv := hty v S1 ev
    refine ⟨tyN_tyV rs1 (mthT_some tv).1 rv hT, hs, bs, S1, r, rs1, rr.mono p1 kp1.to, ?_⟩
    have fin : FinV (pm X) hs (W σ) as H (match mthT S1 v m with
      | some T => (evEs g cs r S1).bind fun vs S2 => mthV S2 T m v vs
      | none => .no) Q := fin
    rw [tv] at fin
    exact (Fin.mono p1 kp1 fin).bind fun vs S2 ds H2 xs p2 kp2 rs2 rvs f2 => ⟨hs, _, ds, S2, v, vs, rs2, rv.mono p2 kp2.to, rvs, f2⟩
theorem s_mthT0 {T : String} (hT : T = "list" ∨ T = "str") (M : MthOk X T name m) (ho : SE X W g o co) (hsup : superOk o = true) (hl : lineOk apos pos = true) : PE X (.Call (.Attribute o name apos) [] [] pos) (tMth (pm X) W g T m co .nil) := by
  obtain ⟨pa, id, sl, ty, hm⟩ := M
  refine (pe_bm0 pa sl ty hm ho (notSuper hsup) hl).imp7 fun σ H Q ⟨hs, as, S, r, rs, rr, hty, fin⟩ => ?_
  rw [evE] at fin
  refine ⟨hs, as, S, r, rs, rr, ?_⟩
  cases ev : evE g co r S with
  | no =>
    rw [ev] at fin
    exact fin.elim
  | ex e1 S1 =>
    rw [ev] at fin
    exact fin
  | ok v S1 =>
    rw [ev] at fin
    intro bs H1 x p1 kp1 rs1 rv
    have tv := hty v S1 ev
    refine ⟨tyN_tyV rs1 (mthT_some tv).1 rv hT, ?_⟩
    have fin : FinV (pm X) hs (W σ) as H (match mthT S1 v m with
      | some T => (evEs g .nil r S1).bind fun vs S2 => mthV S2 T m v vs
      | none => .no) Q := fin
    rw [tv, evEs] at fin
    exact ⟨hs, _, bs, S1, v, [], rs1, rv, .nil, Fin.mono p1 kp1 fin⟩
/-- whatever the receiver: by each type that has the method -/
theorem s_mth (hex : ∃ T, mthHas T m = true) (h : ∀ T, mthHas T m = true → PE X e (tMth (pm X) W g T m co cs)) : SE X W g e (.mth m co cs) := ⟨fun pins s σ H Q I ⟨hs, as, S, r, rs, rr, fin⟩ => by
  have fin0 := fin
  rw [evE] at fin
  cases ev : evE g co r S with
  | no =>
    rw [ev] at fin
    exact fin.elim
  | ex e1 S1 =>
    obtain ⟨T, hT⟩ := hex
    refine (h T hT).run pins s σ H Q I ⟨hs, as, S, r, rs, rr, fun v' S' e' => ?_, fin0⟩
    rw [ev] at e'
    cases e'
  | ok v S1 =>
    rw [ev] at fin
    have fin : FinV (pm X) hs (W σ) as H (match mthT S1 v m with
      | some T => (evEs g cs r S1).bind fun vs S2 => mthV S2 T m v vs
      | none => .no) Q := fin
    cases tv : mthT S1 v m with
    | none =>
      rw [tv] at fin
      exact fin.elim
    | some T =>
      refine (h T (mthT_some tv).2).run pins s σ H Q I ⟨hs, as, S, r, rs, rr, fun v' S' e' => ?_, fin0⟩
      rw [ev] at e'
      cases e'
      exact tv⟩
end
end Mv

/-! MvL: instances. -/
namespace Mv
open PySem PySem.Spec PyProof.Rows L2
section
variable {K : Pm} {hs : List Addr} {H : Hp} {as : List Addr} {S : Store}
theorem RS.insV (rs : RS K hs H as S) {v : Val} {x : V} {c : Str} {ks : List Str} {vs : List Val} (h : Mv.insV S v = some (c, ks, vs)) (r : RV K hs H as v x) :
    ∃ a C dx xs, x = .ref a ∧ K.mg c = some (.ref C) ∧ H a = some (.ins C dx (ks.zip xs)) ∧ ks.length = xs.length ∧ RVs K hs H as vs xs := by
  cases r with
  | @ref k a hk =>
    unfold Mv.insV at h
    simp only at h
    split at h
    · rename_i e
      cases h
      obtain ⟨C, dx, xs, h1, h2, _, h4, _, t⟩ := rs.at_ k a _ hk e
      exact ⟨a, C, dx, xs, rfl, h1, h2, h4, t⟩
    · cases h
  | ob hk t =>
    cases h
    obtain ⟨C, dx, h1, h2, _, h4, _, _⟩ := hk
    exact ⟨_, C, dx, _, rfl, h1, h2, h4, t⟩
  | _ => cases h
theorem look_none {f : Str} : ∀ {ks : List Str} {xs : List V}, f ∉ ks → (ks.zip xs).lookup f = none
  | [], xs, _ => rfl
  | k :: ks, [], _ => rfl
  | k :: ks, x :: xs, h => by
    rw [List.zip_cons_cons, List.lookup_cons]
    have : (f == k) = false := beq_eq_false_iff_ne.mpr fun z => h (by rw [z]; exact List.mem_cons_self ..)
    rw [this]
    exact look_none fun z => h (List.mem_cons_of_mem _ z)
theorem putO_ok {f : Str} {v : Val} {y : V} : ∀ {ks : List Str} {vs : List Val} {xs : List V}, RV K hs H as v y → RVs K hs H as vs xs → ks.length = xs.length →
    ∃ zs, (putO f v ks vs).1.zip zs = putF f y (ks.zip xs) ∧ (putO f v ks vs).1.length = zs.length ∧ RVs K hs H as (putO f v ks vs).2 zs
  | [], _, _, r, .nil, l => ⟨[y], rfl, rfl, .cons r .nil⟩
  | [], _, _, r, .cons _ _, l => by cases l
  | k :: ks, _, _, r, .nil, l => by cases l
  | k :: ks, _, _, r, @RVs.cons _ _ _ _ w x ws xs h t, l => by
    by_cases q : k = f
    · have e1 : putO f v (k :: ks) (w :: ws) = (k :: ks, v :: ws) := if_pos q
      have e2 : putF f y ((k :: ks).zip (x :: xs)) = (k, y) :: ks.zip xs := if_pos q
      rw [e1, e2]
      exact ⟨y :: xs, rfl, l, .cons r t⟩
    · have e1 : putO f v (k :: ks) (w :: ws) = (k :: (putO f v ks ws).1, w :: (putO f v ks ws).2) := if_neg q
      have e2 : putF f y ((k :: ks).zip (x :: xs)) = (k, x) :: putF f y (ks.zip xs) := if_neg q
      rw [e1, e2]
      obtain ⟨zs, h1, h2, h3⟩ := putO_ok (f := f) r t (Nat.succ.inj l)
      exact ⟨x :: zs, congrArg ((k, x) :: ·) h1, congrArg Nat.succ h2, .cons h h3⟩
end
section
variable {X : Cx} {e o : Expr} {es : List Expr} {pos p apos : Pos} {g : Cfg} {W : WS} {ca co ce cs : C} {c f m : Str}
theorem s_fld (hc : ∀ C, X.mg c = some (.ref C) → Cls X.K C ∧ NoAttr X.K C f) (ho : SE X W g o co) (hsup : superOk o = true) : SE X W g (.Attribute o f pos) (.fld c f co) := (pe_fld ho (notSuper hsup)).imp7 fun σ H Q ⟨hs, as, S, r, rs, rr, fin⟩ => by
  rw [evE] at fin
  refine ⟨hs, as, S, r, rs, rr, fin.bind fun v S1 bs H1 x p kp rs1 rv f1 => ?_⟩
  unfold fldV at f1
  cases e1 : insV S1 v with
  | none =>
    rw [e1] at f1
    exact f1.elim
  | some q =>
    obtain ⟨d, ks, vs⟩ := q
    rw [e1] at f1
    simp only at f1
    split at f1
    · rename_i ed
      subst ed
      cases e2 : (ks.zip vs).lookup f with
      | none =>
        rw [e2] at f1
        exact f1.elim
      | some w =>
        rw [e2] at f1
        obtain ⟨a, C, dx, xs, rfl, h1, h2, h3, t⟩ := rs1.insV e1 rv
        obtain ⟨c1, c2⟩ := hc C h1
        obtain ⟨y, l, ry⟩ := look_zip t e2
        exact ⟨a, C, dx, _, y, rfl, h2, c1, c2, l, f1.ok rs1 ry⟩
    · exact f1.elim
/-- a constant read off its class -/
theorem s_cst {x : Str} {pn : Pos} {C : Addr} {mc u : Value} {v : Val} {y : V} {key : Str} (hg : Gl X x) (hm : X.mg x = some (.ref C)) (r : ClX.CRead X.K C mc) (k : ClX.CVal X.K C mc f y u) (hv : g.kv key = some v) (hr : ∀ hs H as, RV (pm X) hs H as v y) (hd : (x == ("__debug__" : Str)) = false) : SE X W g (.Attribute (.Name x pn) f pos) (.kval key) :=
  (ClX.pe_cval (pe_glob (v := V.ref C) hg hm rfl hd) (notSuper (o := .Name x pn) rfl)).imp7 fun σ H Q ⟨hs, as, S, r1, rs, rr, fin⟩ => by
    rw [evE, hv] at fin
    exact ⟨C, mc, y, u, rfl, r, k, fin.ok rs (hr hs H as)⟩
end
/-! ### methods -/
section
variable {X : Cx} {k n : Nat} {fa C fI : Addr} {fd : FuncData} {ps ks : List Str} {sp : Sp} {E : L2.St → XK} {x m : Str} {p pos apos : Pos} {e o : Expr} {es : List Expr} {te ta : TE} {t tk : TA} {kws : List Keyword} {CX : CXT} {gg : List Value → List Value → List Value} {gV : List V → List V → List V}
def tMethR (C : Addr) (m : Str) (sp : Sp) (E : L2.St → XK) (ta : TE) (t : TA) : TE := fun σ H Q => ta σ H fun x H1 => ∃ a dx fs, x = .ref a ∧ H1 a = some (.ins C dx fs) ∧ fs.lookup m = none ∧ t σ H1 fun vs H2 => sp (x :: vs) H2 Q (E σ)
def lineOk0 (a b : Pos) : Bool := a.endLine == b.line
theorem call_eq {env : Env} {args : List Expr} (hb : attributeBase o m env (eval o env) = eval o env) (hl : lineOk0 apos pos = true) (hn : args.all notStar = true) (hlen : args.length < 30) : eval (.Call (.Attribute o m apos) args [] pos) env = (do
      let ov ← eval o env
      standAt apos.atName
      let (f, first) ← holding [ov] (getMethod ov m (do return (← importBound o env).getD true))
      callWith pos f first (backTo pos (starEach args env)) (backToKw pos (keywordEach [] env))) := by
  have hf : methodCallForm (args.length + ([] : List Keyword).length) (backTo pos (starEach args env)) (backToKw pos (keywordEach [] env)) = true := by
    have h1 := stars_plain (env := env) (pos := pos) (es := args) hn
    unfold methodCallForm
    rw [Bool.and_eq_true, Bool.and_eq_true]
    refine ⟨⟨?_, rfl⟩, decide_eq_true (show args.length + 0 + 0 < 30 by omega)⟩
    rw [List.all_eq_true]
    intro y hy
    have h2 := List.any_eq_false.mp h1 y hy
    cases hy1 : y.1
    · rfl
    · exact absurd hy1 h2
  have hp : methodCallPos true o env apos pos = pure pos := by
    unfold methodCallPos
    have hl : (apos.endLine == pos.line) = true := hl
    rw [hl]
    rfl
  refine mcall_of hb fun ov => ?_
  unfold methodCall
  rw [hf, hp]
  rfl
theorem pe_methR (he : PE X o ta) (hsup : superOk o = true) (hl : lineOk0 apos pos = true) (c : Cls X.K C) (hm : Meth X.K C m fa) (F : FnR X.prog X.w X.K X.mg X.base CX k fa sp) (hr : Room k X.A) (hx : ∀ σ, PassesAt CX X σ (E σ)) (hn : (e :: es).all notStar = true) (hlen : (e :: es).length < 30) (ha : PA X (e :: es) t) :
    PE X (.Call (.Attribute o m apos) (e :: es) [] pos) (tMethR C m sp E ta t) := by
  refine ⟨fun pins s σ H Q I h => ?_⟩
  have ht := call_eq (o := o) (m := m) (apos := apos) (pos := pos) (args := e :: es) (notSuper (nm := m) (env := X.env) hsup) hl hn hlen
  rw [List.all_cons, Bool.and_eq_true] at hn
  refine PySem.W.methodCall_KW (thn (he.run pins s σ H _ I h) fun u s1 ⟨x, H1, I1, rx, a, dx, fs, ex, ea, l, q⟩ => ?_) ht
  subst ex
  obtain rfl : u = Value.ref a := rx
  refine getmeth_ok I1 ea c hm l ?_
  refine PySem.W.callWith_K (first := [.ref a]) (h₀ := X.base) I.ok.mod.kin hm.kp (thn (ha.run pos pins s1 σ H1 _ I1 q) fun us s2 ⟨vs, H2, I2, r, q2⟩ => ⟨I2.kIn, ?_⟩) (starEach_plain hn.1) (stars_plain hn.2)
  exact run_fnRS (us := .ref a :: us) (vs := .ref a :: vs) F hr (hx σ) I2 (.cons rfl r) q2
theorem pe_methR0 (he : PE X o ta) (hsup : superOk o = true) (hl : lineOk0 apos pos = true) (c : Cls X.K C) (hm : Meth X.K C m fa) (F : FnR X.prog X.w X.K X.mg X.base CX k fa sp) (hr : Room k X.A) (hx : ∀ σ, PassesAt CX X σ (E σ)) :
    PE X (.Call (.Attribute o m apos) [] [] pos) (tMethR C m sp E ta tNil) := by
  refine ⟨fun pins s σ H Q I h => ?_⟩
  have ht := call_eq (o := o) (m := m) (apos := apos) (pos := pos) (args := []) (notSuper (nm := m) (env := X.env) hsup) hl rfl (by simp)
  refine PySem.W.methodCall_KW (thn (he.run pins s σ H _ I h) fun u s1 ⟨x, H1, I1, rx, a, dx, fs, ex, ea, l, q⟩ => ?_) ht
  subst ex
  obtain rfl : u = Value.ref a := rx
  refine getmeth_ok I1 ea c hm l ?_
  exact PySem.W.callWith_K0 (first := [.ref a]) I1.kIn hm.kp (run_fnRS (us := [.ref a]) (vs := [.ref a]) F hr (hx σ) I1 (.cons rfl .nil) q)
/-! ### making -/
theorem run_makeR {pins : List (Addr × Obj)} {σ : L2.St} {H : Hp} {s : Shared} {Q : VK} {us : List Value} {vs : List V} (M : Mk X.K C fI) (F : FnR X.prog X.w X.K X.mg X.base CX k fI sp) (hr : Room (k + 1) X.A) (hx : PassesAt CX X σ (E σ))
    (I : Inv X pins σ H s) (r : Vals vs us)
    (h : ∀ x dx, H x = none → H dx = none → dx ≠ x → sp (.ref x :: vs) (upd (upd H dx (.own x)) x (.ins C dx [])) (fun v H2 => v = .non ∧ Q (.ref x) H2) (E σ)) :
    wpAny (model X.prog X.w) X.A (call (.ref C) us) (EP X pins σ Q) X.xe s := by
  have hq := h (s.heap.objs.size + 1) s.heap.objs.size (I.hok.fresh (Nat.le_succ _)) (I.hok.fresh (Nat.le_refl _)) (Nat.ne_of_lt (Nat.lt_succ_self _))
  have I2 := Inv.made (C := C) I
  refine wpAny_call (make_map (f := fI) I.kIn M.makes M.init (beq_iff_eq.mp M.fn) (codeAny_mono (F _ X.stack _ _ (Value.ref (s.heap.objs.size + 1) :: us) (V.ref (s.heap.objs.size + 1) :: vs) _ (E σ) (hr.make C us [])
    (I2.env0.make C us []) (.cons rfl r) hq) fun r s' hq' => ?_))
  cases r with
  | error e => exact hx pins _ _ e s' I2 hq'
  | ok fl =>
    cases fl with
    | ret u =>
      obtain ⟨v, H', I3, rv, ev, q3⟩ := I2.after hq'
      subst ev
      exact ⟨rv, ⟨V.ref (s.heap.objs.size + 1), H', I3, rfl, q3⟩⟩
    | next => exact False.elim hq'
    | brk => exact False.elim hq'
    | cont => exact False.elim hq'
def tMakeR (C : Addr) (sp : Sp) (E : L2.St → XK) (t : TA) : TE := fun σ H Q => t σ H fun vs H1 => ∀ x dx, H1 x = none → H1 dx = none → dx ≠ x → sp (.ref x :: vs) (upd (upd H1 dx (.own x)) x (.ins C dx [])) (fun v H2 => v = .non ∧ Q (.ref x) H2) (E σ)
theorem pe_makeR (M : Mk X.K C fI) (F : FnR X.prog X.w X.K X.mg X.base CX k fI sp) (hr : Room (k + 1) X.A) (hg : Gl X x) (hm : X.mg x = some (.ref C)) (hx : ∀ σ, PassesAt CX X σ (E σ)) (hn : (e :: es).all notStar = true) (ha : PA X (e :: es) t) (hdb : (x == ("__debug__" : Str)) = false) :
    PE X (.Call (.Name x p) (e :: es) [] pos) (tMakeR C sp E t) := by
  refine ⟨fun pins s σ H Q I h => ?_⟩
  rw [List.all_cons, Bool.and_eq_true] at hn
  refine wpAny_Call_Name_kw (ld_glob I hg hm ?_ hdb)
  refine PySem.W.callWith_K (h₀ := X.base) I.ok.mod.kin M.kp (thn (ha.run pos pins s σ H _ I h) fun us s1 ⟨vs, H1, I1, r, q⟩ => ⟨I1.kIn, ?_⟩) (starEach_plain hn.1) (stars_plain hn.2)
  exact run_makeR M F hr (hx σ) I1 r q
theorem run_makeKS {pins : List (Addr × Obj)} {σ : L2.St} {H : Hp} {s : Shared} {Q : VK} {us ws : List Value} {vs zs : List V} (M : Mk X.K C fI) (F : FnOk X.prog X.w X.K X.mg X.base CX k fI fd ps sp) (hr : Room (k + 1) X.A) (hb : KBn X.K fd ps (n + 1) ks gg gV) (hx : PassesAt CX X σ (E σ))
    (I : Inv X pins σ H s) (r : Vals vs us) (rz : Vals zs ws) (l1 : vs.length = n) (l2 : zs.length = ks.length)
    (h : ∀ x dx, H x = none → H dx = none → dx ≠ x → sp (gV (.ref x :: vs) zs) (upd (upd H dx (.own x)) x (.ins C dx [])) (fun v H2 => v = .non ∧ Q (.ref x) H2) (E σ)) :
    wpAny (model X.prog X.w) X.A (call (.ref C) us (ks.zip ws)) (EP X pins σ Q) X.xe s := by
  have hq := h (s.heap.objs.size + 1) s.heap.objs.size (I.hok.fresh (Nat.le_succ _)) (I.hok.fresh (Nat.le_refl _)) (Nat.ne_of_lt (Nat.lt_succ_self _))
  have I2 := Inv.made (C := C) I
  have r1 : Vals (V.ref (s.heap.objs.size + 1) :: vs) (Value.ref (s.heap.objs.size + 1) :: us) := .cons rfl r
  have r2 := hb.rel r1 rz
  have n1 : (Value.ref (s.heap.objs.size + 1) :: us).length = n + 1 := by
    rw [List.length_cons, ← r.length, l1]
  refine wpAny_call (make_map (f := fI) I.kIn M.makes M.init (beq_iff_eq.mp M.fn) (codeAny_mono (F.run _ X.stack _ _ ⟨Value.ref (s.heap.objs.size + 1) :: us, ks.zip ws⟩ (gg (Value.ref (s.heap.objs.size + 1) :: us) ws) _ _ (E σ) (hr.make C us (ks.zip ws))
    (I2.env0.make C us (ks.zip ws)) (hb.to _ (Value.ref (s.heap.objs.size + 1) :: us) ws I2.kIn n1 (rz.length.symm.trans l2)) r2 hq) fun r s' hq' => ?_))
  cases r with
  | error e => exact hx pins _ _ e s' I2 hq'
  | ok fl =>
    cases fl with
    | ret u =>
      obtain ⟨v, H', I3, rv, ev, q3⟩ := I2.after hq'
      subst ev
      exact ⟨rv, ⟨V.ref (s.heap.objs.size + 1), H', I3, rfl, q3⟩⟩
    | next => exact False.elim hq'
    | brk => exact False.elim hq'
    | cont => exact False.elim hq'
def tMakeKS (C : Addr) (n m : Nat) (sp : Sp) (gV : List V → List V → List V) (E : L2.St → XK) (t tk : TA) : TE := fun σ H Q => t σ H fun vs H1 => tk σ H1 fun zs H2 => vs.length = n ∧ zs.length = m ∧ ∀ x dx, H2 x = none → H2 dx = none → dx ≠ x →
  sp (gV (.ref x :: vs) zs) (upd (upd H2 dx (.own x)) x (.ins C dx [])) (fun v H3 => v = .non ∧ Q (.ref x) H3) (E σ)
theorem pe_makeKS (M : Mk X.K C fI) (F : FnOk X.prog X.w X.K X.mg X.base CX k fI fd ps sp) (hr : Room (k + 1) X.A) (hg : Gl X x) (hm : X.mg x = some (.ref C)) (hb : KBn X.K fd ps (n + 1) ks gg gV) (hx : ∀ σ, PassesAt CX X σ (E σ)) (ha : PA X (e :: es) t) (hkw : PK X kws tk)
    (hall : (backToKw pos (keywordEach kws X.env)).all (·.1.isSome) = true) (hks : (backToKw pos (keywordEach kws X.env)).filterMap (·.1) = ks) (hdb : (x == ("__debug__" : Str)) = false)
    (he : starEach (e :: es) X.env = (false, eval e X.env) :: starEach es X.env) (hpl : ((backTo pos (starEach (e :: es) X.env)).any (·.1) || (backToKw pos (keywordEach kws X.env)).any (·.1.isNone)) = false) :
    PE X (.Call (.Name x p) (e :: es) kws pos) (tMakeKS C n ks.length sp gV E t tk) := by
  refine ⟨fun pins s σ H Q I h => ?_⟩
  refine wpAny_Call_Name_kw (ld_glob I hg hm ?_ hdb)
  refine PySem.W.callWith_KW (h₀ := X.base) I.ok.mod.kin M.kp hall (thn (ha.run pos pins s σ H _ I h) fun us s1 ⟨vs, H1, I1, r, q⟩ => ?_) hpl he
  refine thn (hkw.run pos pins s1 σ H1 _ I1 q) fun ws s2 ⟨zs, H2, I2, rz, l1, l2, q2⟩ => ⟨I2.kIn, ?_⟩
  rw [hks]
  exact run_makeKS M F hr hb (hx σ) I2 r rz l1 l2 q2
end
section
variable {X : Cx} {k n : Nat} {fa Ca fI : Addr} {fd : FuncData} {ps ks : List Str} {c x m : Str} {p pos apos : Pos} {e o : Expr} {es : List Expr} {kws : List Keyword} {CX : CXT} {gg : List Value → List Value → List Value} {gV : List V → List V → List V} {g : Cfg} {W : WS} {co cs cw : C} {f : Nat}
theorem metB_ok {K : Pm} {hs as : List Addr} {H : Hp} {S : Store} {v : Val} {y : V} {Ca : Addr} (rs : RS K hs H as S) (h : metB S c m v = true) (hc : K.mg c = some (.ref Ca)) (r : RV K hs H as v y) : ∃ a dx fs, y = .ref a ∧ H a = some (.ins Ca dx fs) ∧ fs.lookup m = none := by
  unfold metB at h
  cases e1 : insV S v with
  | none =>
    rw [e1] at h
    cases h
  | some q =>
    obtain ⟨d, ks, vs⟩ := q
    rw [e1] at h
    simp only [Bool.and_eq_true, decide_eq_true_eq] at h
    obtain ⟨rfl, h2⟩ := h
    obtain ⟨a, C', dx, xs, rfl, q1, q2, _, _⟩ := rs.insV e1 r
    rw [hc] at q1
    cases q1
    exact ⟨a, dx, _, rfl, q2, look_none h2⟩
theorem s_mc (hc : X.mg c = some (.ref Ca)) (cl : Cls X.K Ca) (hm : Meth X.K Ca m fa) (F : FnR X.prog X.w X.K X.mg X.base CX k fa (spR (pm X) (g.R f))) (hr : Room k X.A) (hx : ∀ σ, PassesAt CX X σ (W σ)) (hsup : superOk o = true) (hl : lineOk0 apos pos = true)
    (hn : (e :: es).all notStar = true) (hlen : (e :: es).length < 30) (ho : SE X W g o co) (ha : SA X W g (e :: es) cs) : SE X W g (.Call (.Attribute o m apos) (e :: es) [] pos) (.mc c m f co cs) := by
  refine (pe_methR ho hsup hl cl hm F hr hx hn hlen ha).imp7 fun σ H Q ⟨hs, as, S, r, rs, rr, fin⟩ => ?_
  rw [evE] at fin
  refine ⟨hs, as, S, r, rs, rr, fin.bind fun v S1 bs H1 y p1 kp1 rs1 rv f1 => ?_⟩
  split at f1
  · rename_i hb
    obtain ⟨a, dx, fs, rfl, q1, q2⟩ := metB_ok rs1 hb hc rv
    refine ⟨a, dx, fs, rfl, q1, q2, hs, bs, S1, r, rs1, rr.mono p1 kp1.to, f1.bind fun vs S2 ds H2 xs p2 kp2 rs2 rvs f2 => ?_⟩
    exact ⟨hs, ds, S2, v :: vs, rs2, .cons (rv.mono p2 kp2.to) rvs, f2⟩
  · exact f1.elim
theorem s_mc0 (hc : X.mg c = some (.ref Ca)) (cl : Cls X.K Ca) (hm : Meth X.K Ca m fa) (F : FnR X.prog X.w X.K X.mg X.base CX k fa (spR (pm X) (g.R f))) (hr : Room k X.A) (hx : ∀ σ, PassesAt CX X σ (W σ)) (hsup : superOk o = true) (hl : lineOk0 apos pos = true)
    (ho : SE X W g o co) : SE X W g (.Call (.Attribute o m apos) [] [] pos) (.mc c m f co .nil) := by
  refine (pe_methR0 ho hsup hl cl hm F hr hx).imp7 fun σ H Q ⟨hs, as, S, r, rs, rr, fin⟩ => ?_
  rw [evE] at fin
  refine ⟨hs, as, S, r, rs, rr, fin.bind fun v S1 bs H1 y p1 kp1 rs1 rv f1 => ?_⟩
  split at f1
  · rename_i hb
    obtain ⟨a, dx, fs, rfl, q1, q2⟩ := metB_ok rs1 hb hc rv
    rw [evEs] at f1
    exact ⟨a, dx, fs, rfl, q1, q2, hs, bs, S1, [v], rs1, .cons rv .nil, f1⟩
  · exact f1.elim
/-- a new instance in the store -/
theorem mkj_fin {K : Pm} {hs as : List Addr} {H : Hp} {S : Store} {W : XK} {R : List Val → Store → Out Val} {us : List Val} {zs : List V} {Q : VK} {Ca : Addr} (rs : RS K hs H as S) (hc : K.mg c = some (.ref Ca))
    (fin : FinV K hs W as H (mkJ R c us S) Q) {y dx : Addr} (hy : H y = none) (hdx : H dx = none) (hne : dx ≠ y)
    (hu : Kp hs as (as ++ [y]) H (upd (upd H dx (.own y)) y (.ins Ca dx [])) → (as ++ [y])[S.length]? = some y → RVs K hs (upd (upd H dx (.own y)) y (.ins Ca dx [])) (as ++ [y]) us zs) :
    spR K R zs (upd (upd H dx (.own y)) y (.ins Ca dx [])) (fun v H2 => v = .non ∧ Q (.ref y) H2) W := by
  have k1 : Kp hs as as H (upd H dx (.own y)) := Kp.new hdx
  have hy1 : (upd H dx (.own y)) y = none := by rw [upd_ne (Ne.symm hne)]; exact hy
  have rs1 : RS K hs (upd H dx (.own y)) as S := rs.new hdx
  have k2 : Kp hs as (as ++ [y]) (upd H dx (.own y)) (upd (upd H dx (.own y)) y (.ins Ca dx [])) := Kp.newC hy1
  have rs2 : RS K hs (upd (upd H dx (.own y)) y (.ins Ca dx [])) (as ++ [y]) (S ++ [.ins c [] []]) := by
    refine rs1.push hy1 ⟨Ca, dx, [], hc, upd_same, by rw [upd_ne hne, upd_same], rfl, ⟨fun z => ?_, rs.nohid hdx⟩, .nil⟩
    rcases List.mem_append.mp z with z | z
    · exact rs.free hdx z
    · exact hne (List.mem_singleton.mp z)
  have hyk : (as ++ [y])[S.length]? = some y := by
    rw [← rs.len, List.getElem?_append_right (Nat.le_refl _), Nat.sub_self]
    rfl
  have kk : Ks as (as ++ [y]) H (upd (upd H dx (.own y)) y (.ins Ca dx [])) := Ks.trans (Kp.new hdx) (Kp.newC hy1)
  refine ⟨hs, as ++ [y], _, _, rs2, hu kk.to hyk, ?_⟩
  have fin := Fin.mono (List.prefix_append as [y]) kk fin
  unfold mkJ at fin
  refine fin.bind fun v S1 bs H1 z p1 kp1 rs1 rv1 f1 => ?_
  cases rv1 with
  | non => exact ⟨rfl, f1.ok rs1 (.ref (pre_get p1 hyk))⟩
  | _ => exact f1.elim
theorem mk_fin {K : Pm} {hs as : List Addr} {H : Hp} {S : Store} {W : XK} {R : List Val → Store → Out Val} {vs : List Val} {xs : List V} {Q : VK} {Ca : Addr} (rs : RS K hs H as S) (rv : RVs K hs H as vs xs) (hc : K.mg c = some (.ref Ca))
    (fin : FinV K hs W as H (mkI R c vs S) Q) {y dx : Addr} (hy : H y = none) (hdx : H dx = none) (hne : dx ≠ y) : spR K R (.ref y :: xs) (upd (upd H dx (.own y)) y (.ins Ca dx [])) (fun v H2 => v = .non ∧ Q (.ref y) H2) W :=
  mkj_fin rs hc fin hy hdx hne fun k hyk => .cons (.ref hyk) (rv.mono (List.prefix_append _ _) k)
theorem s_mkc (hc : X.mg x = some (.ref Ca)) (M : Mk X.K Ca fI) (F : FnR X.prog X.w X.K X.mg X.base CX k fI (spR (pm X) (g.R f))) (hr : Room (k + 1) X.A) (hg : Gl X x) (hx : ∀ σ, PassesAt CX X σ (W σ)) (hn : (e :: es).all notStar = true) (ha : SA X W g (e :: es) cs) (hdb : (x == ("__debug__" : Str)) = false) :
    SE X W g (.Call (.Name x p) (e :: es) [] pos) (.mkc x f cs) := by
  refine (pe_makeR M F hr hg hc hx hn ha hdb).imp7 fun σ H Q ⟨hs, as, S, r, rs, rr, fin⟩ => ?_
  rw [evE] at fin
  exact ⟨hs, as, S, r, rs, rr, fin.bind fun vs S1 bs H1 xs p1 kp1 rs1 rv f1 y dx hy hdx hne => mk_fin rs1 rv hc f1 hy hdx hne⟩
theorem s_mkk {src : List Src} {m : Nat} (hc : X.mg x = some (.ref Ca)) (M : Mk X.K Ca fI) (F : FnOk X.prog X.w X.K X.mg X.base CX k fI fd ps (spF (pm X) m (g.R f))) (hr : Room (k + 1) X.A) (hg : Gl X x) (hx : ∀ σ, PassesAt CX X σ (W σ)) (hb : KBn X.K fd ps (n + 1) ks gg gV) (hgv : KwRel (pm X) (n + 1) ks src gV)
    (hn : (e :: es).all notStar = true) (hkw : kws.all (fun k => k.arg.isSome) = true) (hks : kws.filterMap (·.arg) = ks) (hL : ∀ ws S, ws.length ≠ m → g.R f ws S = .no)
    (hl1 : ∀ r S vs S', evEs g cs r S = .ok vs S' → vs.length = n) (hl2 : ∀ r S vs S', evEs g cw r S = .ok vs S' → vs.length = ks.length)
    (ha : SA X W g (e :: es) cs) (hw : PK X kws (tA (pm X) W (evEs g cw))) (hdb : (x == ("__debug__" : Str)) = false) : SE X W g (.Call (.Name x p) (e :: es) kws pos) (.mkk x f cs src cw) := by
  rw [List.all_cons, Bool.and_eq_true] at hn
  obtain ⟨k1, k2, k3⟩ := kws_plain (env := X.env) (pos := pos) hkw
  have hpl : ((backTo pos (starEach (e :: es) X.env)).any (·.1) || (backToKw pos (keywordEach kws X.env)).any (·.1.isNone)) = false := by
    rw [k2, stars_plain (by rw [List.all_cons, hn.1, hn.2]; rfl)]
    rfl
  refine (pe_makeKS M F hr hg hc hb hx ha hw k1 (k3.trans hks) hdb (starEach_plain hn.1) hpl).imp7 fun σ H Q ⟨hs, as, S, r, rs, rr, fin⟩ => ?_
  rw [evE] at fin
  refine ⟨hs, as, S, r, rs, rr, ?_⟩
  cases ev : evEs g cs r S with
  | no =>
    rw [ev] at fin
    exact fin.elim
  | ex e1 S1 =>
    rw [ev] at fin
    exact fin
  | ok vs S1 =>
    rw [ev] at fin
    intro bs H1 xs p1 kp1 rs1 rv
    refine ⟨hs, bs, S1, r, rs1, rr.mono p1 kp1.to, ?_⟩
    have fin : FinV (pm X) hs (W σ) as H ((evEs g cw r S1).bind fun us S2 => match mapO (Src.get (.ref S2.length :: vs) us) src with
      | some as => mkJ (g.R f) x as S2
      | none => .no) Q := fin
    cases ew : evEs g cw r S1 with
    | no =>
      rw [ew] at fin
      exact fin.elim
    | ex e1 S2 =>
      rw [ew] at fin
      exact Fin.mono p1 kp1 (o := .ex e1 S2) (Rel := RVs (pm X) hs) fin
    | ok ws S2 =>
      rw [ew] at fin
      intro ds H2 zs p2 kp2 rs2 rw_
      have l1 := hl1 _ _ _ _ ev
      have l2 := hl2 _ _ _ _ ew
      have fin : FinV (pm X) hs (W σ) as H (match mapO (Src.get (.ref S2.length :: vs) ws) src with
        | some as => mkJ (g.R f) x as S2
        | none => .no) Q := fin
      cases em : mapO (Src.get (.ref S2.length :: vs) ws) src with
      | none =>
        rw [em] at fin
        exact fin.elim
      | some us =>
        rw [em] at fin
        have fin : FinV (pm X) hs (W σ) as H (mkJ (g.R f) x us S2) Q := fin
        refine ⟨by rw [← rv.length]; exact l1, by rw [← rw_.length]; exact l2, fun y dx hy hdx hne => ?_⟩
        have ru : Kp hs ds (ds ++ [y]) H2 (upd (upd H2 dx (.own y)) y (.ins Ca dx [])) → (ds ++ [y])[S2.length]? = some y → RVs (pm X) hs (upd (upd H2 dx (.own y)) y (.ins Ca dx [])) (ds ++ [y]) us (gV (.ref y :: xs) zs) := fun kk hyk =>
          hgv hs _ (ds ++ [y]) (.ref S2.length :: vs) (.ref y :: xs) ws zs us (by rw [List.length_cons, l1]) l2 em (.cons (.ref hyk) ((rv.mono p2 kp2.to).mono (List.prefix_append _ _) kk)) (rw_.mono (List.prefix_append _ _) kk)
        have sp := mkj_fin rs2 hc (Fin.mono (p1.trans p2) (kp1.trans kp2) fin) hy hdx hne ru
        obtain ⟨hs', as', S', ws', r1, r2, f2⟩ := sp
        refine ⟨?_, hs', as', S', ws', r1, r2, f2⟩
        rw [← r2.length]
        by_cases hq : ws'.length = m
        · exact hq
        · rw [hL _ S' hq] at f2
          exact f2.elim
end
end Mv

/-! MvV: dicts with text keys, tuples that are known to have no attributes. -/
namespace Mv
open PySem PySem.Spec PyProof.Rows L2
theorem keyP_some {v w : Val} {k : Str} (h : keyP v = some (k, w)) : v = .tup [.str k, w] := by
  unfold keyP at h
  split at h
  · cases h
    rfl
  · cases h
theorem valV_lookup {κ : Type} [DecidableEq κ] {f : Str → κ} (hf : ∀ a b, f a = f b → a = b) (z : Str) : ∀ {ks : List Str} {xs : List V}, valV ((ks.map f).zip xs) (f z) = (ks.zip xs).lookup z
  | [], xs => rfl
  | k :: ks, [] => rfl
  | k :: ks, x :: xs => by
    rw [List.map_cons, List.zip_cons_cons, List.zip_cons_cons, List.lookup_cons]
    by_cases e : k = z
    · subst e
      rw [valV_pos rfl]
      simp
    · rw [valV_neg (fun q => e (hf _ _ q)), valV_lookup hf z]
      have : (z == k) = false := beq_eq_false_iff_ne.mpr fun q => e q.symm
      rw [this]
theorem look_none2 {K : Pm} {hs as : List Addr} {H : Hp} {f : Str} : ∀ {ks : List Str} {vs : List Val} {xs : List V}, RVs K hs H as vs xs → (ks.zip vs).lookup f = none → (ks.zip xs).lookup f = none
  | [], _, _, _, _ => rfl
  | k :: ks, _, _, .nil, _ => rfl
  | k :: ks, _, _, .cons r t, h => by
    rw [List.zip_cons_cons, List.lookup_cons] at h
    rw [List.zip_cons_cons, List.lookup_cons]
    cases e : f == k with
    | true =>
      rw [e] at h
      cases h
    | false =>
      rw [e] at h
      exact look_none2 t h
theorem merge_nodup : ∀ {kvs acc : List (Key × V)}, (kvs.map (·.1)).Nodup → (∀ k ∈ kvs.map (·.1), valV acc k = none) → mergeK acc kvs = acc ++ kvs
  | [], acc, _, _ => by
    rw [List.append_nil]
    rfl
  | p :: r, acc, hn, h => by
    rw [List.map_cons, List.nodup_cons] at hn
    have e : putK acc p.1 p.2 = acc ++ [p] := putK_new p.2 (h p.1 (by rw [List.map_cons]; exact List.mem_cons_self ..))
    show mergeK (putK acc p.1 p.2) r = _
    rw [e, merge_nodup hn.2 fun k hk => ?_]
    · simp
    · have h1 := h k (List.mem_cons_of_mem _ hk)
      have h2 := valV_snoc p.1 k p.2 acc (h p.1 (by rw [List.map_cons]; exact List.mem_cons_self ..))
      have h2 : valV (acc ++ [p]) k = _ := h2
      rw [h2, if_neg (fun q => hn.1 (by rw [← q]; exact hk))]
      exact h1
section
variable {X : Cx} {hs as : List Addr} {H : Hp} {pins : List (Addr × Obj)} {σ : L2.St} {s : Shared}
/-- pairs (text, value) at their addresses -/
theorem prs_of (I : Inv X pins σ H s) : ∀ {vs : List Val} {xs : List V} {qs : List (Str × Val)}, mapO keyP vs = some qs → RVs (pm X) hs H as vs xs →
    ∃ (Ts : List Addr) (ys : List V) (ks us : List Value), xs = Ts.map V.ref ∧ RVs (pm X) hs H as (qs.map (·.2)) ys ∧ Vals ys us ∧ ks.length = qs.length ∧ Ts.length = qs.length ∧
      ∀ (j : Nat) (k u : Value), ks[j]? = some k → us[j]? = some u → ∃ b q, Ts[j]? = some b ∧ qs[j]? = some q ∧ IsTup s.heap b #[k, u] ∧ keyIs (.inr q.1) k = true
  | _, _, qs, h, .nil => by
    cases h
    exact ⟨[], [], [], [], rfl, .nil, .nil, rfl, rfl, fun j k u e => by simp at e⟩
  | v :: vs, _, _, h, @RVs.cons _ _ _ _ _ x _ xs r t => by
    obtain ⟨⟨k, w⟩, qs, rfl, h1, h2⟩ := mapO_cons h
    obtain ⟨Ts, ys, ks, us, e1, e2, e3, e4, e5, e6⟩ := prs_of I h2 t
    have e0 := keyP_some h1
    subst e0
    subst e1
    cases r with
    | @tup _ a zs hk tz =>
      cases tz with
      | @cons _ z1 _ z2 r1 t1 =>
        obtain ⟨y, rfl, r2⟩ : ∃ y, z2 = [y] ∧ RV (pm X) hs H as w y := by
          cases t1 with
          | cons r t =>
            cases t
            exact ⟨_, rfl, r⟩
        cases r1
        obtain ⟨its, rv, ht, _⟩ := I.tuple hk.sq
        obtain ⟨u1, u2, ei, ru, ry⟩ := vals2 rv
        subst ei
        refine ⟨a :: Ts, y :: ys, u1 :: ks, u2 :: us, rfl, .cons r2 e2, .cons ry e3, congrArg Nat.succ e4, congrArg Nat.succ e5, fun j k' u' q1 q2 => ?_⟩
        cases j with
        | zero =>
          cases q1
          cases q2
          exact ⟨a, (k, w), rfl, rfl, ht, kV_is (P := X.prog) (w := X.w) (k := .inr k) ru⟩
        | succ j => exact e6 j k' u' (by simpa using q1) (by simpa using q2)
/-- dict(..) -/
def rDct (K : Pm) : List V → Hp → VK → Prop := fun xs H Q => ∃ hs W as S v, ∃ x, xs = [x] ∧ RS K hs H as S ∧ RV K hs H as v x ∧ FinV K hs W as H (match sqdV S v with
    | some vs => ofO S (dctV vs)
    | none => .no) Q
/-- tuple(..) of a list -/
def rTof (K : Pm) : List V → Hp → VK → Prop := fun xs H Q => ∃ hs W as S v, ∃ x, xs = [x] ∧ RS K hs H as S ∧ RV K hs H as v x ∧ FinV K hs W as H (match lstV S v with
    | some vs => .ok (.tud vs) S
    | none => .no) Q
theorem blt_tof : CallR X (.type "tuple") (rTof (pm X)) := by
  intro pins s σ H xs us Q I r h
  obtain ⟨hs, W, as, S, v, x, rfl, rs, rv, fin⟩ := h
  split at fin
  · rename_i e
    obtain ⟨a, ys, rfl, h1, t⟩ := rs.lstV e rv
    obtain ⟨u, rfl, rx⟩ := vals1 r
    cases rx
    obtain ⟨its, r', pl, hz⟩ := I.list (SqL.of h1)
    have hlen := r'.length
    refine call_tuple_list pl.isList (fun h' kp => ?_) (by simp only [List.size_toArray] <;> omega)
    have I1 : Inv X pins σ H { s with heap := h' } := I.kept (t' := s.toks) kp
    have hn : H h'.objs.size = none := I1.hok.fresh (Nat.le_refl _)
    have I2 : Inv X pins σ (upd H h'.objs.size (.frz { cls := .type "tuple", data := .seq its.toArray } (.tup ys))) { s with heap := h'.push { cls := .type "tuple", data := .seq its.toArray } } :=
      I1.laid (t' := s.toks) (fun b o e => Heap.get?_push_of_some _ e) (Nat.le_refl _)
        (show ObjOk X.prog X.w _ _ _ (.frz _ (.tup ys)) from ⟨Heap.get?_push_size _ rfl, hz, its, r', IsTup.new _ _⟩)
    exact ⟨.ref h'.objs.size, _, I2, rfl, Fin.new fin rs hn (.tud ⟨_, upd_same, rfl, rfl, rs.nm hn⟩ (t.mono (List.prefix_refl _) (Kp.new hn)))⟩
  · exact fin.elim
theorem nodup_inr {ks : List Str} (h : ks.Nodup) : (ks.map (Sum.inr : Str → Key)).Nodup := by
  unfold List.Nodup at h ⊢
  rw [List.pairwise_map]
  exact h.imp fun q e => q (by cases e; rfl)
theorem blt_dct (hcalm : X.calm = true) : CallR X (.type "dict") (rDct (pm X)) := by
  intro pins s σ H xs us Q I r h
  obtain ⟨hs, W, as, S, v, x, rfl, rs, rv, fin⟩ := h
  -- the argument: a list, or a tuple without attributes
  have arg : ∀ vs, sqdV S v = some vs → ∃ (a : Addr) (xs : List V) (its : List Value) (T : String), x = .ref a ∧ (T = "list" ∨ T = "tuple") ∧ RVs (pm X) hs H as vs xs ∧ Vals xs its ∧ xs.length ≤ sizeLine ∧ PlainSeq T s.heap a its.toArray := by
    intro vs e
    cases rv with
    | tud hk t =>
      cases e
      obtain ⟨its, r', ⟨o, ho, hc, n, hd⟩, hz⟩ := I.tuple (TudAt.sq (K := pm X) hk)
      obtain ⟨o', h1, _, h3, _⟩ := hk
      have h4 : s.heap.get? _ = some o' := (I.hok _ _ h1).1
      rw [ho] at h4
      cases h4
      exact ⟨_, _, its, "tuple", rfl, .inr rfl, t, r', hz, _, n, ho, hc, h3, hd⟩
    | @ref k b hk =>
      obtain ⟨a, ys, ea, h1, t⟩ := rs.lstV (v := .ref k) e (.ref hk)
      obtain ⟨its, r', ⟨o, n, ho, hc, hd, hdat⟩, hz⟩ := I.list (SqL.of h1)
      exact ⟨a, ys, its, "list", ea, .inl rfl, t, r', hz, o, n, ho, hc, hd, hdat⟩
    | @fz vs' b ys' hk t' =>
      obtain ⟨a, ys, ea, h1, t⟩ := rs.lstV (v := .fz vs') e (.fz hk t')
      obtain ⟨its, r', ⟨o, n, ho, hc, hd, hdat⟩, hz⟩ := I.list (SqL.of h1)
      exact ⟨a, ys, its, "list", ea, .inl rfl, t, r', hz, o, n, ho, hc, hd, hdat⟩
    | _ => cases e
  split at fin
  · rename_i vs e
    obtain ⟨a, xs, its, T, rfl, hT, t, r', hz, hpl⟩ := arg vs e
    unfold dctV at fin
    split at fin
    · rename_i qs hq
      split at fin
      · rename_i hc
        obtain ⟨u, rfl, rx⟩ := vals1 r
        cases rx
        obtain ⟨Ts, ys, ks, us, rfl, e2, e3, e4, e5, e6⟩ := prs_of I hq t
        have ei := refs_at r'
        subst ei
        have ly : ys.length = qs.length := by
          have := e2.length
          rw [List.length_map] at this
          exact this.symm
        have lu : us.length = qs.length := by rw [← e3.length, ly]
        let ps : List (Value × Value) := ks.zip us
        let kvs : List (Key × Value) := (qs.map fun q => (Sum.inr q.1 : Key)).zip us
        have lp : ps.length = qs.length := by simp [ps, e4, lu]
        have at_ : ∀ (j : Nat) (k u : Value), ps[j]? = some (k, u) → ∃ b q, Ts[j]? = some b ∧ qs[j]? = some q ∧ IsTup s.heap b #[k, u] ∧ keyIs (.inr q.1) k = true ∧ us[j]? = some u := fun j k u q => by
          obtain ⟨q1, q2⟩ := List.getElem?_zip_eq_some.mp q
          obtain ⟨b, q, w1, w2, w3, w4⟩ := e6 j k u q1 q2
          exact ⟨b, q, w1, w2, w3, w4, q2⟩
        have items : PairItems s.heap (Ts.map Value.ref).toArray (fun j => Ts.getD j 0) ps := ⟨by simp [lp, e5], fun j k u q => by
          obtain ⟨b, q, w1, w2, w3, w4, w5⟩ := at_ j k u q
          refine ⟨by simp [w1], .inl ?_⟩
          have : Ts.getD j 0 = b := by rw [List.getD_eq_getElem?_getD, w1]; rfl
          show s.heap.IsTuple (Ts.getD j 0) #[k, u]
          rw [this]
          exact w3⟩
        have have_ : PairsHave (mixKind X.prog X.w) ps.length (PairRel ps) kvs := ⟨by simp [kvs, lp, lu], fun i key u q => by
          obtain ⟨b, q, w1, w2, w3, w4, w5⟩ := at_ i key u q
          exact ⟨.inr q.1, by simp only [kvs]; exact List.getElem?_zip_eq_some.mpr ⟨by rw [List.getElem?_map, w2]; rfl, w5⟩, w4⟩⟩
        have hsz : ps.length ≤ sizeLine := by rw [lp]; exact sz_le hc.2
        have rel : KV ((qs.map fun q => (Sum.inr q.1 : Key)).zip ys) kvs := by
          have : ∀ (l : List Key) {ys : List V} {us : List Value}, Vals ys us → KV (l.zip ys) (l.zip us) := by
            intro l
            induction l with
            | nil => intro ys us _; exact .nil
            | cons k l ih =>
              intro ys us h
              cases h with
              | nil => exact .nil
              | cons a b => exact .cons ⟨rfl, a⟩ (ih b)
          exact this _ e3
        have hkeys : ((qs.map fun q => (Sum.inr q.1 : Key)).zip ys).map (·.1) = qs.map fun q => (Sum.inr q.1 : Key) := by
          rw [List.map_fst_zip]
          rw [List.length_map, ly]
          exact Nat.le_refl _
        have hmap : (qs.map fun q => (Sum.inr q.1 : Key)) = (qs.map (·.1)).map Sum.inr := by rw [List.map_map]; rfl
        have hmrg : mergeK [] ((qs.map fun q => (Sum.inr q.1 : Key)).zip ys) = (qs.map fun q => (Sum.inr q.1 : Key)).zip ys := by
          rw [merge_nodup (by rw [hkeys, hmap]; exact nodup_inr hc.1) fun _ _ => rfl]
          rfl
        have fin' : ∀ h' tk, h'.DictOf (mixKind X.prog X.w) s.heap.objs.size (merged [] kvs) → (∀ b o, b ∉ ([] : List Addr) → s.heap.get? b = some o → h'.get? b = some o) → EP X pins σ Q (.ref s.heap.objs.size) { s with heap := h', toks := tk } := by
          intro h' tk hd' k
          have hm : (s.heap.objs.size == sysModules) = false := beq_eq_false_iff_ne.mpr (Nat.ne_of_gt I.big)
          have hn : H s.heap.objs.size = none := I.hok.fresh (Nat.le_refl _)
          have hlen : ((qs.map fun q => (Sum.inr q.1 : Key)).zip ys).length ≤ sizeLine := by
            rw [List.length_zip, List.length_map, ly, Nat.min_self]
            exact sz_le hc.2
          have km := KV.merge rel (kvs := []) (vs := []) .nil
          rw [hmrg] at km
          refine ⟨.ref s.heap.objs.size, upd H s.heap.objs.size (.dK ((qs.map fun q => (Sum.inr q.1 : Key)).zip ys)), I.laid (t' := tk) (fun b o e => k b o (by simp) e) (Nat.le_refl _) (show ObjOk X.prog X.w _ _ _ (.dK _) from ⟨hlen, hm, merged [] kvs, km, hd'⟩), rfl, ?_⟩
          refine Fin.new fin rs hn (.dc ⟨by rw [List.length_map, ly], .inl ⟨_, upd_same, rs.nm hn, fun z => ?_⟩⟩ (e2.mono (List.prefix_refl _) (Kp.new hn)))
          rw [hmap]
          exact valV_lookup (f := Sum.inr) (fun a b e => by cases e; rfl) z
        rcases hT with rfl | rfl
        · exact PySem.call_dict_pairs (PairArg.list a _ _ ps) (I.ok.hd hcalm) ⟨hpl, items⟩ have_ hsz fin'
        · exact PySem.call_dict_pairs (PairArg.tuple a _ _ ps) (I.ok.hd hcalm) ⟨hpl, items⟩ have_ hsz fin'
      · exact fin.elim
    · exact fin.elim
  · exact fin.elim
/-! ### d.get(a, b) -/
theorem dc_type {ks : List Str} {a : Addr} {xs : List V} (I : Inv X pins σ H s) (h : DcAt (pm X) hs H as ks a xs) : s.TypeIs (.ref a) "dict" ∧ ∀ b, Value.ref a = .ref b → ∃ ob, s.heap.get? b = some ob ∧ ob.dict = none := by
  obtain ⟨_, ⟨kvs, h1, _, _⟩ | ⟨es, n, D, _⟩⟩ := h
  · obtain ⟨q1, q2, _⟩ := isD_at I (.inl ⟨kvs, .inl h1⟩)
    exact ⟨q1, q2⟩
  · exact ⟨kd_type D I, fun b e => by cases e; exact ⟨_, I.kIn _ _ D.at_, rfl⟩⟩
theorem dc_get {ks : List Str} {a : Addr} {xs : List V} {z : Str} {u r : Value} {d : V} {A : Around} {E : Value → Shared → Prop} {Q : Value → Shared → Prop} (hu : A.units + 1 < cLine) (I : Inv X pins σ H s) (h : DcAt (pm X) hs H as ks a xs) (ry : RelV (.str z) u) (rd : RelV d r)
    (hq : ∀ w' s', Inv X pins σ H s' → RelV (((ks.zip xs).lookup z).getD d) w' → Q w' s') : wpAny (model X.prog X.w) A (call (.builtin "dict.get") [.ref a, u, r]) Q E s := by
  obtain ⟨_, ⟨kvs, h1, _, h3⟩ | ⟨es, n, D, h3⟩⟩ := h
  · refine d_get2 hu I (DGet.k (k := .inr z) h1) ry rd ?_
    rw [h3]
    exact hq
  · obtain ⟨t, rfl⟩ := ry
    obtain ⟨r0, h4, h5⟩ := h3 z
    have hm := PySem.W.mapOf_K (prog := X.prog) (w := X.w) I.kIn D.at_ D.lit
    refine call_meetsIn PySem.F.slot_dict_get hm.typeIs PySem.F.entry_dict_get (PySem.F.args_dict_get_3 _ _ _) (meets_dict_get_default (strKind X.prog X.w) a (strKind_is X.prog X.w z t) D.low r) ⟨_, hm, hq _ _ (I.tok _) ?_⟩
    rw [PySem.W.find_K D.at_ h4]
    exact RelO.getD h5 rd
def tDGetX (K : Pm) (td ty tx : TE) : TE := fun σ H Q => td σ H fun x H1 => (∃ hs as ks a xs, x = .ref a ∧ DcAt K hs H1 as ks a xs) ∧ ty σ H1 fun y H2 => tx σ H2 fun d H3 => ∃ hs as ks a xs z, x = .ref a ∧ DcAt K hs H3 as ks a xs ∧ y = .str z ∧ Q (((ks.zip xs).lookup z).getD d) H3
end
section
variable {X : Cx} {o e f : Expr} {apos pos p : Pos} {td ty tx : TE} {g : Cfg} {W : WS} {co ca cb : C}
theorem m2_of (hsup : superOk o = true) (hl : lineOk apos pos = true) (h1 : notStar e = true) (h2 : notStar f = true) {m : Str} : M2 X o m apos e f pos := by
  have e1 : starEach [e, f] X.env = [(false, eval e X.env), (false, eval f X.env)] := by rw [starEach_plain h1, starEach_plain h2]; rfl
  exact ⟨notSuper hsup, by rw [e1]; rfl, hl, by rw [e1]; rfl⟩
theorem pe_dgetX (hu : X.A.units + 1 < cLine) (ho : PE X o td) (he : PE X e ty) (hf : PE X f tx) (m : M2 X o "get" apos e f pos) : PE X (.Call (.Attribute o "get" apos) [e, f] [] pos) (tDGetX (pm X) td ty tx) := by
  refine ⟨fun pins s σ H Q I h => ?_⟩
  refine wpAny_Call_method m.base m.few m.line PySem.F.plainAttrs_dict PySem.F.slot_dict_get PySem.F.type_dict_get (thn (ho.run pins s σ H _ I h) fun u s1 ⟨x, H1, I1, rx, ⟨hs, as, ks, a, xs, ex, d⟩, q1⟩ => ?_)
  subst ex
  obtain rfl : u = Value.ref a := rx
  obtain ⟨t1, t2⟩ := dc_type I1 d
  refine ⟨t1, t2, ?_⟩
  rw [m.trees]
  refine Calls.callWith_builtin rfl (Calls.evalArgs_plain (Calls.spliced_cons (thn (he.run pins s1 σ H1 _ I1 q1) fun iv s2 ⟨y, H2, I2, ry, q2⟩ =>
    Calls.spliced_cons (thn (hf.run pins s2 σ H2 _ I2 q2) fun fv s3 ⟨z, H3, I3, rz, hs3, as3, ks3, a3, xs3, k3, ea, d3, ey, q3⟩ => Calls.spliced_nil ?_))))
  cases ea
  subst ey
  exact dc_get hu I3 d3 ry rz fun w' s4 I4 rw' => ⟨_, H3, I4, rw', q3⟩
theorem s_dget (hu : X.A.units + 1 < cLine) (hsup : superOk o = true) (hl : lineOk apos pos = true) (h1 : notStar e = true) (h2 : notStar f = true) (ho : SE X W g o co) (ha : SE X W g e ca) (hb : SE X W g f cb) : SE X W g (.Call (.Attribute o "get" apos) [e, f] [] pos) (.dget co ca cb) :=
  (pe_dgetX hu ho ha hb (m2_of hsup hl h1 h2)).imp7 fun σ H Q ⟨hs, as, S, r, rs, rr, fin⟩ => by
    rw [evE] at fin
    refine ⟨hs, as, S, r, rs, rr, fin.bind fun v S1 bs H1 x p kp rs1 rv f1 => ?_⟩
    split at f1
    · rename_i ks vs
      cases rv with
      | @dc _ _ a xs hk t =>
        refine ⟨⟨hs, bs, ks, a, xs, rfl, hk⟩, hs, bs, S1, r, rs1, rr.mono p kp.to, f1.bind fun y S2 cs H2 z p2 kp2 rs2 rv2 f2 => ?_⟩
        refine ⟨hs, cs, S2, r, rs2, (rr.mono p kp.to).mono p2 kp2.to, f2.bind fun d S3 ds H3 dd p3 kp3 rs3 rv3 f3 => ?_⟩
        unfold dgetV at f3
        split at f3
        · cases rv2
          refine ⟨hs, ds, ks, a, xs, _, rfl, kp3.to.dcAt (kp2.to.dcAt hk), rfl, ?_⟩
          refine f3.ok rs3 ?_
          have t3 := (t.mono p2 kp2.to).mono p3 kp3.to
          cases e : (ks.zip vs).lookup _ with
          | none =>
            have : (ks.zip xs).lookup _ = none := look_none2 t3 e
            rw [this]
            exact rv3
          | some w =>
            obtain ⟨y, e1, e2⟩ := look_zip t3 e
            rw [e1]
            exact e2
        · exact f3.elim
    · exact f1.elim
theorem s_dct (hcalm : X.calm = true) (hg : Gl X "dict") (hm : X.mg "dict" = none) (hn : notStar e = true) (ha : SE X W g e ca) : SE X W g (.Call (.Name "dict" p) [e] [] pos) (.dct ca) := by
  refine (pe_callTy (blt_dct hcalm) hg hm PyProof.Rows.boot_dict (pa_cons ha pa_nil (starEach_plain hn)) (by decide) (by decide) (starEach_plain hn) rfl).imp7 fun σ H Q ⟨hs, as, S, r, rs, rr, fin⟩ => ?_
  rw [evE] at fin
  exact ⟨hs, as, S, r, rs, rr, fin.bind fun v S1 bs H1 y p1 kp1 rs1 rv f1 => ⟨hs, _, bs, S1, v, y, rfl, rs1, rv, f1⟩⟩
theorem s_tof (hg : Gl X "tuple") (hm : X.mg "tuple" = none) (hn : notStar e = true) (ha : SE X W g e ca) : SE X W g (.Call (.Name "tuple" p) [e] [] pos) (.tof ca) := by
  refine (pe_callTy blt_tof hg hm PyProof.Rows.boot_tuple (pa_cons ha pa_nil (starEach_plain hn)) (by decide) (by decide) (starEach_plain hn) rfl).imp7 fun σ H Q ⟨hs, as, S, r, rs, rr, fin⟩ => ?_
  rw [evE] at fin
  exact ⟨hs, as, S, r, rs, rr, fin.bind fun v S1 bs H1 y p1 kp1 rs1 rv f1 => ⟨hs, _, bs, S1, v, y, rfl, rs1, rv, f1⟩⟩
end
end Mv

/-! MvX: exceptions that are made: super().__init__(text), then attributes. -/
namespace Mv
open PySem PySem.Spec PyProof.Rows L2 PySem.W
section
variable {prog : Program} {w : World} {A : Around} {E : Value → Shared → Prop} {s : Shared} {K : PySem.W.Frag} {C x t : Addr} {B : String} {bmB : List Value} {name : Str} {v : Value}
/-- what is written of the class: a store is the plain one -/
structure SxC (K : PySem.W.Frag) (C : Addr) (B : String) (bmB : List Value) : Prop where
  sf : StoreFacts B bmB "object.__setattr__" "object"
  sa : PySem.W.findIn K (.ref C) "__setattr__" = some (some (.builtin "object.__setattr__"))
  ov : excOver K C bmB = true
  hd : hasDictIn K C = true
theorem sx_new {Q : Unit → Shared → Prop} (T : SxC K C B bmB) (KX : K.In s.heap) (hX : s.heap.get? x = some (excObj C t none .none)) (hT : takerIn K C name = some none)
    (hq : ∀ h' tk' dx, (∀ b o, b ≠ x → s.heap.get? b = some o → h'.get? b = some o) → s.heap.get? dx = none → h'.get? x = some (excObj C t (some dx) .none) → h'.Ns1 dx (fun y => if y = name then some v else none) → Q () { s with heap := h', toks := tk' }) :
    wpAny (model prog w) A (setAttr (.ref x) name v) Q E s := by
  have ix : PySem.W.InstAt s.heap x (excObj C t none .none) C none := ⟨hX, rfl, rfl, trivial⟩
  refine set_plain KX ix T.sa (osa_openX (s := { s with toks := s.toks + 1 }) T.sf KX ix T.ov hT fun b => ?_)
  obtain ⟨cd, hcd, hdd⟩ := any_some T.hd
  obtain ⟨hp, g, d, tk, os⟩ := s
  refine wpAny_bind (wpAny_pure (wpAny_bind (instanceDict_exc hX (looks_clsIn KX hcd) hdd ?_)))
  have hne : hp.objs.size ≠ x := Nat.ne_of_gt (Heap.lt_size hX)
  have hX1 : (hp.push (dictOf [] 0)).get? x = some (excObj C t none .none) := Heap.get?_push_of_some _ hX
  refine PySem.HandSPX.store_in_new ?_ fun h' tk' hn' hs => ?_
  · exact ⟨_, #[], _, (Heap.get?_update_ne _ _ _ _ hne).trans (Heap.get?_push_at rfl rfl), rfl, fun e he => absurd he (by simp), fun _ => rfl⟩
  · refine hq h' tk' hp.objs.size (fun b o hb ho => ?_) (Heap.get?_none_of_le (Nat.le_refl _)) ?_ hn'
    · exact (hs.2 b (Nat.ne_of_lt (Heap.lt_size ho))).trans ((Heap.get?_update_ne _ _ _ _ hb).trans (Heap.get?_push_of_some _ ho))
    · exact (hs.2 x (Ne.symm hne)).trans (Heap.get?_update_self _ hX1 rfl)
theorem sx_old {Q : Unit → Shared → Prop} {dx : Addr} {m0 : Str → Option Value} {nl : List Str} (T : SxC K C B bmB) (KX : K.In s.heap) (hX : s.heap.get? x = some (excObj C t (some dx) .none)) (hn : s.heap.Ns1 dx m0) (hw : Within m0 nl) (hz : nl.length ≤ 1000) (hT : takerIn K C name = some none)
    (hq : ∀ h' tk', (∀ b o, b ≠ dx → s.heap.get? b = some o → h'.get? b = some o) → h'.Ns1 dx (fun y => if y = name then some v else m0 y) → Q () { s with heap := h', toks := tk' }) :
    wpAny (model prog w) A (setAttr (.ref x) name v) Q E s := by
  obtain ⟨hp, g, d, tk, os⟩ := s
  obtain ⟨oD, esD, epD, hoD, hdD, _⟩ := hn.count hw
  have ix : PySem.W.InstAt hp x (excObj C t (some dx) .none) C (some oD) := ⟨hX, rfl, rfl, hoD⟩
  refine set_plain KX ix T.sa (osa_openX (s := ⟨hp, g, d, tk + 1, os⟩) T.sf KX ix T.ov hT fun b => ?_)
  obtain ⟨cd, hcd, hdd⟩ := any_some T.hd
  refine wpAny_bind (wpAny_pure (wpAny_bind (wpAny_bind (wpAny_loadPart hX (wpAny_bind (PySem.W.Looks.here (s := ⟨hp, g, d, tk + 1, os⟩) (looks_clsIn KX hcd) ?_))))))
  rw [hdd]
  refine wpAny_pure (a := some dx) ?_
  refine PySem.OEX.store_in_old hn hw hz fun h' tk' hn' hs => ?_
  exact hq h' tk' (fun b o hb ho => (hs.2 b hb).trans ho) hn'
end
/-! ### the body -/
def stoE : Expr → Option ASrc
  | .Name x _ => some (.inl x)
  | .Constant (.str z) _ _ => some (.inr z)
  | _ => none
/-- self.f = a parameter | a text, .. -/
def stoL : List Stmt → Option (List (Str × ASrc))
  | [] => some []
  | .Assign [.Attribute (.Name y _) f _] e _ :: r => if y = "self" then (match stoE e, stoL r with
    | some a, some l => some ((f, a) :: l)
    | _, _ => none) else none
  | _ :: _ => none
/-- a stored value -/
def aVal (vv : Str → Option V) : ASrc → V
  | .inl x => (vv x).getD .non
  | .inr z => .str z
section
variable {prog : Program} {w : World} {A : Around} {E : Value → Shared → Prop} {K : PySem.W.Frag} {C e t L : Addr} {B : String} {bmB : List Value} {env : Env} {m : Str → Option Value} {vv : Str → Option V} {hs : Heap}
/-- the body's names -/
structure BdN (env : Env) (L : Addr) (m : Str → Option Value) (vv : Str → Option V) (ps : List Str) (e : Addr) : Prop where
  kind : env.scope.kind = .function
  loc : env.locals = L
  self : env.scope.names.lookup ("self" : Str) = some .local ∧ m "self" = some (.ref e)
  par : ∀ p ∈ ps, env.scope.names.lookup p = some .local ∧ (p == ("__debug__" : Str)) = false ∧ ∃ y u, vv p = some y ∧ m p = some u ∧ RelV y u
theorem ev_local {s : Shared} {x : Str} {pos : Pos} {u : Value} {Q : Value → Shared → Prop} (N : BdN env L m vv ps e) (hn : s.heap.Ns L m) (hx : env.scope.names.lookup x = some .local) (hd : (x == ("__debug__" : Str)) = false) (hm : m x = some u) (q : Q u s) : wpAny (model prog w) A (eval (.Name x pos) env) Q E s :=
  wpAny_Name (wpAny_loadName_local N.kind hx (by rw [N.loc]; exact hn) hm q) hd
theorem ev_src {s : Shared} {x : Expr} {a : ASrc} {ps : List Str} {Q : Value → Shared → Prop} (N : BdN env L m vv ps e) (hn : s.heap.Ns L m) (hx : stoE x = some a) (ha : ∀ p, a = .inl p → p ∈ ps) (q : ∀ u tk, RelV (aVal vv a) u → Q u { s with toks := tk }) : wpAny (model prog w) A (eval x env) Q E s := by
  unfold stoE at hx
  split at hx
  · rename_i z pz
    cases hx
    obtain ⟨h1, h2, y, u, h3, h4, h5⟩ := N.par z (ha z rfl)
    refine ev_local N hn h1 h2 h4 (q u s.toks ?_)
    show RelV ((vv z).getD .non) u
    rw [h3]
    exact h5
  · rename_i z kz pz
    cases hx
    exact wpAny_Constant_str (q _ _ ⟨_, rfl⟩)
  · cases hx
/-- the state between two stores, seen from hs -/
structure BdS (K : PySem.W.Frag) (hs h : Heap) (C e t L dx : Addr) (m : Str → Option Value) (fs : List (Str × V)) : Prop where
  keep : ∀ b o, b ≠ e → hs.get? b = some o → h.get? b = some o
  new : hs.get? dx = none
  at_ : h.get? e = some (excObj C t (some dx) .none)
  ns : ∃ mA, h.Ns1 dx mA ∧ ∀ f, RelO (fs.lookup f) (mA f)
theorem sto_rest {s : Shared} {dx : Addr} {ps : List Str} {Q : Flow → Shared → Prop} (N : BdN env L m vv ps e) (T : SxC K C B bmB) (KX : K.In hs) (hL : hs.Ns L m) (hLe : L ≠ e) (hK : ∀ b o, K.lookup b = some o → b ≠ e) : ∀ {body : List Stmt} {l : List (Str × ASrc)} {fs : List (Str × V)}, stoL body = some l → (∀ q ∈ l, takerIn K C q.1 = some none ∧ ∀ p, q.2 = .inl p → p ∈ ps) → fs.length + l.length ≤ 900 →
    BdS K hs s.heap C e t L dx m fs → (∀ s', BdS K hs s'.heap C e t L dx m ((l.map fun q => (q.1, aVal vv q.2)).reverse ++ fs) → s'.gens = s.gens → s'.drawn = s.drawn → s'.os = s.os → Q .next s') → wpAny (model prog w) A (execs body env) Q E s := by
  intro body
  induction body generalizing s with
  | nil =>
    intro l fs h _ _ S q
    cases h
    exact wpAny_execs_nil (q s (by simpa using S) rfl rfl rfl)
  | cons st body ih =>
    intro l fs h hl hz S q
    unfold stoL at h
    split at h
    · rename_i hq0
      cases hq0
    · rename_i y py f pf x px r e1
      cases e1
      split at h
      · rename_i hy
        subst hy
        split at h
        · rename_i a l' e2 e3
          cases h
          obtain ⟨t1, t2⟩ := hl (f, a) (List.mem_cons_self ..)
          refine wpAny_execs_cons ?_
          have k1 : K.In s.heap := fun b o z => S.keep b o (hK b o z) (KX b o z)
          have l1 : s.heap.Ns L m := by
            obtain ⟨o, es, ep, a1, a2⟩ := hL
            exact ⟨o, es, ep, S.keep _ _ hLe a1, a2⟩
          refine plainObj_wpAny_Assign_Attribute (ev_src N l1 e2 t2 fun u tk ru => ev_local (s := { s with toks := tk }) N l1 N.self.1 (by decide) N.self.2 ?_) ?_
          · obtain ⟨mA, n1, rel⟩ := S.ns
            refine sx_old (s := { s with toks := tk }) T k1 S.at_ n1 (within_of rel) (by rw [List.length_map]; omega) t1 fun h' tk' kp n2 => ?_
            have hde : dx ≠ e := fun z => by
              obtain ⟨oD, _, _, z1, z2, _⟩ := n1
              rw [z, S.at_] at z1
              cases z1
              cases z2
            refine ih (s := { s with heap := h', toks := tk' }) (l := l') (fs := (f, aVal vv a) :: fs) e3 (fun p hp => hl p (List.mem_cons_of_mem _ hp)) (by rw [List.length_cons] at hz ⊢; omega) ?_ fun s' S' g1 g2 g3 => q s' ?_ g1 g2 g3
            · exact ⟨fun b o hb ho => kp b o (fun z => by rw [z, S.new] at ho; cases ho) (S.keep b o hb ho), S.new, kp e _ (Ne.symm hde) S.at_, _, n2, relO_put ru rel⟩
            · have : ((((f, a) :: l').map fun q => (q.1, aVal vv q.2)).reverse ++ fs) = ((l'.map fun q => (q.1, aVal vv q.2)).reverse ++ (f, aVal vv a) :: fs) := by simp
              rw [this]
              exact S'
          · unfold stoE at e2
            split at e2 <;> first | rfl | cases e2
        · cases h
      · cases h
    · cases h
/-- all stores: the first one makes the dict -/
theorem sto_all {s : Shared} {ps : List Str} {Q : Flow → Shared → Prop} (N : BdN env L m vv ps e) (T : SxC K C B bmB) (KX : K.In s.heap) (hL : s.heap.Ns L m) (hLe : L ≠ e) (hK : ∀ b o, K.lookup b = some o → b ≠ e) {body : List Stmt} {l : List (Str × ASrc)} (hb : stoL body = some l) (hl : ∀ q ∈ l, takerIn K C q.1 = some none ∧ ∀ p, q.2 = .inl p → p ∈ ps) (hz : l.length ≤ 900) (h0 : l ≠ [])
    (hat : s.heap.get? e = some (excObj C t none .none))
    (q : ∀ s' dx, BdS K s.heap s'.heap C e t L dx m (l.map fun q => (q.1, aVal vv q.2)).reverse → s'.gens = s.gens → s'.drawn = s.drawn → s'.os = s.os → Q .next s') : wpAny (model prog w) A (execs body env) Q E s := by
  cases body with
  | nil => cases hb; exact absurd rfl h0
  | cons st body =>
    unfold stoL at hb
    split at hb
    · rename_i hq0
      cases hq0
    · rename_i y py f pf x px r e1
      cases e1
      split at hb
      · rename_i hy
        subst hy
        split at hb
        · rename_i a l' e2 e3
          cases hb
          obtain ⟨t1, t2⟩ := hl (f, a) (List.mem_cons_self ..)
          refine wpAny_execs_cons ?_
          refine plainObj_wpAny_Assign_Attribute (ev_src N hL e2 t2 fun u tk ru => ev_local (s := { s with toks := tk }) N hL N.self.1 (by decide) N.self.2 ?_) ?_
          · refine sx_new (s := { s with toks := tk }) T KX hat t1 fun h' tk' dx kp dn ha n2 => ?_
            refine sto_rest (s := { s with heap := h', toks := tk' }) (hs := s.heap) (dx := dx) (l := l') (fs := [(f, aVal vv a)]) N T KX hL hLe hK e3 (fun p hp => hl p (List.mem_cons_of_mem _ hp)) (by rw [List.length_cons] at hz; show 1 + _ ≤ 900; omega)
              ⟨kp, dn, ha, _, n2, relO_put (fs := []) ru fun _ => True.intro⟩ fun s' S' g1 g2 g3 => q s' dx ?_ g1 g2 g3
            have : (((f, a) :: l').map fun q => (q.1, aVal vv q.2)).reverse = (l'.map fun q => (q.1, aVal vv q.2)).reverse ++ [(f, aVal vv a)] := by simp
            rw [this]
            exact S'
          · unfold stoE at e2
            split at e2 <;> first | rfl | cases e2
        · cases hb
      · cases hb
    · cases hb
end
/-! ### super().__init__(text) -/
section
variable {prog : Program} {w : World} {A : Around} {E : Value → Shared → Prop} {K : PySem.W.Frag} {C e t f cda cc L : Addr} {B i newId : String} {bmB : List Value} {m mb mg : Str → Option Value} {g0 : Heap} {s : Shared} {news : List (Addr × Obj)}
theorem scall_eq {o : Expr} {nm : Str} {apos pos : Pos} {args : List Expr} {env : Env} (hl : lineOk0 apos pos = true) (hn : args.all notStar = true) (hlen : args.length < 30) : eval (.Call (.Attribute o nm apos) args [] pos) env = (do
      let ov ← attributeBase o nm env (eval o env)
      standAt apos.atName
      let (f, first) ← holding [ov] (getMethod ov nm (do return (← importBound o env).getD true))
      callWith pos f first (backTo pos (starEach args env)) []) := by
  have hf : methodCallForm (args.length + ([] : List Keyword).length) (backTo pos (starEach args env)) (backToKw pos (keywordEach [] env)) = true := by
    have h1 := stars_plain (env := env) (pos := pos) (es := args) hn
    unfold methodCallForm
    rw [Bool.and_eq_true, Bool.and_eq_true]
    refine ⟨⟨?_, rfl⟩, decide_eq_true (show args.length + 0 + 0 < 30 by omega)⟩
    rw [List.all_eq_true]
    intro y hy
    have h2 := List.any_eq_false.mp h1 y hy
    cases hy1 : y.1
    · rfl
    · exact absurd hy1 h2
  have hp : methodCallPos true o env apos pos = pure pos := by
    unfold methodCallPos
    have hl : (apos.endLine == pos.line) = true := hl
    rw [hl]
    rfl
  rw [arm_eval_Call]
  congr 1
  funext ov
  unfold methodCall
  rw [hf, hp]
  rfl
/-- what is written of a class whose __init__ says super().__init__(text) -/
structure SupC (prog : Program) (K : PySem.W.Frag) (mg mb : Str → Option Value) (C f cda cc : Addr) (scope : Scope) (fd : FuncData) (B newId i : String) (bmB : List Value) : Prop where
  fb : ExcBaseFacts B newId i bmB
  kf : KxsFacts B i
  ini : excInitIn K C bmB newId = true
  sub : PySem.W.subIn K (.ref C) (.type B) = some true
  mro : PySem.W.mroIn K C (.ref C) = some true
  cls : ∃ cd, PySem.W.clsIn K C = some cd
  sup : ks_superIn K C C "__init__" = some (some (.builtin i))
  any : PySem.W.nsIn K cStatics "thirdparty.any" = some none
  cell : ∃ cl cld csl, K.lookup cc = some ⟨cl, cld, .cell (some (.ref C)), csl⟩
  code : ∃ ccl cdd vs ccs file tf, K.lookup cda = some ⟨ccl, cdd, .fields vs, ccs⟩ ∧ vs[2]? = some (.str file tf) ∧ ((prog.main.file : Str) == file) = true
  fn : ∃ oc od osl, K.lookup f = some ⟨oc, od, .func fd, osl⟩
  first : ∃ ar, (fd.params.posonlyargs ++ fd.params.args).head? = some ar ∧ ar.arg = "self"
  top : (prog.main.scope.names.lookup ("super" : Str)).isSome = false
  mgS : mg "super" = none
  mbS : mb "super" = some (.type "super")
  kS : scope.names.lookup ("super" : Str) = some .globalImplicit
  kC : scope.names.lookup ("__class__" : Str) = some .free
  kV : scope.names.lookup ("self" : Str) = some .local
  kd : scope.kind = .function
theorem sup_ok {body : List Stmt} {qual : Str} {scope : Scope} {fd : FuncData} {z : Str} {k : Nat} {p0 p1 p2 p3 p4 p5 : Pos} {us : List Value} {Q : Flow → Shared → Prop} (T : SupC prog K mg mb C f cda cc scope fd B newId i bmB) (KX : K.In g0) (Gg : g0.Ns mainGlobals mg) (Gb : g0.Ns builtinsNs mb) (hl : lineOk0 p2 p4 = true)
    (F : Fr g0 L s.heap m) (N : News g0 L s.heap [(e, excObj C t none .none), (t, excTup us)]) (hte : t ≠ e) (hm : m "self" = some (.ref e))
    (hq : ∀ s' t', Fr g0 L s'.heap m → s'.heap.get? e = some (excObj C t' none .none) → s'.gens = s.gens → s'.drawn = s.drawn → s'.os = s.os → Q .next s') :
    _root_.PySem.wpAt (model prog w) A (.func body (ksEnv qual scope L f (.ref cda) cc)) (exec (.Expr (.Call (.Attribute (.Call (.Name "super" p0) [] [] p1) "__init__" p2) [.Constant (.str z) k p3] [] p4) p5) (ksEnv qual scope L f (.ref cda) cc)) Q E s := by
  obtain ⟨cd, hcd⟩ := T.cls
  obtain ⟨cl, cld, csl, hcell⟩ := T.cell
  obtain ⟨ccl, cdd, vs, ccs, file, tf, hcode, hvs, hfile⟩ := T.code
  obtain ⟨oc, od, osl, hfn⟩ := T.fn
  obtain ⟨ar, har, hself⟩ := T.first
  have KS : K.In s.heap := KX.keeps F.keep
  refine ks_wpAt_Expr_any (ks_wpAt_MethodCall (pl := (do return (← importBound (.Call (.Name "super" p0) [] [] p1) (ksEnv qual scope L f (.ref cda) cc)).getD true)) ?_ (scall_eq hl rfl (by simp))) (by unfold interactive; rw [show (ksEnv qual scope L f (.ref cda) cc).scope.kind = .function from T.kd]; rfl) rfl
  obtain ⟨hh, g, d, tk, os⟩ := s
  obtain ⟨oC, hC1, hC2⟩ : ∃ oC, hh.get? C = some oC ∧ oC.data = .cls cd := by
    unfold PySem.W.clsIn at hcd
    split at hcd
    · rename_i c d cd' sl ho
      cases hcd
      exact ⟨_, KS _ _ ho, rfl⟩
    · cases hcd
  have hxe := (N (e, excObj C t none .none) (by simp)).1
  refine ks_wpAt_super_base (env := ksEnv qual scope L f (.ref cda) cc) T.kS T.kC (by decide) rfl (KS _ _ hfn) rfl har rfl (KS _ _ hcode) rfl hvs hfile T.top ?_
  refine ks_loadName_global T.kd T.kS (Calls.loadGlobal_builtin (env := ksEnv qual scope L f (.ref cda) cc) (Gg.keeps F.keep) T.mgS (Gb.keeps F.keep) T.mbS ⟨rfl, ?_⟩)
  refine wpAny_loadName_free T.kd T.kC rfl ⟨_, KS _ _ hcell, rfl⟩ ?_
  refine wpAny_loadName_local T.kd (by rw [hself]; exact T.kV) F.ns (by rw [hself]; exact hm) ?_
  refine ks_wpAny_isType_cls hC1 hC2 ⟨rfl, ?_⟩
  refine ks_wpAny_call_super hC1 hC2 hxe rfl (fun c => by intro q; cases q) (looks_mroIn KS T.mro) fun h1 e1 kp1 => ?_
  obtain ⟨F1, N1, l1⟩ := ks_newsPush (s := ⟨hh, g, d, tk, os⟩) F N rfl e1 kp1
  have ix1 : PySem.W.InstAt h1 e (excObj C t none .none) C none := ⟨kp1 _ _ hxe, rfl, rfl, trivial⟩
  refine kxs_method (s := ⟨h1, g, d, tk, os⟩) T.kf F1 KX N1 (List.mem_cons_self ..) ix1 T.any T.sup T.sub (by decide) fun q2 h2 F2 N2 l2 => ?_
  refine kxs_callWith1 (s := ⟨h2, g, d, tk + 1, os⟩) N2 (List.mem_cons_self ..) ?_ rfl rfl
  refine Calls.spliced_cons (wpAny_Constant_str (k := k) (pos := p3) (Calls.spliced_nil ⟨kxs_at N2 (List.mem_cons_self ..), ?_⟩))
  have ne1 : hh.objs.size ≠ e := fun q => by
    have := l1 (e, excObj C t none .none) (by simp)
    rw [q] at this
    exact absurd this (Nat.lt_irrefl _)
  have ne2 : q2 ≠ e := fun q => by
    have := l2 (e, excObj C t none .none) (by simp)
    rw [q] at this
    exact absurd this (Nat.lt_irrefl _)
  refine kxs_call (s := ⟨h2, g, d, tk + 1 + 1, os⟩) F2 KX N2 T.fb T.ini (List.mem_cons_self ..) (.tail ne2 (.tail ne1 (.head fun p hp => by rw [List.mem_singleton.mp hp]; exact hte))) (by show 1 ≤ sizeLine; rw [sizeLine_eq]; omega) fun t' h3 F3 N3 l3 => ?_
  exact hq _ t' F3 (N3 (e, excObj C t' none .none) (by simp)).1 rfl rfl rfl
/-- an __init__ that is walked here -/
structure IniF (K : PySem.W.Frag) (C f cda cc : Addr) (scope : Scope) (fd : FuncData) (ps : List Str) (l : List (Str × ASrc)) : Prop where
  ini : PySem.W.findIn K (.ref C) "__init__" = some (some (.ref f))
  isf : isFn K (.ref f) = true
  kp : PySem.W.keepIn K (.ref C) = true
  shape : ∃ nm qual params body dV kV doc pm an ct z k p0 p1 p2 p3 p4 p5 sts, fd = ksFn nm qual params body scope dV kV doc pm an (.ref cda) ct cc ∧ PySem.W.codeIn K (.ref cda) qual = true ∧
    body = .Expr (.Call (.Attribute (.Call (.Name "super" p0) [] [] p1) "__init__" p2) [.Constant (.str z) k p3] [] p4) p5 :: sts ∧ lineOk0 p2 p4 = true ∧ stoL sts = some l
  bind : ∀ (s : Shared) (us : List Value), us.length = ps.length + 1 → BindsTo s fd ⟨us, []⟩ ((("self" : Str) :: ps).zip us)
  nd : (("self" : Str) :: ps).Nodup
  par : ∀ p ∈ ps, scope.names.lookup p = some .local ∧ (p == ("__debug__" : Str)) = false
  nc : ∀ x ∈ scope.names, x.2 ≠ .cell
  co : scope.isCoroutine = false
  gen : scope.isGenerator = false
  tak : ∀ q ∈ l, takerIn K C q.1 = some none ∧ ∀ p, q.2 = .inl p → p ∈ ps
  l0 : l ≠ []
  l9 : l.length ≤ 900
theorem look_rev {ps : List Str} {us : List Value} (hn : ps.Nodup) (hl : us.length = ps.length) {j : Nat} {p : Str} {u : Value} (h1 : ps[j]? = some p) (h2 : us[j]? = some u) : (ps.zip us).reverse.lookup p = some u := by
  induction ps generalizing us j with
  | nil => cases h1
  | cons q ps ih =>
    cases us with
    | nil => cases hl
    | cons v us =>
      rw [List.zip_cons_cons, List.reverse_cons]
      rw [List.nodup_cons] at hn
      have app : ∀ (a b : List (Str × Value)) (x : Str), (a ++ b).lookup x = (a.lookup x).or (b.lookup x) := by
        intro a b x
        induction a with
        | nil => rfl
        | cons y a iha =>
          obtain ⟨y1, y2⟩ := y
          rw [List.cons_append, List.lookup_cons, List.lookup_cons]
          cases x == y1 <;> first | rfl | exact iha
      rw [app]
      cases j with
      | zero =>
        cases h1
        cases h2
        have : (ps.zip us).reverse.lookup p = none := by
          cases q : (ps.zip us).reverse.lookup p with
          | none => rfl
          | some w =>
            have := PySem.mem_of_lookup q
            exact absurd (List.of_mem_zip (List.mem_reverse.mp this)).1 hn.1
        rw [this]
        simp
      | succ j =>
        rw [ih hn.2 (by simpa using hl) (by simpa using h1) (by simpa using h2)]
        rfl
/-- the run of __init__ on a new exception -/
theorem ini_run {scope : Scope} {fd : FuncData} {ps : List Str} {l : List (Str × ASrc)} {us rest : List Value} {vs : List V} {hp : Heap} {g : Array GenState} {d : Drawn} {tk : Nat} {os : OsState} {args : Args} {A1 : Around} {R : Result → Shared → Prop}
    (T : SupC prog K mg mb C f cda cc scope fd B newId i bmB) (S : SxC K C B bmB) (I : IniF K C f cda cc scope fd ps l) (KX : K.In hp) (Gg : hp.Ns mainGlobals mg) (Gb : hp.Ns builtinsNs mb) (hlim : hp.NoLimit) (hdep : A1.depth < recursionLimit)
    (hu : us.length = ps.length) (r : Vals vs us) (hbind : ∀ s : Shared, BindsTo s fd args ((("self" : Str) :: ps).zip (.ref (hp.objs.size + 1) :: us)))
    (hq : ∀ h' tk' e dx t, (∀ b o, hp.get? b = some o → h'.get? b = some o) → hp.get? e = none → hp.get? dx = none → dx ≠ e → h'.get? e = some (excObj C t (some dx) .none) → (∃ mA, h'.Ns1 dx mA ∧ ∀ fl, RelO (((l.map fun q => (q.1, aVal (fun p => (ps.zip vs).lookup p) q.2)).reverse).lookup fl) (mA fl)) → R (.ok (.ret (.ref e))) ⟨h', g, d, tk', os⟩) :
    codeAny (model prog w) A1 (.call (.ref f) args) (W.InitBack (hp.objs.size + 1) R) ⟨(hp.push (kdv_tup rest)).push (PX.excO C hp.objs.size), g, d, tk, os⟩ := by
  obtain ⟨nm, qual, params, body, dV, kV, doc, pm, an, ct, z, k, p0, p1, p2, p3, p4, p5, sts, rfl, hcode, rfl, hline, hsto⟩ := I.shape
  obtain ⟨oc, od, osl, hfn⟩ := T.fn
  have kk : ∀ b o, hp.get? b = some o → ((hp.push (kdv_tup rest)).push (PX.excO C hp.objs.size)).get? b = some o := fun b o e => Heap.get?_push_of_some _ (Heap.get?_push_of_some _ e)
  have hget : ((hp.push (kdv_tup rest)).push (PX.excO C hp.objs.size)).get? (hp.objs.size + 1) = some (PX.excO C hp.objs.size) := by heap_get
  have hgetT : ((hp.push (kdv_tup rest)).push (PX.excO C hp.objs.size)).get? hp.objs.size = some (kdv_tup rest) := Heap.get?_push_of_some _ (Heap.get?_push_at rfl rfl)
  have hsz : ((hp.push (kdv_tup rest)).push (PX.excO C hp.objs.size)).objs.size = hp.objs.size + 2 := by rw [Heap.size_push, Heap.size_push]
  have ehz : hp.get? (hp.objs.size + 1) = none := Heap.get?_none_of_le (Nat.le_succ _)
  have hlen : (Value.ref (hp.objs.size + 1) :: us).length = (("self" : Str) :: ps).length := by rw [List.length_cons, List.length_cons, hu]
  refine ks_codeAny_call_defAt (fd := ksFn nm qual params _ scope dV kV doc pm an (.ref cda) ct cc) (binds := (("self" : Str) :: ps).zip (Value.ref (hp.objs.size + 1) :: us)) hdep (kk _ _ (KX _ _ hfn)) rfl (hlim.keeps kk) (codeRec_of (KX.keeps kk) hcode) rfl (hbind _) I.nc
      (fun y hy => by
        rcases List.mem_cons.mp (List.of_mem_zip (a := y.1) (b := y.2) hy).1 with q | q
        · rw [q]; exact T.kV
        · exact (I.par _ q).1) (fun h1 hns kp => ?_) I.co I.gen T.kd
  rw [hsz] at hns ⊢
  have m0 : ((("self" : Str) :: ps).zip (Value.ref (hp.objs.size + 1) :: us)).reverse.lookup ("self" : Str) = some (.ref (hp.objs.size + 1)) := look_rev I.nd hlen (j := 0) rfl rfl
  have F1 : Fr hp (hp.objs.size + 2) h1 (fun y => ((("self" : Str) :: ps).zip (Value.ref (hp.objs.size + 1) :: us)).reverse.lookup y) := ⟨hns, fun b o e => kp b o (kk b o e), Nat.le_add_right _ _⟩
  have N1 : News hp (hp.objs.size + 2) h1 [(hp.objs.size + 1, excObj C hp.objs.size none .none), (hp.objs.size, excTup rest)] := by
    intro p hp'
    rcases List.mem_cons.mp hp' with rfl | hp'
    · exact ⟨kp _ _ hget, Nat.ne_of_lt (Nat.lt_succ_self _), ehz⟩
    · rw [List.mem_singleton.mp hp']
      exact ⟨kp _ _ hgetT, Nat.ne_of_lt (Nat.lt_succ_of_lt (Nat.lt_succ_self _)), Heap.get?_none_of_le (Nat.le_refl _)⟩
  refine ks_wpAt_execs_cons (sup_ok (s := ⟨h1, g, d, tk + ((("self" : Str) :: ps).zip (Value.ref (hp.objs.size + 1) :: us)).length, os⟩) T KX Gg Gb hline F1 N1 (Nat.ne_of_lt (Nat.lt_succ_self _)) m0 fun s2 t' F2 hat g1 g2 g3 => ?_)
  have BN : BdN (ksEnv qual scope (hp.objs.size + 2) f (.ref cda) cc) (hp.objs.size + 2) (fun y => ((("self" : Str) :: ps).zip (Value.ref (hp.objs.size + 1) :: us)).reverse.lookup y) (fun p => (ps.zip vs).lookup p) ps (hp.objs.size + 1) :=
    ⟨T.kd, rfl, ⟨T.kV, m0⟩, fun p hp' => by
      obtain ⟨j, hj, ej⟩ := List.getElem_of_mem hp'
      have hj2 : j < us.length := by omega
      have hj3 : j < vs.length := by rw [Paired.length r]; exact hj2
      have e1 : ps[j]? = some p := by rw [List.getElem?_eq_getElem hj, ej]
      obtain ⟨u, h1', h2'⟩ := Vals.get r (List.getElem?_eq_getElem hj3)
      refine ⟨(I.par p hp').1, (I.par p hp').2, vs[j], u, ?_, look_rev I.nd hlen (j := j + 1) (by simpa using e1) (by simpa using h1'), h2'⟩
      have gen : ∀ (ps : List Str) (vs : List V) (j : Nat) (p : Str) (v : V), ps.Nodup → ps[j]? = some p → vs[j]? = some v → (ps.zip vs).lookup p = some v := by
        intro ps
        induction ps with
        | nil => intro vs j p v _ h; cases h
        | cons q ps ih =>
          intro vs j p v hn h1 h2
          rw [List.nodup_cons] at hn
          cases vs with
          | nil => cases h2
          | cons y vs =>
            rw [List.zip_cons_cons, List.lookup_cons]
            cases j with
            | zero =>
              cases h1
              cases h2
              simp
            | succ j =>
              have hm : p ∈ ps := List.mem_of_getElem? (by simpa using h1)
              have : (p == q) = false := beq_eq_false_iff_ne.mpr fun e => hn.1 (e ▸ hm)
              rw [this]
              exact ih vs j p v hn.2 (by simpa using h1) (by simpa using h2)
      exact gen ps vs j p vs[j] (List.nodup_cons.mp I.nd).2 e1 (List.getElem?_eq_getElem hj3)⟩
  refine _root_.PySem.wpAt_of_wpAny (sto_all (t := t') BN S (KX.keeps F2.keep) F2.ns (Nat.ne_of_gt (Nat.lt_succ_self _)) (fun b o e z => by rw [z] at e; rw [KX _ _ e] at ehz; cases ehz) hsto I.tak I.l9 I.l0 hat fun s3 dx S3 j1 j2 j3 => ?_)
  obtain ⟨h3, g', d', tk', os'⟩ := s3
  obtain rfl : g' = g := j1.trans g1
  obtain rfl : d' = d := j2.trans g2
  obtain rfl : os' = os := j3.trans g3
  have dn : hp.get? dx = none := by
    cases q : hp.get? dx with
    | none => rfl
    | some o => have h9 := S3.new; rw [F2.keep _ _ q] at h9; cases h9
  refine ⟨rfl, hq h3 tk' (hp.objs.size + 1) dx t' (fun b o e => S3.keep b o (fun q => by rw [q, ehz] at e; cases e) (F2.keep b o e)) ehz dn (fun q => ?_) S3.at_ S3.ns⟩
  obtain ⟨mA, ⟨oD, es, ep, z1, z2, _⟩, _⟩ := S3.ns
  rw [q, S3.at_] at z1
  cases z1
  cases z2
/-- C(us): an exception with its attributes -/
theorem exc_made {scope : Scope} {fd : FuncData} {ps : List Str} {l : List (Str × ASrc)} {us : List Value} {vs : List V} {Q : Value → Shared → Prop} (T : SupC prog K mg mb C f cda cc scope fd B newId i bmB) (S : SxC K C B bmB) (I : IniF K C f cda cc scope fd ps l) (KX : K.In s.heap) (Gg : s.heap.Ns mainGlobals mg) (Gb : s.heap.Ns builtinsNs mb) (hlim : s.heap.NoLimit) (hdep : A.depth + 1 < recursionLimit)
    (hu : us.length = ps.length) (hz : us.length ≤ 1000) (r : Vals vs us)
    (hq : ∀ h' tk' e dx t, (∀ b o, s.heap.get? b = some o → h'.get? b = some o) → s.heap.get? e = none → s.heap.get? dx = none → dx ≠ e → h'.get? e = some (excObj C t (some dx) .none) → (∃ mA, h'.Ns1 dx mA ∧ ∀ fl, RelO (((l.map fun q => (q.1, aVal (fun p => (ps.zip vs).lookup p) q.2)).reverse).lookup fl) (mA fl)) → Q (.ref e) { s with heap := h', toks := tk' }) :
    wpAny (model prog w) A (call (.ref C) us) Q E s := by
  obtain ⟨nm0, N0, qn, bs, bm, hdct, sn, sub, ab, col, dd, k0, k1, k2, k3, k5, hC, hT⟩ := excInit_of KX T.ini
  obtain ⟨oI, hoI, hcI⟩ : ∃ oI, s.heap.get? f = some oI ∧ oI.cls = .type "function" := by
    obtain ⟨o, ho, hc⟩ := Option.map_eq_some_iff.mp (show (K.lookup f).map (·.cls) = some (.type "function") from beq_iff_eq.mp I.isf)
    exact ⟨o, KX _ _ ho, hc⟩
  obtain ⟨hp, g, d, tk, os⟩ := s
  exact wpAny_call (PX.call_own T.fb hT hC (looks_findIn KX I.ini) (fun self => exc_bind hoI hcI self) (by rw [sizeLine_eq]; omega)
    (ini_run T S I KX Gg Gb hlim (by rw [make_depth]; exact hdep) hu r (fun s => I.bind s _ (by rw [List.length_cons, hu])) hq))
end
end Mv

/-! MvY: an exception made with one keyword. -/
namespace PySem
namespace PX
open PySem PySem.Spec
section
variable {M : Model} {A : Around} {E : Value → Shared → Prop} {h : Heap} {g : Array GenState} {d : Drawn} {t : Nat} {os : OsState}
variable {nm q : Str} {C N : Addr} {bs bm bmB : List Value} {hdct : Bool} {sn : List Str} {sub : List Value} {ab : Bool} {col : Option Bool} {dd : Option Addr} {k0 k1 k2 k3 k5 : Option Value} {B newId initId : String} {kn : Str} {kv : Value}
theorem kwn_check (F : ExcBaseFacts B newId initId bmB) (hT : ∀ X : String, bm.contains (.type X) = bmB.contains (.type X)) {Q : Unit → Shared → Prop}
    (hC : h.get? C = some (excClassObj nm q C N bs bm hdct sn sub ab col dd k0 k1 k2 k3 k5 newId)) (hq : Q () ⟨h, g, d, t, os⟩) : wpAny M A (checkBuiltinCall newId ⟨[.ref C], [(kn, kv)]⟩) Q E ⟨h, g, d, t, os⟩ := by
  have z0 : (Value.ref C :: bm).contains (.type B) = true := by rw [List.contains_cons, hT, F.hasB, Bool.or_true]
  have z1 := F.noStar
  simp only [checkBuiltinCall, F.newKind, F.newSplit, F.newRow]
  repeat (first | refine wpAny_loadPart_at hC ?_ | (refine wpAny_isSubtype_exc hC ?_; rw [z0]) | refine wpAny_staticBase_exc hC ?_ | refine wpAny_madeBy_exc hC ?_ | simp only [bne_self_eq_false, Bool.false_eq_true, if_false] | wp_step)
  exact hq
end
section
variable {prog : Program} {w : World} {A : Around} {E : Value → Shared → Prop} {R : Result → Shared → Prop} {h : Heap} {g : Array GenState} {d : Drawn} {t : Nat} {os : OsState}
variable {nm q : Str} {C N : Addr} {bs bm bmB : List Value} {hdct : Bool} {sn : List Str} {sub : List Value} {ab : Bool} {col : Option Bool} {dd : Option Addr} {k0 k1 k2 k3 k5 : Option Value} {B newId initId : String} {kn : Str} {kv : Value}
theorem kwn_new (F : ExcBaseFacts B newId initId bmB) (hT : ∀ X : String, bm.contains (.type X) = bmB.contains (.type X))
    (hC : h.get? C = some (excClassObj nm q C N bs bm hdct sn sub ab col dd k0 k1 k2 k3 k5 newId))
    (hq : R (.ok (.ret (.ref (h.objs.size + 1)))) ⟨(h.push (W.kdv_tup [])).push (excO C h.objs.size), g, d, t, os⟩) :
    codeAny (model prog w) A (.builtin newId ⟨[.ref C], [(kn, kv)]⟩) R ⟨h, g, d, t, os⟩ := by
  have z0 := F.ends
  have z1 : (Value.ref C :: bm).contains (.type B) = true := by rw [List.contains_cons, hT, F.hasB, Bool.or_true]
  have z2 : (Value.ref C :: bm).contains (.type "AttributeError") = false := by rw [List.contains_cons, hT, F.noAttr]; rfl
  have z3 : (Value.ref C :: bm).contains (.type "NameError") = false := by rw [List.contains_cons, hT, F.noName]; rfl
  refine codeAny_builtinAt F.entry ?_
  unfold Builtin.«BaseException.__new__»
  refine wpAt_bind ?_
  show wpAt _ _ _ (stack >>= _) _ _ _
  refine wpAt_bind (wpAt_stack fun p below => wpAt_of_wpAny ?_)
  wp_walk
  refine wpAt_of_wpAny ?_
  rw [F.owner]
  repeat (first | with_reducible refine wpAny_madeHere_exc F.canon hC ?_ | with_reducible refine wpAny_loadPart_at hC ?_ | (with_reducible refine wpAny_isSubtype_exc hC ?_; first | rw [z1] | rw [z2] | rw [z3]) | wp_step)
  show R _ _
  rw [Heap.size_push]
  exact hq
theorem kwn_tc (F : ExcBaseFacts B newId initId bmB) (hT : ∀ X : String, bm.contains (.type X) = bmB.contains (.type X)) {fI : Addr} {Q : Fin → Shared → Prop}
    (hC : h.get? C = some (excClassObj nm q C N bs bm hdct sn sub ab col dd k0 k1 k2 k3 k5 newId))
    (hi : W.Looks (model prog w) h (typeLookup (.ref C) "__init__") (some (.ref fI))) (hb : ∀ self, W.Looks (model prog w) h (bindSpecial (.ref fI) self) (.ref fI, [self]))
    (hq : codeAny (model prog w) A (.call (.ref fI) ⟨[.ref (h.objs.size + 1)], [(kn, kv)]⟩)
      (fun r s' => match r with | .ok (.ret v) => v = .none ∧ Q (.done (.ret (.ref (h.objs.size + 1)))) s' | .ok _ => False | .error e => E e s')
      ⟨(h.push (W.kdv_tup [])).push (excO C h.objs.size), g, d, t, os⟩) :
    wpAny (model prog w) A (Builtin.«type.__call__» ⟨[.ref C], [(kn, kv)]⟩) Q E ⟨h, g, d, t, os⟩ := by
  repeat (first | with_reducible refine wpAny_loadPart_at hC ?_ | with_reducible refine wpAny_madeBy_exc hC ?_ | wp_step)
  refine codeAny_call_builtin_code (Code.quiet_builtin _ F.quiet) (kwn_check F hT hC ?_)
  refine kwn_new F hT hC ?_
  show wpAny _ _ _ _ _ _
  have k : ∀ b o, h.get? b = some o → ((h.push (W.kdv_tup [])).push (excO C h.objs.size)).get? b = some o := fun b o e => Heap.get?_push_of_some _ (Heap.get?_push_of_some _ e)
  have y0 := k _ _ hC
  have y1 : ((h.push (W.kdv_tup [])).push (excO C h.objs.size)).get? (h.objs.size + 1) = some (excO C h.objs.size) := by heap_get
  have y2 : (Value.ref C :: bm).contains (.ref C) = true := by simp
  have y3 := hi.keeps k
  have y4 := (hb (.ref (h.objs.size + 1))).keeps k
  unfold isInstance
  repeat (first | with_reducible refine wpAny_loadPart_at y1 ?_ | (with_reducible refine wpAny_isSubtype_exc y0 ?_; rw [y2]) | wp_step)
  show wpAny _ _ (typeLookup (.ref C) _) _ _ _
  refine y3.at ?_
  refine wpAny_holding (wpAny_bind (y4.at ?_))
  refine wpAny_bind (wpAny_call (codeAny_mono hq fun r s' z => ?_))
  rcases r with e | (v | _ | _ | _) <;> first | exact z | exact z.elim | skip
  obtain ⟨rfl, z⟩ := z
  first
    | exact wpAny_pure (wpAny_pure z)
    | (wp_walk; exact z)
theorem kwn_call (F : ExcBaseFacts B newId initId bmB) (hT : ∀ X : String, bm.contains (.type X) = bmB.contains (.type X)) {fI : Addr}
    (hC : h.get? C = some (excClassObj nm q C N bs bm hdct sn sub ab col dd k0 k1 k2 k3 k5 newId))
    (hi : W.Looks (model prog w) h (typeLookup (.ref C) "__init__") (some (.ref fI))) (hb : ∀ self, W.Looks (model prog w) h (bindSpecial (.ref fI) self) (.ref fI, [self]))
    (hq : codeAny (model prog w) (A.under (.builtin "type.__call__" ⟨[.ref C], [(kn, kv)]⟩)) (.call (.ref fI) ⟨[.ref (h.objs.size + 1)], [(kn, kv)]⟩) (W.InitBack (h.objs.size + 1) R)
      ⟨(h.push (W.kdv_tup [])).push (excO C h.objs.size), g, d, t, os⟩) :
    codeAny (model prog w) A (.call (.ref C) ⟨[], [(kn, kv)]⟩) R ⟨h, g, d, t, os⟩ := by
  have f1 := tc_lookup
  have f2 := tc_bind (.ref C)
  have hTy : (⟨h, g, d, t, os⟩ : Shared).TypeIs (.ref C) "type" := ⟨_, hC, rfl⟩
  refine codeAny_of_tree ?_
  show wpAny _ _ (callAny (.ref C) _) _ _ _
  repeat (any_goals (first | assumption | with_reducible refine wpAny_loadPart_at hC ?_ | wp_step))
  refine ⟨rfl, ?_⟩
  refine codeAny_call_builtin_at (Code.quiet_builtin _ (by decide +kernel)) entry_typeCall ?_
  refine wpAny_check_type_call_sub hC (kwn_tc F hT hC hi hb ?_)
  refine codeAny_mono hq fun r s' z => ?_
  rcases r with e | (v | _ | _ | _) <;> exact z
end
end PX
end PySem
namespace Mv
open PySem PySem.Spec PyProof.Rows L2 PySem.W
theorem boot_super : bootBuiltins "super" = some (.type "super") := by decide +kernel
section
variable {prog : Program} {w : World} {A : Around} {E : Value → Shared → Prop} {K : PySem.W.Frag} {C e t f cda cc L : Addr} {B i newId : String} {bmB : List Value} {m mb mg : Str → Option Value} {s : Shared}
/-- C(p = u): the same by the only parameter's name -/
theorem exc_madeK {scope : Scope} {fd : FuncData} {p : Str} {l : List (Str × ASrc)} {u : Value} {v : V} {Q : Value → Shared → Prop} (T : SupC prog K mg mb C f cda cc scope fd B newId i bmB) (S : SxC K C B bmB) (I : IniF K C f cda cc scope fd [p] l)
    (hb : ∀ (s : Shared) (a v : Value), BindsTo s fd ⟨[a], [(p, v)]⟩ [("self", a), (p, v)]) (KX : K.In s.heap) (Gg : s.heap.Ns mainGlobals mg) (Gb : s.heap.Ns builtinsNs mb) (hlim : s.heap.NoLimit) (hdep : A.depth + 1 < recursionLimit) (r : RelV v u)
    (hq : ∀ h' tk' e dx t, (∀ b o, s.heap.get? b = some o → h'.get? b = some o) → s.heap.get? e = none → s.heap.get? dx = none → dx ≠ e → h'.get? e = some (excObj C t (some dx) .none) → (∃ mA, h'.Ns1 dx mA ∧ ∀ fl, RelO (((l.map fun q => (q.1, aVal (fun y => ([p].zip [v]).lookup y) q.2)).reverse).lookup fl) (mA fl)) → Q (.ref e) { s with heap := h', toks := tk' }) :
    wpAny (model prog w) A (call (.ref C) [] [(p, u)]) Q E s := by
  obtain ⟨nm0, N0, qn, bs, bm, hdct, sn, sub, ab, col, dd, k0, k1, k2, k3, k5, hC, hT⟩ := excInit_of KX T.ini
  obtain ⟨oI, hoI, hcI⟩ : ∃ oI, s.heap.get? f = some oI ∧ oI.cls = .type "function" := by
    obtain ⟨o, ho, hc⟩ := Option.map_eq_some_iff.mp (show (K.lookup f).map (·.cls) = some (.type "function") from beq_iff_eq.mp I.isf)
    exact ⟨o, KX _ _ ho, hc⟩
  obtain ⟨hp, g, d, tk, os⟩ := s
  exact wpAny_call (PX.kwn_call T.fb hT hC (looks_findIn KX I.ini) (fun self => exc_bind hoI hcI self)
    (ini_run T S I KX Gg Gb hlim (by rw [make_depth]; exact hdep) (us := [u]) rfl (.cons r .nil) (fun s => hb s _ u) hq))
end
/-- an exception class of the text: what is written of it -/
structure ErC (prog : Program) (K : PySem.W.Frag) (mg : Str → Option Value) (C : Addr) (ps : List Str) (l : List (Str × ASrc)) : Prop where
  ex : ∃ (f cda cc : Addr) (scope : Scope) (fd : FuncData) (B newId i : String) (bmB : List Value), (∀ mb : Str → Option Value, mb "super" = some (.type "super") → SupC prog K mg mb C f cda cc scope fd B newId i bmB) ∧ SxC K C B bmB ∧ IniF K C f cda cc scope fd ps l ∧
    ∀ p, ps = [p] → ∀ (s : Shared) (a v : Value), BindsTo s fd ⟨[a], [(p, v)]⟩ [("self", a), (p, v)]
  kp : PySem.W.keepIn K (.ref C) = true
  sz : ps.length ≤ 1000
/-- the attributes, the last one stored first -/
def erFs (ps : List Str) (l : List (Str × ASrc)) (vs : List V) : List (Str × V) := (l.map fun q => (q.1, aVal (fun p => (ps.zip vs).lookup p) q.2)).reverse
theorem exPhi_ok {P : Program} {w : World} {H : Hp} {h : Heap} {a C d t : Addr} (he : h.get? a = some (excObj C t (some d) .none)) : ObjOk P w H h a (.ext (exPhi a C d)) :=
  ⟨⟨_, _, he, rfl, rfl, rfl, rfl⟩, ⟨_, he⟩, fun h1 h2 z k => by
    obtain ⟨oe, vs, q, z⟩ := z
    exact ⟨oe, vs, k _ q, z⟩⟩
section
variable {X : Cx} {pins : List (Addr × Obj)} {σ : L2.St} {H : Hp} {s : Shared} {C : Addr} {ps : List Str} {l : List (Str × ASrc)}
/-- two new objects at once -/
theorem inv_two {h' : Heap} {a b : Addr} {o u : HO} {t' : Nat} (I : Inv X pins σ H s) (k : ∀ c v, s.heap.get? c = some v → h'.get? c = some v) (ha : s.heap.get? a = none) (hb : s.heap.get? b = none) (hna : H a = none) (hnb : H b = none) (ne : b ≠ a)
    (n1 : ObjOk X.prog X.w (upd H b u) h' b u) (n2 : ObjOk X.prog X.w (upd (upd H b u) a o) h' a o) : Inv X pins σ (upd (upd H b u) a o) { s with heap := h', toks := t' } := by
  have na : (upd H b u) a = none := by rw [upd_ne (Ne.symm ne)]; exact hna
  refine I.un ?_ ((I.hok.laidN k hnb n1).laidN (fun _ _ z => z) na n2)
  have far : ∀ (c : Addr) (o' : HO), H c = some o' → (upd (upd H b u) a o) c = some o' := fun c o' z => by
    rw [upd_ne (ne_of_none z hna), upd_ne (ne_of_none z hnb)]
    exact z
  exact {
    keep := fun c v z _ _ _ => k c v z
    slot := fun c v z _ _ _ => ⟨v.slots, k c v z⟩
    free := fun c v z n _ => by
      rw [upd_ne (fun y => by rw [y, ha] at z; cases z), upd_ne (fun y => by rw [y, hb] at z; cases z)]
      exact n
    there := fun c v z _ => ⟨v, k c v z⟩
    tups := fun c xs z => far c _ z
    frzs := fun c v xs z => far c _ z
    tbls := fun c ps z => ⟨#[], by rw [far c _ z]; simp⟩ }
theorem gone_of (I : Inv X pins σ H s) {a : Addr} (h : s.heap.get? a = none) : H a = none := I.hok.gone h
theorem er_done {Q : VK} {h' : Heap} {tk' e dx t : Nat} {fs : List (Str × V)} (I : Inv X pins σ H s) (h : ∀ e dx, H e = none → H dx = none → dx ≠ e → Q (.ref e) (upd (upd H dx (.xd fs)) e (.ext (exPhi e C dx))))
    (k : ∀ b o, s.heap.get? b = some o → h'.get? b = some o) (he : s.heap.get? e = none) (hd : s.heap.get? dx = none) (ne : dx ≠ e) (h1 : h'.get? e = some (excObj C t (some dx) .none)) (h2 : ∃ mA, h'.Ns1 dx mA ∧ ∀ fl, RelO (fs.lookup fl) (mA fl)) :
    EP X pins σ Q (.ref e) { s with heap := h', toks := tk' } :=
  ⟨.ref e, _, inv_two I k he hd (gone_of I he) (gone_of I hd) ne (show ObjOk X.prog X.w (upd H dx (.xd fs)) h' dx (.xd fs) from h2) (exPhi_ok h1), rfl, h e dx (gone_of I he) (gone_of I hd) ne⟩
theorem run_er {Q : VK} {us : List Value} {vs : List V} (T : ErC X.prog X.K X.mg C ps l) (hdep : X.A.depth + 1 < recursionLimit) (I : Inv X pins σ H s) (r : Vals vs us) (hl : vs.length = ps.length)
    (h : ∀ e dx, H e = none → H dx = none → dx ≠ e → Q (.ref e) (upd (upd H dx (.xd (erFs ps l vs))) e (.ext (exPhi e C dx)))) : wpAny (model X.prog X.w) X.A (call (.ref C) us) (EP X pins σ Q) X.xe s := by
  obtain ⟨f, cda, cc, scope, fd, B, newId, i, bmB, hS, hX, hI, _⟩ := T.ex
  obtain ⟨mb, q1, q2⟩ := I.mod.blt
  have lu : us.length = ps.length := r.length.symm.trans hl
  exact exc_made (hS mb ((q2 "super" (by decide)).trans boot_super)) hX hI I.kIn (I.mod.glob.keeps I.bk) (q1.keeps I.bk) I.nolimit hdep lu (by rw [lu]; exact T.sz) r
    fun h' tk' e dx t k he hd ne h1 h2 => er_done I h k he hd ne h1 h2
theorem run_erK {Q : VK} {p : Str} {u : Value} {v : V} (T : ErC X.prog X.K X.mg C [p] l) (hdep : X.A.depth + 1 < recursionLimit) (I : Inv X pins σ H s) (r : RelV v u)
    (h : ∀ e dx, H e = none → H dx = none → dx ≠ e → Q (.ref e) (upd (upd H dx (.xd (erFs [p] l [v]))) e (.ext (exPhi e C dx)))) : wpAny (model X.prog X.w) X.A (call (.ref C) [] [(p, u)]) (EP X pins σ Q) X.xe s := by
  obtain ⟨f, cda, cc, scope, fd, B, newId, i, bmB, hS, hX, hI, hK⟩ := T.ex
  obtain ⟨mb, q1, q2⟩ := I.mod.blt
  exact exc_madeK (hS mb ((q2 "super" (by decide)).trans boot_super)) hX hI (hK p rfl) I.kIn (I.mod.glob.keeps I.bk) (q1.keeps I.bk) I.nolimit hdep r
    fun h' tk' e dx t k he hd ne h1 h2 => er_done I h k he hd ne h1 h2
/-- the reading -/
def tErr (C : Addr) (ps : List Str) (l : List (Str × ASrc)) (t : TA) : TE := fun σ H Q => t σ H fun vs H1 => vs.length = ps.length ∧ ∀ e dx, H1 e = none → H1 dx = none → dx ≠ e → Q (.ref e) (upd (upd H1 dx (.xd (erFs ps l vs))) e (.ext (exPhi e C dx)))
variable {x : Str} {p pos : Pos} {e : Expr} {es : List Expr} {t : TA}
theorem pe_err (T : ErC X.prog X.K X.mg C ps l) (hdep : X.A.depth + 1 < recursionLimit) (hg : Gl X x) (hm : X.mg x = some (.ref C)) (ha : PA X (e :: es) t) (hdb : (x == ("__debug__" : Str)) = false)
    (he : starEach (e :: es) X.env = (false, eval e X.env) :: starEach es X.env) (hpl : (backTo pos (starEach es X.env)).any (·.1) = false) : PE X (.Call (.Name x p) (e :: es) [] pos) (tErr C ps l t) := by
  refine ⟨fun pins s σ H Q I h => ?_⟩
  refine wpAny_Call_Name_kw (ld_glob I hg hm ?_ hdb)
  exact PySem.W.callWith_K (h₀ := X.base) I.ok.mod.kin T.kp (thn (ha.run pos pins s σ H _ I h) fun us s1 ⟨vs, H1, I1, r, hl, q⟩ => ⟨I1.kIn, run_er T hdep I1 r hl q⟩) he hpl
theorem pe_err0 (T : ErC X.prog X.K X.mg C [] l) (hdep : X.A.depth + 1 < recursionLimit) (hg : Gl X x) (hm : X.mg x = some (.ref C)) (hdb : (x == ("__debug__" : Str)) = false) : PE X (.Call (.Name x p) [] [] pos) (tErr C [] l tNil) := by
  refine ⟨fun pins s σ H Q I h => ?_⟩
  refine wpAny_Call_Name_kw (ld_glob I hg hm ?_ hdb)
  exact PySem.W.callWith_K0 I.kIn T.kp (run_er (us := []) T hdep I .nil h.1 h.2)
theorem pe_errK {pn : Str} {kws : List Keyword} (T : ErC X.prog X.K X.mg C [pn] l) (hdep : X.A.depth + 1 < recursionLimit) (hg : Gl X x) (hm : X.mg x = some (.ref C)) (hkw : PK X kws t) (hdb : (x == ("__debug__" : Str)) = false)
    (hall : (backToKw pos (keywordEach kws X.env)).all (·.1.isSome) = true) (hks : (backToKw pos (keywordEach kws X.env)).filterMap (·.1) = [pn]) (hpl : ((backTo pos (starEach [] X.env)).any (·.1) || (backToKw pos (keywordEach kws X.env)).any (·.1.isNone)) = false) :
    PE X (.Call (.Name x p) [] kws pos) (tErr C [pn] l t) := by
  refine ⟨fun pins s σ H Q I h => ?_⟩
  refine wpAny_Call_Name_kw (ld_glob I hg hm ?_ hdb)
  refine PySem.W.callWith_KW0 (h₀ := X.base) I.ok.mod.kin T.kp hall ?_ hpl
  refine thn (hkw.run pos pins s σ H _ I h) fun ws s2 ⟨zs, H2, I2, rz, l2, q2⟩ => ⟨I2.kIn, ?_⟩
  rw [hks]
  cases zs with
  | nil => cases l2
  | cons z zs =>
    cases zs with
    | cons _ _ => cases l2
    | nil =>
      cases rz with
      | cons r1 rr =>
        cases rr
        exact run_erK T hdep I2 r1 q2
end
end Mv

/-! MvZ: an exception's attributes, isinstance of an exception. -/
namespace PySem.W
open PySem PySem.Spec PySem.Calls PyProof.Rows
section
variable {prog : Program} {w : World} {A : Around} {E : Value → Shared → Prop} {s : Shared} {K : Frag} {x D : Addr} {ox : Obj} {od : Option Obj}
theorem er_found {a g : Value} {name : Str} (hc : (clsIn K D).isSome = true) (ha : findIn K (.ref D) name = some (some a)) (hg : specialIn K a "__get__" = some (some g)) (ht : takesIn K a = some true) : findObj K D od name = some (.bind g a) := by
  obtain ⟨cd, hc⟩ := Option.isSome_iff_exists.mp hc
  unfold findObj
  rw [hc, Option.bind_some, ha, Option.bind_some]
  simp [hg, ht]
theorem er_class {Q : Option Value → Shared → Prop} (T : L2.ExcC K D) (X : K.In s.heap) (I : InstAt s.heap x ox D od) (h : Q (some (.ref D)) { s with toks := s.toks + 1 }) : wpAny (model prog w) A (getAttr? (.ref x) "__class__") Q E s := by
  have hf : findObj K D od "__class__" = some (.bind (.builtin "getset_descriptor.__get__") (.builtin "object.__class__")) := er_found (by obtain ⟨cd, hc, _⟩ := any_some T.hd; rw [hc]; rfl) T.ha T.hn T.ht
  obtain ⟨hp, g, d, t, os⟩ := s
  have w0 := I.type (M := model prog w)
  have w1 := looks_findIn (M := model prog w) X T.hg
  have w2 := looks_findIn (M := model prog w) X T.hk
  have w3 := looks_find (M := model prog w) X I hf
  have sub : Looks (model prog w) hp (isInstance (.ref x) (.type "BaseException")) true := w0.andThen (looks_subIn X T.hs)
  have y0 : (false && onTheHeap (Value.builtin "BaseException.__getattribute__")) = false := rfl
  have y2 : (Value.builtin "BaseException.__getattribute__" == Value.builtin "object.__getattribute__") = false := by decide +kernel
  have y1 : (onTheHeap (Value.ref D) && Value.builtin "BaseException.__getattribute__" == Value.builtin "object.__getattribute__") = false := by rw [y2]; rfl
  unfold getAttr? getAttrBy? getAttrBy
  refine wpAny_bind (wpAny_mkText (wpAny_bind (wpAny_attempt (wpAny_holding (wpAny_bind (w0.at (wpAny_bind (w1.at ?_))))))))
  show wpAny _ _ (if (onTheHeap (Value.ref D) && Value.builtin "BaseException.__getattribute__" == Value.builtin "object.__getattribute__") = true then _ else _) _ _ _
  rw [y1, if_neg Bool.false_ne_true]
  unfold getAttrByItsOwn hookBefore
  refine wpAny_bind ?_
  rw [if_pos (show onTheHeap (Value.ref D) = true from rfl)]
  refine w2.at ?_
  refine wpAny_bind (wpAny_attempt (wpAny_holding ?_))
  unfold callGetattribute
  rw [y0, if_neg Bool.false_ne_true]
  unfold boundAndCalled
  rw [PySem.F.excAttr_ValueError.ga.bind (.ref x)]
  refine wpAny_bind (wpAny_pure ?_)
  show wpAny _ _ (call (.builtin "BaseException.__getattribute__") [.ref x, .str "__class__" t]) _ _ _
  refine wpAny_call (codeAny_call_builtin PySem.F.excAttr_ValueError.ga.plain PySem.F.entry_bexc_ga ?_)
  refine @check_slot (model prog w) _ _ ⟨hp, g, d, t + 1, os⟩ "BaseException.__getattribute__" "BaseException" "__getattribute__" (.ref x) [.str "__class__" t] [] _ (by decide +kernel) (by decide +kernel) sub (PySem.F.args_bexc_ga (.ref x) (.str "__class__" t)) ?_
  unfold Builtin.«object.__getattribute__»
  refine wpAny_bind (wpAny_of_eq (a := ((Value.ref x : Value), [Value.str "__class__" t])) (by first | rfl | (simp only [slotArgs]; rfl)) ?_)
  refine wpAny_bind (wpAny_pure (wpAny_bind (w0.at (wpAny_bind (w3.at ?_)))))
  show wpAny _ _ (holding [Value.builtin "object.__class__"] (call (.builtin "getset_descriptor.__get__") [.builtin "object.__class__", .ref x, .ref D]) >>= ret) _ _ _
  refine wpAny_bind (wpAny_holding (wpAny_call (class_get (s := ⟨hp, g, d, t + 1, os⟩) (ox := ox) (od := od) X I T.hm ?_)))
  refine wpAny_pure ?_
  show wpAny _ _ (handedOut (.ref D)) _ _ _
  rw [handedOut_of (v := .ref D) rfl]
  first
    | exact wpAny_pure (wpAny_pure h)
    | exact wpAny_pure h
    | exact wpAny_pure (wpAny_bind (wpAny_pure (wpAny_pure h)))
theorem er_kitx (T : L2.ExcC K D) : KitX K (.ref x) (.ref D) (fun h => ∃ ox od, InstAt h x ox D od) where
  ty := fun _ _ _ ⟨_, _, I⟩ => I.type
  it := fun _ _ X _ => by
    obtain ⟨cdD, hcD, _⟩ := any_some T.hd
    unfold clsIn at hcD
    split at hcD
    · rename_i c' d' cd' sl' ho
      intro A' Q' E' s' k q
      unfold isType loadHead
      exact wpAny_bind (wpAny_loadPart (k _ _ (X _ _ ho)) (wpAny_pure q))
    · cases hcD
  ne := fun h tp dd its n sl X htp => by
    obtain ⟨cdD, hcD, _⟩ := any_some T.hd
    refine Bool.eq_false_iff.mpr fun q => ?_
    have e : D = tp := Value.ref.inj (beq_iff_eq.mp q)
    subst e
    unfold clsIn at hcD
    split at hcD
    · rename_i c' d' cd' sl' ho
      have z := (X _ _ ho).symm.trans htp
      cases z
    · cases hcD
  ca := fun X ⟨_, _, I⟩ k => er_class T X I k
end
end PySem.W
namespace Mv
open PySem PySem.Spec PyProof.Rows L2
section
variable {X : Cx} {pins : List (Addr × Obj)} {σ : L2.St} {H : Hp} {s : Shared}
theorem er_at (I : Inv X pins σ H s) {a C d : Addr} {fs : List (Str × V)} (ea : H a = some (.ext (exPhi a C d))) (ed : H d = some (.xd fs)) : ∃ (oe od : Obj) (mA : Str → Option Value), PySem.W.InstAt s.heap a oe C (some od) ∧ (∀ n, PySem.W.lookIn n od = some (mA n)) ∧ ∀ f, RelO (fs.lookup f) (mA f) := by
  obtain ⟨oe, vs, q1, q2, q3, q4, _⟩ := (show ObjOk X.prog X.w H s.heap a (.ext (exPhi a C d)) from I.hok a _ ea).1
  obtain ⟨mA, hns, hr⟩ := (show ObjOk X.prog X.w H s.heap d (.xd fs) from I.hok d _ ed)
  obtain ⟨od, ho, hl⟩ := lookIn_ns hns
  exact ⟨oe, od, mA, ⟨q1, q2, by unfold PySem.W.notCls; rw [q4] <;> rfl, by rw [q3]; exact ho⟩, hl, hr⟩
variable {W : WS} {g : Cfg} {x : Str} {p pos : Pos} {e : Expr} {ce : C} {Ca : Addr}
/-- e.f, e an exception -/
def tErf (K : Pm) (f : Str) (te : TE) : TE := fun σ H Q => te σ H fun x H1 => ∃ (hs as : List Addr) (c : Str) (ks : List Str) (a Ca : Addr) (xs : List V) (v : V), x = .ref a ∧ ErAt K hs H1 as c ks a xs ∧ K.mg c = some (.ref Ca) ∧ XfC K.K Ca ∧ PySem.W.findIn K.K (.ref Ca) f = some none ∧ (ks.zip xs).lookup f = some v ∧ Q v H1
theorem pe_erf {te : TE} {n : Str} (hb : attributeBase e n X.env (eval e X.env) = eval e X.env) (he : PE X e te) : PE X (.Attribute e n pos) (tErf (pm X) n te) := by
  refine ⟨fun pins s σ H Q I h => ?_⟩
  refine attr_of hb (thn (he.run pins s σ H _ I h) fun u s1 hh => ?_)
  obtain ⟨x, H1, I1, rx, hs, as, c, ks, a, Ca, xs, v, ex, ea, hc, T, hno, l, q⟩ := hh
  subst ex
  obtain rfl : u = Value.ref a := rx
  obtain ⟨C', d, hc', q1, q2, _⟩ := ea
  rw [hc] at hc'
  cases hc'
  obtain ⟨oe, od, mA, J, hl, hr⟩ := er_at I1 q1 q2
  obtain ⟨u, hu, ru⟩ := RelO.some_of (v := v) (o := mA n) (by rw [← l]; exact hr n)
  exact HandSPX.exc_get I1.kIn J T.ga T.gg T.exC (PySem.W.findObj_own T.hdC hno rfl (by rw [hl, hu])) (handed_of ru) ⟨v, H1, I1.tok _, ru, q⟩
/-- isinstance(e, x), e an exception, x a class -/
def tEri (K : Pm) (u : Value) (te : TE) : TE := fun σ H Q => te σ H fun x H1 => ∃ (hs as : List Addr) (c : Str) (ks : List Str) (a Ca : Addr) (xs : List V) (b : Bool), x = .ref a ∧ ErAt K hs H1 as c ks a xs ∧ K.mg c = some (.ref Ca) ∧ ExcC K.K Ca ∧ PySem.W.kitOne K.K (.ref Ca) u = some b ∧ Q (.bl b) H1
theorem call_eri {H : Hp} {hs as : List Addr} {c : Str} {ks : List Str} {a : Addr} {xs : List V} {b : Bool} {u : Value} {Q : VK} (I : Inv X pins σ H s) (ea : ErAt (pm X) hs H as c ks a xs) (hc : X.mg c = some (.ref Ca)) (T : ExcC X.K Ca) (hk : PySem.W.kitOne X.K (.ref Ca) u = some b) (q : Q (.bl b) H) :
    wpAny (model X.prog X.w) X.A (call (.builtin "isinstance") [.ref a, u]) (EP X pins σ Q) X.xe s := by
  obtain ⟨C', d, hc', q1, q2, _⟩ := ea
  have hc' : X.mg c = some (.ref C') := hc'
  rw [hc] at hc'
  cases hc'
  obtain ⟨oe, od, mA, J, _⟩ := er_at I q1 q2
  exact PySem.W.kia_one (PySem.W.er_kitx T) I.kIn ⟨oe, _, J⟩ hk (fun z => nomatch z) fun tk => ⟨.bl b, H, I.kept (t' := tk) fun _ _ z => z, rfl, q⟩
end
theorem zip_rev {α β γ : Type} (f : γ → α) (g : γ → β) (l : List γ) : (l.map f).reverse.zip (l.map g).reverse = (l.map fun q => (f q, g q)).reverse := by
  rw [← List.map_reverse, ← List.map_reverse, ← List.map_reverse, List.zip_map']
section
variable {K : Pm} {hs as : List Addr} {H : Hp}
theorem avl_rv {ps : List Str} {vs : List Val} {xs : List V} (t : RVs K hs H as vs xs) : ∀ q : ASrc, RV K hs H as (avl ps vs q) (aVal (fun p => (ps.zip xs).lookup p) q)
  | .inl x => by
    show RV K hs H as (((ps.zip vs).lookup x).getD .non) (((ps.zip xs).lookup x).getD .non)
    cases e : (ps.zip vs).lookup x with
    | none =>
      rw [look_none2 t e]
      exact .non
    | some w =>
      obtain ⟨y, e1, e2⟩ := look_zip t e
      rw [e1]
      exact e2
  | .inr z => .str z
theorem rvs_mapF {α : Type} {f : α → Val} {g : α → V} (h : ∀ a, RV K hs H as (f a) (g a)) : ∀ l : List α, RVs K hs H as (l.map f) (l.map g)
  | [] => .nil
  | a :: l => .cons (h a) (rvs_mapF h l)
/-- a new exception as a value -/
theorem er_new {S : Store} {c : Str} {ps : List Str} {l : List (Str × ASrc)} {vs : List Val} {xs : List V} {Ca e dx : Addr} (rs : RS K hs H as S) (t : RVs K hs H as vs xs) (hc : K.mg c = some (.ref Ca)) (he : H e = none) (hd : H dx = none) (ne : dx ≠ e) :
    Ks as as H (upd (upd H dx (.xd (erFs ps l xs))) e (.ext (exPhi e Ca dx))) ∧ RS K hs (upd (upd H dx (.xd (erFs ps l xs))) e (.ext (exPhi e Ca dx))) as S ∧ RV K hs (upd (upd H dx (.xd (erFs ps l xs))) e (.ext (exPhi e Ca dx))) as (erV c ps l vs) (.ref e) := by
  have k1 : Ks as as H (upd H dx (.xd (erFs ps l xs))) := Kp.new hd
  have he1 : (upd H dx (.xd (erFs ps l xs))) e = none := by rw [upd_ne (Ne.symm ne)]; exact he
  have k2 : Ks as as (upd H dx (.xd (erFs ps l xs))) (upd (upd H dx (.xd (erFs ps l xs))) e (.ext (exPhi e Ca dx))) := Kp.new he1
  have kk := Ks.trans k1 k2
  have rs1 : RS K hs (upd H dx (.xd (erFs ps l xs))) as S := rs.new hd
  refine ⟨kk, rs1.new he1, ?_⟩
  have q : erFs ps l xs = (l.map (·.1)).reverse.zip (l.map fun q => aVal (fun p => (ps.zip xs).lookup p) q.2).reverse := (zip_rev (fun q : Str × ASrc => q.1) _ l).symm
  refine .er (xs := (l.map fun q => aVal (fun p => (ps.zip xs).lookup p) q.2).reverse) ⟨Ca, dx, hc, upd_same, ?_, by simp, rs.nm he, rs.nm hd⟩ ?_
  · rw [upd_ne ne, upd_same, q]
  · exact RVs.mono (List.prefix_refl _) kk.to (rvs_mapF (fun q : Str × ASrc => avl_rv t q.2) l).reverse
end
section
variable {X : Cx} {W : WS} {g : Cfg} {x : Str} {p pos : Pos} {e : Expr} {es : List Expr} {ce cs : C} {Ca : Addr} {ps : List Str} {l : List (Str × ASrc)} {f : Str}
theorem mke_fin {t : TA} {hs as : List Addr} {H : Hp} {S : Store} {r : Rho} {σ : L2.St} {Q : VK} (hc : X.mg x = some (.ref Ca)) (fin : FinV (pm X) hs (W σ) as H (evE g (.mke x ps l cs) r S) Q) :
    FinA (pm X) hs (W σ) as H (evEs g cs r S) fun vs H1 => vs.length = ps.length ∧ ∀ e dx, H1 e = none → H1 dx = none → dx ≠ e → Q (.ref e) (upd (upd H1 dx (.xd (erFs ps l vs))) e (.ext (exPhi e Ca dx))) := by
  rw [evE] at fin
  refine fin.bind fun vs S1 bs H1 xs p1 kp1 rs1 rv f1 => ?_
  split at f1
  · rename_i hl
    refine ⟨by rw [← rv.length]; exact hl, fun e dx he hd ne => ?_⟩
    obtain ⟨q1, q2, q3⟩ := er_new (c := x) (ps := ps) (l := l) rs1 rv hc he hd ne
    exact f1 bs _ _ (List.prefix_refl _) q1 q2 q3
  · exact f1.elim
theorem s_mke (T : ErC X.prog X.K X.mg Ca ps l) (hdep : X.A.depth + 1 < recursionLimit) (hg : Gl X x) (hc : X.mg x = some (.ref Ca)) (hn : (e :: es).all notStar = true) (ha : SA X W g (e :: es) cs) (hdb : (x == ("__debug__" : Str)) = false) :
    SE X W g (.Call (.Name x p) (e :: es) [] pos) (.mke x ps l cs) := by
  rw [List.all_cons, Bool.and_eq_true] at hn
  refine (pe_err T hdep hg hc ha hdb (starEach_plain hn.1) (stars_plain hn.2)).imp7 fun σ H Q ⟨hs, as, S, r, rs, rr, fin⟩ => ?_
  exact ⟨hs, as, S, r, rs, rr, mke_fin (t := tNil) hc fin⟩
theorem s_mke0 (T : ErC X.prog X.K X.mg Ca [] l) (hdep : X.A.depth + 1 < recursionLimit) (hg : Gl X x) (hc : X.mg x = some (.ref Ca)) (hdb : (x == ("__debug__" : Str)) = false) :
    SE X W g (.Call (.Name x p) [] [] pos) (.mke x [] l .nil) := by
  refine (pe_err0 T hdep hg hc hdb).imp7 fun σ H Q ⟨hs, as, S, r, rs, rr, fin⟩ => ?_
  have q := mke_fin (t := tNil) hc fin
  rw [evEs] at q
  exact q as H [] (List.prefix_refl _) Kp.refl rs .nil
theorem s_mkeK {pn : Str} {kpos : Pos} (T : ErC X.prog X.K X.mg Ca [pn] l) (hdep : X.A.depth + 1 < recursionLimit) (hg : Gl X x) (hc : X.mg x = some (.ref Ca)) (hw : PK X [⟨some pn, e, kpos⟩] (tA (pm X) W (evEs g cs))) (hdb : (x == ("__debug__" : Str)) = false) :
    SE X W g (.Call (.Name x p) [] [⟨some pn, e, kpos⟩] pos) (.mke x [pn] l cs) := by
  obtain ⟨k1, k2, k3⟩ := kws_plain (env := X.env) (pos := pos) (kws := [⟨some pn, e, kpos⟩]) rfl
  refine (pe_errK T hdep hg hc hw hdb k1 (k3.trans rfl) (by rw [k2]; rfl)).imp7 fun σ H Q ⟨hs, as, S, r, rs, rr, fin⟩ => ?_
  exact ⟨hs, as, S, r, rs, rr, mke_fin (t := tNil) hc fin⟩
theorem s_erf {cl : List Str} (hT : ∀ c ∈ cl, ∃ Ca, X.mg c = some (.ref Ca) ∧ XfC X.K Ca ∧ PySem.W.findIn X.K (.ref Ca) f = some none) (hsup : superOk e = true) (he : SE X W g e ce) : SE X W g (.Attribute e f pos) (.erf f cl ce) := by
  refine (pe_erf (notSuper hsup) he).imp7 fun σ H Q ⟨hs, as, S, r, rs, rr, fin⟩ => ?_
  rw [evE] at fin
  refine ⟨hs, as, S, r, rs, rr, fin.bind fun v S1 bs H1 y p1 kp1 rs1 rv f1 => ?_⟩
  cases rv with
  | @er c ks vs a xs ea t =>
    unfold erfV at f1
    dsimp only at f1
    split at f1
    · rename_i hc
      obtain ⟨Ca, h1, h2, h3⟩ := hT c hc
      cases el : (ks.zip vs).lookup f with
      | none =>
        rw [el] at f1
        exact f1.elim
      | some w =>
        rw [el] at f1
        obtain ⟨y, e1, e2⟩ := look_zip t el
        exact ⟨hs, bs, c, ks, a, Ca, xs, y, rfl, ea, h1, h2, h3, e1, f1.ok rs1 e2⟩
    · exact f1.elim
  | _ => exact f1.elim
/-- isinstance(e, x) -/
def rEri (K : Pm) (u : Value) : List V → Hp → VK → Prop := fun zs H Q => ∃ (hs as : List Addr) (c : Str) (ks : List Str) (a Ca : Addr) (xs : List V) (y : V) (b : Bool), zs = [.ref a, y] ∧ (∀ z, RelV y z → z = u) ∧ ErAt K hs H as c ks a xs ∧ K.mg c = some (.ref Ca) ∧ ExcC K.K Ca ∧ PySem.W.kitOne K.K (.ref Ca) u = some b ∧ Q (.bl b) H
theorem blt_eri {u : Value} : CallR X (.builtin "isinstance") (rEri (pm X) u) := fun pins s σ H vs us Q I r ⟨hs, as, c, ks, a, Ca, xs, y, b, e, hu, ea, hc, T, hk, q⟩ => by
  subst e
  cases r with
  | cons r1 rr => cases rr with
    | cons r2 rr =>
      cases rr
      cases r1
      rw [hu _ r2]
      exact call_eri I ea hc T hk q
theorem s_isc {t : List (Str × Bool)} {cx : Str} {p2 : Pos} {y : V} {u : Value} (hg : Gl X "isinstance") (hm : X.mg "isinstance" = none) (hn : notStar e = true) (he : SE X W g e ce) (hy : PE X (.Name cx p2) (tC y)) (hu : ∀ z, RelV y z → z = u)
    (hT : ∀ c b, t.lookup c = some b → ∃ Ca, X.mg c = some (.ref Ca) ∧ ExcC X.K Ca ∧ PySem.W.kitOne X.K (.ref Ca) u = some b) : SE X W g (.Call (.Name "isinstance" p) [e, .Name cx p2] [] pos) (.isc ce t) := by
  refine (pe_callB (blt_eri (u := u)) hg hm PyProof.Rows.boot_isinstance (pa_cons he (pa_cons hy pa_nil (starEach_plain rfl)) (starEach_plain hn)) (by decide) (by decide) (starEach_plain hn) rfl).imp7 fun σ H Q ⟨hs, as, S, r, rs, rr, fin⟩ => ?_
  rw [evE] at fin
  refine ⟨hs, as, S, r, rs, rr, fin.bind fun v S1 bs H1 z p1 kp1 rs1 rv f1 => ?_⟩
  cases rv with
  | @er c ks vs a xs ea tt =>
    unfold iscV at f1
    dsimp only at f1
    cases el : t.lookup c with
    | none =>
      rw [el] at f1
      exact f1.elim
    | some b =>
      rw [el] at f1
      obtain ⟨Ca, h1, h2, h3⟩ := hT c b el
      exact ⟨hs, bs, c, ks, a, Ca, xs, y, b, rfl, hu, ea, h1, h2, h3, f1.ok rs1 (.bl b)⟩
  | _ => exact f1.elim
end
end Mv

/-! MvG: walks. -/
namespace Mv
open PySem PySem.Spec PyProof.Rows L2

section
variable {K : Pm} {hs : List Addr} {as : List Addr} {H : Hp} {S : Store}
theorem RS.seqL (rs : RS K hs H as S) {k : Nat} {a : Addr} {vs : List Val} (h : seqAt S k = some vs) (hk : as[k]? = some a) : ∃ xs, SqL K.K H a xs := by
  obtain ⟨xs, h1, _⟩ := rs.seq h hk
  exact ⟨xs, SqL.of h1⟩
theorem same_rs : Ks as as H H ∧ ∀ a ∈ as, H a = H a := ⟨Kp.refl, fun _ _ => rfl⟩
theorem tup_rs (rs : RS K hs H as S) {T : Addr} {xs : List V} (hT : H T = none) : Ks as as H (upd H T (.tup xs)) ∧ ∀ a ∈ as, upd H T (.tup xs) a = H a :=
  ⟨Kp.new hT, fun a ha => upd_ne fun z => rs.free hT (by rw [← z]; exact ha)⟩
theorem it_live {k : Nat} {a : Addr} (hk : as[k]? = some a) : ItOk K hs H as (.live k) (Itl K.K a) := by
  intro hs' bs H1 S1 i p kp rs hd
  have hk1 := pre_get p hk
  have main : ∀ r, (seqAt S1 k).map (fun vs => vs[i]?) = some r → ∃ vs xs, SqL K.K H1 a xs ∧ RVs K hs' H1 bs vs xs ∧ r = vs[i]? := fun r e => by
    rw [Option.map_eq_some_iff] at e
    obtain ⟨vs, e1, e2⟩ := e
    obtain ⟨xs, h1, t⟩ := rs.seq e1 hk1
    exact ⟨vs, xs, SqL.of h1, t, e2.symm⟩
  refine ⟨fun e => ?_, fun v e => ?_⟩
  · obtain ⟨vs, xs, h1, t, e2⟩ := main _ e
    exact ⟨xs, h1, List.getElem?_eq_none_iff.mp (t.none_of e2.symm)⟩
  · obtain ⟨vs, xs, h1, t, e2⟩ := main _ e
    obtain ⟨x, h2, r⟩ := t.get e2.symm
    refine ⟨⟨xs, x, h1, h2⟩, fun y H' hy => ?_⟩
    obtain ⟨e3, e4⟩ := hy
    subst e3
    have e5 := e4 xs h1
    rw [h2] at e5
    cases e5
    exact ⟨same_rs.1, same_rs.2, r⟩
theorem it_fz {vs : List Val} {xs : List V} {a : Addr} (h : FzAt hs H as a xs) (t : RVs K hs H as vs xs) : ItOk K hs H as (.its vs) (Itl K.K a) := by
  intro hs' bs H1 S1 i p kp rs hd
  have hn : Nm hs' as a := hd.nm h.1 h.2
  have h1 : SqL K.K H1 a xs := SqL.of (kp.get h.1 hn)
  have t1 := (t.re hd).mono p kp
  refine ⟨fun e => ?_, fun v e => ?_⟩
  · have e : vs[i]? = none := Option.some.inj e
    exact ⟨xs, h1, List.getElem?_eq_none_iff.mp (t1.none_of e)⟩
  · have e : vs[i]? = some v := Option.some.inj e
    obtain ⟨x, h2, r⟩ := t1.get e
    refine ⟨⟨xs, x, h1, h2⟩, fun y H' hy => ?_⟩
    obtain ⟨e3, e4⟩ := hy
    subst e3
    have e5 := e4 xs h1
    rw [h2] at e5
    cases e5
    exact ⟨same_rs.1, same_rs.2, r⟩
theorem tupAt_re {hs' : List Addr} (f : Hd hs hs' H) {a : Addr} {xs : List V} (h : TupAt K hs H as a xs) : TupAt K hs' H as a xs := h.elim (fun h => .inl ⟨h.1, f.nm h.1 h.2⟩) .inr
theorem it_tup {vs : List Val} {xs : List V} {a : Addr} (h : TupAt K hs H as a xs) (t : RVs K hs H as vs xs) : ItOk K hs H as (.its vs) (Itt K.K a) := by
  intro hs' bs H1 S1 i p kp rs hd
  have h1 := (kp.tupAt (tupAt_re hd h)).sq
  have t1 := (t.re hd).mono p kp
  refine ⟨fun e => ?_, fun v e => ?_⟩
  · have e : vs[i]? = none := Option.some.inj e
    exact ⟨xs, h1, List.getElem?_eq_none_iff.mp (t1.none_of e)⟩
  · have e : vs[i]? = some v := Option.some.inj e
    obtain ⟨x, h2, r⟩ := t1.get e
    refine ⟨⟨xs, x, h1, h2⟩, fun y H' hy => ?_⟩
    obtain ⟨e3, e4⟩ := hy
    subst e3
    have e5 := e4 xs h1
    rw [h2] at e5
    cases e5
    exact ⟨same_rs.1, same_rs.2, r⟩
theorem it_tud {vs : List Val} {xs : List V} {a : Addr} (h : TudAt hs H as a xs) (t : RVs K hs H as vs xs) : ItOk K hs H as (.its vs) (Itt K.K a) := by
  intro hs' bs H1 S1 i p kp rs hd
  obtain ⟨o, q1, q2, q3, q4⟩ := h
  have h1 : SqT K.K H1 a xs := (kp.tudAt ⟨o, q1, q2, q3, hd.nm q1 q4⟩).sq
  have t1 := (t.re hd).mono p kp
  refine ⟨fun e => ?_, fun v e => ?_⟩
  · have e : vs[i]? = none := Option.some.inj e
    exact ⟨xs, h1, List.getElem?_eq_none_iff.mp (t1.none_of e)⟩
  · have e : vs[i]? = some v := Option.some.inj e
    obtain ⟨x, h2, r⟩ := t1.get e
    refine ⟨⟨xs, x, h1, h2⟩, fun y H' hy => ?_⟩
    obtain ⟨e3, e4⟩ := hy
    subst e3
    have e5 := e4 xs h1
    rw [h2] at e5
    cases e5
    exact ⟨same_rs.1, same_rs.2, r⟩
theorem it_str {x : Str} : ItOk K hs H as (.its ((signs x).map fun c => .str (sign c))) (Its x) := by
  intro hs' bs H1 S1 i p kp rs hd
  have hl : (signs x)[i]? = x.cps[i]? := by
    unfold signs
    rw [Array.getElem?_toList]
  refine ⟨fun e => ?_, fun v e => ?_⟩
  · have e : ((signs x).map fun c => Val.str (sign c))[i]? = none := Option.some.inj e
    rw [List.getElem?_map, hl] at e
    show x.cps.size ≤ i
    cases q : x.cps[i]? with
    | none => exact Array.getElem?_eq_none_iff.mp q
    | some c =>
      rw [q] at e
      cases e
  · have e : ((signs x).map fun c => Val.str (sign c))[i]? = some v := Option.some.inj e
    rw [List.getElem?_map, hl] at e
    cases q : x.cps[i]? with
    | none =>
      rw [q] at e
      cases e
    | some c =>
      rw [q] at e
      cases e
      refine ⟨?_, fun y H' hy => ?_⟩
      · show i < x.cps.size
        obtain ⟨h, _⟩ := Array.getElem?_eq_some_iff.mp q
        exact h
      · obtain ⟨e3, d, e4, e5⟩ := hy
        subst e3
        subst e5
        rw [q] at e4
        cases e4
        exact ⟨same_rs.1, same_rs.2, .str _⟩
theorem it_rng {lo : Int} {n : Nat} {f : Nat → Val} (hf : ∀ i, f i = .int (lo + i)) : ItOk K hs H as (.its ((List.range n).map f)) (L2.Itr lo n) := by
  intro hs' bs H1 S1 i p kp rs hd
  refine ⟨fun e => ?_, fun v e => ?_⟩
  · have e : ((List.range n).map f)[i]? = none := Option.some.inj e
    rw [List.getElem?_eq_none_iff, List.length_map, List.length_range] at e
    exact e
  · have e : ((List.range n).map f)[i]? = some v := Option.some.inj e
    obtain ⟨hl, e2⟩ := List.getElem?_eq_some_iff.mp e
    rw [List.length_map, List.length_range] at hl
    rw [List.getElem_map, List.getElem_range, hf] at e2
    subst e2
    refine ⟨hl, fun y H' hy => ?_⟩
    obtain ⟨e3, e4⟩ := hy
    subst e3
    subst e4
    exact ⟨same_rs.1, same_rs.2, .int _⟩
/-- what enumerate yields -/
theorem enum_yld {hs' bs : List Addr} {H1 : Hp} {S1 : Store} {i : Nat} {v : Val} {x : V} {a : Addr} {xs : List V} (rs : RS K hs' H1 bs S1) (h1 : SqL K.K H1 a xs) (h2 : xs[i]? = some x) (r : RV K hs' H1 bs v x) {y : V} {H' : Hp} (hy : (Ite K.K a).yld i H1 y H') :
    Ks bs bs H1 H' ∧ (∀ a ∈ bs, H' a = H1 a) ∧ RV K hs' H' bs (.tup [.int (i : Nat), v]) y := by
  obtain ⟨T, z, e5, hT, e6, e7⟩ := hy
  subst e5
  subst e6
  have e8 := e7 xs h1
  rw [h2] at e8
  cases e8
  obtain ⟨k1, k2⟩ := tup_rs (xs := [.int (i : Nat), x]) rs hT
  exact ⟨k1, k2, .tup (.inl ⟨upd_same, rs.nm hT⟩) ((RVs.cons (.int _) (.cons r .nil)).mono (List.prefix_refl _) k1.to)⟩
theorem it_enm {k : Nat} {a : Addr} (hk : as[k]? = some a) : ItOk K hs H as (.enm k) (Ite K.K a) := by
  intro hs' bs H1 S1 i p kp rs hd
  have hk1 := pre_get p hk
  have main : ∀ r, (seqAt S1 k).map (fun vs => vs[i]?.map fun v => Val.tup [.int (i : Nat), v]) = some r → ∃ vs xs, SqL K.K H1 a xs ∧ RVs K hs' H1 bs vs xs ∧ r = vs[i]?.map fun v => Val.tup [.int (i : Nat), v] := fun r e => by
    rw [Option.map_eq_some_iff] at e
    obtain ⟨vs, e1, e2⟩ := e
    obtain ⟨xs, h1, t⟩ := rs.seq e1 hk1
    exact ⟨vs, xs, SqL.of h1, t, e2.symm⟩
  refine ⟨fun e => ?_, fun v e => ?_⟩
  · obtain ⟨vs, xs, h1, t, e2⟩ := main _ e
    have e2 := e2.symm
    rw [Option.map_eq_none_iff] at e2
    exact ⟨xs, h1, List.getElem?_eq_none_iff.mp (t.none_of e2)⟩
  · obtain ⟨vs, xs, h1, t, e2⟩ := main _ e
    have e2 := e2.symm
    rw [Option.map_eq_some_iff] at e2
    obtain ⟨w, e3, e4⟩ := e2
    subst e4
    obtain ⟨x, h2, r⟩ := t.get e3
    exact ⟨⟨xs, x, h1, h2⟩, fun y H' hy => enum_yld rs h1 h2 r hy⟩
theorem enumL_at (vs : List Val) (i : Nat) : (enumL vs)[i]? = vs[i]?.map fun v => Val.tup [.int (i : Nat), v] := by
  unfold enumL
  rw [List.getElem?_mapIdx]
theorem it_enmF {vs : List Val} {xs : List V} {a : Addr} (h : FzAt hs H as a xs) (t : RVs K hs H as vs xs) : ItOk K hs H as (.its (enumL vs)) (Ite K.K a) := by
  intro hs' bs H1 S1 i p kp rs hd
  have hn : Nm hs' as a := hd.nm h.1 h.2
  have h1 : SqL K.K H1 a xs := SqL.of (kp.get h.1 hn)
  have t1 := (t.re hd).mono p kp
  refine ⟨fun e => ?_, fun v e => ?_⟩
  · have e : (enumL vs)[i]? = none := Option.some.inj e
    rw [enumL_at, Option.map_eq_none_iff] at e
    exact ⟨xs, h1, List.getElem?_eq_none_iff.mp (t1.none_of e)⟩
  · have e : (enumL vs)[i]? = some v := Option.some.inj e
    rw [enumL_at, Option.map_eq_some_iff] at e
    obtain ⟨w, e3, e4⟩ := e
    subst e4
    obtain ⟨x, h2, r⟩ := t1.get e3
    exact ⟨⟨xs, x, h1, h2⟩, fun y H' hy => enum_yld rs h1 h2 r hy⟩
theorem pair_new {hs' bs : List Addr} {H1 : Hp} {S1 : Store} {v w : Val} {x y : V} {T : Addr} (rs : RS K hs' H1 bs S1) (hT : H1 T = none) (r1 : RV K hs' H1 bs v x) (r2 : RV K hs' H1 bs w y) :
    Ks bs bs H1 (upd H1 T (.tup [x, y])) ∧ (∀ a ∈ bs, upd H1 T (.tup [x, y]) a = H1 a) ∧ RV K hs' (upd H1 T (.tup [x, y])) bs (.tup [v, w]) (.ref T) := by
  obtain ⟨k1, k2⟩ := tup_rs (xs := [x, y]) rs hT
  exact ⟨k1, k2, .tup (.inl ⟨upd_same, rs.nm hT⟩) ((RVs.cons r1 (.cons r2 .nil)).mono (List.prefix_refl _) k1.to)⟩
theorem it_zip {k l : Nat} {a b : Addr} (hk : as[k]? = some a) (hl : as[l]? = some b) : ItOk K hs H as (.zip k l) (Itz K.K a b) := by
  intro hs' bs H1 S1 i p kp rs hd
  have hk1 := pre_get p hk
  have hl1 := pre_get p hl
  have main : ∀ r, (Mv.Itr.zip k l).at_ S1 i = some r → ∃ vs xs ws ys, SqL K.K H1 a xs ∧ RVs K hs' H1 bs vs xs ∧ SqL K.K H1 b ys ∧ RVs K hs' H1 bs ws ys ∧ r = (match vs[i]?, ws[i]? with
      | some x, some y => some (.tup [x, y])
      | _, _ => none) := fun r e => by
    have e : (match seqAt S1 k, seqAt S1 l with
      | some xs, some ys => some (match xs[i]?, ys[i]? with
        | some x, some y => some (Val.tup [x, y])
        | _, _ => none)
      | _, _ => none) = some r := e
    split at e
    · rename_i vs ws e1 e2
      obtain ⟨xs, h1, t1⟩ := rs.seq e1 hk1
      obtain ⟨ys, h2, t2⟩ := rs.seq e2 hl1
      exact ⟨vs, xs, ws, ys, SqL.of h1, t1, SqL.of h2, t2, (Option.some.inj e).symm⟩
    · cases e
  refine ⟨fun e => ?_, fun v e => ?_⟩
  · obtain ⟨vs, xs, ws, ys, h1, t1, h2, t2, e2⟩ := main _ e
    refine ⟨xs, ys, h1, h2, ?_⟩
    split at e2
    · cases e2
    · rename_i hno
      cases q : vs[i]? with
      | none => exact .inl (List.getElem?_eq_none_iff.mp (t1.none_of q))
      | some x =>
        cases q2 : ws[i]? with
        | none => exact .inr (List.getElem?_eq_none_iff.mp (t2.none_of q2))
        | some y => exact (hno x y q q2).elim
  · obtain ⟨vs, xs, ws, ys, h1, t1, h2, t2, e2⟩ := main _ e
    split at e2
    · rename_i x y q1 q2
      cases e2
      obtain ⟨x', g1, r1⟩ := t1.get q1
      obtain ⟨y', g2, r2⟩ := t2.get q2
      refine ⟨⟨xs, ys, x', y', h1, h2, g1, g2⟩, fun z H' hz => ?_⟩
      obtain ⟨T, z1, z2, e5, hT, e6, e7, e8⟩ := hz
      subst e5
      subst e6
      have f1 := e7 xs h1
      have f2 := e8 ys h2
      rw [g1] at f1
      rw [g2] at f2
      cases f1
      cases f2
      exact pair_new rs hT r1 r2
    · cases e2
theorem it_zipF {vs ws : List Val} {xs ys : List V} {a b : Addr} (ha : FzAt hs H as a xs) (ta : RVs K hs H as vs xs) (hb : FzAt hs H as b ys) (tb : RVs K hs H as ws ys) : ItOk K hs H as (.its (List.zipWith (fun x y => .tup [x, y]) vs ws)) (Itz K.K a b) := by
  intro hs' bs H1 S1 i p kp rs hd
  have h1 : SqL K.K H1 a xs := SqL.of (kp.get ha.1 (hd.nm ha.1 ha.2))
  have h2 : SqL K.K H1 b ys := SqL.of (kp.get hb.1 (hd.nm hb.1 hb.2))
  have t1 := (ta.re hd).mono p kp
  have t2 := (tb.re hd).mono p kp
  refine ⟨fun e => ?_, fun v e => ?_⟩
  · have e : (List.zipWith (fun x y => Val.tup [x, y]) vs ws)[i]? = none := Option.some.inj e
    rw [List.getElem?_eq_none_iff, List.length_zipWith] at e
    have l1 := t1.length
    have l2 := t2.length
    exact ⟨xs, ys, h1, h2, by omega⟩
  · have e : (List.zipWith (fun x y => Val.tup [x, y]) vs ws)[i]? = some v := Option.some.inj e
    rw [List.getElem?_zipWith] at e
    split at e
    · rename_i x y q1 q2
      cases e
      obtain ⟨x', g1, r1⟩ := t1.get q1
      obtain ⟨y', g2, r2⟩ := t2.get q2
      refine ⟨⟨xs, ys, x', y', h1, h2, g1, g2⟩, fun z H' hz => ?_⟩
      obtain ⟨T, z1, z2, e5, hT, e6, e7, e8⟩ := hz
      subst e5
      subst e6
      have f1 := e7 xs h1
      have f2 := e8 ys h2
      rw [g1] at f1
      rw [g2] at f2
      cases f1
      cases f2
      exact pair_new rs hT r1 r2
    · cases e
theorem it_zipT {vs ws : List Val} {xs ys : List V} {a b : Addr} (ha : TupAt K hs H as a xs) (ta : RVs K hs H as vs xs) (hb : TupAt K hs H as b ys) (tb : RVs K hs H as ws ys) : ItOk K hs H as (.its (List.zipWith (fun x y => .tup [x, y]) vs ws)) (RZ.ItzT K.K a b) := by
  intro hs' bs H1 S1 i p kp rs hd
  have h1 := (kp.tupAt (tupAt_re hd ha)).sq
  have h2 := (kp.tupAt (tupAt_re hd hb)).sq
  have t1 := (ta.re hd).mono p kp
  have t2 := (tb.re hd).mono p kp
  refine ⟨fun e => ?_, fun v e => ?_⟩
  · have e : (List.zipWith (fun x y => Val.tup [x, y]) vs ws)[i]? = none := Option.some.inj e
    rw [List.getElem?_eq_none_iff, List.length_zipWith] at e
    have l1 := t1.length
    have l2 := t2.length
    exact ⟨xs, ys, h1, h2, by omega⟩
  · have e : (List.zipWith (fun x y => Val.tup [x, y]) vs ws)[i]? = some v := Option.some.inj e
    rw [List.getElem?_zipWith] at e
    split at e
    · rename_i x y q1 q2
      cases e
      obtain ⟨x', g1, r1⟩ := t1.get q1
      obtain ⟨y', g2, r2⟩ := t2.get q2
      refine ⟨⟨xs, ys, x', y', h1, h2, g1, g2⟩, fun z H' hz => ?_⟩
      obtain ⟨T, z1, z2, e5, hT, e6, e7, e8⟩ := hz
      subst e5
      subst e6
      have f1 := e7 xs h1
      have f2 := e8 ys h2
      rw [g1] at f1
      rw [g2] at f2
      cases f1
      cases f2
      exact pair_new rs hT r1 r2
    · cases e
end
section
variable {X : Cx} {W : WS} {g : Cfg} {tg e a b : Expr} {es : List Expr} {c ce cs : C} {p pos tpos : Pos}
theorem _root_.L2.PI.or8 {tg it : Expr} {t t' : TI} (h : PI X tg it t) (h' : PI X tg it t') : PI X tg it (fun σ H R => t σ H R ∨ t' σ H R) := ⟨fun pins s σ H R I hw => by
  rcases hw with hw | hw
  · exact h.run pins s σ H R I hw
  · exact h'.run pins s σ H R I hw⟩
abbrev SI (X : Cx) (W : WS) (g : Cfg) (tg e : Expr) (c : C) : Prop := PI X tg e (tI (pm X) W (evI g c))
def plainI : C → Bool
  | .irng _ => false
  | .irng2 _ _ => false
  | .ienum _ => false
  | .izip _ _ => false
  | _ => true
theorem evI_plain (h : plainI c = true) (r : Rho) (S : Store) : evI g c r S = (evE g c r S).bind fun v S1 => match v with
    | .ref k => match seqAt S1 k with
      | some _ => .ok (.live k) S1
      | none => .no
    | .fz vs => .ok (.its vs) S1
    | .tup vs => .ok (.its vs) S1
    | .tud vs => .ok (.its vs) S1
    | .str x => .ok (.its ((signs x).map fun c => .str (sign c))) S1
    | _ => .no := by
  cases c <;> first | (exact absurd h (by decide)) | (rw [evI] <;> first | rfl | (intros; contradiction))
theorem i_any (hp : plainI c = true) (h : SE X W g e c) : SI X W g tg e c := ((pi_list h).or8 ((pi_tup h).or8 (pi_str h))).imp7 fun σ H R ⟨hs, as, S, r, rs, rr, fin⟩ => by
  rw [evI_plain hp] at fin
  cases ev : evE g c r S with
  | no =>
    rw [ev] at fin
    exact fin.elim
  | ex e1 S1 =>
    refine .inl ⟨hs, as, S, r, rs, rr, ?_⟩
    rw [ev] at fin ⊢
    exact fin
  | ok v S1 =>
    rw [ev] at fin
    simp only [Out.bind_ok] at fin
    cases v with
    | ref k =>
      refine .inl ⟨hs, as, S, r, rs, rr, ?_⟩
      rw [ev]
      intro bs H1 x p kp rs1 rv
      cases rv with
      | ref hk =>
        simp only at fin
        split at fin
        · rename_i e2
          exact ⟨_, rfl, rs1.seqL e2 hk, fin bs H1 _ p kp rs1 (it_live hk)⟩
        · exact fin.elim
    | fz vs =>
      refine .inl ⟨hs, as, S, r, rs, rr, ?_⟩
      rw [ev]
      intro bs H1 x p kp rs1 rv
      cases rv with
      | fz hk t => exact ⟨_, rfl, ⟨_, SqL.of hk.1⟩, fin bs H1 _ p kp rs1 (it_fz hk t)⟩
    | tup vs =>
      refine .inr (.inl ⟨hs, as, S, r, rs, rr, ?_⟩)
      rw [ev]
      intro bs H1 x p kp rs1 rv
      cases rv with
      | tup hk t => exact ⟨_, rfl, ⟨_, hk.sq⟩, fin bs H1 _ p kp rs1 (it_tup hk t)⟩
    | tud vs =>
      refine .inr (.inl ⟨hs, as, S, r, rs, rr, ?_⟩)
      rw [ev]
      intro bs H1 x p kp rs1 rv
      cases rv with
      | tud hk t => exact ⟨_, rfl, ⟨_, TudAt.sq (K := pm X) hk⟩, fin bs H1 _ p kp rs1 (it_tud hk t)⟩
    | str x =>
      refine .inr (.inr ⟨hs, as, S, r, rs, rr, ?_⟩)
      rw [ev]
      intro bs H1 y p kp rs1 rv
      cases rv
      exact ⟨_, rfl, fin bs H1 _ p kp rs1 it_str⟩
    | _ => exact fin.elim
theorem i_rng1 {ca : C} (hg : Gl X "range") (hm : X.mg "range" = none) (hn : notStar a = true) (ha : SE X W g a ca) : SI X W g tg (.Call (.Name "range" p) [a] [] pos) (.irng ca) := (pi_range1 hg hm (pa_cons ha pa_nil (starEach_plain hn)) (starEach_plain hn)).imp7 fun σ H R ⟨hs, as, S, r, rs, rr, fin⟩ => by
  rw [evI] at fin
  refine ⟨hs, as, S, r, rs, rr, fin.bind fun v S1 bs H1 x p kp rs1 rv f1 => ?_⟩
  split at f1
  · cases rv
    split at f1
    · rename_i hb
      exact ⟨_, rfl, hb.1, hb.2, f1 bs H1 _ (List.prefix_refl _) Kp.refl rs1 (it_rng fun i => by rw [Int.zero_add])⟩
    · exact f1.elim
  · exact f1.elim
theorem i_rng2 {ca cb : C} (hg : Gl X "range") (hm : X.mg "range" = none) (hn : notStar a = true) (hn2 : notStar b = true) (ha : SE X W g a ca) (hb : SE X W g b cb) : SI X W g tg (.Call (.Name "range" p) [a, b] [] pos) (.irng2 ca cb) :=
  (pi_range2 hg hm (pa_cons ha (pa_cons hb pa_nil (starEach_plain hn2)) (starEach_plain hn)) (by rw [starEach_plain hn, starEach_plain hn2]; rfl) (by rw [starEach_plain hn2]; rfl)).imp7 fun σ H R ⟨hs, as, S, r, rs, rr, fin⟩ => by
  rw [evI] at fin
  refine ⟨hs, as, S, r, rs, rr, fin.bind fun v S1 bs H1 x p kp rs1 rv f1 => ⟨hs, bs, S1, r, rs1, rr.mono p kp.to, f1.bind fun w S2 ds H2 y p2 kp2 rs2 rw_ f2 => ?_⟩⟩
  split at f2
  · cases rv
    cases rw_
    split at f2
    · rename_i hb
      exact ⟨_, _, rfl, hb, f2 ds H2 _ (List.prefix_refl _) Kp.refl rs2 (it_rng fun i => rfl)⟩
    · exact f2.elim
  · exact f2.elim
theorem i_enum {elts : List Expr} {kk : Nat} {ce : C} (hg : Gl X "enumerate") (hm : X.mg "enumerate" = none) (hn : notStar e = true) (h : SE X W g e ce) : SI X W g (.Tuple elts kk tpos) (.Call (.Name "enumerate" p) [e] [] pos) (.ienum ce) := (pi_enum hg hm (pa_cons h pa_nil (starEach_plain hn)) (starEach_plain hn)).imp7 fun σ H R ⟨hs, as, S, r, rs, rr, fin⟩ => by
  rw [evI] at fin
  refine ⟨hs, as, S, r, rs, rr, fin.bind fun v S1 bs H1 x p kp rs1 rv f1 => ?_⟩
  cases rv with
  | ref hk =>
    simp only at f1
    split at f1
    · rename_i e2
      obtain ⟨xs, hs⟩ := rs1.seqL e2 hk
      exact ⟨_, xs, rfl, hs, f1 bs H1 _ (List.prefix_refl _) Kp.refl rs1 (it_enm hk)⟩
    · exact f1.elim
  | fz hk t => exact ⟨_, _, rfl, SqL.of hk.1, f1 bs H1 _ (List.prefix_refl _) Kp.refl rs1 (it_enmF hk t)⟩
  | _ => exact f1.elim
theorem i_zip {elts : List Expr} {kk : Nat} {ca cb : C} (hg : Gl X "zip") (hm : X.mg "zip" = none) (hn : notStar a = true) (hn2 : notStar b = true) (ha : SE X W g a ca) (hb : SE X W g b cb) : SI X W g (.Tuple elts kk tpos) (.Call (.Name "zip" p) [a, b] [] pos) (.izip ca cb) :=
  (RZ.pi_zipA hg hm (pa_cons ha (pa_cons hb pa_nil (starEach_plain hn2)) (starEach_plain hn)) (starEach_plain hn) (by rw [starEach_plain hn2]; rfl)).imp7 fun σ H R ⟨hs, as, S, r, rs, rr, fin⟩ => by
  rw [evI] at fin
  refine ⟨hs, as, S, r, rs, rr, fin.bind fun v S1 bs H1 x p kp rs1 rv f1 => ⟨hs, bs, S1, r, rs1, rr.mono p kp.to, f1.bind fun w S2 ds H2 y p2 kp2 rs2 rw_ f2 => ?_⟩⟩
  have rv := rv.mono p2 kp2.to
  split at f2
  · cases rv with
    | ref hk =>
      cases rw_ with
      | ref hl =>
        split at f2
        · rename_i e1 e2
          obtain ⟨xs, hx⟩ := rs2.seqL e1 hk
          obtain ⟨ys, hy⟩ := rs2.seqL e2 hl
          exact ⟨_, _, xs, ys, rfl, .inl ⟨hx, hy, f2 ds H2 _ (List.prefix_refl _) Kp.refl rs2 (it_zip hk hl)⟩⟩
        · exact f2.elim
  · cases rv with
    | fz hk t =>
      cases rw_ with
      | fz hl u => exact ⟨_, _, _, _, rfl, .inl ⟨SqL.of hk.1, SqL.of hl.1, f2 ds H2 _ (List.prefix_refl _) Kp.refl rs2 (it_zipF hk t hl u)⟩⟩
  · cases rv with
    | tup hk t =>
      cases rw_ with
      | tup hl u => exact ⟨_, _, _, _, rfl, .inr ⟨hk.sq, hl.sq, f2 ds H2 _ (List.prefix_refl _) Kp.refl rs2 (it_zipT hk t hl u)⟩⟩
  · exact f2.elim
end
end Mv

/-! MvU: targets with a star. -/
namespace Mv
open PySem PySem.Spec PyProof.Rows L2
section
variable {prog : Program} {w : World} {A : Around} {E : Value → Shared → Prop} {s : Shared}
/-- a tuple's items for n targets, the i-th starred: the list of the middle ones is new -/
theorem star_tup_items {l : Addr} {its : List Value} {n i : Nat} {Q : List Value → Shared → Prop} (hl : IsTup s.heap l its.toArray) (hh : A.handled = none) (hi : i < n) (hn : n ≤ its.length + 1) (hz : its.length ≤ sizeLine)
    (h : ∀ (h' : Heap) (tk : Nat), (∀ b o, s.heap.get? b = some o → h'.get? b = some o) → s.heap.get? h'.objs.size = none →
      Q (its.take i ++ [.ref h'.objs.size] ++ (its.drop i).drop (its.length + 1 - n)) { s with heap := h'.push { cls := .type "list", data := .seq ((its.drop i).take (its.length + 1 - n)).toArray }, toks := tk }) :
    wpAny (model prog w) A (unpackItems (.ref l) n (some i)) Q E s := by
  have hl0 := hl
  obtain ⟨o0, ho0, _⟩ := hl0
  have hlt : l < s.heap.objs.size := Heap.lt_size ho0
  have hne : l ≠ s.heap.objs.size := Nat.ne_of_lt hlt
  unfold unpackItems
  refine wpAny_bind ?_
  unfold notIterableAtAll
  refine wpAny_bind (wpAny_specialOf hl.typeIs slot_tuple_iter.lookup (wpAny_pure ?_))
  simp only [Bool.false_eq_true, if_false]
  refine wpAny_bind (wpAny_holding (iter_tuple hl ?_))
  refine wpAny_bind (wpAny_holding (draw_tuple hne i 0 _ _ ⟨_, Heap.get?_push_size _ rfl, rfl, rfl⟩ (hl.push _) (by rw [List.size_toArray]; omega) fun h₁ hit₁ hs₁ => ?_))
  have hl₁ : IsTup h₁ l its.toArray := (hl.push _).extBut hs₁.extBut hne
  rw [Nat.zero_add] at hit₁
  have q1 := hit₁
  obtain ⟨oi, hoi, _⟩ := q1
  have q2 := hl₁
  obtain ⟨ol, hol, _⟩ := q2
  have et : its.toArray.toList = its := by simp
  rw [List.drop_zero, et]
  have hfl : (its.take i).length = i := by rw [List.length_take]; omega
  rw [if_neg (show ¬ ((its.take i).length < i) by rw [hfl]; omega)]
  refine wpAny_bind (wpAny_holding (PySem.W.kun_collect (s := { s with heap := h₁ }) (T := "tuple_iterator") (.inr (.inr (.inr rfl))) (Walks.tuple (A := A.in1) hh s.heap.objs.size l hne its.toArray) (fun j u st => st.1.typeIs) (k := i) (by rw [List.size_toArray]; omega) ⟨hit₁, hl₁⟩ (Heap.lt_size hoi) (Heap.lt_size hol)
    (fun h₂ tk hk => ?_) (by rw [List.size_toArray]; exact hz)))
  rw [et]
  have hrl : (its.drop i).length = its.length - i := List.length_drop
  have hmid : (its.drop i).length - (n - 1 - i) = its.length + 1 - n := by rw [hrl]; omega
  show wpAny _ _ (if (its.drop i).length < n - 1 - i then _ else _) _ _ _
  rw [if_neg (by rw [hrl]; omega)]
  show wpAny _ _ (newList ((its.drop i).take ((its.drop i).length - (n - 1 - i))) >>= fun d => pure (its.take i ++ [d] ++ (its.drop i).drop ((its.drop i).length - (n - 1 - i)))) _ _ _
  rw [hmid]
  have keep : ∀ b o, s.heap.get? b = some o → h₂.get? b = some o := fun b o e => by
    have hb : b ≠ s.heap.objs.size := Nat.ne_of_lt (Heap.lt_size e)
    exact hk b o hb (hs₁.extBut b o hb (Heap.get?_push_of_some _ e))
  have hnew : s.heap.get? h₂.objs.size = none := by
    cases e : s.heap.get? h₂.objs.size with
    | none => rfl
    | some o => exact absurd (Heap.lt_size (keep _ o e)) (Nat.lt_irrefl _)
  exact wpAny_bind (wpAny_newList (s := { s with heap := h₂, toks := tk }) (wpAny_pure (h h₂ tk keep hnew)) (by rw [List.length_take, hrl]; omega))
/-- .. a list's -/
theorem star_lst_items {l : Addr} {its : List Value} {n i : Nat} {Q : List Value → Shared → Prop} (hl : s.heap.IsList l its.toArray) (hh : A.handled = none) (hi : i < n) (hn : n ≤ its.length + 1) (hz : its.length ≤ sizeLine)
    (h : ∀ (h' : Heap) (tk : Nat), (∀ b o, s.heap.get? b = some o → h'.get? b = some o) → s.heap.get? h'.objs.size = none →
      Q (its.take i ++ [.ref h'.objs.size] ++ (its.drop i).drop (its.length + 1 - n)) { s with heap := h'.push { cls := .type "list", data := .seq ((its.drop i).take (its.length + 1 - n)).toArray }, toks := tk }) :
    wpAny (model prog w) A (unpackItems (.ref l) n (some i)) Q E s := by
  have hl0 := hl
  obtain ⟨o0, ho0, _⟩ := hl0
  have hlt : l < s.heap.objs.size := Heap.lt_size ho0
  have hne : l ≠ s.heap.objs.size := Nat.ne_of_lt hlt
  unfold unpackItems
  refine wpAny_bind ?_
  unfold notIterableAtAll
  refine wpAny_bind (wpAny_specialOf hl.typeIs slot_list_iter.lookup (wpAny_pure ?_))
  simp only [Bool.false_eq_true, if_false]
  refine wpAny_bind (wpAny_holding (wpAny_pyIter_list hl ?_))
  refine wpAny_bind (wpAny_holding (PySem.W.kun_draw hne i 0 _ _ ⟨_, Heap.get?_push_size _ rfl, rfl, rfl⟩ (hl.push _) (by rw [List.size_toArray]; omega) fun h₁ hit₁ hs₁ => ?_))
  have hl₁ : h₁.IsList l its.toArray := (hl.push _).extBut hs₁.extBut hne
  rw [Nat.zero_add] at hit₁
  have q1 := hit₁
  obtain ⟨oi, hoi, _⟩ := q1
  have q2 := hl₁
  obtain ⟨ol, hol, _⟩ := q2
  have et : its.toArray.toList = its := by simp
  rw [List.drop_zero, et]
  have hfl : (its.take i).length = i := by rw [List.length_take]; omega
  rw [if_neg (show ¬ ((its.take i).length < i) by rw [hfl]; omega)]
  refine wpAny_bind (wpAny_holding (PySem.W.kun_collect (s := { s with heap := h₁ }) (T := "list_iterator") (.inr (.inr (.inl rfl))) (Walks.list (A := A.in1) hh s.heap.objs.size l hne its.toArray) (fun j u st => st.1.typeIs) (k := i) (by rw [List.size_toArray]; omega) ⟨hit₁, hl₁⟩ (Heap.lt_size hoi) (Heap.lt_size hol)
    (fun h₂ tk hk => ?_) (by rw [List.size_toArray]; exact hz)))
  rw [et]
  have hrl : (its.drop i).length = its.length - i := List.length_drop
  have hmid : (its.drop i).length - (n - 1 - i) = its.length + 1 - n := by rw [hrl]; omega
  show wpAny _ _ (if (its.drop i).length < n - 1 - i then _ else _) _ _ _
  rw [if_neg (by rw [hrl]; omega)]
  show wpAny _ _ (newList ((its.drop i).take ((its.drop i).length - (n - 1 - i))) >>= fun d => pure (its.take i ++ [d] ++ (its.drop i).drop ((its.drop i).length - (n - 1 - i)))) _ _ _
  rw [hmid]
  have keep : ∀ b o, s.heap.get? b = some o → h₂.get? b = some o := fun b o e => by
    have hb : b ≠ s.heap.objs.size := Nat.ne_of_lt (Heap.lt_size e)
    exact hk b o hb (hs₁.extBut b o hb (Heap.get?_push_of_some _ e))
  have hnew : s.heap.get? h₂.objs.size = none := by
    cases e : s.heap.get? h₂.objs.size with
    | none => rfl
    | some o => exact absurd (Heap.lt_size (keep _ o e)) (Nat.lt_irrefl _)
  exact wpAny_bind (wpAny_newList (s := { s with heap := h₂, toks := tk }) (wpAny_pure (h h₂ tk keep hnew)) (by rw [List.length_take, hrl]; omega))
end
section
variable {X : Cx} {es : List Expr} {k n i : Nat} {pos : Pos} {t : TGs}
/-- (a, *b, c) = a tuple or a list -/
def gStar (K : PySem.W.Frag) (n i : Nat) (t : TGs) : TG := fun v σ H Q => ∃ a xs, v = .ref a ∧ (SqT K H a xs ∨ SqL K H a xs) ∧ n ≤ xs.length + 1 ∧
  ∀ D, H D = none → t (xs.take i ++ [.ref D] ++ (xs.drop i).drop (xs.length + 1 - n)) σ (upd H D (.lst ((xs.drop i).take (xs.length + 1 - n)))) Q
theorem pg_star (hc : X.calm = true) (h : PGs X es t) (hn : (assignEach es X.env).length = n) (hst : (assignEach es X.env).findIdx? (·.1) = some i) (hi : i < n) : PG X (.Tuple es k pos) (gStar X.K n i t) := by
  refine ⟨fun pins s σ H v u Q I r hw => ?_⟩
  obtain ⟨a, xs, e1, hq, hl, hw⟩ := hw
  subst e1
  cases r
  rw [assign_Tuple]
  refine wpAny_bind (wpAny_standAt ?_)
  unfold unpack
  rw [hn, hst]
  have step : ∀ its : List Value, Vals xs its → its.length ≤ sizeLine → (∀ (h' : Heap) (tk : Nat), (∀ b o, s.heap.get? b = some o → h'.get? b = some o) → s.heap.get? h'.objs.size = none →
      wpAny (model X.prog X.w) X.A (assignInOrder ((assignEach es X.env).map (·.2)) (its.take i ++ [.ref h'.objs.size] ++ (its.drop i).drop (its.length + 1 - n))) (fun _ s' => ∃ σ' H', Inv X pins σ' H' s' ∧ Q σ' H') X.xe
        { s with heap := h'.push { cls := .type "list", data := .seq ((its.drop i).take (its.length + 1 - n)).toArray }, toks := tk }) := by
    intro its rv hz h' tk hk hnew
    have hlen : xs.length = its.length := rv.length
    have hN : H h'.objs.size = none := I.hok.gone hnew
    have I1 : Inv X pins σ (upd H h'.objs.size (.lst ((xs.drop i).take (xs.length + 1 - n)))) { s with heap := h'.push { cls := .type "list", data := .seq ((its.drop i).take (its.length + 1 - n)).toArray }, toks := tk } := by
      refine I.laidN (fun b o e => Heap.get?_push_of_some _ (hk b o e)) hnew hN ?_
      have rm := (rv.drop i).take (xs.length + 1 - n)
      rw [hlen] at rm ⊢
      refine ⟨by rw [rm.length, List.length_take, List.length_drop]; omega, _, 0, rm, Heap.get?_push_size _ rfl⟩
    have rv2 : Vals (xs.take i ++ [.ref h'.objs.size] ++ (xs.drop i).drop (xs.length + 1 - n)) (its.take i ++ [.ref h'.objs.size] ++ (its.drop i).drop (its.length + 1 - n)) := by
      rw [hlen]
      exact ((rv.take i).append (.cons (show RelV (V.ref _) (Value.ref _) from rfl) .nil)).append ((rv.drop i).drop _)
    exact h.run pins _ σ _ _ _ Q I1 rv2 (hw _ hN)
  rcases hq with hq | hq
  · obtain ⟨its, rv, ht, hz⟩ := I.tuple hq
    have hlen : xs.length = its.length := rv.length
    refine wpAny_bind (wpAny_holding (star_tup_items ht (I.ok.hd hc) hi (by omega) (by omega) fun h' tk hk hnew => ?_))
    exact step its rv (by omega) h' tk hk hnew
  · obtain ⟨its, rv, ht, hz⟩ := I.list hq
    have hlen : xs.length = its.length := rv.length
    refine wpAny_bind (wpAny_holding (star_lst_items ht.isList (I.ok.hd hc) hi (by omega) (by omega) fun h' tk hk hnew => ?_))
    exact step its rv (by omega) h' tk hk hnew
end
end Mv

/-! MvH: targets, comprehensions, statements. -/
namespace Mv
open PySem PySem.Spec PyProof.Rows L2

def slotsC : C → List Nat
  | .tn i => [i]
  | .tt ts => slotsC ts
  | .tts _ ts => slotsC ts
  | .cons a b => slotsC a ++ slotsC b
  | _ => []
theorem sets_append {σ : L2.St} {us ws : List (Nat × V)} : sets (sets σ us) ws = sets σ (us ++ ws) := by
  unfold sets
  rw [List.foldl_append]
theorem wipe_wipe (σ : L2.St) (vs : List Nat) (us : List (Nat × V)) (h : ∀ u ∈ us, u.1 ∈ vs) : L2.wipe (sets (L2.wipe σ vs) us) vs = L2.wipe σ vs := by
  have hz : ∀ (τ : L2.St) (ws : List Nat) (i : Nat), i < τ.length → (L2.wipe τ ws)[i]? = if i ∈ ws then some none else τ[i]? := by
    intro τ ws
    induction ws with
    | nil =>
      intro i hi
      rfl
    | cons w ws ih =>
      intro i hi
      show ((L2.wipe τ ws).set w none)[i]? = _
      by_cases q : w = i
      · subst q
        rw [List.getElem?_set_self (by rw [L2.wipe_length]; exact hi), if_pos (by simp)]
      · rw [List.getElem?_set_ne q, ih i hi]
        by_cases z : i ∈ ws
        · rw [if_pos z, if_pos (List.mem_cons_of_mem _ z)]
        · rw [if_neg z, if_neg (by rw [List.mem_cons, not_or]; exact ⟨fun e => q e.symm, z⟩)]
  have sl : ∀ (us : List (Nat × V)) (τ : L2.St), (sets τ us).length = τ.length := by
    intro us
    induction us with
    | nil => intro τ; rfl
    | cons u us ih =>
      intro τ
      show (sets (τ.set u.1 (some u.2)) us).length = _
      rw [ih, List.length_set]
  have so : ∀ (us : List (Nat × V)) (τ : L2.St) (i : Nat), (∀ u ∈ us, u.1 ∈ vs) → i ∉ vs → (sets τ us)[i]? = τ[i]? := by
    intro us
    induction us with
    | nil => intro τ i _ _; rfl
    | cons u us ih =>
      intro τ i hu hi
      show (sets (τ.set u.1 (some u.2)) us)[i]? = _
      rw [ih _ i (fun w hw => hu w (List.mem_cons_of_mem _ hw)) hi]
      have hne : u.1 ≠ i := fun e => hi (e ▸ hu u List.mem_cons_self)
      rw [List.getElem?_set_ne hne]
  apply List.ext_getElem?
  intro i
  by_cases hi : i < σ.length
  · rw [hz _ vs i (by rw [sl, L2.wipe_length]; exact hi), hz σ vs i hi]
    by_cases z : i ∈ vs
    · rw [if_pos z, if_pos z]
    · rw [if_neg z, if_neg z, so us _ i h z, hz σ vs i hi, if_neg z]
  · rw [List.getElem?_eq_none (by rw [L2.wipe_length, sl, L2.wipe_length]; omega), List.getElem?_eq_none (by rw [L2.wipe_length]; omega)]
section
variable {X : Cx} {W : WS} {g : Cfg} {e o i : Expr} {es : List Expr} {c ct cs co ci : C} {pos : Pos} {x : Str} {n : Nat}
abbrev SG (X : Cx) (g : Cfg) (e : Expr) (c : C) : Prop := PG X e (tG (pm X) (evG g c) (slotsC c))
abbrev SGs (X : Cx) (g : Cfg) (es : List Expr) (c : C) : Prop := PGs X es (tGs (pm X) (evGs g c) (slotsC c))
theorem g_name (hN : X.N.Nodup) (hi : X.N[n]? = some x) (hx : Loc X.env.scope x) (hf : X.fn x = true ∨ X.env.scope.names.lookup x = some .local) : SG X g (.Name x pos) (.tn n) := (pg_name hN hi hx hf).imp7 fun y σ H Q ⟨hs, as, S, r, v, rs, rr, rv, fin⟩ => by
  rw [evG] at fin
  exact fin as H [(n, y)] (List.prefix_refl _) Kp.refl rs (by simp [slotsC]) (rr.set rv n)
theorem gs_nil : SGs X g [] .nil := pgs_nil.imp7 fun y σ H Q ⟨hs, as, S, r, vs, rs, rr, rv, fin⟩ => by
  cases rv with
  | nil =>
    rw [evGs] at fin
    exact ⟨rfl, fin as H [] (List.prefix_refl _) Kp.refl rs (by simp) rr⟩
  | cons a b =>
    rw [evGs] at fin
    · exact fin.elim
    all_goals (intros; contradiction)
theorem assign_plain {env : Env} (h : notStar e = true) : (assignEach (e :: es) env).map (·.2) = assign e env :: (assignEach es env).map (·.2) := by
  cases e <;> first | rfl | cases h
theorem gs_cons (hn : notStar e = true) (h : SG X g e ct) (t : SGs X g es cs) : SGs X g (e :: es) (.cons ct cs) := (pgs_cons h t (assign_plain hn)).imp7 fun ys σ H Q ⟨hs, as, S, r, vs, rs, rr, rv, fin⟩ => by
  cases rv with
  | nil =>
    rw [evGs] at fin
    · exact fin.elim
    all_goals (intros; contradiction)
  | @cons v y vs ys r1 t1 =>
    rw [evGs] at fin
    refine ⟨y, ys, rfl, hs, as, S, r, v, rs, rr, r1, ?_⟩
    cases ev : evG g ct v r S with
    | no =>
      rw [ev] at fin
      exact fin.elim
    | ex e1 S1 =>
      rw [ev] at fin
      exact fin.elim
    | ok r2 S2 =>
      rw [ev] at fin
      intro bs H2 us p kp rs2 hus rr2
      refine ⟨hs, bs, S2, r2, vs, rs2, rr2, t1.mono p kp.to, ?_⟩
      have fin : FinG (pm X) hs (slotsC (.cons ct cs)) σ as H (evGs g cs vs r2 S2) Q := fin
      cases ew : evGs g cs vs r2 S2 with
      | no =>
        rw [ew] at fin
        exact fin.elim
      | ex e1 S1 =>
        rw [ew] at fin
        exact fin.elim
      | ok r3 S3 =>
        rw [ew] at fin
        intro ds H3 ws p3 kp3 rs3 hws rr3
        rw [sets_append] at rr3 ⊢
        refine fin ds H3 (us ++ ws) (p.trans p3) (kp.trans kp3) rs3 (fun u hu => ?_) rr3
        show u.1 ∈ slotsC ct ++ slotsC cs
        rw [List.mem_append] at hu ⊢
        rcases hu with hu | hu
        · exact .inl (hus u hu)
        · exact .inr (hws u hu)
theorem len_gs : ∀ (ts : C) (vs : List Val) (r : Rho) (S : Store) {r' : Rho} {S' : Store}, evGs g ts vs r S = .ok r' S' → vs.length = lenC ts := by
  intro ts
  have bad : ∀ {c : C} {vs : List Val} {r : Rho} {S : Store} {r' : Rho} {S' : Store}, evGs g c vs r S = .no → evGs g c vs r S = .ok r' S' → False := fun h h' => by rw [h] at h'; cases h'
  induction ts with
  | nil =>
    intro vs r S r' S' h
    cases vs with
    | nil => rfl
    | cons a b => exact (bad (by rw [evGs] <;> (intros; contradiction)) h).elim
  | cons a b _ ih =>
    intro vs r S r' S' h
    cases vs with
    | nil => exact (bad (by rw [evGs] <;> (intros; contradiction)) h).elim
    | cons v vs =>
      rw [evGs] at h
      cases ev : evG g a v r S with
      | no =>
        rw [ev] at h
        cases h
      | ex e1 S1 =>
        rw [ev] at h
        cases h
      | ok r1 S1 =>
        rw [ev] at h
        exact congrArg Nat.succ (ih vs r1 S1 h)
  | _ =>
    intro vs r S r' S' h
    exact (bad (by rw [evGs] <;> (intros; contradiction)) h).elim
theorem assign_len {env : Env} : ∀ es : List Expr, (assignEach es env).length = es.length
  | [] => rfl
  | e :: es => by
    have ih := assign_len (env := env) es
    cases e <;> exact congrArg Nat.succ ih
theorem assign_star {env : Env} : ∀ es : List Expr, es.all notStar = true → (assignEach es env).findIdx? (·.1) = none
  | [], _ => rfl
  | e :: es, h => by
    rw [List.all_cons, Bool.and_eq_true] at h
    have ih := assign_star (env := env) es h.2
    rw [List.findIdx?_eq_none_iff] at ih ⊢
    have e1 : assignEach (e :: es) env = (false, assign e env) :: assignEach es env := by
      have h1 := h.1
      cases e <;> first | rfl | cases h1
    rw [e1]
    intro y hy
    rcases List.mem_cons.mp hy with hy | hy
    · rw [hy]
    · exact ih y hy
theorem g_tup {k : Nat} (hc : X.calm = true) (hn : es.all notStar = true) (hl : es.length = lenC cs) (h : SGs X g es cs) : SG X g (.Tuple es k pos) (.tt cs) := (pg_tup (n := es.length) hc h (assign_len es) (assign_star es hn)).imp7 fun y σ H Q ⟨hs, as, S, r, v, rs, rr, rv, fin⟩ => by
  cases rv with
  | @tup vs a xs hk t =>
    simp only [evG] at fin
    refine ⟨a, xs, rfl, hk.sq, ?_, hs, as, S, r, vs, rs, rr, t, fin⟩
    rw [hl, ← t.length]
    cases z : evGs g cs vs r S with
    | ok r' S' => exact len_gs (g := g) cs vs r S z
    | ex e1 S1 =>
      rw [z] at fin
      exact fin.elim
    | no =>
      rw [z] at fin
      exact fin.elim
  | _ =>
    simp only [evG] at fin
    exact fin.elim
theorem assign_idx {env : Env} : ∀ es : List Expr, (assignEach es env).findIdx? (·.1) = es.findIdx? (fun e => !notStar e)
  | [] => rfl
  | e :: es => by
    have ih := assign_idx (env := env) es
    by_cases h : notStar e = true
    · have e1 : assignEach (e :: es) env = (false, assign e env) :: assignEach es env := by
        cases e <;> first | rfl | cases h
      rw [e1, List.findIdx?_cons, List.findIdx?_cons, ih, h]
      rfl
    · cases e with
      | Starred t p =>
        have e1 : assignEach (.Starred t p :: es) env = (true, assign t env) :: assignEach es env := rfl
        rw [e1, List.findIdx?_cons, List.findIdx?_cons]
        rfl
      | _ => exact absurd rfl h
theorem gs_consS {p : Pos} (hn : notStar e = true) (h : SG X g e ct) (t : SGs X g es cs) : SGs X g (.Starred e p :: es) (.cons ct cs) := ⟨fun pins s σ H vs us Q I r hw => by
  have e1 : (assignEach (.Starred e p :: es) X.env).map (·.2) = (assignEach (e :: es) X.env).map (·.2) := by
    rw [assign_plain hn]
    rfl
  rw [e1]
  exact (gs_cons hn h t).run pins s σ H vs us Q I r hw⟩
theorem g_tts {k i : Nat} (hc : X.calm = true) (hi : es.findIdx? (fun e => !notStar e) = some i) (hlt : i < es.length) (hl : es.length = lenC cs) (h : SGs X g es cs) : SG X g (.Tuple es k pos) (.tts i cs) := (pg_star (n := es.length) hc h (assign_len es) ((assign_idx es).trans hi) hlt).imp7 fun y σ H Q ⟨hs, as, S, r, v, rs, rr, rv, fin⟩ => by
  simp only [evG] at fin
  cases e0 : sqV S v with
  | none =>
    rw [e0] at fin
    exact fin.elim
  | some vs =>
    rw [e0] at fin
    simp only at fin
    obtain ⟨a, xs, rfl, hq, t⟩ := rs.sqV e0 rv
    have l := t.length
    split at fin
    · rename_i hz
      refine ⟨a, xs, rfl, hq, by omega, fun D hD => ?_⟩
      have kp : Kp hs as as H (upd H D (.lst ((xs.drop i).take (xs.length + 1 - es.length)))) := Kp.new hD
      have kp2 : Ks as as H (upd H D (.lst ((xs.drop i).take (xs.length + 1 - es.length)))) := Kp.new hD
      have t2 := t.mono (List.prefix_refl as) kp
      refine ⟨hs, as, S, r, starL (lenC cs) i vs, rs.new hD, rr.mono (List.prefix_refl as) kp, ?_, ?_⟩
      case refine_2 =>
        cases z : evGs g cs (starL (lenC cs) i vs) r S with
        | ok r' S' =>
          rw [z] at fin
          exact fun bs H' us p k => fin bs H' us p (kp2.trans k)
        | ex e1 S1 =>
          rw [z] at fin
          exact fin.elim
        | no =>
          rw [z] at fin
          exact fin.elim
      unfold starL
      rw [l, ← hl]
      exact ((t2.take i).append (.cons (.fz ⟨upd_same, rs.nm hD⟩ ((t2.drop i).take _)) .nil)).append ((t2.drop i).drop _)
    · exact fin.elim
def notSlice : Expr → Bool
  | .Slice _ _ _ _ => false
  | _ => true
theorem g_sub (hq : notSlice i = true) (ho : SE X W g o co) (hi : SE X W g i ci) : SG X g (.Subscript o i pos) (.tsub co ci) := (pg_sub ho hi set_list (by intro v; cases i <;> first | rfl | cases hq)).imp7 fun y σ H Q ⟨hs, as, S, r, v, rs, rr, rv, fin⟩ => by
  simp only [evG] at fin
  refine ⟨hs, as, S, r, rs, rr, ?_⟩
  cases ev : evE g co r S with
  | no =>
    rw [ev] at fin
    exact fin.elim
  | ex e1 S1 =>
    rw [ev] at fin
    exact fin.elim
  | ok w S1 =>
    rw [ev] at fin
    intro bs H1 z p kp rs1 rz
    refine ⟨hs, bs, S1, r, rs1, rr.mono p kp.to, ?_⟩
    simp only [Out.bindN_ok] at fin
    cases ew : evE g ci r S1 with
    | no =>
      rw [ew] at fin
      exact fin.elim
    | ex e1 S1 =>
      rw [ew] at fin
      exact fin.elim
    | ok j S2 =>
      rw [ew] at fin
      intro ds H2 jv p2 kp2 rs2 rj
      have rz2 := rz.mono p2 kp2.to
      cases w with
      | ref k =>
        cases j with
        | int n =>
          simp only [Out.bindN_ok] at fin
          cases rz2 with
          | ref hk =>
            rename_i a
            cases rj
            split at fin
            · rename_i xs e1
              obtain ⟨zs, h1, t⟩ := rs2.lst e1 hk
              split at fin
              · rename_i m e2
                have l := t.length
                rw [l] at e2
                refine ⟨a, zs, n, m, rfl, rfl, h1, e2, ?_⟩
                have k3 : Ks ds ds H2 (upd H2 a (.lst (zs.set m y))) := Kp.write (List.mem_of_getElem? hk)
                have kpa := (kp.trans kp2).trans k3
                exact fin ds _ [] (p.trans p2) kpa (rs2.write hk (RVs.set ((rv.mono p kp.to).mono p2 kp2.to) m t)) (by simp) (rr.mono (p.trans p2) kpa.to)
              · exact fin.elim
            · exact fin.elim
        | _ => exact fin.elim
      | _ => exact fin.elim

/-! ### comprehensions -/
theorem f_nil : PTs X [] (tT (pm X) W (evF g .nil)) := ⟨fun pins s σ H Q I ⟨hs, as, S, r, rs, rr, fin⟩ => by
  rw [evF] at fin
  exact pts_nil.run pins s σ H Q I (fin.ok rs rfl)⟩
theorem f_one {t : Expr} (h : ST X W g t ct) : PTs X [t] (tT (pm X) W (evF g (.cons ct .nil))) := ⟨fun pins s σ H Q I ⟨hs, as, S, r, rs, rr, fin⟩ => by
  rw [evF] at fin
  exact (pts_one h).run pins s σ H Q I ⟨hs, as, S, r, rs, rr, fin⟩⟩
end
section
variable {K : Pm} {hs hs' : List Addr} {H H' : Hp} {as bs ds : List Addr} {S : Store} {D : Addr}
mutual
theorem RV.chg (p : as <+: bs) (f : ∀ a, Nm hs as a → Nm hs' bs a) : ∀ {v : Val} {x : V}, RV K hs H as v x → RV K hs' H bs v x
  | _, _, .non => .non
  | _, _, .bl b => .bl b
  | _, _, .int i => .int i
  | _, _, .str z => .str z
  | _, _, .ty n => .ty n
  | _, _, .ref h => .ref (pre_get p h)
  | _, _, .tup h t => .tup (h.elim (fun h => .inl ⟨h.1, f _ h.2⟩) .inr) (RVs.chg p f t)
  | _, _, .fz h t => .fz ⟨h.1, f _ h.2⟩ (RVs.chg p f t)
  | _, _, .wr h t => .wr (h.elim (fun ⟨o, h, n⟩ => .inl ⟨o, h, f _ n⟩) .inr) (RVs.chg p f t)
  | _, _, .ob ⟨C, dx, h1, h2, h3, h4, n1, n2⟩ t => .ob ⟨C, dx, h1, h2, h3, h4, f _ n1, f _ n2⟩ (RVs.chg p f t)
  | _, _, .tud ⟨o, h1, h2, h3, n⟩ t => .tud ⟨o, h1, h2, h3, f _ n⟩ (RVs.chg p f t)
  | _, _, .dc ⟨l, h⟩ t => .dc ⟨l, h.elim (fun ⟨kvs, h1, n1, h2⟩ => .inl ⟨kvs, h1, f _ n1, h2⟩) .inr⟩ (RVs.chg p f t)
  | _, _, .er ⟨C, dx, h1, h2, h3, h4, n1, n2⟩ t => .er ⟨C, dx, h1, h2, h3, h4, f _ n1, f _ n2⟩ (RVs.chg p f t)
theorem RVs.chg (p : as <+: bs) (f : ∀ a, Nm hs as a → Nm hs' bs a) : ∀ {vs : List Val} {xs : List V}, RVs K hs H as vs xs → RVs K hs' H bs vs xs
  | _, _, .nil => .nil
  | _, _, .cons h t => .cons (RV.chg p f h) (RVs.chg p f t)
end
theorem RO.chg (p : as <+: bs) (f : ∀ a, Nm hs as a → Nm hs' bs a) {a : Addr} : ∀ {o : Ob}, RO K hs H as a o → RO K hs' H bs a o
  | .lst _, ⟨xs, h, t⟩ => ⟨xs, h, t.chg p f⟩
  | .ins _ _ _, ⟨C, dx, xs, h1, h2, h3, h4, n, t⟩ => ⟨C, dx, xs, h1, h2, h3, h4, f _ n, t.chg p f⟩
theorem hd_new (hD : H D = none) : Hd hs (D :: hs) H := fun a o e n m => (List.mem_cons.mp m).elim (fun z => by rw [z, hD] at e; cases e) n
theorem hd_old : Hd (D :: hs) hs H := fun a o e n m => n (List.mem_cons_of_mem _ m)
/-- a new hidden object -/
theorem RS.hide (rs : RS K hs H as S) {o : HO} (hD : H D = none) : RS K (D :: hs) (upd H D o) as S := by
  refine ⟨rs.len, rs.nd, fun k a ob hk ho => ((rs.at_ k a ob hk ho).re (hd_new hD)).mono (List.prefix_refl _) (Kp.new hD) (upd_ne fun z => rs.free hD (by rw [← z]; exact List.mem_of_getElem? hk)), fun h hh => ?_, fun a ha m => ?_⟩
  · rcases List.mem_cons.mp hh with e | hh
    · exact ⟨o, by rw [e]; exact upd_same⟩
    · obtain ⟨u, hu⟩ := rs.hid h hh
      exact ⟨u, by rw [upd_ne (fun z => by rw [z, hD] at hu; cases hu)]; exact hu⟩
  · rcases List.mem_cons.mp m with e | m
    · exact rs.free hD (by rw [← e]; exact ha)
    · exact rs.dis a ha m
/-- the hidden object is written -/
theorem RS.writeH (rs : RS K hs H as S) {o : HO} (hm : D ∈ hs) : RS K hs (upd H D o) as S := by
  refine ⟨rs.len, rs.nd, fun k a ob hk ho => (rs.at_ k a ob hk ho).mono (List.prefix_refl _) (Kp.writeH hm) (upd_ne fun z => rs.dis a (List.mem_of_getElem? hk) (by rw [z]; exact hm)), fun h hh => ?_, rs.dis⟩
  by_cases e : h = D
  · exact ⟨o, by rw [e]; exact upd_same⟩
  · obtain ⟨u, hu⟩ := rs.hid h hh
    exact ⟨u, by rw [upd_ne e]; exact hu⟩
theorem RS.show (rs : RS K (D :: hs) H as S) : RS K hs H as S := rs.re hd_old fun h hh => rs.hid h (List.mem_cons_of_mem _ hh)
/-- the hidden object becomes a cell -/
theorem RS.cell (rs : RS K (D :: hs) H as S) (hn : D ∉ hs) {acc : List Val} {xs : List V} (h : H D = some (.lst xs)) (t : RVs K (D :: hs) H as acc xs) : RS K hs H (as ++ [D]) (S ++ [.lst acc]) ∧ RVs K hs H (as ++ [D]) acc xs := by
  have f : ∀ a, Nm (D :: hs) as a → Nm hs (as ++ [D]) a := fun a n => ⟨fun m => (List.mem_append.mp m).elim n.1 fun z => n.2 (by rw [List.mem_singleton.mp z]; exact List.mem_cons_self), fun m => n.2 (List.mem_cons_of_mem _ m)⟩
  have hD : D ∉ as := fun m => rs.dis D m List.mem_cons_self
  have t2 : RVs K hs H (as ++ [D]) acc xs := t.chg (List.prefix_append _ _) f
  refine ⟨⟨by simp [rs.len], ?_, fun k a u hk hu => ?_, fun q hq => rs.hid q (List.mem_cons_of_mem _ hq), fun a ha => ?_⟩, t2⟩
  · rw [List.nodup_append]
    refine ⟨rs.nd, by simp, fun a ha b hb => ?_⟩
    rw [List.mem_singleton] at hb
    rintro rfl
    exact hD (hb ▸ ha)
  · by_cases hlt : k < as.length
    · rw [List.getElem?_append_left hlt] at hk
      rw [List.getElem?_append_left (by rw [← rs.len]; exact hlt)] at hu
      exact (rs.at_ k a u hk hu).chg (List.prefix_append _ _) f
    · have hle : as.length ≤ k := Nat.le_of_not_lt hlt
      rw [List.getElem?_append_right hle] at hk
      rw [List.getElem?_append_right (by rw [← rs.len]; exact hle)] at hu
      have e0 : k - as.length = 0 := by
        by_cases z : k - as.length = 0
        · exact z
        · obtain ⟨m, hm⟩ := Nat.exists_eq_succ_of_ne_zero z
          rw [hm] at hk
          simp at hk
      have e1 : k - S.length = 0 := by rw [← rs.len]; exact e0
      rw [e0] at hk
      rw [e1] at hu
      cases hk
      cases hu
      exact ⟨xs, h, t2⟩
  · rcases List.mem_append.mp ha with z | z
    · exact fun m => rs.dis a z (List.mem_cons_of_mem _ m)
    · rw [List.mem_singleton.mp z]
      exact hn
theorem Kp.strong (k : Kp [D] as bs H H') (hD : H D = none) : Ks as bs H H' := ⟨fun a o e n _ => k.keep a o e n (by
  rw [List.mem_singleton]
  rintro rfl
  rw [hD] at e
  cases e), k.fresh⟩
theorem Kp.more (k : Kp [D] as bs H H') : Kp (D :: hs) as bs H H' := ⟨fun a o e n m => k.keep a o e n (fun z => m (by rw [List.mem_singleton.mp z]; exact List.mem_cons_self)), k.fresh⟩
def W0 : WS := fun _ _ _ _ => False
/-- a comprehension's reading by the evaluator's loop -/
theorem lc_read {W : WS} {g : Cfg} {m' : Bool} {ct elt it ifs : C} {own : List Nat} (hsl : ∀ i ∈ slotsC ct, i ∈ own) {σ : L2.St} {H : Hp} {Q : VK} (h : tE K W (evE g (.lc m' elt ct it ifs own)) σ H Q) :
    tLc (tI K W (evI g it)) (tG K (evG g ct) (slotsC ct)) (tT K W0 (evF g ifs)) (tE K W0 (evE g elt)) own σ H Q := by
  obtain ⟨hs, as, S, r, rs, rr, fin⟩ := h
  rw [evE] at fin
  refine ⟨hs, as, S, r, rs, rr, fin.bind fun j S1 bs H1 J p kp rs1 hJ f1 => ?_⟩
  intro D hD
  have hDb : D ∉ bs := rs1.free hD
  have hDh : D ∉ hs := rs1.nohid hD
  have k0 : Kp [D] bs bs H1 (upd H1 D (.lst [])) := Kp.new hD
  generalize hb : (fun (v : Val) (S2 : Store) => (evG g ct v (Mv.wipe r own) S2).bind fun r1 S3 => (evF g ifs r1 S3).bind fun b S4 => match b with
    | true => (evE g elt r1 S4).bind fun y S5 => (.ok (some y) S5 : Out (Option Val))
    | false => .ok none S4) = body at f1
  refine ⟨fun i m H' => ∃ acc xs ds S', bs <+: ds ∧ Kp [D] bs ds H1 H' ∧ RS K (D :: hs) H' ds S' ∧ H' D = some (.lst xs) ∧ RVs K (D :: hs) H' ds acc xs ∧ FinV K hs (W σ) bs H1 ((lcN j body m i acc S').bind fun vs S2 => mkL m' S2 vs) Q,
    ⟨TURNS, [], [], bs, S1, List.prefix_refl _, k0, rs1.hide hD, upd_same, .nil, f1⟩, ?_⟩
  rintro i m H' ⟨acc, xs, ds, S', pd, kd, rs3, hxs, tx, f3⟩
  have hDd : D ∉ ds := fun z => rs3.dis D z List.mem_cons_self
  have hJ3 := hJ (D :: hs) ds H' S' i pd kd.more rs3 (hd_new hD)
  cases m with
  | zero => exact f3.elim
  | succ m =>
    unfold lcN at f3
    cases ea : j.at_ S' i with
    | none =>
      rw [ea] at f3
      exact f3.elim
    | some w =>
      rw [ea] at f3
      rw [ea] at hJ3
      cases w with
      | none =>
        refine .inl ⟨hJ3.1 rfl, ?_⟩
        simp only [Out.bind_ok] at f3
        cases m' with
        | false => exact f3 ds H' _ pd (kd.strong hD) rs3.show (.fz ⟨hxs, hDd, hDh⟩ (tx.re hd_old))
        | true =>
          obtain ⟨q1, q2⟩ := rs3.cell hDh hxs tx
          refine f3 (ds ++ [D]) H' _ (pd.trans (List.prefix_append _ _)) ⟨(kd.strong hD).keep, fun q hq => ?_⟩ q1 (.ref ?_)
          · rcases List.mem_append.mp hq with z | z
            · exact kd.fresh q z
            · rw [List.mem_singleton.mp z]
              exact .inr hD
          · rw [← rs3.len, List.getElem?_append_right (Nat.le_refl _), Nat.sub_self]
            rfl
      | some v =>
        obtain ⟨go, hy⟩ := hJ3.2 v rfl
        simp only at f3
        refine .inr ⟨go, fun H'' => ∃ acc xs es S'', bs <+: es ∧ Kp [D] bs es H1 H'' ∧ RS K (D :: hs) H'' es S'' ∧ H'' D = some (.lst xs) ∧ RVs K (D :: hs) H'' es acc xs ∧ FinV K hs (W σ) bs H1 ((lcN j body m (i + 1) acc S'').bind fun vs S2 => mkL m' S2 vs) Q, fun H'' z => ⟨m, Nat.lt_succ_self m, z⟩, fun x H4 yl => ?_⟩
        obtain ⟨k4, s4, rv⟩ := hy x H4 yl
        have rs4 := rs3.mono k4 s4
        -- a step that keeps all but cells
        have stp : ∀ {es : List Addr} {H5 : Hp} {S5 : Store}, ds <+: es → Ks ds es H' H5 → RS K (D :: hs) H5 es S5 → bs <+: es ∧ Kp [D] bs es H1 H5 ∧ H5 D = some (.lst xs) ∧ RVs K (D :: hs) H5 es acc xs := fun {es H5 S5} p5 k5 rs5 =>
          ⟨pd.trans p5, kd.trans k5.to fun q hq z => rs5.dis q hq (by rw [List.mem_singleton.mp z]; exact List.mem_cons_self), k5.get hxs ⟨hDd, by simp⟩, tx.mono p5 k5.to⟩
        have kd4 : Kp [D] bs ds H1 H4 := (stp (List.prefix_refl _) k4 rs4).2.1
        refine ⟨D :: hs, ds, S', Mv.wipe r own, v, rs4, (((rr.mono p kp.to).re (hd_new hD)).mono pd kd4.more).wipe own, rv, ?_⟩
        subst hb
        simp only at f3
        cases eg : evG g ct v (Mv.wipe r own) S' with
        | no =>
          rw [eg] at f3
          exact f3.elim
        | ex e1 S3 =>
          rw [eg] at f3
          exact f3.elim
        | ok r1 S3 =>
          rw [eg] at f3
          simp only [Out.bind_ok] at f3
          intro es H5 us p5 k5 rs5 hus rr5
          refine ⟨wipe_wipe σ own us fun u hu => hsl _ (hus u hu), D :: hs, es, S3, r1, rs5, rr5, ?_⟩
          cases ef : evF g ifs r1 S3 with
          | no =>
            rw [ef] at f3
            exact f3.elim
          | ex e1 S4 =>
            rw [ef] at f3
            exact f3.elim
          | ok b S4 =>
            rw [ef] at f3
            simp only [Out.bind_ok] at f3
            intro es2 H6 b' p6 k6 rs6 eb
            subst eb
            cases b with
            | false =>
              rw [if_neg Bool.false_ne_true]
              simp only [Out.bindN_ok] at f3
              obtain ⟨c1, c2, c3, c4⟩ := stp (p5.trans p6) (k4.trans (k5.trans k6)) rs6
              exact ⟨acc, xs, es2, S4, c1, c2, rs6, c3, c4, f3⟩
            | true =>
              rw [if_pos rfl]
              refine ⟨D :: hs, es2, S4, r1, rs6, rr5.mono p6 k6.to, ?_⟩
              cases ee : evE g elt r1 S4 with
              | no =>
                rw [ee] at f3
                exact f3.elim
              | ex e1 S5 =>
                rw [ee] at f3
                exact f3.elim
              | ok y S5 =>
                rw [ee] at f3
                simp only [Out.bind_ok, Out.bindN_ok] at f3
                intro es3 H7 y' p7 k7 rs7 ry
                obtain ⟨c1, c2, c3, c4⟩ := stp (p5.trans (p6.trans p7)) (k4.trans (k5.trans (k6.trans k7))) rs7
                split at f3
                · rename_i hz
                  have l := c4.length
                  have kw : Kp [D] es3 es3 H7 (upd H7 D (.lst (xs ++ [y']))) := Kp.writeH (List.mem_singleton.mpr rfl)
                  have hm : D ∈ D :: hs := List.mem_cons_self
                  refine ⟨xs, c3, sz_lt (by omega), acc ++ [y], xs ++ [y'], es3, S5, c1, c2.trans kw fun q hq z => rs7.dis q hq (by rw [List.mem_singleton.mp z]; exact List.mem_cons_self), rs7.writeH hm, upd_same, ?_, f3⟩
                  exact (c4.append (.cons ry .nil)).mono (List.prefix_refl _) (Kp.writeH hm)
                · exact f3.elim
end
end Mv

/-! MvI: statements. -/
namespace Mv
open PySem PySem.Spec PyProof.Rows L2
section
variable {K : Pm} {W : WS} {hs : List Addr} {α β : Type} {Rel : Hp → List Addr → α → β → Prop} {as bs : List Addr} {H H' : Hp} {P : β → Hp → Prop} {D : Ends} {r : Rho} {σ : L2.St}
theorem FinS.mono (p : as <+: bs) (k : Ks as bs H H') {o : SO} (h : FinS K W hs as H o D) : FinS K W hs bs H' o D := by
  cases o with
  | nx r S => exact fun cs H2 b p2 k2 rs r => h cs H2 b (p.trans p2) (k.trans k2) rs r
  | rt r S => exact fun cs H2 b p2 k2 rs r => h cs H2 b (p.trans p2) (k.trans k2) rs r
  | bk r S => exact fun cs H2 b p2 k2 rs r => h cs H2 b (p.trans p2) (k.trans k2) rs r
  | ct r S => exact fun cs H2 b p2 k2 rs r => h cs H2 b (p.trans p2) (k.trans k2) rs r
  | ex e r S => exact fun cs H2 b C d p2 k2 rs r => h cs H2 b C d (p.trans p2) (k.trans k2) rs r
  | no => exact h
theorem FinS.lift {o : Out α} {f : α → Store → SO} (rr : RR K hs H as r σ) (h : FinS K W hs as H (lift r o f) D) (k : ∀ a S' bs H' b, as <+: bs → Ks as bs H H' → RS K hs H' bs S' → Rel H' bs a b → FinS K W hs bs H' (f a S') D → P b H') : Fin K hs (W σ) Rel as H o P := by
  cases o with
  | ok a S' => exact fun bs H' b p kp rs r => k a S' bs H' b p kp rs r (FinS.mono p kp h)
  | ex e S' => exact fun bs H' C d p kp rs rx => h bs H' σ C d p kp rs (rr.mono p kp.to) rx
  | no => exact h
theorem FinS.liftG {sl : List Nat} {τ : L2.St} {o : Out Rho} {f : Rho → Store → SO} {P : L2.St → Hp → Prop} (ho : ∀ e S, o ≠ .ex e S) (h : FinS K W hs as H (Mv.lift r o f) D)
    (k : ∀ r S' bs H' us, as <+: bs → Ks as bs H H' → RS K hs H' bs S' → RR K hs H' bs r (sets τ us) → FinS K W hs bs H' (f r S') D → P (sets τ us) H') : FinG K hs sl τ as H o P := by
  cases o with
  | ok a S' => exact fun bs H' us p kp rs _ rr => k a S' bs H' us p kp rs rr (FinS.mono p kp h)
  | ex e S => exact absurd rfl (ho e S)
  | no => exact h
theorem FinS.seq {o : SO} {f : Rho → Store → SO} (h : FinS K W hs as H (o.bind f) D) : FinS K W hs as H o { D with nx := fun σ H' => ∃ hs bs S r, RS K hs H' bs S ∧ RR K hs H' bs r σ ∧ FinS K W hs bs H' (f r S) D } := by
  cases o with
  | nx r S => exact fun cs H2 σ p2 k2 rs rr => ⟨hs, cs, S, r, rs, rr, FinS.mono p2 k2 h⟩
  | rt r S => exact h
  | bk r S => exact h
  | ct r S => exact h
  | ex e r S => exact h
  | no => exact h
end
section
variable {g : Cfg}
/-- a target raises nothing -/
theorem bindN_noex {α β : Type} {o : Out α} {f : α → Store → Out β} (h : ∀ a S e S', f a S ≠ .ex e S') {e : Exc} {S' : Store} : o.bindN f ≠ .ex e S' := by
  cases o with
  | ok a S => exact h a S e S'
  | ex e S => intro z; cases z
  | no => intro z; cases z
theorem evG_noex : ∀ (c : C) (v : Val) (r : Rho) (S : Store) (e : Exc) (S' : Store), evG g c v r S ≠ .ex e S' := by
  have both : ∀ (c : C), (∀ (v : Val) (r : Rho) (S : Store) (e : Exc) (S' : Store), evG g c v r S ≠ .ex e S') ∧ (∀ (vs : List Val) (r : Rho) (S : Store) (e : Exc) (S' : Store), evGs g c vs r S ≠ .ex e S') := by
    intro c
    induction c with
    | nil =>
      constructor
      · intro v r S e S' h
        simp [evG] at h
      · intro vs r S e S' h
        cases vs <;> simp [evGs] at h
    | cons a b ia ib =>
      constructor
      · intro v r S e S' h
        simp [evG] at h
      · intro vs r S e S' h
        cases vs with
        | nil => simp [evGs] at h
        | cons v vs =>
          rw [evGs] at h
          cases ev : evG g a v r S with
          | no =>
            rw [ev] at h
            cases h
          | ex e1 S1 => exact ia.1 _ _ _ _ _ ev
          | ok r1 S1 =>
            rw [ev] at h
            exact ib.2 _ _ _ _ _ h
    | tn i =>
      constructor
      · intro v r S e S' h
        simp [evG] at h
      · intro vs r S e S' h
        simp [evGs] at h
    | tt ts it =>
      constructor
      · intro v r S e S' h
        cases v with
        | tup vs =>
          simp only [evG] at h
          exact it.2 _ _ _ _ _ h
        | _ => simp [evG] at h
      · intro vs r S e S' h
        simp [evGs] at h
    | tts i ts it =>
      constructor
      · intro v r S e S' h
        simp only [evG] at h
        split at h
        · split at h
          · exact it.2 _ _ _ _ _ h
          · cases h
        · cases h
      · intro vs r S e S' h
        simp [evGs] at h
    | tsub o i _ _ =>
      constructor
      · intro v r S e S' h
        rw [evG] at h
        refine bindN_noex (fun x S1 e S' => bindN_noex fun j S2 e S' q => ?_) h
        split at q
        · split at q
          · split at q <;> cases q
          · cases q
        · cases q
      · intro vs r S e S' h
        simp [evGs] at h
    | _ =>
      constructor
      · intro v r S e S' h
        simp [evG] at h
      · intro vs r S e S' h
        simp [evGs] at h
  exact fun c => (both c).1
end
section
variable {X : Cx} {W : WS} {g : Cfg} {e it tg tst : Expr} {es : List Expr} {c ct ce ci cs cb cc : C} {pos pos' : Pos} {x : Str} {n : Nat} {st : Stmt} {sts body orelse : List Stmt}
abbrev SS (X : Cx) (W : WS) (g : Cfg) (s : Stmt) (c : C) : Prop := PS X s (tS (pm X) W (evS g c))
abbrev SSs (X : Cx) (W : WS) (g : Cfg) (s : List Stmt) (c : C) : Prop := PSs X s (tS (pm X) W (evSs g c))
theorem ss_nil : SSs X W g [] .nil := pss_nil.imp7 fun D σ H ⟨hs, as, S, r, rs, rr, fin⟩ => by
  rw [evSs] at fin
  exact fin as H σ (List.prefix_refl _) Kp.refl rs rr
theorem ss_cons (h : SS X W g st c) (t : SSs X W g sts cs) : SSs X W g (st :: sts) (.cons c cs) := (pss_cons h t).imp7 fun D σ H ⟨hs, as, S, r, rs, rr, fin⟩ => by
  rw [evSs] at fin
  exact ⟨hs, as, S, r, rs, rr, fin.seq⟩
theorem st_pass : SS X W g (.Pass pos) .pass := ps_pass.imp7 fun D σ H ⟨hs, as, S, r, rs, rr, fin⟩ => by
  rw [evS] at fin
  exact fin as H σ (List.prefix_refl _) Kp.refl rs rr
theorem st_brk : SS X W g (.Break pos) .brk := ps_break.imp7 fun D σ H ⟨hs, as, S, r, rs, rr, fin⟩ => by
  rw [evS] at fin
  exact fin as H σ (List.prefix_refl _) Kp.refl rs rr
theorem st_cont : SS X W g (.Continue pos) .cont := ps_continue.imp7 fun D σ H ⟨hs, as, S, r, rs, rr, fin⟩ => by
  rw [evS] at fin
  exact fin as H σ (List.prefix_refl _) Kp.refl rs rr
theorem st_retn : SS X W g (.Return none pos) .retn := ps_retN.imp7 fun D σ H ⟨hs, as, S, r, rs, rr, fin⟩ => by
  rw [evS] at fin
  exact fin as H .non (List.prefix_refl _) Kp.refl rs .non
theorem st_ret (h : SE X W g e ce) : SS X W g (.Return (some e) pos) (.ret ce) := (ps_ret h).imp7 fun D σ H ⟨hs, as, S, r, rs, rr, fin⟩ => by
  rw [evS] at fin
  exact ⟨hs, as, S, r, rs, rr, fin.lift rr fun v S1 bs H1 y p kp rs1 rv f1 => f1 bs H1 y (List.prefix_refl _) Kp.refl rs1 rv⟩
theorem st_expr (h : SE X W g e ce) (hq : swapsWith e none pos.line X.env = pure false) : SS X W g (.Expr e pos) (.expr ce) := (ps_expr h hq).imp7 fun D σ H ⟨hs, as, S, r, rs, rr, fin⟩ => by
  rw [evS] at fin
  exact ⟨hs, as, S, r, rs, rr, fin.lift rr (Rel := RV (pm X) hs) fun v S1 bs H1 y p kp rs1 rv f1 => f1 bs H1 σ (List.prefix_refl _) Kp.refl rs1 (rr.mono p kp.to)⟩
/-- a store by a target's reading -/
theorem asg_read {t : TE} {K : Pm} {D : Ends} {σ : L2.St} {H : Hp} (ht : ∀ σ H Q, tE K W (evE g ce) σ H Q → t σ H Q) (h : tS K W (evS g (.asg ct ce)) D σ H) : tAsg t (tG K (evG g ct) (slotsC ct)) D σ H := by
  obtain ⟨hs, as, S, r, rs, rr, fin⟩ := h
  rw [evS] at fin
  refine ht _ _ _ ⟨hs, as, S, r, rs, rr, fin.lift rr fun v S1 bs H1 y p kp rs1 rv f1 => ⟨hs, bs, S1, r, v, rs1, rr.mono p kp.to, rv, f1.liftG (evG_noex _ _ _ _) fun r2 S2 ds H2 us p2 kp2 rs2 rr2 f2 => ?_⟩⟩
  exact f2 ds H2 _ (List.prefix_refl _) Kp.refl rs2 rr2
/-- x = .. by the slot's own rule -/
theorem name_read {t : TE} {K : Pm} {D : Ends} {σ : L2.St} {H : Hp} (ht : ∀ σ H Q, tE K W (evE g ce) σ H Q → t σ H Q) (h : tS K W (evS g (.asg (.tn n) ce)) D σ H) : tAsg t (gName n) D σ H := by
  obtain ⟨hs, as, S, r, rs, rr, fin⟩ := h
  rw [evS] at fin
  refine ht _ _ _ ⟨hs, as, S, r, rs, rr, fin.lift rr fun v S1 bs H1 y p kp rs1 rv f1 => ?_⟩
  simp only [evG, lift_ok] at f1
  exact f1 bs H1 _ (List.prefix_refl _) Kp.refl rs1 ((rr.mono p kp.to).set rv n)
theorem st_set (hN : X.N.Nodup) (hi : X.N[n]? = some x) (hx : Loc X.env.scope x) (hf : X.fn x = true ∨ X.env.scope.names.lookup x = some .local) (h : SE X W g e ce) (hq : swapsWith e (some (.Name x pos')) pos.line X.env = pure false) :
    SS X W g (.Assign [.Name x pos'] e pos) (.asg (.tn n) ce) := (ps_set hN hi hx h hq hf).imp7 fun D σ H z => name_read (fun _ _ _ q => q) z
theorem st_asg (hg : SG X g tg ct) (h : SE X W g e ce) (hn : notStar tg = true) (hq : swapsWithSole [tg] e pos.line X.env = pure false) (hw : swappedStores [tg] e X.env = pure none) : SS X W g (.Assign [tg] e pos) (.asg ct ce) :=
  (ps_asg h hg hq hw (by rw [assign_plain hn]; rfl)).imp7 fun D σ H z => asg_read (fun _ _ _ q => q) z
theorem st_if (hc : ST X W g tst cc) (ha : SSs X W g body cb) (hb : SSs X W g orelse cs) : SS X W g (.If tst body orelse pos) (.iff cc cb cs) := (ps_if hc ha hb).imp7 fun D σ H ⟨hs, as, S, r, rs, rr, fin⟩ => by
  rw [evS] at fin
  refine ⟨hs, as, S, r, rs, rr, fin.lift rr fun v S1 bs H1 y p kp rs1 rv f1 => ?_⟩
  subst rv
  cases v with
  | true =>
    rw [if_pos rfl]
    exact ⟨hs, bs, S1, r, rs1, rr.mono p kp.to, f1⟩
  | false =>
    rw [if_neg Bool.false_ne_true]
    exact ⟨hs, bs, S1, r, rs1, rr.mono p kp.to, f1⟩
theorem st_for (hp : PassesOwn (model X.prog X.w) X.A X.env X.xe) (hc : X.calm = true) (hi : SI X W g tg it ci) (hg : SG X g tg ct) (hb : SSs X W g body cb) (hq : ∀ x, foldedSetIterable it X.env x = pure x) : SS X W g (.For tg it body [] pos) (.forr ct ci cb) := (ps_for hp hc hi hg hb hq).imp7 fun D σ H ⟨hs, as, S, r, rs, rr, fin⟩ => by
  rw [evS] at fin
  refine ⟨hs, as, S, r, rs, rr, fin.lift rr fun j S1 bs H1 J p kp rs1 hJ f1 => ?_⟩
  generalize hb : (fun (v : Val) (r : Rho) (S : Store) => lift r (evG g ct v r S) fun r1 S1 => evSs g cb r1 S1) = body at f1
  refine ⟨fun i m σ' H' => ∃ ds S' r', bs <+: ds ∧ Ks bs ds H1 H' ∧ RS (pm X) hs H' ds S' ∧ RR (pm X) hs H' ds r' σ' ∧ FinS (pm X) W hs ds H' (forN j body m i r' S') D, ⟨TURNS, bs, S1, r, List.prefix_refl _, Kp.refl, rs1, rr.mono p kp.to, f1⟩, ?_⟩
  rintro i m σ' H' ⟨ds, S', r', pd, kd, rs3, rr3, f3⟩
  have hJ3 := hJ hs ds H' S' i pd kd.to rs3 (fun _ _ _ n => n)
  cases m with
  | zero => exact f3.elim
  | succ m =>
    unfold forN at f3
    cases ea : j.at_ S' i with
    | none =>
      rw [ea] at f3
      exact f3.elim
    | some w =>
      rw [ea] at f3
      rw [ea] at hJ3
      cases w with
      | none => exact .inl ⟨hJ3.1 rfl, f3 ds H' σ' (List.prefix_refl _) Kp.refl rs3 rr3⟩
      | some v =>
        obtain ⟨go, hy⟩ := hJ3.2 v rfl
        simp only at f3
        refine .inr ⟨go, fun σ'' H'' => ∃ es S'' r'', bs <+: es ∧ Ks bs es H1 H'' ∧ RS (pm X) hs H'' es S'' ∧ RR (pm X) hs H'' es r'' σ'' ∧ FinS (pm X) W hs es H'' (forN j body m (i + 1) r'' S'') D, fun σ'' H'' z => ⟨m, Nat.lt_succ_self m, z⟩, fun x H4 yl => ?_⟩
        obtain ⟨k4, s4, rv⟩ := hy x H4 yl
        have rs4 := rs3.mono k4 s4
        refine ⟨hs, ds, S', r', v, rs4, rr3.mono (List.prefix_refl _) k4.to, rv, ?_⟩
        have f4 : FinS (pm X) W hs ds H4 (body v r' S') { D with nx := fun σ'' H'' => ∃ es S'' r'', bs <+: es ∧ Ks bs es H1 H'' ∧ RS (pm X) hs H'' es S'' ∧ RR (pm X) hs H'' es r'' σ'' ∧ FinS (pm X) W hs es H'' (forN j body m (i + 1) r'' S'') D, ct := fun σ'' H'' => ∃ es S'' r'', bs <+: es ∧ Ks bs es H1 H'' ∧ RS (pm X) hs H'' es S'' ∧ RR (pm X) hs H'' es r'' σ'' ∧ FinS (pm X) W hs es H'' (forN j body m (i + 1) r'' S'') D, bk := D.nx } := by
          cases eb : body v r' S' with
          | no =>
            rw [eb] at f3
            exact f3.elim
          | nx r2 S2 =>
            rw [eb] at f3
            exact fun cs H5 σ5 p5 k5 rs5 rr5 => ⟨cs, S2, r2, pd.trans p5, kd.trans (k4.trans k5), rs5, rr5, FinS.mono p5 (k4.trans k5) f3⟩
          | ct r2 S2 =>
            rw [eb] at f3
            exact fun cs H5 σ5 p5 k5 rs5 rr5 => ⟨cs, S2, r2, pd.trans p5, kd.trans (k4.trans k5), rs5, rr5, FinS.mono p5 (k4.trans k5) f3⟩
          | bk r2 S2 =>
            rw [eb] at f3
            exact fun cs H5 σ5 p5 k5 rs5 rr5 => f3 cs H5 σ5 p5 (k4.trans k5) rs5 rr5
          | rt r2 S2 =>
            rw [eb] at f3
            exact fun cs H5 σ5 p5 k5 rs5 rr5 => f3 cs H5 σ5 p5 (k4.trans k5) rs5 rr5
          | ex e1 r2 S2 =>
            rw [eb] at f3
            exact fun cs H5 σ5 C d p5 k5 rs5 rr5 rx => f3 cs H5 σ5 C d p5 (k4.trans k5) rs5 rr5 rx
        subst hb
        exact f4.liftG (evG_noex _ _ _ _) fun r2 S2 ds2 H5 us p5 k5 rs5 rr5 f5 => ⟨hs, ds2, S2, r2, rs5, rr5, f5⟩
theorem st_while (hp : PassesOwn (model X.prog X.w) X.A X.env X.xe) (hc : ST X W g tst cc) (hb : SSs X W g body cb) : SS X W g (.While tst body [] pos) (.whl cc cb) := (ps_while hp hc hb).imp7 fun D σ H ⟨hs, as, S, r, rs, rr, fin⟩ => by
  rw [evS] at fin
  refine ⟨fun m σ' H' => ∃ ds S' r', RS (pm X) hs H' ds S' ∧ RR (pm X) hs H' ds r' σ' ∧ FinS (pm X) W hs ds H' (whlN (evT g cc) (evSs g cb) m r' S') D, ⟨TURNS, as, S, r, rs, rr, fin⟩, ?_⟩
  rintro m σ' H' ⟨ds, S', r', rs3, rr3, f3⟩
  cases m with
  | zero => exact f3.elim
  | succ m =>
    unfold whlN at f3
    refine ⟨hs, ds, S', r', rs3, rr3, ?_⟩
    cases et : evT g cc r' S' with
    | no =>
      rw [et] at f3
      exact f3.elim
    | ex e1 S2 =>
      rw [et] at f3
      exact fun bs5 H5 C d p5 k5 rs5 rx => f3 bs5 H5 σ' C d p5 k5 rs5 (rr3.mono p5 k5.to) rx
    | ok b S2 =>
      rw [et] at f3
      intro ds2 H2 b' p2 k2 rs4 eb
      subst eb
      cases b with
      | false =>
        rw [if_neg Bool.false_ne_true]
        exact f3 ds2 H2 σ' p2 k2 rs4 (rr3.mono p2 k2.to)
      | true =>
        rw [if_pos rfl]
        simp only at f3
        refine ⟨fun σ'' H'' => ∃ es S'' r'', RS (pm X) hs H'' es S'' ∧ RR (pm X) hs H'' es r'' σ'' ∧ FinS (pm X) W hs es H'' (whlN (evT g cc) (evSs g cb) m r'' S'') D, fun σ'' H'' z => ⟨m, Nat.lt_succ_self m, z⟩, hs, ds2, S2, r', rs4, rr3.mono p2 k2.to, ?_⟩
        cases eb : evSs g cb r' S2 with
        | no =>
          rw [eb] at f3
          exact f3.elim
        | nx r2 S3 =>
          rw [eb] at f3
          exact fun cs H5 σ5 p5 k5 rs5 rr5 => ⟨cs, S3, r2, rs5, rr5, FinS.mono (p2.trans p5) (k2.trans k5) f3⟩
        | ct r2 S3 =>
          rw [eb] at f3
          exact fun cs H5 σ5 p5 k5 rs5 rr5 => ⟨cs, S3, r2, rs5, rr5, FinS.mono (p2.trans p5) (k2.trans k5) f3⟩
        | bk r2 S3 =>
          rw [eb] at f3
          exact fun cs H5 σ5 p5 k5 rs5 rr5 => f3 cs H5 σ5 (p2.trans p5) (k2.trans k5) rs5 rr5
        | rt r2 S3 =>
          rw [eb] at f3
          exact fun cs H5 σ5 p5 k5 rs5 rr5 => f3 cs H5 σ5 (p2.trans p5) (k2.trans k5) rs5 rr5
        | ex e1 r2 S3 =>
          rw [eb] at f3
          exact fun cs H5 σ5 C d p5 k5 rs5 rr5 rx => f3 cs H5 σ5 C d (p2.trans p5) (k2.trans k5) rs5 rr5 rx
end
/-! ### what is not followed -/
section
variable {X : Cx} {W : WS} {g : Cfg} {e : Expr} {st : Stmt}
theorem s_bad : SE X W g e .bad := ⟨fun pins s σ H Q I ⟨hs, as, S, r, rs, rr, fin⟩ => by
  rw [evE] at fin
  · exact fin.elim
  all_goals (intros; contradiction)⟩
theorem t_bad : ST X W g e .bad := ⟨fun pins s σ H Q I ⟨hs, as, S, r, rs, rr, fin⟩ => by
  have e1 : evE g .bad r S = .no := by
    rw [evE]
    all_goals (intros; contradiction)
  have e2 : evT g .bad r S = .no := by
    rw [evT, e1]
    · rfl
    all_goals (intros; contradiction)
  rw [e2] at fin
  exact fin.elim⟩
theorem st_asgbad {ct : C} : SS X W g st (.asg ct .bad) := ⟨fun pins s σ H Q I ⟨hs, as, S, r, rs, rr, fin⟩ => by
  have e1 : evE g .bad r S = .no := by
    rw [evE]
    all_goals (intros; contradiction)
  rw [evS, e1] at fin
  exact fin.elim⟩
theorem st_bad : SS X W g st .bad := ⟨fun pins s σ H Q I ⟨hs, as, S, r, rs, rr, fin⟩ => by
  rw [evS] at fin
  · exact fin.elim
  all_goals (intros; contradiction)⟩
end
section
variable {X : Cx} {e o : Expr} {es : List Expr} {pos p apos : Pos} {g : Cfg} {W : WS} {ca co ce cs : C} {c f m : Str}
/-- o.f = e -/
theorem st_sat {p' : Pos} (hc : ∀ C, X.mg c = some (.ref C) → Cls X.K C ∧ NoAttr X.K C f) (ho : SE X W g o co) (he : SE X W g e ce) (hsw : swapsWith e (some (.Attribute o f p')) pos.line X.env = pure false) : SS X W g (.Assign [.Attribute o f p'] e pos) (.sat c f co ce) := (ps_fld ho he hsw).imp7 fun D σ H ⟨hs, as, S, r, rs, rr, fin⟩ => by
  rw [evS] at fin
  refine ⟨hs, as, S, r, rs, rr, fin.lift rr fun v S1 bs H1 y p kp rs1 rv f1 => ⟨hs, bs, S1, r, rs1, rr.mono p kp.to, f1.lift (rr.mono p kp.to) fun u S2 ds H2 x p2 kp2 rs2 ru f2 => ?_⟩⟩
  unfold satV at f2
  cases ru with
  | @ref k a hk =>
    simp only at f2
    split at f2
    · rename_i d ks vs e0
      split at f2
      · rename_i hd
        obtain ⟨hd, hl⟩ := hd
        subst hd
        obtain ⟨C, dx, xs, h1, h2, h3, h4, n, t⟩ := rs2.at_ k a _ hk e0
        obtain ⟨c1, c2⟩ := hc C h1
        refine ⟨a, C, dx, _, rfl, h2, c1, c2, by rw [List.length_zip]; omega, ?_⟩
        have rv2 := rv.mono p2 kp2.to
        obtain ⟨zs, z1, z2, z3⟩ := putO_ok (f := f) rv2 t h4
        have kw : Kp hs ds ds H2 (upd H2 a (.ins C dx (putF f y (ks.zip xs)))) := Kp.write (List.mem_of_getElem? hk)
        have kw2 : Ks ds ds H2 (upd H2 a (.ins C dx (putF f y (ks.zip xs)))) := Kp.write (List.mem_of_getElem? hk)
        have hne : dx ≠ a := fun z => by rw [z, h2] at h3; cases h3
        refine f2 ds _ _ (List.prefix_refl _) kw2 (rs2.put hk ⟨C, dx, zs, h1, by rw [upd_same, z1], by rw [upd_ne hne]; exact h3, z2, n, z3.mono (List.prefix_refl _) kw⟩) ?_
        exact ((rr.mono p kp.to).mono p2 kp2.to).mono (List.prefix_refl _) kw
      · exact f2.elim
    · exact f2.elim
  | _ => exact f2.elim
end
end Mv

/-! MvJ: from the text to codes, and that the codes say the text. -/
namespace Mv
open PySem PySem.Spec PyProof.Rows L2

/-- the defs of the text by name (index, number of parameters), their defaults and keyword calls, the module's constants -/
structure GT where
  mu : Pos → Bool
  va : Pos → Nat
  cls : Pos → Option Str
  cst : Pos → Option Str
  csf : Str → Option (Str × Str)
  fa : Str → Str → Bool
  mts : Nat → Str → Str → Option (Nat × Nat)
  mks : Nat → Str → Option (Nat × Nat)
  ex : Nat → Bool
  fns : Nat → Str → Option (Nat × Nat)
  dcs : Nat → Nat → Option (List Val)
  kcs : Nat → Nat → List Str → Option (List Src)
  kvs : Str → Bool
  ers : Str → Option (List Str × List (Str × ASrc)) := fun _ => none
  erc : Str → List Str := fun _ => []
  isc : Str → Option (List (Str × Bool)) := fun _ => none
def slot (N : List Str) (x : Str) : Option Nat := N.findIdx? (fun y => decide (y = x))
def visB (sc : Scope) (x : Str) : Bool := match sc.names.lookup x with
  | some .local => true
  | some .cell => true
  | some .free => true
  | _ => false
def locB (sc : Scope) (x : Str) : Bool := match sc.names.lookup x with
  | some .local => true
  | some .cell => true
  | _ => false
def glB (sc : Scope) (x : Str) : Bool := match sc.names.lookup x with
  | some .globalImplicit => true
  | _ => false
def plainN (x : Str) : Bool := decide (x ≠ "__debug__") && decide (x ≠ "__classdict__") && decide (x ≠ "__name__")
/-- the built-in functions, the built-in types that are called -/
def bltNames : List (Str × String) := [("len", "len"), ("isinstance", "isinstance"), ("all", "all"), ("any", "any"), ("max", "max"), ("min", "min")]
def tyNames : List (Str × String) := [("tuple", "tuple"), ("int", "int")]
def tyVals : List (Str × String) := [("list", "list"), ("tuple", "tuple"), ("int", "int"), ("bool", "bool"), ("str", "str")]
def freeNames : List Str := ["len", "isinstance", "all", "any", "list", "tuple", "int", "bool", "str", "range", "enumerate", "zip", "max", "min", "sorted", "dict"]
def mthNames : List (Str × String) := [("append", "append"), ("clear", "clear"), ("index", "index"), ("join", "join"), ("upper", "upper")]
def gd {α : Type} (b : Bool) (o : Option α) : Option α := match b with
  | true => o
  | false => none
def opBy : Operator → Option Bop
  | .Add => some .add
  | .Sub => some .sub
  | .Mult => some .mul
  | .FloorDiv => some .fdiv
  | .Mod => some .mod
  | .Pow => some .pow
  | _ => none
def copBy : CmpOp → Cop
  | .Eq => .eq | .NotEq => .ne | .Lt => .lt | .LtE => .le | .Gt => .gt | .GtE => .ge | .In => .inn | .NotIn => .nin | .Is => .is | .IsNot => .isn
def notNil : C → Bool
  | .nil => false
  | _ => true
def notSet : Expr → Bool
  | .Set _ _ _ => false
  | _ => true
def compL (f : Expr → Option C) : List Expr → Option C
  | [] => some .nil
  | .Starred e _ :: es => (f e).bind fun c => (compL f es).bind fun cs => some (.cons (.star c) cs)
  | e :: es => (f e).bind fun c => (compL f es).bind fun cs => gd (noStarC c) (some (.cons c cs))
def compK (f : Expr → Option C) : List Keyword → Option C
  | [] => some .nil
  | ⟨_, e, _⟩ :: es => (f e).bind fun c => (compK f es).bind fun cs => gd (noStarC c) (some (.cons c cs))
def compB (op : C → C → C) (f : Expr → Option C) : List Expr → Option C
  | [] => none
  | [a] => f a
  | a :: b :: es => (f a).bind fun c => (compB op f (b :: es)).bind fun cs => some (op c cs)
def compO (f : Expr → Option C) : Option Expr → Option C
  | none => some .nil
  | some e => (f e).bind fun c => gd (notNil c) (some c)
def isTupE : Expr → Bool
  | .Tuple _ _ _ => true
  | _ => false
/-- what is walked -/
def compI (f : Expr → Option C) (sc : Scope) (tg it : Expr) : Option C := match it with
  | .Call (.Name x _) [a] [] _ =>
    if x = "range" then gd (glB sc "range" && notStar a) ((f a).bind fun c => some (.irng c))
    else if x = "enumerate" then gd (glB sc "enumerate" && notStar a && isTupE tg) ((f a).bind fun c => some (.ienum c))
    else (f it).bind fun c => gd (plainI c) (some c)
  | .Call (.Name x _) [a, b] [] _ =>
    if x = "range" then gd (glB sc "range" && notStar a && notStar b) ((f a).bind fun c => (f b).bind fun d => some (.irng2 c d))
    else if x = "zip" then gd (glB sc "zip" && notStar a && notStar b && isTupE tg) ((f a).bind fun c => (f b).bind fun d => some (.izip c d))
    else (f it).bind fun c => gd (plainI c) (some c)
  | _ => gd (notSet it) ((f it).bind fun c => gd (plainI c) (some c))
def compGs (f : Expr → Option C) : List Expr → Option C
  | [] => some .nil
  | e :: es => (f e).bind fun c => (compGs f es).bind fun cs => gd (notStar e) (some (.cons c cs))
/-- targets of which some are starred -/
def compGS (f : Expr → Option C) : List Expr → Option C
  | [] => some .nil
  | .Starred e _ :: es => (f e).bind fun c => (compGS f es).bind fun cs => gd (notStar e) (some (.cons c cs))
  | e :: es => (f e).bind fun c => (compGS f es).bind fun cs => some (.cons c cs)
/-- a target; f: expressions; T: the names that may be stored here -/
def compG (f : Expr → Option C) (N : List Str) (sc : Scope) (T : Str → Bool) : Nat → Expr → Option C
  | 0, _ => none
  | n + 1, e => match e with
    | .Name x _ => gd (locB sc x && T x) ((slot N x).bind fun i => some (.tn i))
    | .Tuple es _ _ => match es.all notStar with
      | true => (compGs (compG f N sc T n) es).bind fun cs => gd (decide (es.length = lenC cs)) (some (.tt cs))
      | false => (compGS (compG f N sc T n) es).bind fun cs => (es.findIdx? fun e => !notStar e).bind fun i => gd (decide (es.length = lenC cs) && decide (i < es.length)) (some (.tts i cs))
    | .Subscript o i _ => gd (notSlice i) ((f o).bind fun c => (f i).bind fun d => some (.tsub c d))
    | _ => none
def compF (f : Expr → Option C) : List Expr → Option C
  | [] => some .nil
  | [t] => (f t).bind fun c => some (.cons c .nil)
  | _ => none
def ownOf (N : List Str) (scp : Scope) : List (Str × Nat) := scp.names.filterMap fun y => match y.2 with
  | .local => (slot N y.1).map fun i => (y.1, i)
  | .cell => (slot N y.1).map fun i => (y.1, i)
  | _ => none
def blkT (scp : Scope) (x : Str) : Bool := locB scp x
def kwNames (kws : List Keyword) : List Str := kws.filterMap (·.arg)
def starsOk : List Expr → Bool
  | [] => true
  | [.Starred _ _] => true
  | e :: _ => notStar e
/-- a call by name -/
def compN (f : Expr → Option C) (G : GT) (k : Nat) (x : Str) (args : List Expr) (kws : List Keyword) : Option C := match kws with
    | [] => match G.fns k x with
      | some (i, m) => (compL f args).bind fun cs => if G.ex i = true then gd (starsOk args) (some (.call i cs)) else gd (args.all notStar) ((G.dcs i args.length).bind fun ds => some (.calld i cs ds))
      | none => match args with
        | [] => none
        | _ => gd (args.all notStar) (match bltNames.lookup x with
          | some b => (compL f args).bind fun cs => some (.blt b cs)
          | none => (tyNames.lookup x).bind fun b => (compL f args).bind fun cs => some (.blt b cs))
    | _ => gd (args.all notStar) ((G.fns k x).bind fun q => (G.kcs q.1 args.length (kwNames kws)).bind fun src => (compL f args).bind fun cs => (compK f kws).bind fun cw => some (.callk q.1 cs src cw))
/-- list(e), sorted(e), sorted(e, reverse=True) -/
def compZ (f : Expr → Option C) (m : Bool) (x : Str) (args : List Expr) (kws : List Keyword) : Option C := match args with
  | [e] => gd (notStar e) (match kws with
    | [] => if x = "list" then (f e).bind fun c => gd (noStarC c) (some (.lof m c)) else if x = "sorted" then (f e).bind fun c => some (.srt m false c) else if x = "dict" then (f e).bind fun c => some (.dct c) else if x = "tuple" ∧ m = true then (f e).bind fun c => some (.tof c) else none
    | [⟨some r, .Constant (.bool true) _ _, _⟩] => if x = "sorted" ∧ r = "reverse" then (f e).bind fun c => some (.srt m true c) else none
    | _ => none)
  | _ => none
/-- a class is called -/
def compM (f : Expr → Option C) (G : GT) (k : Nat) (x : Str) (q : Nat × Nat) (args : List Expr) (kws : List Keyword) : Option C := match args with
  | [] => none
  | _ => gd (args.all notStar) (match kws with
    | [] => gd (G.ex q.1) ((compL f args).bind fun cs => some (.mkc x q.1 cs))
    | _ => (G.kcs q.1 (args.length + 1) (kwNames kws)).bind fun src => (compL f args).bind fun cs => (compK f kws).bind fun cw => some (.mkk x q.1 cs src cw))
/-- an exception class is called -/
def compX (f : Expr → Option C) (x : Str) (q : List Str × List (Str × ASrc)) (args : List Expr) (kws : List Keyword) : Option C := match kws with
  | [] => gd (args.all notStar && decide (args.length = q.1.length)) ((compL f args).bind fun cs => some (.mke x q.1 q.2 cs))
  | [⟨some k, _, _⟩] => gd (decide (q.1 = [k]) && args.isEmpty) ((compK f kws).bind fun cs => some (.mke x q.1 q.2 cs))
  | _ => none
/-- isinstance(e, c), e an exception -/
def isIs (G : GT) (sc : Scope) (x : Str) (args : List Expr) (kws : List Keyword) : Option (Expr × List (Str × Bool)) := match args, kws with
  | [e, .Name cx _], [] => gd (decide (x = "isinstance") && glB sc cx && plainN cx && notStar e) ((G.isc cx).bind fun t => some (e, t))
  | _, _ => none
def compC (f : Expr → Option C) (G : GT) (sc : Scope) (pos : Pos) (x : Str) (args : List Expr) (kws : List Keyword) : Option C :=
  gd (glB sc x && plainN x && kws.all (fun k => k.arg.isSome)) (if x = "list" ∨ x = "sorted" ∨ x = "dict" ∨ (x = "tuple" ∧ G.mu pos = true) then compZ f (G.mu pos) x args kws else match G.mks (G.va pos) x with
    | some q => compM f G (G.va pos) x q args kws
    | none => match G.ers x with
      | some q => compX f x q args kws
      | none => match isIs G sc x args kws with
        | some q => (f q.1).bind fun c => some (.isc c q.2)
        | none => compN f G (G.va pos) x args kws)
/-- a constant of a class -/
def compCst (G : GT) (sc : Scope) (o : Expr) (f key : Str) : Option C := match o with
  | .Name c _ => gd (decide (G.csf key = some (c, f)) && glB sc c && plainN c) (some (.kval key))
  | _ => none
/-- what is not followed -/
def orBad (o : Option C) : Option C := some (o.getD .bad)
/-- e[::-1] -/
def isRev : Expr → Bool
  | .Slice none none (some (.UnaryOp .USub (.Constant (.int i) _ _) _)) _ => decide (i = 1)
  | _ => false
def compCmp (f : Expr → Option C) (a : Expr) (ops : List CmpOp) (bs : List Expr) : Option C := match ops, bs with
  | [op], [b] => gd (!behindInMarks op b) ((f a).bind fun c => (f b).bind fun d => some (.cmp (copBy op) c d))
  | [op, op'], [b, b'] => gd (!lastMarks [op, op'] [b, b']) ((f a).bind fun c => (f b).bind fun d => (f b').bind fun h => some (.chain (copBy op) (copBy op') c d h))
  | _, _ => none
/-- m: a list's sum is a cell -/
def compBin (m : Bool) (o : Bop) (c d : C) : Option C := match m with
  | false => some (.bin o c d)
  | true => match o with
    | .add => some (.cat c d)
    | _ => none
/-- o.get(a, b) of a dict -/
def compGet (f : Expr → Option C) (o : Expr) (args : List Expr) : Option C := match args with
  | [a, b] => (f o).bind fun c => (f a).bind fun d => (f b).bind fun h => some (.dget c d h)
  | _ => none
def compE (G : GT) (N : List Str) : Nat → Scope → (Str → Bool) → Expr → Option C
  | 0, _, _, _ => none
  | n + 1, sc, T, e => orBad (match e with
    | .Name x _ => gd (plainN x) (if visB sc x then (slot N x).bind fun i => some (.var i) else gd (glB sc x) (if G.kvs x then some (.kval x) else (tyVals.lookup x).bind fun t => some (.kty t)))
    | .Constant k _ _ => match k with
      | .none => some .knon
      | .bool b => some (.kbl b)
      | .int i => some (.kint i)
      | .str x => some (.kstr x)
      | _ => none
    | .Tuple es _ _ => (compL (compE G N n sc T) es).bind fun cs => some (.tup cs)
    | .List es p => (compL (compE G N n sc T) es).bind fun cs => some (.lst (G.mu p) cs)
    | .BinOp a op b p => (opBy op).bind fun o => (compE G N n sc T a).bind fun c => (compE G N n sc T b).bind fun d => compBin (G.mu p) o c d
    | .UnaryOp op a _ => match op with
      | .USub => (compE G N n sc T a).bind fun c => some (.neg c)
      | .Not => (compE G N n sc T a).bind fun c => some (.not_ c)
      | _ => none
    | .BoolOp op es _ => match op with
      | .And => compB .and_ (compE G N n sc T) es
      | .Or => compB .or_ (compE G N n sc T) es
    | .IfExp t a b _ => (compE G N n sc T t).bind fun c => (compE G N n sc T a).bind fun d => (compE G N n sc T b).bind fun h => some (.ife c d h)
    | .Compare a ops bs _ => compCmp (compE G N n sc T) a ops bs
    | .Subscript a s p => match s with
      | .Slice lo hi st _ => match st with
        | none => (compE G N n sc T a).bind fun c => (compO (compE G N n sc T) lo).bind fun l => (compO (compE G N n sc T) hi).bind fun h => some (.sl (G.mu p) c l h)
        | some _ => gd (isRev s) ((compE G N n sc T a).bind fun c => some (.rev (G.mu p) c))
      | _ => (compE G N n sc T a).bind fun c => (compE G N n sc T s).bind fun d => some (.idx c d)
    | .Call f args kws p => match f with
      | .Name x _ => compC (compE G N n sc T) G sc p x args kws
      | .Attribute o m ap => match kws with
        | [] => match G.cls p with
          | some c => gd (superOk o && lineOk0 ap p && args.all notStar && decide (args.length < 30)) ((G.mts (G.va p) c m).bind fun q => gd (G.ex q.1) ((compE G N n sc T o).bind fun co => (compL (compE G N n sc T) args).bind fun cs => some (.mc c m q.1 co cs)))
          | none => gd (superOk o && lineOk ap p && args.all notStar && decide (args.length < 30)) (if m = "get" then compGet (compE G N n sc T) o args else (mthNames.lookup m).bind fun w => (compE G N n sc T o).bind fun c => (compL (compE G N n sc T) args).bind fun cs => some (.mth w c cs))
        | _ => none
      | _ => none
    | .Attribute o f p => match G.cst p with
      | some key => compCst G sc o f key
      | none => match G.cls p with
        | some c => gd (G.fa c f && superOk o) ((compE G N n sc T o).bind fun co => some (.fld c f co))
        | none => match G.erc f with
          | [] => none
          | c :: cl => gd (superOk o) ((compE G N n sc T o).bind fun co => some (.erf f (c :: cl) co))
    | .ListComp elt gens scp p => match gens with
      | [⟨tg, it, ifs, z⟩] => gd (decide (z = 0) && blkC N sc scp (ownOf N scp) && notSet it && decide (sc.kind = .function)) ((compI (compE G N n sc T) sc tg it).bind fun ci =>
          (compG (compE G N n (relS scp sc) (blkT scp)) N (relS scp sc) (blkT scp) n tg).bind fun ct =>
          (compF (compE G N n (relS scp sc) (blkT scp)) ifs).bind fun cf => (compE G N n (relS scp sc) (blkT scp) elt).bind fun ce =>
          gd ((slotsC ct).all fun i => (ownOf N scp).any fun p => decide (p.2 = i)) (some (.lc (G.mu p) ce ct ci cf ((ownOf N scp).map (·.2)))))
      | _ => none
    | _ => none)

/-! ### what the context says of the text -/
structure FnHave (G : GT) (g : Cfg) (n : Nat) (P : Program) (w : World) (K : Pm) (base : Heap) (x : Str) (f m : Nat) : Prop where
  ex : ∃ (fa : Addr), K.mg x = some (.ref fa) ∧ PySem.W.keepIn K.K (.ref fa) = true ∧
    (G.ex f = true → FnR P w K.K K.mg base (L2.CX P w) n fa (spR K (g.R f))) ∧
    (∀ k ds, G.dcs f k = some ds → ∃ dvs, (∀ hs H as, RVs K hs H as ds dvs) ∧ FnR P w K.K K.mg base (L2.CX P w) n fa (fun vs H Q E => spF K m (g.R f) (vs ++ dvs) H Q E)) ∧
    (∀ k ks src, G.kcs f k ks = some src → ∃ (fd : FuncData) (ps : List Str) (gg : List Value → List Value → List Value) (gV : List V → List V → List V), FnOk P w K.K K.mg base (L2.CX P w) n fa fd ps (spF K m (g.R f)) ∧ KBn K.K fd ps k ks gg gV ∧ KwRel K k ks src gV)
  ar : G.ex f = false ∨ (∃ k ks src, G.kcs f k ks = some src) → ∀ ws S, ws.length ≠ m → g.R f ws S = .no
/-- a method of a class -/
structure MetHave (G : GT) (g : Cfg) (n : Nat) (P : Program) (w : World) (K : Pm) (base : Heap) (c m : Str) (f : Nat) : Prop where
  ex : ∃ (C fa : Addr), K.mg c = some (.ref C) ∧ Cls K.K C ∧ Meth K.K C m fa ∧ (G.ex f = true → FnR P w K.K K.mg base (L2.CX P w) n fa (spR K (g.R f)))
/-- a class and its __init__ -/
structure MakHave (G : GT) (g : Cfg) (n : Nat) (P : Program) (w : World) (K : Pm) (base : Heap) (c : Str) (f m : Nat) : Prop where
  ex : ∃ (C fI : Addr), K.mg c = some (.ref C) ∧ Mk K.K C fI ∧ (G.ex f = true → FnR P w K.K K.mg base (L2.CX P w) n fI (spR K (g.R f))) ∧
    (∀ k ks src, G.kcs f k ks = some src → ∃ (fd : FuncData) (ps : List Str) (gg : List Value → List Value → List Value) (gV : List V → List V → List V), FnOk P w K.K K.mg base (L2.CX P w) n fI fd ps (spF K m (g.R f)) ∧ KBn K.K fd ps k ks gg gV ∧ KwRel K k ks src gV)
  ar : (∃ k ks src, G.kcs f k ks = some src) → ∀ ws S, ws.length ≠ m → g.R f ws S = .no
structure OK (G : GT) (g : Cfg) (n : Nat) (X : Cx) (W : WS) (N : List Str) (sc : Scope) (T : Str → Bool) : Prop where
  hN : X.N = N
  hsc : X.env.scope = sc
  nd : N.Nodup
  calm : X.calm = true
  room1 : Room (n + 1) X.A
  pown : PassesOwn (model X.prog X.w) X.A X.env X.xe
  tk : Takes X W.x
  free : ∀ x ∈ freeNames, X.mg x = none
  kv : ∀ x, G.kvs x = true → ∃ v y u, g.kv x = some v ∧ X.mg x = some u ∧ RelV y u ∧ ∀ hs H as, RV (pm X) hs H as v y
  fn : ∀ k x f m, G.fns k x = some (f, m) → FnHave G g n X.prog X.w (pm X) X.base x f m
  mt : ∀ k c m f a, G.mts k c m = some (f, a) → MetHave G g n X.prog X.w (pm X) X.base c m f
  mak : ∀ k c f a, G.mks k c = some (f, a) → MakHave G g n X.prog X.w (pm X) X.base c f a
  at_ : ∀ c f, G.fa c f = true → ∀ C, X.mg c = some (.ref C) → Cls X.K C ∧ NoAttr X.K C f
  cs : ∀ key c f, G.csf key = some (c, f) → ∃ (C : Addr) (mc : Value) (v : Val) (y : V) (u : Value), X.mg c = some (.ref C) ∧ ClX.CRead X.K C mc ∧ ClX.CVal X.K C mc f y u ∧ g.kv key = some v ∧ ∀ hs H as, RV (pm X) hs H as v y
  er : ∀ x ps l, G.ers x = some (ps, l) → ∃ C, X.mg x = some (.ref C) ∧ ErC X.prog X.K X.mg C ps l
  erf : ∀ f, ∀ c ∈ G.erc f, ∃ C, X.mg c = some (.ref C) ∧ XfC X.K C ∧ PySem.W.findIn X.K (.ref C) f = some none
  isc : ∀ x t, G.isc x = some t → ∃ (y : V) (u : Value), (X.mg x = some u ∨ (X.mg x = none ∧ bootBuiltins x = some u)) ∧ RelV y u ∧ (∀ z, RelV y z → z = u) ∧ ∀ c b, t.lookup c = some b → ∃ C, X.mg c = some (.ref C) ∧ ExcC X.K C ∧ PySem.W.kitOne X.K (.ref C) u = some b
  tg : ∀ x, T x = true → locB sc x = true → X.fn x = true ∨ X.env.scope.names.lookup x = some .local
theorem OK.room {G : GT} {g : Cfg} {n : Nat} {X : Cx} {W : WS} {N : List Str} {sc : Scope} {T : Str → Bool} (ok : OK G g n X W N sc T) : Room n X.A := ok.room1.mono (Nat.le_succ _)
theorem OK.pa {G : GT} {g : Cfg} {n : Nat} {X : Cx} {W : WS} {N : List Str} {sc : Scope} {T : Str → Bool} (ok : OK G g n X W N sc T) : ∀ σ, PassesAt (L2.CX X.prog X.w) X σ (W σ) := fun σ => passAt ok.tk σ
section
variable {G : GT} {g : Cfg} {lv : Nat} {X : Cx} {W : WS} {N : List Str} {sc : Scope} {T : Str → Bool} {e : Expr} {c : C}
theorem orBad_some {o : Option C} {c : C} (h : orBad o = some c) : o = some c ∨ c = .bad := by
  unfold orBad at h
  cases o with
  | none =>
    cases h
    exact .inr rfl
  | some d =>
    cases h
    exact .inl rfl
theorem gd_some {α : Type} {b : Bool} {o : Option α} {a : α} (h : gd b o = some a) : b = true ∧ o = some a := by
  cases b with
  | true => exact ⟨rfl, h⟩
  | false => cases h
theorem bd {α β : Type} {o : Option α} {f : α → Option β} {b : β} (h : o.bind f = some b) : ∃ a, o = some a ∧ f a = some b := Option.bind_eq_some_iff.mp h
theorem slot_ok {x : Str} {i : Nat} (h : slot N x = some i) : N[i]? = some x := by
  unfold slot at h
  rw [List.findIdx?_eq_some_iff_getElem] at h
  obtain ⟨h1, h2, _⟩ := h
  rw [List.getElem?_eq_getElem h1]
  rw [of_decide_eq_true h2]
theorem vis_ok (ok : OK G g lv X W N sc T) {x : Str} (h : visB sc x = true) : Vis X.env.scope x := by
  rw [ok.hsc]
  unfold visB at h
  unfold Vis
  split at h
  · exact .inl (by assumption)
  · exact .inr (.inl (by assumption))
  · exact .inr (.inr (by assumption))
  · cases h
theorem loc_ok (ok : OK G g lv X W N sc T) {x : Str} (h : locB sc x = true) : L2.Loc X.env.scope x := by
  rw [ok.hsc]
  unfold locB at h
  unfold L2.Loc
  split at h
  · exact .inl (by assumption)
  · exact .inr (by assumption)
  · cases h
theorem gl_ok (ok : OK G g lv X W N sc T) {x : Str} (h : glB sc x = true) : Gl X x := by
  show X.env.scope.names.lookup x = some .globalImplicit
  rw [ok.hsc]
  unfold glB at h
  split at h
  · assumption
  · cases h
theorem plain_n {x : Str} (h : plainN x = true) : (x == ("__debug__" : Str)) = false ∧ (x == ("__classdict__" : Str)) = false ∧ x ≠ "__name__" := by
  unfold plainN at h
  simp only [Bool.and_eq_true, decide_eq_true_eq] at h
  exact ⟨by simpa using h.1.1, by simpa using h.1.2, h.2⟩
theorem OK.units (ok : OK G g lv X W N sc T) : X.A.units + 65 < cLine := by
  have := ok.room.un
  omega
theorem OK.units1 (ok : OK G g lv X W N sc T) : X.A.units + 1 < cLine := by
  have := ok.room.un
  omega
theorem copBy_ok (op : CmpOp) : copOf (copBy op) = op := by cases op <;> rfl
theorem opBy_ok {op : Operator} {o : Bop} (h : opBy op = some o) : opOf o = op := by cases op <;> first | (cases h; rfl) | cases h
/-- what the recursion knows -/
def Good (X : Cx) (W : WS) (g : Cfg) (f : Expr → Option C) : Prop := ∀ e c, f e = some c → SE X W g e c ∧ ST X W g e c
theorem l_ok {f : Expr → Option C} (hf : Good X W g f) : ∀ {es : List Expr} {cs : C}, compL f es = some cs → SA X W g es cs
  | [], cs, h => by
    cases h
    exact a_nil
  | e :: es, cs, h => by
    by_cases hs : notStar e = true
    · have h : ((f e).bind fun c => (compL f es).bind fun cs => gd (noStarC c) (some (.cons c cs))) = some cs := by
        cases e <;> first | exact h | cases hs
      obtain ⟨c, h1, h⟩ := bd h
      obtain ⟨d, h2, h⟩ := bd h
      obtain ⟨h3, h⟩ := gd_some h
      cases h
      exact a_cons hs h3 (hf e c h1).1 (l_ok hf h2)
    · cases e with
      | Starred a p =>
        have h : ((f a).bind fun c => (compL f es).bind fun cs => some (.cons (.star c) cs)) = some cs := h
        obtain ⟨c, h1, h⟩ := bd h
        obtain ⟨d, h2, h⟩ := bd h
        cases h
        exact a_star (hf a c h1).1 (l_ok hf h2)
      | _ => exact absurd rfl hs
theorem k_ok {f : Expr → Option C} (hf : Good X W g f) : ∀ {es : List Keyword} {cs : C}, compK f es = some cs → PK X es (tA (pm X) W (evEs g cs))
  | [], cs, h => by
    cases h
    exact k_nil
  | ⟨nm, e, p⟩ :: es, cs, h => by
    have h : ((f e).bind fun c => (compK f es).bind fun cs => gd (noStarC c) (some (.cons c cs))) = some cs := h
    obtain ⟨c, h1, h⟩ := bd h
    obtain ⟨d, h2, h⟩ := bd h
    obtain ⟨h3, h⟩ := gd_some h
    cases h
    exact k_cons h3 (hf e c h1).1 (k_ok hf h2)
theorem l_len {f : Expr → Option C} : ∀ {es : List Expr} {cs : C}, compL f es = some cs → es.all notStar = true → ∀ r S vs S', evEs g cs r S = .ok vs S' → vs.length = es.length
  | [], cs, h, _, r, S, vs, S', he => by
    cases h
    rw [evEs] at he
    cases he
    rfl
  | e :: es, cs, h, hn, r, S, vs, S', he => by
    rw [List.all_cons, Bool.and_eq_true] at hn
    have h : ((f e).bind fun c => (compL f es).bind fun cs => gd (noStarC c) (some (.cons c cs))) = some cs := by
      have hs := hn.1
      cases e <;> first | exact h | cases hs
    obtain ⟨c, h1, h⟩ := bd h
    obtain ⟨d, h2, h⟩ := bd h
    obtain ⟨h3, h⟩ := gd_some h
    cases h
    rw [evEs] at he
    · cases ea : evE g c r S with
      | no =>
        rw [ea] at he
        cases he
      | ex e1 S1 =>
        rw [ea] at he
        cases he
      | ok v S1 =>
        rw [ea] at he
        simp only [Out.bind_ok] at he
        cases eb : evEs g d r S1 with
        | no =>
          rw [eb] at he
          cases he
        | ex e1 S2 =>
          rw [eb] at he
          cases he
        | ok ws S2 =>
          rw [eb] at he
          cases he
          exact congrArg Nat.succ (l_len h2 hn.2 _ _ _ _ eb)
    · rintro e rfl
      cases h3
theorem k_len {f : Expr → Option C} : ∀ {es : List Keyword} {cs : C}, compK f es = some cs → ∀ r S vs S', evEs g cs r S = .ok vs S' → vs.length = es.length
  | [], cs, h, r, S, vs, S', he => by
    cases h
    rw [evEs] at he
    cases he
    rfl
  | ⟨nm, e, p⟩ :: es, cs, h, r, S, vs, S', he => by
    have h : ((f e).bind fun c => (compK f es).bind fun cs => gd (noStarC c) (some (.cons c cs))) = some cs := h
    obtain ⟨c, h1, h⟩ := bd h
    obtain ⟨d, h2, h⟩ := bd h
    obtain ⟨h3, h⟩ := gd_some h
    cases h
    rw [evEs] at he
    · cases ea : evE g c r S with
      | no =>
        rw [ea] at he
        cases he
      | ex e1 S1 =>
        rw [ea] at he
        cases he
      | ok v S1 =>
        rw [ea] at he
        simp only [Out.bind_ok] at he
        cases eb : evEs g d r S1 with
        | no =>
          rw [eb] at he
          cases he
        | ex e1 S2 =>
          rw [eb] at he
          cases he
        | ok ws S2 =>
          rw [eb] at he
          cases he
          exact congrArg Nat.succ (k_len h2 _ _ _ _ eb)
    · rintro e rfl
      cases h3
/-- the test of an expression that is no not, and, or, if, comparison -/
def plainT : C → Bool
  | .not_ _ => false
  | .and_ _ _ => false
  | .or_ _ _ => false
  | .ife _ _ _ => false
  | _ => true
theorem evT_plain {c : C} (h : plainT c = true) (r : Rho) (S : Store) : evT g c r S = (evE g c r S).bind fun v S1 => ofO S1 (tru S1 v) := by
  cases c <;> first | (exact absurd h (by decide)) | (rw [evT] <;> first | rfl | (intros; contradiction))
theorem t_plain (hc : plainT c = true) (h : SE X W g e c) (he : ∀ whole, isTrue e X.env whole = (do let v ← whole; standAt e.pos; holding [v] (truthy v))) : ST X W g e c := (pt_truth h he).imp7 fun σ H Q ⟨hs, as, S, r, rs, rr, fin⟩ => by
  rw [evT_plain hc] at fin
  refine ⟨hs, as, S, r, rs, rr, fin.bind fun v S1 bs H1 x p kp rs1 rv f1 => ?_⟩
  cases et : tru S1 v with
  | none =>
    rw [et] at f1
    exact f1.elim
  | some b =>
    rw [et] at f1
    exact ⟨b, tru_ok' rs1 et rv, f1.ok rs1 rfl⟩
end
end Mv

/-! MvK: the codes of expressions say the text. -/
namespace Mv
open PySem PySem.Spec PyProof.Rows L2
section
variable {G : GT} {g : Cfg} {lv : Nat} {X : Cx} {W : WS} {N : List Str} {sc : Scope} {T : Str → Bool} {e a b c d : Expr} {ca cb cc : C} {pos : Pos} {op op' : Cop}
theorem b_and {f : Expr → Option C} (hf : Good X W g f) : ∀ {es : List Expr} {c : C}, compB .and_ f es = some c → SE X W g (.BoolOp .And es pos) c ∧ PW X (.BoolOp .And es pos) (tT (pm X) W (evT g c))
  | [], c, h => by cases h
  | [a], c, h => ⟨pe_one (hf a c h).1, pw_and1 (hf a c h).2⟩
  | a :: b :: es, c, h => by
    have h : ((f a).bind fun c => (compB .and_ f (b :: es)).bind fun cs => some (.and_ c cs)) = some c := h
    obtain ⟨c1, h1, h⟩ := bd h
    obtain ⟨c2, h2, h⟩ := bd h
    cases h
    obtain ⟨i1, i2⟩ := b_and hf h2
    exact ⟨s_and (hf a c1 h1).1 i1, w_and (hf a c1 h1).2 i2⟩
theorem b_or {f : Expr → Option C} (hf : Good X W g f) : ∀ {es : List Expr} {c : C}, compB .or_ f es = some c → SE X W g (.BoolOp .Or es pos) c ∧ PW X (.BoolOp .Or es pos) (tT (pm X) W (evT g c))
  | [], c, h => by cases h
  | [a], c, h => ⟨pe_one (hf a c h).1, pw_or1 (hf a c h).2⟩
  | a :: b :: es, c, h => by
    have h : ((f a).bind fun c => (compB .or_ f (b :: es)).bind fun cs => some (.or_ c cs)) = some c := h
    obtain ⟨c1, h1, h⟩ := bd h
    obtain ⟨c2, h2, h⟩ := bd h
    cases h
    obtain ⟨i1, i2⟩ := b_or hf h2
    exact ⟨s_or (hf a c1 h1).1 i1, w_or (hf a c1 h1).2 i2⟩
theorem chain_read {K : Pm} {σ : L2.St} {H : Hp} {Q : VK} (h : tE K W (evE g (.chain op op' ca cb cc)) σ H Q) : tChain (rCmp K op) (rCmp K op') (tE K W (evE g ca)) (tE K W (evE g cb)) (tE K W (evE g cc)) σ H Q := by
  obtain ⟨hs, as, S, r, rs, rr, fin⟩ := h
  rw [evE] at fin
  refine ⟨hs, as, S, r, rs, rr, fin.bind fun v S1 bs H1 x p kp rs1 rv f1 => ⟨hs, bs, S1, r, rs1, rr.mono p kp.to, f1.bind fun w S2 ds H2 y p2 kp2 rs2 rw_ f2 => ?_⟩⟩
  cases e : cmpV S2 op v w with
  | none =>
    rw [e] at f2
    exact f2.elim
  | some k =>
    rw [e] at f2
    refine ⟨hs, ds, S2, v, w, k, rs2, rv.mono p2 kp2.to, rw_, e, k, rfl, ?_⟩
    cases k with
    | true =>
      rw [if_pos rfl]
      exact ⟨hs, ds, S2, r, rs2, (rr.mono p kp.to).mono p2 kp2.to, f2.bind fun u S3 es H3 z p3 kp3 rs3 ru f3 => cmp_fin rs3 (rw_.mono p3 kp3.to) ru f3⟩
    | false =>
      rw [if_neg Bool.false_ne_true]
      exact f2.ok rs2 (.bl false)
theorem chain_bl {r : Rho} {S S1 : Store} {v : Val} (h : evE g (.chain op op' ca cb cc) r S = .ok v S1) : ∃ k, v = .bl k := by
  rw [evE] at h
  cases e1 : evE g ca r S with
  | no =>
    rw [e1] at h
    cases h
  | ex y1 y2 =>
    rw [e1] at h
    cases h
  | ok x S2 =>
    rw [e1] at h
    simp only [Out.bind_ok] at h
    cases e2 : evE g cb r S2 with
    | no =>
      rw [e2] at h
      cases h
    | ex y1 y2 =>
      rw [e2] at h
      cases h
    | ok y S3 =>
      rw [e2] at h
      simp only [Out.bind_ok] at h
      split at h
      · cases e3 : evE g cc r S3 with
        | no =>
          rw [e3] at h
          cases h
        | ex y1 y2 =>
          rw [e3] at h
          cases h
        | ok z S4 =>
          rw [e3] at h
          simp only [Out.bind_ok] at h
          cases e4 : cmpV S4 op' y z with
          | none =>
            rw [e4] at h
            cases h
          | some k =>
            rw [e4] at h
            cases h
            exact ⟨k, rfl⟩
      · cases h
        exact ⟨_, rfl⟩
      · cases h
theorem s_chain (hu : X.A.units + 65 < cLine) (ha : SE X W g a ca) (hb : SE X W g b cb) (hc : SE X W g c cc) (hm : lastMarks [copOf op, copOf op'] [b, c] = false) : SE X W g (.Compare a [copOf op, copOf op'] [b, c] pos) (.chain op op' ca cb cc) :=
  (pe_chain (op_cmp hu) (op_cmp hu) ha hb hc hm).imp7 fun σ H Q z => chain_read z
theorem t_chain (hu : X.A.units + 65 < cLine) (ha : SE X W g a ca) (hb : SE X W g b cb) (hc : SE X W g c cc) (hm : lastMarks [copOf op, copOf op'] [b, c] = false) : ST X W g (.Compare a [copOf op, copOf op'] [b, c] pos) (.chain op op' ca cb cc) :=
  (pt_chain (op_cmp hu) (op_cmp hu) ha hb hc hm).imp7 fun σ H Q ⟨hs, as, S, r, rs, rr, fin⟩ => by
    rw [evT_plain rfl] at fin
    cases ev : evE g (.chain op op' ca cb cc) r S with
    | no =>
      rw [ev] at fin
      exact fin.elim
    | ex y1 y2 =>
      rw [ev] at fin
      refine chain_read ⟨hs, as, S, r, rs, rr, ?_⟩
      rw [ev]
      exact fin
    | ok v S1 =>
      obtain ⟨k, rfl⟩ := chain_bl ev
      rw [ev] at fin
      refine chain_read ⟨hs, as, S, r, rs, rr, ?_⟩
      rw [ev]
      intro bs H1 x p kp rs1 rv
      cases rv
      exact ⟨k, rfl, (Fin.mono p kp.to fin).ok rs1 rfl⟩

/-! ### calls -/
theorem boot_by {x : Str} {b : String} (h : bltNames.lookup x = some b) : x ∈ freeNames ∧ bootBuiltins x = some (.builtin b) ∧ (b = "len" ∨ b = "isinstance" ∨ b = "all" ∨ b = "any" ∨ b = "max" ∨ b = "min") := by
  have hm := PySem.mem_of_lookup h
  simp only [bltNames, List.mem_cons, Prod.mk.injEq, List.not_mem_nil, or_false] at hm
  rcases hm with ⟨rfl, rfl⟩ | ⟨rfl, rfl⟩ | ⟨rfl, rfl⟩ | ⟨rfl, rfl⟩ | ⟨rfl, rfl⟩ | ⟨rfl, rfl⟩
  · exact ⟨by simp [freeNames], boot_len, by simp⟩
  · exact ⟨by simp [freeNames], boot_isinstance, by simp⟩
  · exact ⟨by simp [freeNames], boot_all, by simp⟩
  · exact ⟨by simp [freeNames], boot_any, by simp⟩
  · exact ⟨by simp [freeNames], boot_max, by simp⟩
  · exact ⟨by simp [freeNames], boot_min, by simp⟩
theorem ty_by {x : Str} {b : String} (h : tyNames.lookup x = some b) : x ∈ freeNames ∧ bootBuiltins x = some (.type b) ∧ (b = "tuple" ∨ b = "int") := by
  have hm := PySem.mem_of_lookup h
  simp only [tyNames, List.mem_cons, Prod.mk.injEq, List.not_mem_nil, or_false] at hm
  rcases hm with ⟨rfl, rfl⟩ | ⟨rfl, rfl⟩
  · exact ⟨by simp [freeNames], PyProof.Rows.boot_tuple, by simp⟩
  · exact ⟨by simp [freeNames], PyProof.Rows.boot_int, by simp⟩
theorem tyv_by {x : Str} {b : String} (h : tyVals.lookup x = some b) : x ∈ freeNames ∧ bootBuiltins x = some (.type b) := by
  have hm := PySem.mem_of_lookup h
  simp only [tyVals, List.mem_cons, Prod.mk.injEq, List.not_mem_nil, or_false] at hm
  rcases hm with ⟨rfl, rfl⟩ | ⟨rfl, rfl⟩ | ⟨rfl, rfl⟩ | ⟨rfl, rfl⟩ | ⟨rfl, rfl⟩
  · exact ⟨by simp [freeNames], PyProof.Rows.boot_list⟩
  · exact ⟨by simp [freeNames], PyProof.Rows.boot_tuple⟩
  · exact ⟨by simp [freeNames], PyProof.Rows.boot_int⟩
  · exact ⟨by simp [freeNames], PyProof.Rows.boot_bool⟩
  · exact ⟨by simp [freeNames], PyProof.Rows.boot_str⟩
theorem kwn_len {kws : List Keyword} (h : kws.all (fun k => k.arg.isSome) = true) : (kwNames kws).length = kws.length := by
  induction kws with
  | nil => rfl
  | cons q l ih =>
    rw [List.all_cons, Bool.and_eq_true] at h
    obtain ⟨n, v, p⟩ := q
    cases n with
    | none => cases h.1
    | some n => exact congrArg Nat.succ (ih h.2)
theorem compN_ok (ok : OK G g lv X W N sc T) {f : Expr → Option C} (hf : Good X W g f) {k : Nat} {x : Str} {p : Pos} {args : List Expr} {kws : List Keyword} {c : C} (gl : Gl X x) (hpn : plainN x = true) (hkw : kws.all (fun k => k.arg.isSome) = true)
    (h : compN f G k x args kws = some c) : SE X W g (.Call (.Name x p) args kws pos) c ∧ plainT c = true := by
  obtain ⟨n1, n2, n3⟩ := plain_n hpn
  unfold compN at h
  split at h
  · split at h
    · rename_i i m e1
      obtain ⟨cs, h1, h⟩ := bd h
      obtain ⟨⟨fa, hmg, hkp, hex, hdc, hkc⟩, har⟩ := ok.fn k x i m e1
      split at h
      · rename_i hc
        obtain ⟨hst, h⟩ := gd_some h
        cases h
        refine ⟨?_, rfl⟩
        cases args with
        | nil =>
          cases h1
          exact s_call0 (hex hc) ok.room gl hmg hkp ok.pa n1
        | cons a as =>
          by_cases hs : notStar a = true
          · exact s_call (hex hc) ok.room gl hmg hkp ok.pa hs (l_ok hf h1) n1
          · cases a with
            | Starred e ps =>
              cases as with
              | nil =>
                have h1 : ((f e).bind fun c => (compL f []).bind fun cs => some (.cons (.star c) cs)) = some cs := h1
                obtain ⟨c1, q1, h1⟩ := bd h1
                obtain ⟨c2, q2, h1⟩ := bd h1
                cases q2
                cases h1
                exact s_call1 (hex hc) ok.room gl hmg hkp ok.pa (hf e c1 q1).1 n1
              | cons _ _ => exact absurd hst hs
            | _ => exact absurd rfl hs
      · rename_i hc
        obtain ⟨hst, h⟩ := gd_some h
        obtain ⟨ds, h2, h⟩ := bd h
        cases h
        obtain ⟨dvs, hr, F⟩ := hdc _ ds h2
        have hc : G.ex i = false := by simpa using hc
        have har := har (.inl hc)
        refine ⟨?_, rfl⟩
        cases args with
        | nil =>
          cases h1
          exact s_calld0 F ok.room gl hmg hkp ok.pa hr har n1
        | cons a as =>
          rw [List.all_cons, Bool.and_eq_true] at hst
          exact s_calld F ok.room gl hmg hkp ok.pa hr hst.1 har (l_ok hf h1) n1
    · split at h
      · cases h
      · rename_i hne
        obtain ⟨hst, h⟩ := gd_some h
        cases args with
        | nil => exact absurd rfl hne
        | cons a as =>
          split at h
          · rename_i b e1
            obtain ⟨cs, h1, h⟩ := bd h
            cases h
            obtain ⟨m1, m2, m3⟩ := boot_by e1
            refine ⟨?_, rfl⟩
            have hcr : CallR X (.builtin b) (rBlt (pm X) b) := by
              rcases m3 with rfl | rfl | rfl | rfl | rfl | rfl
              · exact blt_len
              · exact blt_isinstance
              · exact blt_all ok.calm
              · exact blt_any ok.calm
              · exact blt_max ok.calm
              · exact blt_min ok.calm
            exact s_bltB hcr gl (ok.free x m1) m2 hst (l_ok hf h1) n3 n1
          · obtain ⟨b, e1, h⟩ := bd h
            obtain ⟨cs, h1, h⟩ := bd h
            cases h
            obtain ⟨m1, m2, m3⟩ := ty_by e1
            refine ⟨?_, rfl⟩
            have hcr : CallR X (.type b) (rBlt (pm X) b) := by
              rcases m3 with rfl | rfl
              · exact blt_tuple
              · exact blt_int
            exact s_bltT hcr gl (ok.free x m1) m2 hst (l_ok hf h1) n3 n1
  · obtain ⟨hst, h⟩ := gd_some h
    obtain ⟨⟨i, m⟩, e1, h⟩ := bd h
    obtain ⟨src, e2, h⟩ := bd h
    obtain ⟨cs, h1, h⟩ := bd h
    obtain ⟨cw, h2, h⟩ := bd h
    cases h
    obtain ⟨⟨fa, hmg, hkp, hex, hdc, hkc⟩, har⟩ := ok.fn k x i m e1
    obtain ⟨fd, ps, gg, gV, F, hb, hgv⟩ := hkc _ _ src e2
    have har := har (.inr ⟨_, _, _, e2⟩)
    have hlk := kwn_len hkw
    refine ⟨?_, rfl⟩
    cases args with
    | nil =>
      cases h1
      exact s_callk0 F ok.room gl hmg hkp ok.pa hb hgv hkw rfl har (fun r S vs S' he => by rw [hlk]; exact k_len h2 r S vs S' he) (k_ok hf h2) n1
    | cons a as =>
      exact s_callk F ok.room gl hmg hkp ok.pa hb hgv hst hkw rfl har (fun r S vs S' he => l_len h1 hst r S vs S' he) (fun r S vs S' he => by rw [hlk]; exact k_len h2 r S vs S' he) (l_ok hf h1) (k_ok hf h2) n1
theorem compZ_ok (ok : OK G g lv X W N sc T) {f : Expr → Option C} (hf : Good X W g f) {m : Bool} {x : Str} {p : Pos} {args : List Expr} {kws : List Keyword} {c : C} (gl : Gl X x)
    (h : compZ f m x args kws = some c) : SE X W g (.Call (.Name x p) args kws pos) c ∧ plainT c = true := by
  unfold compZ at h
  split at h
  · rename_i e
    have hh := gd_some h
    clear h
    obtain ⟨hn, h⟩ := hh
    split at h
    · split at h
      · rename_i hx
        subst hx
        obtain ⟨c1, h1, h⟩ := bd h
        obtain ⟨h2, h⟩ := gd_some h
        cases h
        exact ⟨s_lof gl (ok.free _ (by simp [freeNames])) hn (hf _ _ h1).1 h2, rfl⟩
      · split at h
        · rename_i hx
          subst hx
          obtain ⟨c1, h1, h⟩ := bd h
          cases h
          exact ⟨s_srt gl (ok.free _ (by simp [freeNames])) hn (hf _ _ h1).1, rfl⟩
        · split at h
          · rename_i hx
            subst hx
            obtain ⟨c1, h1, h⟩ := bd h
            cases h
            exact ⟨s_dct ok.calm gl (ok.free _ (by simp [freeNames])) hn (hf _ _ h1).1, rfl⟩
          · split at h
            · rename_i hx
              obtain ⟨hx, _⟩ := hx
              subst hx
              obtain ⟨c1, h1, h⟩ := bd h
              cases h
              exact ⟨s_tof gl (ok.free _ (by simp [freeNames])) hn (hf _ _ h1).1, rfl⟩
            · cases h
    · split at h
      · rename_i hx
        obtain ⟨hx, hr⟩ := hx
        subst hx hr
        obtain ⟨c1, h1, h⟩ := bd h
        cases h
        exact ⟨s_srtR gl (ok.free _ (by simp [freeNames])) hn (hf _ _ h1).1, rfl⟩
      · cases h
    · cases h
  · cases h
theorem compM_ok (ok : OK G g lv X W N sc T) {f : Expr → Option C} (hf : Good X W g f) {k : Nat} {x : Str} {q : Nat × Nat} {p : Pos} {args : List Expr} {kws : List Keyword} {c : C} (gl : Gl X x) (hpn : plainN x = true) (hkw : kws.all (fun k => k.arg.isSome) = true)
    (hq : G.mks k x = some q) (h : compM f G k x q args kws = some c) : SE X W g (.Call (.Name x p) args kws pos) c ∧ plainT c = true := by
  obtain ⟨n1, n2, n3⟩ := plain_n hpn
  obtain ⟨i, m⟩ := q
  obtain ⟨⟨Ca, fI, hmg, M, hex, hkc⟩, har⟩ := ok.mak k x i m hq
  unfold compM at h
  split at h
  · cases h
  · rename_i hne
    obtain ⟨hst, h⟩ := gd_some h
    cases args with
    | nil => exact absurd rfl hne
    | cons a as =>
      split at h
      · obtain ⟨hc, h⟩ := gd_some h
        obtain ⟨cs, h1, h⟩ := bd h
        cases h
        exact ⟨s_mkc hmg M (hex hc) ok.room1 gl ok.pa hst (l_ok hf h1) n1, rfl⟩
      · obtain ⟨src, e2, h⟩ := bd h
        obtain ⟨cs, h1, h⟩ := bd h
        obtain ⟨cw, h2, h⟩ := bd h
        cases h
        obtain ⟨fd, ps, gg, gV, F, hb, hgv⟩ := hkc _ _ src e2
        have har := har ⟨_, _, _, e2⟩
        have hlk := kwn_len hkw
        exact ⟨s_mkk hmg M F ok.room1 gl ok.pa hb hgv hst hkw rfl har (fun r S vs S' he => l_len h1 hst r S vs S' he) (fun r S vs S' he => by rw [hlk]; exact k_len h2 r S vs S' he) (l_ok hf h1) (k_ok hf h2) n1, rfl⟩
theorem compX_ok (ok : OK G g lv X W N sc T) {f : Expr → Option C} (hf : Good X W g f) {x : Str} {q : List Str × List (Str × ASrc)} {p : Pos} {args : List Expr} {kws : List Keyword} {c : C} (gl : Gl X x) (hpn : plainN x = true)
    (hq : G.ers x = some q) (h : compX f x q args kws = some c) : SE X W g (.Call (.Name x p) args kws pos) c ∧ plainT c = true := by
  obtain ⟨n1, n2, n3⟩ := plain_n hpn
  obtain ⟨ps, l⟩ := q
  obtain ⟨Ca, hc, T⟩ := ok.er x ps l hq
  have hdep : X.A.depth + 1 < recursionLimit := by
    have := ok.room.dp
    omega
  unfold compX at h
  split at h
  · have hh := gd_some h
    clear h
    obtain ⟨h0, h⟩ := hh
    rw [Bool.and_eq_true] at h0
    obtain ⟨hst, hl⟩ := h0
    have hl := of_decide_eq_true hl
    obtain ⟨cs, h1, h⟩ := bd h
    cases h
    cases args with
    | nil =>
      cases h1
      cases ps with
      | cons _ _ => cases hl
      | nil => exact ⟨s_mke0 T hdep gl hc n1, rfl⟩
    | cons a as => exact ⟨s_mke T hdep gl hc hst (l_ok hf h1) n1, rfl⟩
  · rename_i k e kp
    have hh := gd_some h
    clear h
    obtain ⟨h0, h⟩ := hh
    rw [Bool.and_eq_true] at h0
    obtain ⟨hp, hl⟩ := h0
    have hp := of_decide_eq_true hp
    obtain ⟨cs, h1, h⟩ := bd h
    cases h
    cases args with
    | cons _ _ => cases hl
    | nil =>
      dsimp only at hp
      subst hp
      exact ⟨s_mkeK T hdep gl hc (k_ok hf h1) n1, rfl⟩
  · cases h
theorem isIs_ok (ok : OK G g lv X W N sc T) {f : Expr → Option C} (hf : Good X W g f) {x : Str} {q : Expr × List (Str × Bool)} {p : Pos} {args : List Expr} {kws : List Keyword} {c : C} (gl : Gl X x)
    (hq : isIs G sc x args kws = some q) (h : ((f q.1).bind fun c => some (.isc c q.2)) = some c) : SE X W g (.Call (.Name x p) args kws pos) c ∧ plainT c = true := by
  unfold isIs at hq
  split at hq
  · rename_i e cx p2
    have hh := gd_some hq
    clear hq
    obtain ⟨h0, hq⟩ := hh
    simp only [Bool.and_eq_true] at h0
    obtain ⟨⟨⟨hx, hg⟩, hpn⟩, hn⟩ := h0
    have hx := of_decide_eq_true hx
    subst hx
    obtain ⟨t, ht, hq⟩ := bd hq
    cases hq
    obtain ⟨c1, h1, h⟩ := bd h
    cases h
    obtain ⟨n1, n2, n3⟩ := plain_n hpn
    obtain ⟨y, u, hm, ry, hu, hT⟩ := ok.isc cx t ht
    have hy : PE X (.Name cx p2) (tC y) := by
      rcases hm with hm | ⟨hm, hb⟩
      · exact pe_glob (gl_ok ok hg) hm ry n1
      · exact pe_bltn (gl_ok ok hg) hm hb ry n3 n1
    exact ⟨s_isc gl (ok.free _ (by simp [freeNames])) hn (hf _ _ h1).1 hy hu hT, rfl⟩
  · cases hq
theorem call_ok (ok : OK G g lv X W N sc T) {f : Expr → Option C} (hf : Good X W g f) {x : Str} {p : Pos} {args : List Expr} {kws : List Keyword} {c : C} (h : compC f G sc pos x args kws = some c) : SE X W g (.Call (.Name x p) args kws pos) c ∧ plainT c = true := by
  unfold compC at h
  obtain ⟨h0, h⟩ := gd_some h
  simp only [Bool.and_eq_true] at h0
  obtain ⟨⟨hgl, hpn⟩, hkw⟩ := h0
  have gl := gl_ok ok hgl
  split at h
  · exact compZ_ok ok hf gl h
  · split at h
    · rename_i q hq
      exact compM_ok ok hf gl hpn hkw hq h
    · split at h
      · rename_i q hq
        exact compX_ok ok hf gl hpn hq h
      · split at h
        · rename_i q hq
          exact isIs_ok ok hf gl hq h
        · exact compN_ok ok hf gl hpn hkw h
end
end Mv

/-! MvM: the codes of expressions say the text: the whole. -/
namespace Mv
open PySem PySem.Spec PyProof.Rows L2
section
variable {G : GT} {g : Cfg} {lv : Nat} {X : Cx} {W : WS} {N : List Str} {sc : Scope} {T : Str → Bool} {e a b d : Expr} {c ca cb cc : C} {pos : Pos}
theorem mth_by {x : Str} {m : String} (h : mthNames.lookup x = some m) : (x = "append" ∧ m = "append") ∨ (x = "clear" ∧ m = "clear") ∨ (x = "index" ∧ m = "index") ∨ (x = "join" ∧ m = "join") ∨ (x = "upper" ∧ m = "upper") := by
  have hm := PySem.mem_of_lookup h
  simpa only [mthNames, List.mem_cons, Prod.mk.injEq, List.not_mem_nil, or_false] using hm
theorem mok_append : MthOk X "list" "append" "append" := ⟨PySem.F.plainAttrs_list, _, PySem.F.slot_list_append, PySem.F.type_list_append, m_append⟩
theorem mok_clear : MthOk X "list" "clear" "clear" := ⟨PySem.F.plainAttrs_list, _, PySem.F.slot_list_clear, PySem.F.type_list_clear, m_clear⟩
theorem mok_index (hu : X.A.units + 65 < cLine) : MthOk X "list" "index" "index" := ⟨PySem.F.plainAttrs_list, _, PySem.F.slot_list_index, PySem.F.type_list_index, m_index hu⟩
theorem mok_join : MthOk X "str" "join" "join" := ⟨PySem.F.plainAttrs_str, _, PySem.F.slot_str_join, PySem.F.type_str_join, m_join⟩
theorem mok_upper : MthOk X "str" "upper" "upper" := ⟨PySem.F.plainAttrs_str, _, PySem.F.slot_str_upper, PySem.F.type_str_upper, m_upper⟩
theorem has_list {T m : String} (h : mthHas T m = true) (hm : m = "append" ∨ m = "clear" ∨ m = "index") : T = "list" := by
  unfold mthHas at h
  simp only [Bool.or_eq_true, Bool.and_eq_true, beq_iff_eq] at h
  rcases h with ⟨h, _⟩ | ⟨_, h⟩
  · exact h
  · rcases hm with rfl | rfl | rfl <;> rcases h with h | h <;> exact absurd h (by decide)
theorem has_str {T m : String} (h : mthHas T m = true) (hm : m = "join" ∨ m = "upper") : T = "str" := by
  unfold mthHas at h
  simp only [Bool.or_eq_true, Bool.and_eq_true, beq_iff_eq] at h
  rcases h with ⟨_, h⟩ | ⟨h, _⟩
  · rcases hm with rfl | rfl <;> rcases h with (h | h) | h <;> exact absurd h (by decide)
  · exact h
/-- the types that have a method of this name, with its rule -/
theorem mth_rule (hu : X.A.units + 65 < cLine) {x : Str} {m : String} (h : mthNames.lookup x = some m) : (∃ T, mthHas T m = true) ∧ ∀ T, mthHas T m = true → MthOk X T x m := by
  rcases mth_by h with ⟨rfl, rfl⟩ | ⟨rfl, rfl⟩ | ⟨rfl, rfl⟩ | ⟨rfl, rfl⟩ | ⟨rfl, rfl⟩
  · exact ⟨⟨"list", by decide⟩, fun T hT => by rw [has_list hT (by simp)]; exact mok_append⟩
  · exact ⟨⟨"list", by decide⟩, fun T hT => by rw [has_list hT (by simp)]; exact mok_clear⟩
  · exact ⟨⟨"list", by decide⟩, fun T hT => by rw [has_list hT (by simp)]; exact mok_index hu⟩
  · exact ⟨⟨"str", by decide⟩, fun T hT => by rw [has_str hT (by simp)]; exact mok_join⟩
  · exact ⟨⟨"str", by decide⟩, fun T hT => by rw [has_str hT (by simp)]; exact mok_upper⟩
theorem mth_ok (ok : OK G g lv X W N sc T) {f : Expr → Option C} (hf : Good X W g f) {o : Expr} {nm : Str} {ap : Pos} {args : List Expr} {w : String} {co cs : C} (h0 : superOk o = true) (h1 : lineOk ap pos = true) (h2 : args.all notStar = true) (h3 : args.length < 30)
    (hw : mthNames.lookup nm = some w) (ho : f o = some co) (ha : compL f args = some cs) : SE X W g (.Call (.Attribute o nm ap) args [] pos) (.mth w co cs) := by
  obtain ⟨hex, hL⟩ := mth_rule ok.units hw
  refine s_mth hex fun T hT => ?_
  have hm := hL T hT
  cases args with
  | nil =>
    cases ha
    exact s_mthT0 (mthHas_ty hT) hm (hf o co ho).1 h0 h1
  | cons a as => exact s_mthT (mthHas_ty hT) hm (hf o co ho).1 h2 h3 (l_ok hf ha) h0 h1
theorem get_ok (ok : OK G g lv X W N sc T) {f : Expr → Option C} (hf : Good X W g f) {o : Expr} {ap : Pos} {args : List Expr} {c : C} (h0 : superOk o = true) (h1 : lineOk ap pos = true) (h2 : args.all notStar = true) (h : compGet f o args = some c) : SE X W g (.Call (.Attribute o "get" ap) args [] pos) c ∧ plainT c = true := by
  unfold compGet at h
  split at h
  · rename_i a b
    obtain ⟨c1, q1, h⟩ := bd h
    obtain ⟨c2, q2, h⟩ := bd h
    obtain ⟨c3, q3, h⟩ := bd h
    cases h
    rw [List.all_cons, List.all_cons, Bool.and_eq_true, Bool.and_eq_true] at h2
    exact ⟨s_dget ok.units1 h0 h1 h2.1 h2.2.1 (hf _ _ q1).1 (hf _ _ q2).1 (hf _ _ q3).1, rfl⟩
  · cases h
theorem o_ok {f : Expr → Option C} (hf : Good X W g f) {o : Option Expr} {c : C} (h : compO f o = some c) : PO X o (tOp (pm X) W (evO g c)) := by
  cases o with
  | none =>
    cases h
    exact o_none
  | some e =>
    have h : ((f e).bind fun c => gd (notNil c) (some c)) = some c := h
    obtain ⟨c1, h1, h⟩ := bd h
    obtain ⟨h2, h⟩ := gd_some h
    cases h
    exact o_some (by rintro rfl; cases h2) (hf e c h1).1
theorem g_ok (ok : OK G g lv X W N sc T) {f : Expr → Option C} (hf : Good X W g f) : ∀ (n : Nat) {e : Expr} {c : C}, compG f N sc T n e = some c → SG X g e c
  | 0, e, c, h => by cases h
  | n + 1, e, c, h => by
    cases e with
    | Name x p =>
      have h : gd (locB sc x && T x) ((slot N x).bind fun i => some (.tn i)) = some c := h
      obtain ⟨h0, h⟩ := gd_some h
      rw [Bool.and_eq_true] at h0
      obtain ⟨i, h1, h⟩ := bd h
      cases h
      exact g_name (by rw [ok.hN]; exact ok.nd) (by rw [ok.hN]; exact slot_ok h1) (loc_ok ok h0.1) (ok.tg x h0.2 h0.1)
    | Tuple es k p =>
      have h : (match es.all notStar with
        | true => (compGs (compG f N sc T n) es).bind fun cs => gd (decide (es.length = lenC cs)) (some (.tt cs))
        | false => (compGS (compG f N sc T n) es).bind fun cs => (es.findIdx? fun e => !notStar e).bind fun i => gd (decide (es.length = lenC cs) && decide (i < es.length)) (some (.tts i cs))) = some c := h
      have all : ∀ {es : List Expr} {cs : C}, compGs (compG f N sc T n) es = some cs → SGs X g es cs := by
        intro es
        induction es with
        | nil =>
          intro cs h
          cases h
          exact gs_nil
        | cons a es ih =>
          intro cs h
          have h : ((compG f N sc T n a).bind fun c => (compGs (compG f N sc T n) es).bind fun cs => gd (notStar a) (some (.cons c cs))) = some cs := h
          obtain ⟨c1, h1, h⟩ := bd h
          obtain ⟨c2, h2, h⟩ := bd h
          obtain ⟨h3, h⟩ := gd_some h
          cases h
          exact gs_cons h3 (g_ok ok hf n h1) (ih h2)
      have allS : ∀ {es : List Expr} {cs : C}, compGS (compG f N sc T n) es = some cs → SGs X g es cs := by
        intro es
        induction es with
        | nil =>
          intro cs h
          cases h
          exact gs_nil
        | cons a es ih =>
          intro cs h
          by_cases hs : notStar a = true
          · have h : ((compG f N sc T n a).bind fun c => (compGS (compG f N sc T n) es).bind fun cs => some (.cons c cs)) = some cs := by
              cases a <;> first | exact h | cases hs
            obtain ⟨c1, h1, h⟩ := bd h
            obtain ⟨c2, h2, h⟩ := bd h
            cases h
            exact gs_cons hs (g_ok ok hf n h1) (ih h2)
          · cases a with
            | Starred t p =>
              have h : ((compG f N sc T n t).bind fun c => (compGS (compG f N sc T n) es).bind fun cs => gd (notStar t) (some (.cons c cs))) = some cs := h
              obtain ⟨c1, h1, h⟩ := bd h
              obtain ⟨c2, h2, h⟩ := bd h
              obtain ⟨h3, h⟩ := gd_some h
              cases h
              exact gs_consS h3 (g_ok ok hf n h1) (ih h2)
            | _ => exact absurd rfl hs
      cases h0 : es.all notStar with
      | true =>
        rw [h0] at h
        obtain ⟨cs, h1, h⟩ := bd h
        obtain ⟨h2, h⟩ := gd_some h
        cases h
        exact g_tup ok.calm h0 (of_decide_eq_true h2) (all h1)
      | false =>
        rw [h0] at h
        obtain ⟨cs, h1, h⟩ := bd h
        obtain ⟨i, hi, h⟩ := bd h
        obtain ⟨h2, h⟩ := gd_some h
        cases h
        rw [Bool.and_eq_true] at h2
        exact g_tts ok.calm hi (of_decide_eq_true h2.2) (of_decide_eq_true h2.1) (allS h1)
    | Subscript o i p =>
      have h : gd (notSlice i) ((f o).bind fun c => (f i).bind fun d => some (.tsub c d)) = some c := h
      obtain ⟨h0, h⟩ := gd_some h
      obtain ⟨c1, h1, h⟩ := bd h
      obtain ⟨c2, h2, h⟩ := bd h
      cases h
      exact g_sub h0 (hf _ _ h1).1 (hf _ _ h2).1
    | _ => cases h
theorem free_ok (ok : OK G g lv X W N sc T) {x : Str} (h : x ∈ freeNames) : X.mg x = none := ok.free x h
theorem i_ok (ok : OK G g lv X W N sc T) {f : Expr → Option C} (hf : Good X W g f) {tg it : Expr} {c : C} (h : compI f sc tg it = some c) : SI X W g tg it c := by
  have gen : ∀ {it c}, ((f it).bind fun c => gd (plainI c) (some c)) = some c → SI X W g tg it c := fun {it c} h => by
    obtain ⟨c1, h1, h⟩ := bd h
    obtain ⟨h2, h⟩ := gd_some h
    cases h
    exact i_any h2 (hf _ _ h1).1
  unfold compI at h
  split at h
  · split at h
    · rename_i hx
      subst hx
      obtain ⟨h0, h⟩ := gd_some h
      rw [Bool.and_eq_true] at h0
      obtain ⟨c1, h1, h⟩ := bd h
      cases h
      exact i_rng1 (gl_ok ok h0.1) (ok.free _ (by simp [freeNames])) h0.2 (hf _ _ h1).1
    · split at h
      · rename_i hx
        subst hx
        obtain ⟨h0, h⟩ := gd_some h
        rw [Bool.and_eq_true, Bool.and_eq_true] at h0
        obtain ⟨c1, h1, h⟩ := bd h
        cases h
        have ht := h0.2
        cases tg with
        | Tuple es k p => exact i_enum (gl_ok ok h0.1.1) (ok.free _ (by simp [freeNames])) h0.1.2 (hf _ _ h1).1
        | _ => cases ht
      · exact gen h
  · split at h
    · rename_i hx
      subst hx
      obtain ⟨h0, h⟩ := gd_some h
      rw [Bool.and_eq_true, Bool.and_eq_true] at h0
      obtain ⟨c1, h1, h⟩ := bd h
      obtain ⟨c2, h2, h⟩ := bd h
      cases h
      exact i_rng2 (gl_ok ok h0.1.1) (ok.free _ (by simp [freeNames])) h0.1.2 h0.2 (hf _ _ h1).1 (hf _ _ h2).1
    · split at h
      · rename_i hx
        subst hx
        obtain ⟨h0, h⟩ := gd_some h
        rw [Bool.and_eq_true, Bool.and_eq_true, Bool.and_eq_true] at h0
        obtain ⟨c1, h1, h⟩ := bd h
        obtain ⟨c2, h2, h⟩ := bd h
        cases h
        have ht := h0.2
        cases tg with
        | Tuple es k p => exact i_zip (gl_ok ok h0.1.1.1) (ok.free _ (by simp [freeNames])) h0.1.1.2 h0.1.2 (hf _ _ h1).1 (hf _ _ h2).1
        | _ => cases ht
      · exact gen h
  · obtain ⟨h0, h⟩ := gd_some h
    exact gen h
theorem notSet_fold {it : Expr} {env : Env} (h : notSet it = true) : ∀ x, foldedSetIterable it env x = pure x := fun x => by
  cases it <;> first | rfl | cases h
theorem compI_set {f : Expr → Option C} {tg it : Expr} {c : C} (h : compI f sc tg it = some c) : notSet it = true := by
  unfold compI at h
  split at h
  · rfl
  · rfl
  · exact (gd_some h).1
theorem f_ok {f : Expr → Option C} (hf : Good X W g f) {ifs : List Expr} {c : C} (h : compF f ifs = some c) : PTs X ifs (tT (pm X) W (evF g c)) := by
  unfold compF at h
  split at h
  · cases h
    exact f_nil
  · obtain ⟨c1, h1, h⟩ := bd h
    cases h
    exact f_one (hf _ _ h1).2
  · cases h
theorem relabel_eq {scp : Scope} {cl : List (Str × Addr)} {Ca : Addr} (ok : OK G g lv X W N sc T) : (compEnvC scp cl Ca X.env).scope = relS scp sc := by
  rw [← ok.hsc]
  rfl
/-- the context of a comprehension's block -/
theorem blk_ok (ok : OK G g lv X W N sc T) {scp : Scope} (s : Shared) (H : Hp) (Ca : Addr) (cl : List (Str × Addr)) (fp : List Addr) : OK G g lv (X.blk s H scp (compEnvC scp cl Ca X.env) fp) W0 N (relS scp sc) (blkT scp) where
  hN := ok.hN
  hsc := relabel_eq ok
  nd := ok.nd
  calm := ok.calm
  room1 := ok.room1
  pown := PassesOwn.never
  tk := fun u s' ⟨_, _, _, _, _, _, _, _, _, _, _, _, _, _, _, _, z⟩ => z.elim
  free := ok.free
  kv := ok.kv
  fn := fun k x f m h => ok.fn k x f m h
  mt := fun k c m f a h => ok.mt k c m f a h
  mak := fun k c f a h => ok.mak k c f a h
  at_ := fun c f h C hc => ok.at_ c f h C hc
  cs := fun key c f h => ok.cs key c f h
  er := fun x ps l h => ok.er x ps l h
  erf := fun f c h => ok.erf f c h
  isc := fun x t h => ok.isc x t h
  tg := fun x hx _ => by
    have hx : locB scp x = true := hx
    unfold locB at hx
    split at hx
    · rename_i q
      exact .inr (by
        show (relabel scp X.env).names.lookup x = some .local
        exact PySem.lookup_relabel_local q)
    · rename_i q
      exact .inl (by
        show (scp.names.lookup x == some .cell) = true
        rw [q]
        rfl)
    · cases hx
end
end Mv

/-! MvN: soundness of the codes of expressions; statements. -/
namespace Mv
open PySem PySem.Spec PyProof.Rows L2
theorem plainIx_of {s : Expr} (h : notSlice s = true) : PlainIx s := by
  intro o i
  cases s <;> first | rfl | cases h
theorem own_sub {N : List Str} {scp : Scope} {ct : C} (h : ((slotsC ct).all fun i => (ownOf N scp).any fun p => decide (p.2 = i)) = true) : ∀ i ∈ slotsC ct, i ∈ (ownOf N scp).map (·.2) := fun i hi => by
  have h1 := List.all_eq_true.mp h i hi
  obtain ⟨p, hp, he⟩ := List.any_eq_true.mp h1
  exact List.mem_map.mpr ⟨p, hp, of_decide_eq_true he⟩
/-- a comprehension's parts -/
structure LcParts (G : GT) (g : Cfg) (lv : Nat) (X : Cx) (W : WS) (N : List Str) (sc : Scope) (T : Str → Bool) (scp : Scope) (tg it elt : Expr) (ifs : List Expr) (ct ci cf ce : C) : Prop where
  i : SI X W g tg it ci
  blk : BlkOk X.N X.env.scope scp (ownOf N scp)
  gt : ∀ (s : Shared) (H : Hp) (Ca : Addr) (cl : List (Str × Addr)) (fp : List Addr), PG (X.blk s H scp (compEnvC scp cl Ca X.env) fp) tg (tG (pm X) (evG g ct) (slotsC ct))
  f : ∀ (s : Shared) (H : Hp) (Ca : Addr) (cl : List (Str × Addr)) (fp : List Addr), PTs (X.blk s H scp (compEnvC scp cl Ca X.env) fp) ifs (tT (pm X) W0 (evF g cf))
  e : ∀ (s : Shared) (H : Hp) (Ca : Addr) (cl : List (Str × Addr)) (fp : List Addr), PE (X.blk s H scp (compEnvC scp cl Ca X.env) fp) elt (tE (pm X) W0 (evE g ce))
  s : ∀ x, foldedSetIterable it X.env x = pure x
  sl : ∀ i ∈ slotsC ct, i ∈ (ownOf N scp).map (·.2)
section
variable {G : GT} {g : Cfg} {lv : Nat} {N : List Str}
theorem t_ife {X : Cx} {W : WS} {a b t : Expr} {ca cb ct : C} {pos : Pos} (ht : ST X W g t ct) (ha : ST X W g a ca) (hb : ST X W g b cb) : ST X W g (.IfExp t a b pos) (.ife ct ca cb) := ⟨fun pins s σ H Q I ⟨hs, as, S, r, rs, rr, fin⟩ => by
  rw [evT] at fin
  refine isTrue_IfExp (thn (ht.run pins s σ H (fun d H1 => ∃ bs S1, RS (pm X) hs H1 bs S1 ∧ RR (pm X) hs H1 bs r σ ∧ FinB (pm X) hs (W σ) bs H1 (match d with
    | true => evT g ca r S1
    | false => evT g cb r S1) Q) I ⟨hs, as, S, r, rs, rr, fin.bind fun v S1 bs H1 x p kp rs1 rv f1 => ?_⟩) fun d s1 ⟨H1, I1, bs, S1, rs1, rr1, f1⟩ => ?_)
  · subst rv
    exact ⟨bs, S1, rs1, rr.mono p kp.to, f1⟩
  · cases d with
    | true => exact ha.run pins s1 σ H1 Q I1 ⟨hs, bs, S1, r, rs1, rr1, f1⟩
    | false => exact hb.run pins s1 σ H1 Q I1 ⟨hs, bs, S1, r, rs1, rr1, f1⟩⟩
/-- the recursion's hypothesis -/
def Sound (G : GT) (g : Cfg) (lv : Nat) (N : List Str) (n : Nat) : Prop := ∀ (X : Cx) (W : WS) (sc : Scope) (T : Str → Bool), OK G g lv X W N sc T → Good X W g (compE G N n sc T)
theorem lc_parts {X : Cx} {W : WS} {sc : Scope} {T : Str → Bool} {n : Nat} (ih : Sound G g lv N n) (ok : OK G g lv X W N sc T) {elt tg it : Expr} {ifs : List Expr} {z : Int} {scp : Scope} {c : C} {pos : Pos}
    (h : gd (decide (z = 0) && blkC N sc scp (ownOf N scp) && notSet it && decide (sc.kind = .function)) ((compI (compE G N n sc T) sc tg it).bind fun ci =>
      (compG (compE G N n (relS scp sc) (blkT scp)) N (relS scp sc) (blkT scp) n tg).bind fun ct =>
      (compF (compE G N n (relS scp sc) (blkT scp)) ifs).bind fun cf => (compE G N n (relS scp sc) (blkT scp) elt).bind fun ce =>
      gd ((slotsC ct).all fun i => (ownOf N scp).any fun p => decide (p.2 = i)) (some (.lc (G.mu pos) ce ct ci cf ((ownOf N scp).map (·.2))))) = some c) : ∃ ct ci cf ce, z = 0 ∧ c = .lc (G.mu pos) ce ct ci cf ((ownOf N scp).map (·.2)) ∧ LcParts G g lv X W N sc T scp tg it elt ifs ct ci cf ce := by
  obtain ⟨h0, h⟩ := gd_some h
  simp only [Bool.and_eq_true, decide_eq_true_eq] at h0
  obtain ⟨⟨⟨hz, hb⟩, hs⟩, hk⟩ := h0
  obtain ⟨ci, h1, h⟩ := bd h
  obtain ⟨ct, h2, h⟩ := bd h
  obtain ⟨cf, h3, h⟩ := bd h
  obtain ⟨ce, h4, h⟩ := bd h
  obtain ⟨h5, h⟩ := gd_some h
  cases h
  refine ⟨ct, ci, cf, ce, hz, rfl, ⟨i_ok ok (ih X W sc T ok) h1, ?_, fun s H Ca cl fp => ?_, fun s H Ca cl fp => ?_, fun s H Ca cl fp => ?_, notSet_fold hs, own_sub h5⟩⟩
  · rw [ok.hN, ok.hsc]
    exact blkOk_by hb
  · exact g_ok (blk_ok ok s H Ca cl fp) (ih _ _ _ _ (blk_ok ok s H Ca cl fp)) n h2
  · exact f_ok (ih _ _ _ _ (blk_ok ok s H Ca cl fp)) h3
  · exact (ih _ _ _ _ (blk_ok ok s H Ca cl fp) elt ce h4).1
theorem soundE : ∀ n, Sound G g lv N n
  | 0, X, W, sc, T, ok, e, c, h => by cases h
  | n + 1, X, W, sc, T, ok, e, c, h => by
    have ih := soundE n
    have hf := ih X W sc T ok
    have h0 := orBad_some h
    clear h
    rcases h0 with h | rfl
    case inr => exact ⟨s_bad, t_bad⟩
    cases e with
    | Name x p =>
      have h : gd (plainN x) (if visB sc x then (slot N x).bind fun i => some (.var i) else gd (glB sc x) (if G.kvs x then some (.kval x) else (tyVals.lookup x).bind fun t => some (.kty t))) = some c := h
      obtain ⟨h0, h⟩ := gd_some h
      obtain ⟨n1, n2, n3⟩ := plain_n h0
      split at h
      · rename_i hv
        obtain ⟨i, h1, h⟩ := bd h
        cases h
        have s := s_var (W := W) (g := g) (pos := p) (by rw [ok.hN]; exact slot_ok h1) (vis_ok ok hv) n1 n2
        exact ⟨s, t_plain rfl s fun _ => rfl⟩
      · obtain ⟨hg, h⟩ := gd_some h
        split at h
        · rename_i hk
          cases h
          obtain ⟨v, y, u, k1, k2, k3, k4⟩ := ok.kv x hk
          have s := s_kval (W := W) (pos := p) k1 (gl_ok ok hg) k2 k3 k4 n1
          exact ⟨s, t_plain rfl s fun _ => rfl⟩
        · obtain ⟨t, h1, h⟩ := bd h
          cases h
          obtain ⟨m1, m2⟩ := tyv_by h1
          have s := s_kty (W := W) (g := g) (pos := p) (gl_ok ok hg) (ok.free x m1) m2 n3 n1
          exact ⟨s, t_plain rfl s fun _ => rfl⟩
    | Constant k j p =>
      cases k with
      | none =>
        cases h
        exact ⟨s_non, t_plain rfl s_non fun _ => rfl⟩
      | bool b =>
        cases h
        exact ⟨s_bl, t_plain rfl s_bl fun _ => rfl⟩
      | int i =>
        cases h
        exact ⟨s_int, t_plain rfl s_int fun _ => rfl⟩
      | str x =>
        cases h
        exact ⟨s_str, t_plain rfl s_str fun _ => rfl⟩
      | _ => cases h
    | Tuple es k p =>
      have h : ((compL (compE G N n sc T) es).bind fun cs => some (.tup cs)) = some c := h
      obtain ⟨cs, h1, h⟩ := bd h
      cases h
      have s := s_tup (k := k) (pos := p) (l_ok hf h1)
      exact ⟨s, t_plain rfl s fun _ => rfl⟩
    | List es p =>
      have h : ((compL (compE G N n sc T) es).bind fun cs => some (.lst (G.mu p) cs)) = some c := h
      obtain ⟨cs, h1, h⟩ := bd h
      cases h
      have s := s_lst (m := G.mu p) (pos := p) (l_ok hf h1)
      exact ⟨s, t_plain rfl s fun _ => rfl⟩
    | BinOp a op b p =>
      have h : ((opBy op).bind fun o => (compE G N n sc T a).bind fun c => (compE G N n sc T b).bind fun d => compBin (G.mu p) o c d) = some c := h
      obtain ⟨o, h0, h⟩ := bd h
      obtain ⟨c1, h1, h⟩ := bd h
      obtain ⟨c2, h2, h⟩ := bd h
      unfold compBin at h
      split at h
      · cases h
        have s := s_bin (o := o) (pos := p) (hf _ _ h1).1 (hf _ _ h2).1
        rw [opBy_ok h0] at s
        exact ⟨s, t_plain rfl s fun _ => rfl⟩
      · split at h
        · cases h
          have e0 := opBy_ok h0
          have s := s_cat (pos := p) (hf _ _ h1).1 (hf _ _ h2).1
          have e1 : Operator.Add = op := e0
          rw [e1] at s
          exact ⟨s, t_plain rfl s fun _ => rfl⟩
        · cases h
    | UnaryOp op a p =>
      cases op with
      | USub =>
        have h : ((compE G N n sc T a).bind fun c => some (.neg c)) = some c := h
        obtain ⟨c1, h1, h⟩ := bd h
        cases h
        have s := s_neg (pos := p) (hf _ _ h1).1
        exact ⟨s, t_plain rfl s fun _ => rfl⟩
      | Not =>
        have h : ((compE G N n sc T a).bind fun c => some (.not_ c)) = some c := h
        obtain ⟨c1, h1, h⟩ := bd h
        cases h
        exact ⟨s_not (hf _ _ h1).1, t_not (hf _ _ h1).2⟩
      | _ => cases h
    | BoolOp op es p =>
      cases op with
      | And =>
        obtain ⟨s, t⟩ := b_and (pos := p) hf (show compB .and_ (compE G N n sc T) es = some c from h)
        exact ⟨s, t.pt⟩
      | Or =>
        obtain ⟨s, t⟩ := b_or (pos := p) hf (show compB .or_ (compE G N n sc T) es = some c from h)
        exact ⟨s, t.pt⟩
    | IfExp t a b p =>
      have h : ((compE G N n sc T t).bind fun c => (compE G N n sc T a).bind fun d => (compE G N n sc T b).bind fun h => some (.ife c d h)) = some c := h
      obtain ⟨c1, h1, h⟩ := bd h
      obtain ⟨c2, h2, h⟩ := bd h
      obtain ⟨c3, h3, h⟩ := bd h
      cases h
      have s := s_ife (pos := p) (hf _ _ h1).2 (hf _ _ h2).1 (hf _ _ h3).1
      exact ⟨s, t_ife (hf _ _ h1).2 (hf _ _ h2).2 (hf _ _ h3).2⟩
    | Compare a ops bs p =>
      replace h : compCmp (compE G N n sc T) a ops bs = some c := h
      unfold compCmp at h
      split at h
      · rename_i op b
        obtain ⟨h0, h⟩ := gd_some h
        obtain ⟨c1, h1, h⟩ := bd h
        obtain ⟨c2, h2, h⟩ := bd h
        cases h
        have hm : behindInMarks (copOf (copBy op)) b = false := by rw [copBy_ok]; simpa using h0
        have s := s_cmp (pos := p) ok.units (hf _ _ h1).1 (hf _ _ h2).1 hm
        have t := t_cmp (pos := p) ok.units (hf _ _ h1).1 (hf _ _ h2).1 hm
        rw [copBy_ok] at s t
        exact ⟨s, t⟩
      · rename_i op op' b b'
        obtain ⟨h0, h⟩ := gd_some h
        obtain ⟨c1, h1, h⟩ := bd h
        obtain ⟨c2, h2, h⟩ := bd h
        obtain ⟨c3, h3, h⟩ := bd h
        cases h
        have hm : lastMarks [copOf (copBy op), copOf (copBy op')] [b, b'] = false := by rw [copBy_ok, copBy_ok]; simpa using h0
        have s := s_chain (pos := p) ok.units (hf _ _ h1).1 (hf _ _ h2).1 (hf _ _ h3).1 hm
        have t := t_chain (pos := p) ok.units (hf _ _ h1).1 (hf _ _ h2).1 (hf _ _ h3).1 hm
        rw [copBy_ok, copBy_ok] at s t
        exact ⟨s, t⟩
      · cases h
    | Subscript a s p =>
      by_cases hs : notSlice s = true
      · have h : ((compE G N n sc T a).bind fun c => (compE G N n sc T s).bind fun d => some (.idx c d)) = some c := by
          cases s <;> first | exact h | cases hs
        obtain ⟨c1, h1, h⟩ := bd h
        obtain ⟨c2, h2, h⟩ := bd h
        cases h
        have s := s_idx (pos := p) (hf _ _ h1).1 (hf _ _ h2).1 (plainIx_of hs)
        exact ⟨s, t_plain rfl s fun _ => rfl⟩
      · cases s with
        | Slice lo hi st p2 =>
          cases st with
          | none =>
            have h : ((compE G N n sc T a).bind fun c => (compO (compE G N n sc T) lo).bind fun l => (compO (compE G N n sc T) hi).bind fun h => some (.sl (G.mu p) c l h)) = some c := h
            obtain ⟨c1, h1, h⟩ := bd h
            obtain ⟨c2, h2, h⟩ := bd h
            obtain ⟨c3, h3, h⟩ := bd h
            cases h
            have s := s_sl (m := G.mu p) (pos := p) (p2 := p2) (hf _ _ h1).1 (o_ok hf h2) (o_ok hf h3)
            exact ⟨s, t_plain rfl s fun _ => rfl⟩
          | some q =>
            have h : gd (isRev (.Slice lo hi (some q) p2)) ((compE G N n sc T a).bind fun c => some (.rev (G.mu p) c)) = some c := h
            obtain ⟨h0, h⟩ := gd_some h
            obtain ⟨c1, h1, h⟩ := bd h
            cases h
            unfold isRev at h0
            split at h0
            · rename_i e0
              cases e0
              have h0 := of_decide_eq_true h0
              subst h0
              exact ⟨s_rev (mm := G.mu p) (pos := p) (hf _ _ h1).1, t_plain rfl (s_rev (mm := G.mu p) (pos := p) (hf _ _ h1).1) fun _ => rfl⟩
            · cases h0
        | _ => exact absurd rfl hs
    | Call f args kws p =>
      cases f with
      | Name x px =>
        obtain ⟨s, hp⟩ := call_ok ok hf (pos := p) (p := px) (show compC (compE G N n sc T) G sc p x args kws = some c from h)
        exact ⟨s, t_plain hp s fun _ => rfl⟩
      | Attribute o m ap =>
        cases kws with
        | nil =>
          cases hcl : G.cls p with
          | some cl =>
            have h : (match G.cls p with
              | some c => gd (superOk o && lineOk0 ap p && args.all notStar && decide (args.length < 30)) ((G.mts (G.va p) c m).bind fun q => gd (G.ex q.1) ((compE G N n sc T o).bind fun co => (compL (compE G N n sc T) args).bind fun cs => some (.mc c m q.1 co cs)))
              | none => gd (superOk o && lineOk ap p && args.all notStar && decide (args.length < 30)) (if m = "get" then compGet (compE G N n sc T) o args else (mthNames.lookup m).bind fun w => (compE G N n sc T o).bind fun c => (compL (compE G N n sc T) args).bind fun cs => some (.mth w c cs))) = some c := h
            rw [hcl] at h
            obtain ⟨h0, h⟩ := gd_some h
            simp only [Bool.and_eq_true, decide_eq_true_eq] at h0
            obtain ⟨⟨i, a⟩, hq, h⟩ := bd h
            obtain ⟨hex, h⟩ := gd_some h
            obtain ⟨c1, h1, h⟩ := bd h
            obtain ⟨c2, h2, h⟩ := bd h
            cases h
            obtain ⟨Ca, fa, q1, q2, q3, q4⟩ := (ok.mt _ _ _ _ _ hq).ex
            have s : SE X W g (.Call (.Attribute o m ap) args [] p) (.mc cl m i c1 c2) := by
              cases args with
              | nil =>
                cases h2
                exact s_mc0 q1 q2 q3 (q4 hex) ok.room ok.pa h0.1.1.1 h0.1.1.2 (hf _ _ h1).1
              | cons a as => exact s_mc q1 q2 q3 (q4 hex) ok.room ok.pa h0.1.1.1 h0.1.1.2 h0.1.2 h0.2 (hf _ _ h1).1 (l_ok hf h2)
            exact ⟨s, t_plain rfl s fun _ => rfl⟩
          | none =>
          have h : (match G.cls p with
              | some c => gd (superOk o && lineOk0 ap p && args.all notStar && decide (args.length < 30)) ((G.mts (G.va p) c m).bind fun q => gd (G.ex q.1) ((compE G N n sc T o).bind fun co => (compL (compE G N n sc T) args).bind fun cs => some (.mc c m q.1 co cs)))
              | none => gd (superOk o && lineOk ap p && args.all notStar && decide (args.length < 30)) (if m = "get" then compGet (compE G N n sc T) o args else (mthNames.lookup m).bind fun w => (compE G N n sc T o).bind fun c => (compL (compE G N n sc T) args).bind fun cs => some (.mth w c cs))) = some c := h
          rw [hcl] at h
          have h : gd (superOk o && lineOk ap p && args.all notStar && decide (args.length < 30)) (if m = "get" then compGet (compE G N n sc T) o args else (mthNames.lookup m).bind fun w => (compE G N n sc T o).bind fun c => (compL (compE G N n sc T) args).bind fun cs => some (.mth w c cs)) = some c := h
          obtain ⟨h0, h⟩ := gd_some h
          simp only [Bool.and_eq_true, decide_eq_true_eq] at h0
          by_cases hm : m = "get"
          · rw [if_pos hm] at h
            rw [hm]
            obtain ⟨s, q⟩ := get_ok ok hf (pos := p) h0.1.1.1 h0.1.1.2 h0.1.2 h
            exact ⟨s, t_plain q s fun _ => rfl⟩
          rw [if_neg hm] at h
          obtain ⟨w, hw, h⟩ := bd h
          obtain ⟨c1, h1, h⟩ := bd h
          obtain ⟨c2, h2, h⟩ := bd h
          cases h
          have s := mth_ok ok hf h0.1.1.1 h0.1.1.2 h0.1.2 h0.2 hw h1 h2
          exact ⟨s, t_plain rfl s fun _ => rfl⟩
        | cons _ _ => cases h
      | _ => cases h
    | Attribute o f p =>
      have h : (match G.cst p with
        | some key => compCst G sc o f key
        | none => match G.cls p with
          | some c => gd (G.fa c f && superOk o) ((compE G N n sc T o).bind fun co => some (.fld c f co))
          | none => match G.erc f with
            | [] => none
            | c :: cl => gd (superOk o) ((compE G N n sc T o).bind fun co => some (.erf f (c :: cl) co))) = some c := h
      split at h
      · rename_i key hk
        unfold compCst at h
        split at h
        · rename_i x pn _
          obtain ⟨h0, h⟩ := gd_some h
          cases h
          rw [Bool.and_eq_true, Bool.and_eq_true] at h0
          obtain ⟨C, mc, v, y, u, q1, q2, q3, q4, q5⟩ := ok.cs key x f (of_decide_eq_true h0.1.1)
          have s : SE X W g (.Attribute (.Name x pn) f p) (.kval key) := s_cst (gl_ok ok h0.1.2) q1 q2 q3 q4 q5 (plain_n h0.2).1
          exact ⟨s, t_plain rfl s fun _ => rfl⟩
        · cases h
      · split at h
        · rename_i cl hcl
          obtain ⟨h0, h⟩ := gd_some h
          obtain ⟨c1, h1, h⟩ := bd h
          cases h
          rw [Bool.and_eq_true] at h0
          have s : SE X W g (.Attribute o f p) (.fld cl f c1) := s_fld (ok.at_ _ _ h0.1) (hf _ _ h1).1 h0.2
          exact ⟨s, t_plain rfl s fun _ => rfl⟩
        · split at h
          · cases h
          · rename_i c0 cl hcl
            obtain ⟨h0, h⟩ := gd_some h
            obtain ⟨c1, h1, h⟩ := bd h
            cases h
            have s : SE X W g (.Attribute o f p) (.erf f (c0 :: cl) c1) := s_erf (fun c hc => ok.erf f c (by rw [hcl]; exact hc)) h0 (hf _ _ h1).1
            exact ⟨s, t_plain rfl s fun _ => rfl⟩
    | ListComp elt gens scp p =>
      have hg : ∃ q, gens = [q] := by
        cases gens with
        | nil => cases h
        | cons q r =>
          obtain ⟨q1, q2, q3, q4⟩ := q
          cases r with
          | nil => exact ⟨_, rfl⟩
          | cons _ _ => cases h
      obtain ⟨⟨tg, it, ifs, z⟩, rfl⟩ := hg
      obtain ⟨ct, ci, cf, ce, rfl, rfl, P⟩ := lc_parts ih ok (pos := p) h
      have s : SE X W g (.ListComp elt [⟨tg, it, ifs, 0⟩] scp p) (.lc (G.mu p) ce ct ci cf ((ownOf N scp).map (·.2))) := (pe_lc ok.calm (by rw [ok.hN]; exact ok.nd) P.i P.blk P.gt P.f P.e P.s).imp7 fun σ H Q z => lc_read P.sl z
      exact ⟨s, t_plain rfl s fun _ => rfl⟩
    | _ => cases h
end
end Mv

/-! MvO: statements from the text. -/
namespace Mv
open PySem PySem.Spec PyProof.Rows L2
/-- the names that an exchange of a tuple's stores takes: none none: the model does not say -/
def swapC (sc : Scope) (ts vs : List Expr) : Option (Option (List Str)) :=
  if (!(ts.length == 2 || ts.length == 3) || vs.length != ts.length) = true then some none
  else if (vs.any fun | .Starred .. => true | _ => false) = true then some none
  else
    let line := (ts.head?.map (·.pos.line)).getD 0
    let names := ts.filterMap fun
      | .Name id pos => if sc.names.lookup id == some .local && pos.line == line then some id else none
      | _ => none
    if (names.length != ts.length || names.eraseDups.length != names.length) = true then some none
    else if vs.all (foldedForSure 8) = true then some none
    else if vs.all (constantsAlone 8) = true then none
    else some (some names)
theorem swap_ok {env : Env} {sc : Scope} (hs : env.scope = sc) (hk : sc.kind = .function) {ts vs : List Expr} {k k2 : Nat} {p p2 : Pos} {r : Option (List Str)} (h : swapC sc ts vs = some r) : swappedStores [.Tuple ts k p] (.Tuple vs k2 p2) env = pure r := by
  subst hs
  have hb : (env.blockKind != .function) = false := by
    unfold Env.blockKind
    rw [hk]
    rfl
  unfold swapC at h
  unfold swappedStores
  unfold Env.kindOf
  simp only [hb, Bool.or_false] at h ⊢
  split at h
  · rename_i h1
    cases h
    exact if_pos h1
  · rename_i h1
    refine (if_neg h1).trans ?_
    split at h
    · rename_i h2
      cases h
      exact if_pos h2
    · rename_i h2
      refine (if_neg h2).trans ?_
      split at h
      · rename_i h3
        cases h
        exact if_pos h3
      · rename_i h3
        refine (if_neg h3).trans ?_
        split at h
        · rename_i h4
          cases h
          exact if_pos h4
        · rename_i h4
          refine (if_neg h4).trans ?_
          split at h
          · cases h
          · rename_i h5
            cases h
            exact if_neg h5
theorem swap_none {env : Env} {tg e : Expr} (h : (match tg, e with
    | .Tuple _ _ _, .Tuple _ _ _ => false
    | .List _ _, .Tuple _ _ _ => false
    | _, _ => true) = true) : swappedStores [tg] e env = pure none := by
  cases tg <;> first | rfl | (cases e <;> first | rfl | cases h)

def notComp : Expr → Bool
  | .ListComp _ _ _ _ => false
  | .SetComp _ _ _ _ => false
  | .DictComp _ _ _ _ _ => false
  | _ => true
theorem sw_none {e : Expr} (h : notComp e = true) (l : Nat) (env : Env) (t : Option Expr) : swapsWith e t l env = pure false := by
  cases e <;> first | rfl | cases h
theorem sw_sole {tg e : Expr} (h : notComp e = true) (l : Nat) (env : Env) : swapsWithSole [tg] e l env = pure false := sw_none h l env _
def notTup : Expr → Bool
  | .Tuple _ _ _ => false
  | .List _ _ => false
  | _ => true
/-- an exchange of two or three names -/
def compPar (f : Expr → Option C) (N : List Str) (sc : Scope) (ts vs : List Expr) (names : List Str) : Option C := match ts, vs with
  | [.Name x _, .Name y _], [_, _] => gd (decide (names = [x, y]) && decide (sc.names.lookup x = some .local) && decide (sc.names.lookup y = some .local)) ((slot N x).bind fun i => (slot N y).bind fun j => (compL f vs).bind fun cs => gd (decide (i ≠ j)) (some (.par [i, j] cs)))
  | [.Name x _, .Name y _, .Name z _], [_, _, _] => gd (decide (names = [x, y, z]) && decide (sc.names.lookup x = some .local) && decide (sc.names.lookup y = some .local) && decide (sc.names.lookup z = some .local))
      ((slot N x).bind fun i => (slot N y).bind fun j => (slot N z).bind fun k => (compL f vs).bind fun cs => gd (decide (i ≠ j) && decide (i ≠ k) && decide (j ≠ k)) (some (.par [i, j, k] cs)))
  | _, _ => none
def compAs (f fg : Expr → Option C) (N : List Str) (sc : Scope) (T : Str → Bool) (tg e : Expr) : Option C := match tg with
  | .Name x _ => gd (locB sc x && T x && (notComp e || (match e with
      | .ListComp _ _ _ _ => true
      | _ => false))) ((slot N x).bind fun i => (f e).bind fun c => some (.asg (.tn i) c))
  | .Tuple ts _ _ => match e with
    | .Tuple vs _ _ => (swapC sc ts vs).bind fun r => match r with
      | none => (fg tg).bind fun ct => (f e).bind fun ce => some (.asg ct ce)
      | some names => compPar f N sc ts vs names
    | _ => gd (notComp e) ((fg tg).bind fun ct => (f e).bind fun ce => some (.asg ct ce))
  | _ => gd (notComp e && notTup tg && notStar tg) ((fg tg).bind fun ct => (f e).bind fun ce => some (.asg ct ce))
def compSs (f : Stmt → Option C) : List Stmt → Option C
  | [] => some .nil
  | s :: ss => (f s).bind fun c => (compSs f ss).bind fun cs => some (.cons c cs)
/-- m: the depth of expressions -/
def compS (G : GT) (N : List Str) (m : Nat) (sc : Scope) (T : Str → Bool) : Nat → Stmt → Option C
  | 0, _ => none
  | n + 1, s => orBad (match s with
    | .Pass _ => some .pass
    | .Break _ => some .brk
    | .Continue _ => some .cont
    | .Return o _ => match o with
      | none => some .retn
      | some e => (compE G N m sc T e).bind fun c => some (.ret c)
    | .Expr e _ => gd (notComp e) ((compE G N m sc T e).bind fun c => some (.expr c))
    | .Assign tgs e _ => match tgs with
      | [.Attribute o f p] => (G.cls p).bind fun c => gd (G.fa c f && notComp e) ((compE G N m sc T o).bind fun co => (compE G N m sc T e).bind fun ce => some (.sat c f co ce))
      | [tg] => compAs (compE G N m sc T) (compG (compE G N m sc T) N sc T m) N sc T tg e
      | _ => none
    | .If t a b _ => (compE G N m sc T t).bind fun c => (compSs (compS G N m sc T n) a).bind fun d => (compSs (compS G N m sc T n) b).bind fun h => some (.iff c d h)
    | .For tg it body orelse _ => match orelse with
      | [] => (compI (compE G N m sc T) sc tg it).bind fun ci => (compG (compE G N m sc T) N sc T m tg).bind fun ct => (compSs (compS G N m sc T n) body).bind fun cb => some (.forr ct ci cb)
      | _ => none
    | .While t body orelse _ => match orelse with
      | [] => (compE G N m sc T t).bind fun c => (compSs (compS G N m sc T n) body).bind fun cb => some (.whl c cb)
      | _ => none
    | _ => none)
section
variable {G : GT} {g : Cfg} {lv : Nat} {X : Cx} {W : WS} {N : List Str} {sc : Scope} {T : Str → Bool} {c : C} {pos : Pos}
theorem par_read {K : Pm} {D : Ends} {σ : L2.St} {H : Hp} {i j : Nat} {cs : C} (h : tS K W (evS g (.par [i, j] cs)) D σ H) : tPar i j (tA K W (evEs g cs)) D σ H := by
  obtain ⟨hs, as, S, r, rs, rr, fin⟩ := h
  rw [evS] at fin
  refine ⟨hs, as, S, r, rs, rr, fin.lift rr fun vs S1 bs H1 xs p kp rs1 rv f1 => ?_⟩
  split at f1
  · rename_i hl
    cases rv with
    | nil => cases hl
    | cons r1 t1 =>
      cases t1 with
      | nil => cases hl
      | cons r2 t2 =>
        cases t2 with
        | nil => exact ⟨_, _, rfl, f1 bs H1 _ (List.prefix_refl _) Kp.refl rs1 (((rr.mono p kp.to).set r1 i).set r2 j)⟩
        | cons _ _ => exact absurd hl (by simp)
  · exact f1.elim
theorem par_read3 {K : Pm} {D : Ends} {σ : L2.St} {H : Hp} {i j k : Nat} {cs : C} (h : tS K W (evS g (.par [i, j, k] cs)) D σ H) : tPar3 i j k (tA K W (evEs g cs)) D σ H := by
  obtain ⟨hs, as, S, r, rs, rr, fin⟩ := h
  rw [evS] at fin
  refine ⟨hs, as, S, r, rs, rr, fin.lift rr fun vs S1 bs H1 xs p kp rs1 rv f1 => ?_⟩
  split at f1
  · rename_i hl
    cases rv with
    | nil => cases hl
    | cons r1 t1 =>
      cases t1 with
      | nil => cases hl
      | cons r2 t2 =>
        cases t2 with
        | nil => cases hl
        | cons r3 t3 =>
          cases t3 with
          | nil => exact ⟨_, _, _, rfl, f1 bs H1 _ (List.prefix_refl _) Kp.refl rs1 ((((rr.mono p kp.to).set r1 i).set r2 j).set r3 k)⟩
          | cons _ _ => exact absurd hl (by simp)
  · exact f1.elim
theorem kindF_ok (ok : OK G g lv X W N sc T) (hk : sc.kind = .function) : X.env.scope.kind = .function := by rw [ok.hsc]; exact hk
theorem as_ok (ok : OK G g lv X W N sc T) (hk : sc.kind = .function) (n : Nat) {fg : Expr → Option C} (hG : ∀ e c, fg e = some c → SG X g e c) {tg e : Expr} {c : C} (h : compAs (compE G N n sc T) fg N sc T tg e = some c) : SS X W g (.Assign [tg] e pos) c := by
  have hf : Good X W g (compE G N n sc T) := soundE n X W sc T ok
  have hnd : X.N.Nodup := by rw [ok.hN]; exact ok.nd
  unfold compAs at h
  split at h
  · rename_i x px
    obtain ⟨h0, h⟩ := gd_some h
    rw [Bool.and_eq_true, Bool.and_eq_true] at h0
    obtain ⟨i, h1, h⟩ := bd h
    obtain ⟨ce, h2, h⟩ := bd h
    cases h
    have hi : X.N[i]? = some x := by rw [ok.hN]; exact slot_ok h1
    by_cases hc : notComp e = true
    · exact st_set hnd hi (loc_ok ok h0.1.1) (ok.tg x h0.1.2 h0.1.1) (hf _ _ h2).1 (sw_none hc _ _ _)
    · cases e with
      | ListComp elt gens scp pe =>
        cases hsw : (X.env.blockKind == .function && X.env.kindOf x == some .local && px.line == pe.line && !(scp.names.any fun (n, k) => n == x && (k == .local || k == .cell))) with
        | false =>
          refine st_set hnd hi (loc_ok ok h0.1.1) (ok.tg x h0.1.2 h0.1.1) (hf _ _ h2).1 ?_
          show (pure (X.env.blockKind == .function && X.env.kindOf x == some .local && px.line == pe.line && !(scp.names.any fun (n, k) => n == x && (k == .local || k == .cell))) : Sem Bool) = pure false
          rw [hsw]
        | true =>
          have hsw2 : swapsWith (.ListComp elt gens scp pe) (some (.Name x px)) pos.line X.env = pure true := by
            show (pure (X.env.blockKind == .function && X.env.kindOf x == some .local && px.line == pe.line && !(scp.names.any fun (n, k) => n == x && (k == .local || k == .cell))) : Sem Bool) = pure true
            rw [hsw]
          rw [Bool.and_eq_true, Bool.and_eq_true, Bool.and_eq_true] at hsw
          have hloc : X.env.scope.names.lookup x = some .local := by
            have q := hsw.1.1.2
            exact eq_of_beq q
          cases n with
          | zero => cases h2
          | succ n =>
            have h2' := orBad_some h2
            clear h2
            rcases h2' with h2 | rfl
            case inr => exact st_asgbad
            have hg : ∃ q, gens = [q] := by
              cases gens with
              | nil => cases h2
              | cons q r =>
                obtain ⟨q1, q2, q3, q4⟩ := q
                cases r with
                | nil => exact ⟨_, rfl⟩
                | cons _ _ => cases h2
            obtain ⟨⟨tg, it, ifs, z⟩, rfl⟩ := hg
            obtain ⟨ct, ci, cf, ce, rfl, rfl, P⟩ := lc_parts (soundE n) ok (pos := pe) h2
            exact (ps_setLc ok.calm hnd hi hloc hsw2 P.i P.blk P.gt P.f P.e P.s).imp7 fun D σ H z => name_read (fun _ _ _ q => lc_read P.sl q) z
      | _ =>
        have h3 := h0.2
        first
          | exact absurd rfl hc
          | (simp [notComp] at h3)
  · rename_i ts k pt
    split at h
    · rename_i vs k2 p2
      obtain ⟨r, h0, h⟩ := bd h
      have hw := swap_ok (k := k) (k2 := k2) (p := pt) (p2 := p2) ok.hsc hk h0
      cases r with
      | none =>
        obtain ⟨ct, h1, h⟩ := bd h
        obtain ⟨ce, h2, h⟩ := bd h
        cases h
        exact st_asg (hG _ _ h1) (hf _ _ h2).1 rfl rfl hw
      | some names =>
        have h : compPar (compE G N n sc T) N sc ts vs names = some c := h
        unfold compPar at h
        split at h
        · obtain ⟨h3, h⟩ := gd_some h
          simp only [Bool.and_eq_true, decide_eq_true_eq] at h3
          obtain ⟨i, h4, h⟩ := bd h
          obtain ⟨j, h5, h⟩ := bd h
          obtain ⟨cs, h6, h⟩ := bd h
          obtain ⟨h7, h⟩ := gd_some h
          cases h
          rw [h3.1.1] at hw
          exact (ps_par ok.calm hnd (by rw [ok.hN]; exact slot_ok h4) (by rw [ok.hN]; exact slot_ok h5) (of_decide_eq_true h7) (by rw [ok.hsc]; exact h3.1.2) (by rw [ok.hsc]; exact h3.2) (l_ok hf h6) hw rfl).imp7 fun D σ H z => par_read z
        · obtain ⟨h3, h⟩ := gd_some h
          simp only [Bool.and_eq_true, decide_eq_true_eq] at h3
          obtain ⟨i, h4, h⟩ := bd h
          obtain ⟨j, h5, h⟩ := bd h
          obtain ⟨k, h5', h⟩ := bd h
          obtain ⟨cs, h6, h⟩ := bd h
          obtain ⟨h7, h⟩ := gd_some h
          simp only [Bool.and_eq_true, decide_eq_true_eq] at h7
          cases h
          rw [h3.1.1.1] at hw
          exact (ps_par3 ok.calm hnd (by rw [ok.hN]; exact slot_ok h4) (by rw [ok.hN]; exact slot_ok h5) (by rw [ok.hN]; exact slot_ok h5') h7.1.1 h7.1.2 h7.2 (by rw [ok.hsc]; exact h3.1.1.2) (by rw [ok.hsc]; exact h3.1.2) (by rw [ok.hsc]; exact h3.2) (l_ok hf h6) hw rfl).imp7 fun D σ H z => par_read3 z
        · cases h
    · rename_i hne
      obtain ⟨h0, h⟩ := gd_some h
      obtain ⟨ct, h1, h⟩ := bd h
      obtain ⟨ce, h2, h⟩ := bd h
      cases h
      refine st_asg (hG _ _ h1) (hf _ _ h2).1 rfl (sw_sole h0 _ _) (swap_none ?_)
      split
      · exact absurd rfl (hne _ _ _)
      · contradiction
      · rfl
  · obtain ⟨h0, h⟩ := gd_some h
    rw [Bool.and_eq_true, Bool.and_eq_true] at h0
    obtain ⟨ct, h1, h⟩ := bd h
    obtain ⟨ce, h2, h⟩ := bd h
    cases h
    refine st_asg (hG _ _ h1) (hf _ _ h2).1 h0.2 (sw_sole h0.1.1 _ _) (swap_none ?_)
    have h3 := h0.1.2
    split <;> first | rfl | cases h3
theorem soundS (ok : OK G g lv X W N sc T) (hk : sc.kind = .function) (m : Nat) : ∀ (n : Nat) {s : Stmt} {c : C}, compS G N m sc T n s = some c → SS X W g s c
  | 0, s, c, h => by cases h
  | n + 1, s, c, h => by
    have hf : Good X W g (compE G N m sc T) := soundE m X W sc T ok
    have h0 := orBad_some h
    clear h
    rcases h0 with h | rfl
    case inr => exact st_bad
    have all : ∀ {ss : List Stmt} {cs : C}, compSs (compS G N m sc T n) ss = some cs → SSs X W g ss cs := by
      intro ss
      induction ss with
      | nil =>
        intro cs h
        cases h
        exact ss_nil
      | cons a ss ih =>
        intro cs h
        have h : ((compS G N m sc T n a).bind fun c => (compSs (compS G N m sc T n) ss).bind fun cs => some (.cons c cs)) = some cs := h
        obtain ⟨c1, h1, h⟩ := bd h
        obtain ⟨c2, h2, h⟩ := bd h
        cases h
        exact ss_cons (soundS ok hk m n h1) (ih h2)
    cases s with
    | Pass p =>
      cases h
      exact st_pass
    | Break p =>
      cases h
      exact st_brk
    | Continue p =>
      cases h
      exact st_cont
    | Return o p =>
      cases o with
      | none =>
        cases h
        exact st_retn
      | some e =>
        have h : ((compE G N m sc T e).bind fun c => some (.ret c)) = some c := h
        obtain ⟨c1, h1, h⟩ := bd h
        cases h
        exact st_ret (hf _ _ h1).1
    | Expr e p =>
      have h : gd (notComp e) ((compE G N m sc T e).bind fun c => some (.expr c)) = some c := h
      obtain ⟨h0, h⟩ := gd_some h
      obtain ⟨c1, h1, h⟩ := bd h
      cases h
      exact st_expr (hf _ _ h1).1 (sw_none h0 _ _ _)
    | Assign tgs e p =>
      cases tgs with
      | nil => cases h
      | cons tg r =>
        cases r with
        | nil =>
          by_cases hta : ∃ o f p, tg = .Attribute o f p
          · obtain ⟨o, f, pa, rfl⟩ := hta
            have h : ((G.cls pa).bind fun c => gd (G.fa c f && notComp e) ((compE G N m sc T o).bind fun co => (compE G N m sc T e).bind fun ce => some (.sat c f co ce))) = some c := h
            obtain ⟨cl, hcl, h⟩ := bd h
            obtain ⟨h0, h⟩ := gd_some h
            obtain ⟨c1, h1, h⟩ := bd h
            obtain ⟨c2, h2, h⟩ := bd h
            cases h
            rw [Bool.and_eq_true] at h0
            exact st_sat (ok.at_ _ _ h0.1) (hf _ _ h1).1 (hf _ _ h2).1 (sw_none h0.2 _ _ _)
          · exact as_ok ok hk m (fun e c q => g_ok ok hf m q) (show compAs (compE G N m sc T) (compG (compE G N m sc T) N sc T m) N sc T tg e = some c from by
              cases tg with
              | Attribute o f p => exact absurd ⟨o, f, p, rfl⟩ hta
              | _ => exact h)
        | cons _ _ => cases tg <;> cases h
    | If t a b p =>
      have h : ((compE G N m sc T t).bind fun c => (compSs (compS G N m sc T n) a).bind fun d => (compSs (compS G N m sc T n) b).bind fun h => some (.iff c d h)) = some c := h
      obtain ⟨c1, h1, h⟩ := bd h
      obtain ⟨c2, h2, h⟩ := bd h
      obtain ⟨c3, h3, h⟩ := bd h
      cases h
      exact st_if (hf _ _ h1).2 (all h2) (all h3)
    | For tg it body orelse p =>
      cases orelse with
      | nil =>
        have h : ((compI (compE G N m sc T) sc tg it).bind fun ci => (compG (compE G N m sc T) N sc T m tg).bind fun ct => (compSs (compS G N m sc T n) body).bind fun cb => some (.forr ct ci cb)) = some c := h
        obtain ⟨c1, h1, h⟩ := bd h
        obtain ⟨c2, h2, h⟩ := bd h
        obtain ⟨c3, h3, h⟩ := bd h
        cases h
        exact st_for ok.pown ok.calm (i_ok ok hf h1) (g_ok ok hf m h2) (all h3) (notSet_fold (compI_set h1))
      | cons _ _ => cases h
    | While t body orelse p =>
      cases orelse with
      | nil =>
        have h : ((compE G N m sc T t).bind fun c => (compSs (compS G N m sc T n) body).bind fun cb => some (.whl c cb)) = some c := h
        obtain ⟨c1, h1, h⟩ := bd h
        obtain ⟨c3, h3, h⟩ := bd h
        cases h
        exact st_while ok.pown (hf _ _ h1).2 (all h3)
      | cons _ _ => cases h
    | _ => cases h
end
end Mv

/-! MvP: the defs of a text, by their runs. -/
namespace Mv
open PySem PySem.Spec PyProof.Rows L2
/-! ### cells given up -/
section
variable {K : Pm} {hs : List Addr} {H : Hp} {as bs : List Addr} {S : Store} {n : Nat}
theorem nm_sub (p : as <+: bs) {a : Addr} (h : Nm hs bs a) : Nm hs as a := ⟨fun m => h.1 (p.subset m), h.2⟩
theorem pur_tup {vs : List Val} (h : pur (.tup vs) = true) : purs vs = true := by rw [pur] at h; exact h
theorem purs_cons {v : Val} {vs : List Val} (h : purs (v :: vs) = true) : pur v = true ∧ purs vs = true := by
  rw [purs, Bool.and_eq_true] at h
  exact h
mutual
theorem RV.pur (p : as <+: bs) : ∀ {v : Val} {x : V}, RV K hs H bs v x → Mv.pur v = true → RV K hs H as v x
  | _, _, .non, _ => .non
  | _, _, .bl b, _ => .bl b
  | _, _, .int i, _ => .int i
  | _, _, .str z, _ => .str z
  | _, _, .ty n, _ => .ty n
  | _, _, .ref h, q => by rw [Mv.pur] at q; cases q
  | _, _, .tup h t, q => .tup (h.elim (fun h => .inl ⟨h.1, nm_sub p h.2⟩) .inr) (RVs.pur p t (by rw [Mv.pur] at q; exact q))
  | _, _, .fz h t, q => .fz ⟨h.1, nm_sub p h.2⟩ (RVs.pur p t (by rw [Mv.pur] at q; exact q))
  | _, _, .wr h t, q => by rw [Mv.pur] at q; cases q
  | _, _, .ob ⟨C, dx, h1, h2, h3, h4, n1, n2⟩ t, q => .ob ⟨C, dx, h1, h2, h3, h4, nm_sub p n1, nm_sub p n2⟩ (RVs.pur p t (by rw [Mv.pur] at q; exact q))
  | _, _, .tud ⟨o, h1, h2, h3, n⟩ t, q => .tud ⟨o, h1, h2, h3, nm_sub p n⟩ (RVs.pur p t (by rw [Mv.pur] at q; exact q))
  | _, _, .dc ⟨l, h⟩ t, q => .dc ⟨l, h.elim (fun ⟨kvs, h1, n1, h2⟩ => .inl ⟨kvs, h1, nm_sub p n1, h2⟩) .inr⟩ (RVs.pur p t (by rw [Mv.pur] at q; exact q))
  | _, _, .er ⟨C, dx, h1, h2, h3, h4, n1, n2⟩ t, q => .er ⟨C, dx, h1, h2, h3, h4, nm_sub p n1, nm_sub p n2⟩ (RVs.pur p t (by rw [Mv.pur] at q; exact q))
theorem RVs.pur (p : as <+: bs) : ∀ {vs : List Val} {xs : List V}, RVs K hs H bs vs xs → purs vs = true → RVs K hs H as vs xs
  | _, _, .nil, _ => .nil
  | _, _, .cons h t, q => .cons (RV.pur p h (purs_cons q).1) (RVs.pur p t (purs_cons q).2)
end
theorem rvs_by {R : Val → V → Prop} (f : Val → Option Val) (hf : ∀ v x w, f v = some w → R v x → RV K hs H as w x) : ∀ {vs ws : List Val} {xs : List V}, mapO f vs = some ws → (∀ (i : Nat) (v : Val) (x : V), vs[i]? = some v → xs[i]? = some x → R v x) → vs.length = xs.length → RVs K hs H as ws xs
  | [], ws, xs, h, _, l => by
    cases h
    cases xs with
    | nil => exact .nil
    | cons _ _ => cases l
  | v :: vs, ws, xs, h, g, l => by
    obtain ⟨b, bs, rfl, h1, h2⟩ := mapO_cons h
    cases xs with
    | nil => cases l
    | cons x xs => exact .cons (hf v x b h1 (g 0 v x rfl rfl)) (rvs_by f hf h2 (fun i v x a b => g (i + 1) v x a b) (Nat.succ.inj l))
theorem RVs.at_ : ∀ {vs : List Val} {xs : List V}, RVs K hs H bs vs xs → ∀ (i : Nat) (v : Val) (x : V), vs[i]? = some v → xs[i]? = some x → RV K hs H bs v x := fun t i v x a b => by
  obtain ⟨y, h1, h2⟩ := t.get a
  rw [b] at h1
  cases h1
  exact h2
/-- a frozen value -/
theorem RV.frz (rs : RS K hs H bs S) (p : as <+: bs) (hn : as.length = n) : ∀ (d : Nat) {v w : Val} {x : V}, frzV S n d v = some w → RV K hs H bs v x → RV K hs H as w x
  | 0, v, w, x, h, r => by
    unfold frzV at h
    split at h
    · rename_i q
      cases h
      exact r.pur p q
    · cases h
  | d + 1, v, w, x, h, r => by
    have rec_ : ∀ {vs ws : List Val} {xs : List V}, mapO (frzV S n d) vs = some ws → RVs K hs H bs vs xs → RVs K hs H as ws xs := fun {vs ws xs} e t =>
      rvs_by (R := RV K hs H bs) (frzV S n d) (fun v x w e r => RV.frz rs p hn d e r) e t.at_ t.length
    unfold frzV at h
    split at h
    · rename_i q
      cases h
      exact r.pur p q
    · cases r with
      | @ref k a hk =>
        simp only at h
        split at h
        · rename_i hlt
          cases h
          refine .ref ?_
          obtain ⟨t, rfl⟩ := p
          rw [List.getElem?_append_left (by omega)] at hk
          exact hk
        · rename_i hge
          have ha : a ∉ as := fun m => by
            obtain ⟨j, hj, e⟩ := List.getElem_of_mem m
            have h1 : bs[j]? = some a := pre_get p (by rw [← e]; exact List.getElem?_eq_getElem hj)
            have := rs.uniq hk h1
            omega
          have nmA : Nm hs as a := ⟨ha, rs.dis a (List.mem_of_getElem? hk)⟩
          split at h
          · rename_i vs e0
            rw [Option.map_eq_some_iff] at h
            obtain ⟨ws, e1, e2⟩ := h
            subst e2
            obtain ⟨xs, h1, t⟩ := rs.at_ k a _ hk e0
            exact .fz ⟨h1, nmA⟩ (rec_ e1 t)
          · rename_i c ks vs e0
            rw [Option.map_eq_some_iff] at h
            obtain ⟨ws, e1, e2⟩ := h
            subst e2
            obtain ⟨C, dx, xs, h1, h2, h3, h4, n2, t⟩ := rs.at_ k a _ hk e0
            exact .ob ⟨C, dx, h1, h2, h3, h4, nmA, nm_sub p n2⟩ (rec_ e1 t)
          · cases h
      | tup hh t =>
        simp only at h
        rw [Option.map_eq_some_iff] at h
        obtain ⟨ws, e1, e2⟩ := h
        subst e2
        exact .tup (hh.elim (fun h => .inl ⟨h.1, nm_sub p h.2⟩) .inr) (rec_ e1 t)
      | fz hh t =>
        simp only at h
        rw [Option.map_eq_some_iff] at h
        obtain ⟨ws, e1, e2⟩ := h
        subst e2
        exact .fz ⟨hh.1, nm_sub p hh.2⟩ (rec_ e1 t)
      | ob hh t =>
        simp only at h
        rw [Option.map_eq_some_iff] at h
        obtain ⟨ws, e1, e2⟩ := h
        subst e2
        obtain ⟨C, dx, h1, h2, h3, h4, n1, n2⟩ := hh
        exact .ob ⟨C, dx, h1, h2, h3, h4, nm_sub p n1, nm_sub p n2⟩ (rec_ e1 t)
      | er hh t =>
        simp only at h
        rw [Option.map_eq_some_iff] at h
        obtain ⟨ws, e1, e2⟩ := h
        subst e2
        obtain ⟨C, dx, h1, h2, h3, h4, n1, n2⟩ := hh
        exact .er ⟨C, dx, h1, h2, h3, h4, nm_sub p n1, nm_sub p n2⟩ (rec_ e1 t)
      | tud hh t =>
        simp only at h
        rw [Option.map_eq_some_iff] at h
        obtain ⟨ws, e1, e2⟩ := h
        subst e2
        obtain ⟨o, h1, h2, h3, n⟩ := hh
        exact .tud ⟨o, h1, h2, h3, nm_sub p n⟩ (rec_ e1 t)
      | dc hh t =>
        simp only at h
        rw [Option.map_eq_some_iff] at h
        obtain ⟨ws, e1, e2⟩ := h
        subst e2
        obtain ⟨l, h⟩ := hh
        exact .dc ⟨l, h.elim (fun ⟨kvs, h1, n1, h2⟩ => .inl ⟨kvs, h1, nm_sub p n1, h2⟩) .inr⟩ (rec_ e1 t)
      | _ => cases h
/-- a value that names no cell given up -/
theorem RV.cl (p : as <+: bs) (hn : as.length = n) : ∀ (d : Nat) {v : Val} {x : V}, clV n d v = true → RV K hs H bs v x → RV K hs H as v x
  | 0, v, x, h, r => r.pur p h
  | d + 1, v, x, h, r => by
    have rec_ : ∀ {vs : List Val} {xs : List V}, vs.all (clV n d) = true → RVs K hs H bs vs xs → RVs K hs H as vs xs := by
      intro vs
      induction vs with
      | nil =>
        intro xs _ t
        cases t
        exact .nil
      | cons v vs ih =>
        intro xs q t
        rw [List.all_cons, Bool.and_eq_true] at q
        cases t with
        | cons r t => exact .cons (RV.cl p hn d q.1 r) (ih q.2 t)
    unfold clV at h
    rw [Bool.or_eq_true] at h
    rcases h with h | h
    · exact r.pur p h
    · cases r with
      | @ref k a hk =>
        have h := of_decide_eq_true h
        refine .ref ?_
        obtain ⟨t, rfl⟩ := p
        rw [List.getElem?_append_left (by omega)] at hk
        exact hk
      | tup hh t => exact .tup (hh.elim (fun h => .inl ⟨h.1, nm_sub p h.2⟩) .inr) (rec_ h t)
      | fz hh t => exact .fz ⟨hh.1, nm_sub p hh.2⟩ (rec_ h t)
      | ob hh t =>
        obtain ⟨C, dx, h1, h2, h3, h4, n1, n2⟩ := hh
        exact .ob ⟨C, dx, h1, h2, h3, h4, nm_sub p n1, nm_sub p n2⟩ (rec_ h t)
      | er hh t =>
        obtain ⟨C, dx, h1, h2, h3, h4, n1, n2⟩ := hh
        exact .er ⟨C, dx, h1, h2, h3, h4, nm_sub p n1, nm_sub p n2⟩ (rec_ h t)
      | tud hh t =>
        obtain ⟨o, h1, h2, h3, n⟩ := hh
        exact .tud ⟨o, h1, h2, h3, nm_sub p n⟩ (rec_ h t)
      | dc hh t =>
        obtain ⟨l, hz⟩ := hh
        exact .dc ⟨l, hz.elim (fun ⟨kvs, h1, n1, h2⟩ => .inl ⟨kvs, h1, nm_sub p n1, h2⟩) .inr⟩ (rec_ h t)
      | _ => cases h
theorem rvs_cl (p : as <+: bs) (hn : as.length = n) {d : Nat} : ∀ {vs : List Val} {xs : List V}, vs.all (clV n d) = true → RVs K hs H bs vs xs → RVs K hs H as vs xs
  | _, _, _, .nil => .nil
  | _, _, q, .cons r t => by
    rw [List.all_cons, Bool.and_eq_true] at q
    exact .cons (r.cl p hn d q.1) (rvs_cl p hn q.2 t)
theorem RS.cut (rs : RS K hs H bs S) (p : as <+: bs) (hn : as.length = n) (h : clS n S = true) : RS K hs H as (S.take n) := by
  have hl : n ≤ S.length := by
    rw [← rs.len, ← hn]
    exact p.length_le
  refine ⟨by rw [hn, List.length_take]; omega, rs.nd.sublist p.sublist, fun k a o hk ho => ?_, rs.hid, fun a ha => rs.dis a (p.subset ha)⟩
  have hb := pre_get p hk
  have ho2 : S[k]? = some o := by
    have hk2 : k < n := by
      have := (List.getElem?_eq_some_iff.mp ho).1
      rw [List.length_take] at this
      omega
    rw [List.getElem?_take_of_lt hk2] at ho
    exact ho
  have ro := rs.at_ k a o hb ho2
  have hc : o.vals.all (clV n 20) = true := List.all_eq_true.mp h o (List.mem_of_getElem? ho)
  cases o with
  | lst vs =>
    obtain ⟨xs, h1, t⟩ := ro
    exact ⟨xs, h1, rvs_cl p hn hc t⟩
  | ins c ks vs =>
    obtain ⟨C, dx, xs, h1, h2, h3, h4, n2, t⟩ := ro
    exact ⟨C, dx, xs, h1, h2, h3, h4, nm_sub p n2, rvs_cl p hn hc t⟩
theorem Kp.cut (k : Ks as bs H H') : Ks as as H H' := ⟨k.keep, fun _ h => .inl h⟩
theorem end_fin {gc : Bool} {E : XK} {H : Hp} {as : List Addr} {o : SO} {Q : VK} (hn : as.length = n) (h : FinV K hs E as H (fin gc n (endR o)) Q) : FinS K (fun _ => E) hs as H o { nx := fun _ H' => Q .non H', rt := Q } := by
  have val : ∀ {v : Val} {S : Store}, FinV K hs E as H (fin gc n (.ok v S)) Q → ∀ bs H' x, as <+: bs → Ks as bs H H' → RS K hs H' bs S → RV K hs H' bs v x → Q x H' := by
    intro v S h bs H' x p k rs r
    cases gc with
    | false => exact h bs H' x p k rs r
    | true =>
      unfold fin gcV at h
      simp only at h
      split at h
      · exact h bs H' x p k rs r
      · split at h
        · rename_i hc
          split at h
          · rename_i w hw
            exact h as H' x (List.prefix_refl _) k.cut (rs.cut p hn hc) (r.frz rs p hn 20 hw)
          · exact h.elim
        · exact h.elim
  cases o with
  | nx r S => exact fun bs H' σ' p k rs rr => val (v := .non) h bs H' .non p k rs .non
  | rt v S => exact fun bs H' x p k rs rv => val h bs H' x p k rs rv
  | bk r S => cases gc <;> exact h.elim
  | ct r S => cases gc <;> exact h.elim
  | ex e r S =>
    intro bs H' σ' C d p k rs rr rx
    cases gc with
    | false => exact h bs H' C d p k rs rx
    | true =>
      unfold fin endR gcV at h
      simp only at h
      split at h
      · exact h bs H' C d p k rs rx
      · split at h
        · rename_i hc
          obtain ⟨h1, xs, h2, h3, h4, h5⟩ := rx
          exact h as H' C d (List.prefix_refl _) k.cut (rs.cut p hn hc.1) ⟨h1, xs, h2, h3, nm_sub p h4, h5.pur p hc.2⟩
        · exact h.elim
  | no => cases gc <;> exact h.elim
end
section
variable {K : Pm} {hs : List Addr}
theorem rr_start {H : Hp} {as : List Addr} {ws : List Val} {vs : List V} {N : List Str} (h : RVs K hs H as ws vs) (n : Nat) (hn : n = N.length) : RR K hs H as (startR n ws) (L2.start N vs) := by
  subst hn
  have l := h.length
  refine ⟨by simp [startR, L2.start, l], fun i v e => ?_⟩
  unfold startR at e
  by_cases hi : i < ws.length
  · rw [List.getElem?_append_left (by simpa using hi), List.getElem?_map] at e
    cases q : ws[i]? with
    | none =>
      rw [q] at e
      cases e
    | some u =>
      rw [q] at e
      cases e
      obtain ⟨x, h1, h2⟩ := h.get q
      refine ⟨x, ?_, h2⟩
      unfold L2.start
      rw [List.getElem?_append_left (by rw [List.length_map, ← l]; exact hi), List.getElem?_map, h1]
      rfl
  · rw [List.getElem?_append_right (by simpa using hi), List.getElem?_replicate] at e
    split at e <;> cases e
end
/-! ### what the head says of a def and its code -/
/-- a fixed number of parameters -/
structure FixHas (G : GT) (K : Pm) (fd : FuncData) (ps : List Str) (f m : Nat) : Prop where
  ex : G.ex f = true → Binds K.K fd ps []
  dc : ∀ k ds, G.dcs f k = some ds → ∃ us dvs, Vals dvs us ∧ (∀ hs H as, RVs K hs H as ds dvs) ∧ Binds K.K fd ps us
  kc : ∀ k ks src, G.kcs f k ks = some src → ∃ gg gV, KBn K.K fd ps k ks gg gV ∧ KwRel K k ks src gV
/-- the last one takes what is left -/
structure VarHas (G : GT) (K : Pm) (fa : Addr) (fd : FuncData) (nm qual : Str) (params : Arguments) (body : List Stmt) (scope : Scope) (ps : List Str) (f : Nat) : Prop where
  ex : G.ex f = true
  dc : ∀ k, G.dcs f k = none
  kc : ∀ k ks, G.kcs f k ks = none
  fd : ∃ (qs : List Str) (pv : Str) (oc : Value) (od : Option Addr) (dV kV doc pm : Value) (an : Option Addr) (cdv ct : Value) (osl : Array (Option Value)), ps = qs ++ [pv] ∧
    K.K.lookup fa = some ⟨oc, od, .func (PySem.W.fnOf nm qual params body scope dV kV doc pm an cdv ct), osl⟩ ∧ PySem.W.codeIn K.K cdv qual = true ∧
    ∀ us rest : List Value, us.length = qs.length → bindArgs (PySem.W.fnOf nm qual params body scope dV kV doc pm an cdv ct) ⟨us ++ rest, []⟩ = (newTuple rest >>= fun t => pure (qs.zip us ++ [(pv, t)]))
/-- a def and its code -/
structure DefCore (G : GT) (T : Tab) (D : Nat) (K : Pm) (fa : Addr) (f m : Nat) : Prop where
  ex : ∃ (fd : FuncData) (ps N : List Str) (nm qual : Str) (params : Arguments) (body : List Stmt) (scope : Scope) (dvs : List V) (kws : List (Str × V)) (cd : Fn) (mu : Pos → Bool) (va : Pos → Nat) (cls : Pos → Option Str),
    FunD K.K nm qual params body scope dvs kws fa fd ∧ FnScope N ps scope ∧ T.fn f = some cd ∧ cd.ar = m ∧ ps.length = m ∧ cd.slots = N.length ∧
    compSs (compS { G with mu := mu, va := va, cls := cls } N D scope (fun _ => true) D) body = some cd.body ∧ ((cd.va = false ∧ FixHas G K fd ps f m) ∨ (cd.va = true ∧ VarHas G K fa fd nm qual params body scope ps f))
structure DefHas (G : GT) (T : Tab) (D : Nat) (K : Pm) (x : Str) (f m : Nat) : Prop where
  ex : ∃ fa : Addr, K.mg x = some (.ref fa) ∧ DefCore G T D K fa f m
structure MetHas (G : GT) (T : Tab) (D : Nat) (K : Pm) (c m : Str) (f : Nat) : Prop where
  ex : ∃ (C fa : Addr) (a : Nat), K.mg c = some (.ref C) ∧ Cls K.K C ∧ Meth K.K C m fa ∧ DefCore G T D K fa f a
structure MakHas (G : GT) (T : Tab) (D : Nat) (K : Pm) (c : Str) (f m : Nat) : Prop where
  ex : ∃ (C fI : Addr), K.mg c = some (.ref C) ∧ Mk K.K C fI ∧ DefCore G T D K fI f m
/-- what a def promises -/
structure FnCore (G : GT) (g : Cfg) (n : Nat) (P : Program) (w : World) (K : Pm) (base : Heap) (fa : Addr) (f m : Nat) : Prop where
  kp : PySem.W.keepIn K.K (.ref fa) = true
  ex : G.ex f = true → FnR P w K.K K.mg base (L2.CX P w) n fa (spR K (g.R f))
  dc : ∀ k ds, G.dcs f k = some ds → ∃ dvs, (∀ hs H as, RVs K hs H as ds dvs) ∧ FnR P w K.K K.mg base (L2.CX P w) n fa (fun vs H Q E => spF K m (g.R f) (vs ++ dvs) H Q E)
  kc : ∀ k ks src, G.kcs f k ks = some src → ∃ (fd : FuncData) (ps : List Str) (gg : List Value → List Value → List Value) (gV : List V → List V → List V), FnOk P w K.K K.mg base (L2.CX P w) n fa fd ps (spF K m (g.R f)) ∧ KBn K.K fd ps k ks gg gV ∧ KwRel K k ks src gV
  ar : G.ex f = false ∨ (∃ k ks src, G.kcs f k ks = some src) → ∀ ws S, ws.length ≠ m → g.R f ws S = .no
/-- what the head says of the text -/
structure Says (G : GT) (T : Tab) (D : Nat) (K : Pm) (P : Program) : Prop where
  free : ∀ x ∈ freeNames, K.mg x = none
  kv : ∀ x, G.kvs x = true → ∃ v y u, T.kv x = some v ∧ K.mg x = some u ∧ RelV y u ∧ ∀ hs H as, RV K hs H as v y
  fn : ∀ k x f m, G.fns k x = some (f, m) → DefHas G T D K x f m
  mt : ∀ k c m f a, G.mts k c m = some (f, a) → MetHas G T D K c m f
  mak : ∀ k c f a, G.mks k c = some (f, a) → MakHas G T D K c f a
  at_ : ∀ c f, G.fa c f = true → ∀ C, K.mg c = some (.ref C) → Cls K.K C ∧ NoAttr K.K C f
  cs : ∀ key c f, G.csf key = some (c, f) → ∃ (C : Addr) (mc : Value) (v : Val) (y : V) (u : Value), K.mg c = some (.ref C) ∧ ClX.CRead K.K C mc ∧ ClX.CVal K.K C mc f y u ∧ T.kv key = some v ∧ ∀ hs H as, RV K hs H as v y
  er : ∀ x ps l, G.ers x = some (ps, l) → ∃ C, K.mg x = some (.ref C) ∧ ErC P K.K K.mg C ps l
  erf : ∀ f, ∀ c ∈ G.erc f, ∃ C, K.mg c = some (.ref C) ∧ XfC K.K C ∧ PySem.W.findIn K.K (.ref C) f = some none
  isc : ∀ x t, G.isc x = some t → ∃ (y : V) (u : Value), (K.mg x = some u ∨ (K.mg x = none ∧ bootBuiltins x = some u)) ∧ RelV y u ∧ (∀ z, RelV y z → z = u) ∧ ∀ c b, t.lookup c = some b → ∃ C, K.mg c = some (.ref C) ∧ ExcC K.K C ∧ PySem.W.kitOne K.K (.ref C) u = some b
section
variable {G : GT} {T : Tab} {D : Nat} {P : Program} {K : Pm} {base : Heap}
theorem run_len {f m n : Nat} {cd : Fn} (hc : T.fn f = some cd) (hv : cd.va = false) (ha : cd.ar = m) {ws : List Val} {S : Store} (h : ws.length ≠ m) : T.run n f ws S = .no := by
  cases n with
  | zero => rfl
  | succ n =>
    show (match T.fn f with
      | some d => match d.args ws with
        | some ws => fin d.gc S.length (endR (evSs ⟨T.run n, T.kv⟩ d.body (startR d.slots ws) S))
        | none => .no
      | none => .no) = .no
    rw [hc]
    have : cd.args ws = none := by
      unfold Fn.args
      rw [hv]
      exact if_neg (by rw [ha]; exact h)
    simp only [this]
theorem run_eq {f n : Nat} {cd : Fn} (hc : T.fn f = some cd) {ws us : List Val} {S : Store} (h : cd.args ws = some us) : T.run (n + 1) f ws S = fin cd.gc S.length (endR (evSs ⟨T.run n, T.kv⟩ cd.body (startR cd.slots us) S)) := by
  show (match T.fn f with
      | some d => match d.args ws with
        | some ws => fin d.gc S.length (endR (evSs ⟨T.run n, T.kv⟩ d.body (startR d.slots ws) S))
        | none => .no
      | none => .no) = _
  rw [hc]
  simp only [h]
/-- the promise of any number of arguments from that of all -/
theorem raw_of {n : Nat} {fa : Addr} {fd : FuncData} {ps : List Str} {m : Nat} {R : List Val → Store → Out Val} (F : FnOk P K.w K.K K.mg base (L2.CX P K.w) n fa fd ps (spF K m R)) (hL : ∀ ws S, ws.length ≠ m → R ws S = .no) (hb : Binds K.K fd ps []) : FnR P K.w K.K K.mg base (L2.CX P K.w) n fa (spR K R) :=
  (F.raw hb .nil).imp fun vs H Q E ⟨hs, as, S, ws, rs, rv, f⟩ => by
    rw [List.append_nil]
    refine ⟨?_, hs, as, S, ws, rs, rv, f⟩
    rw [← rv.length]
    by_cases hq : ws.length = m
    · exact hq
    · rw [hL _ S hq] at f
      exact f.elim
/-- the kernel of it: every def at every level -/
theorem all_have {g : Cfg} {n : Nat} (Y : Says G T D K P) (h : ∀ fa f m, DefCore G T D K fa f m → FnCore G g n P K.w K base fa f m) : (∀ k x f m, G.fns k x = some (f, m) → FnHave G g n P K.w K base x f m) ∧ (∀ k c m f a, G.mts k c m = some (f, a) → MetHave G g n P K.w K base c m f) ∧
    (∀ k c f a, G.mks k c = some (f, a) → MakHave G g n P K.w K base c f a) := by
  refine ⟨fun k x f m e => ?_, fun k c m f a e => ?_, fun k c f a e => ?_⟩
  · obtain ⟨fa, h1, h2⟩ := (Y.fn k x f m e).ex
    have q := h fa f m h2
    exact ⟨⟨fa, h1, q.kp, q.ex, q.dc, q.kc⟩, q.ar⟩
  · obtain ⟨C, fa, a', h1, h2, h3, h4⟩ := (Y.mt k c m f a e).ex
    exact ⟨⟨C, fa, h1, h2, h3, (h fa f a' h4).ex⟩⟩
  · obtain ⟨C, fI, h1, h2, h3⟩ := (Y.mak k c f a e).ex
    have q := h fI f a h3
    exact ⟨⟨C, fI, h1, h2, q.ex, q.kc⟩, fun z => q.ar (.inr z)⟩
theorem tab_ok (Y : Says G T D K P) : ∀ (n : Nat) (fa : Addr) (f m : Nat), DefCore G T D K fa f m → FnCore G ⟨T.run n, T.kv⟩ (2 * n) P K.w K base fa f m := by
  -- a body keeps the promise
  have body_ok : ∀ {n : Nat} {mu : Pos → Bool} {va : Pos → Nat} {cls : Pos → Option Str} {N ps : List Str} {nm qual : Str} {scope : Scope} {body : List Stmt} {fa : Addr} {cd : Fn} {cdv : Value} {A : Around} {outer : List Env} {s : Shared} {H : Hp} {E : XK}, FnScope N ps scope → Room (2 * n + 1) (A.deeper (envOfC qual scope s.heap.objs.size fa cdv)) →
      (∀ fa f m, DefCore G T D K fa f m → FnCore G ⟨T.run n, T.kv⟩ (2 * n) P K.w K base fa f m) → compSs (compS { G with mu := mu, va := va, cls := cls } N D scope (fun _ => true) D) body = some cd.body →
      SSs (cxOf (L2.CX P K.w) P K.w K.K K.mg base N qual scope fa cdv A outer s H E) (fun _ => E) ⟨T.run n, T.kv⟩ body cd.body := by
    intro n mu va cls N ps nm qual scope body fa cd cdv A outer s H E S hr hfn hcomp
    obtain ⟨hf1, hf2, hf3⟩ := all_have Y hfn
    have ok : OK { G with mu := mu, va := va, cls := cls } ⟨T.run n, T.kv⟩ (2 * n) (cxOf (L2.CX P K.w) P K.w K.K K.mg base N qual scope fa cdv A outer s H E) (fun _ => E) N scope (fun _ => true) :=
      { hN := rfl
        hsc := rfl
        nd := S.nd
        calm := rfl
        room1 := hr
        pown := passes_of rfl
        tk := takes_of rfl rfl rfl rfl
        free := Y.free
        kv := Y.kv
        fn := fun k x f m h => ⟨(hf1 k x f m h).ex, (hf1 k x f m h).ar⟩
        mt := fun k c m f a h => ⟨(hf2 k c m f a h).ex⟩
        mak := fun k c f a h => ⟨(hf3 k c f a h).ex, (hf3 k c f a h).ar⟩
        at_ := Y.at_
        cs := Y.cs
        er := Y.er
        erf := Y.erf
        isc := Y.isc
        tg := fun _ _ _ => .inl rfl }
    have all : ∀ {ss : List Stmt} {cs : C}, compSs (compS { G with mu := mu, va := va, cls := cls } N D scope (fun _ => true) D) ss = some cs → SSs (cxOf (L2.CX P K.w) P K.w K.K K.mg base N qual scope fa cdv A outer s H E) (fun _ => E) ⟨T.run n, T.kv⟩ ss cs := by
      intro ss
      induction ss with
      | nil =>
        intro cs h
        cases h
        exact ss_nil
      | cons a ss ih =>
        intro cs h
        have h : ((compS { G with mu := mu, va := va, cls := cls } N D scope (fun _ => true) D a).bind fun c => (compSs (compS { G with mu := mu, va := va, cls := cls } N D scope (fun _ => true) D) ss).bind fun cs => some (.cons c cs)) = some cs := h
        obtain ⟨c1, h1, h⟩ := bd h
        obtain ⟨c2, h2, h⟩ := bd h
        cases h
        exact ss_cons (soundS ok S.kind D D h1) (ih h2)
    exact all hcomp
  intro n
  induction n with
  | zero =>
    intro fa f m h
    obtain ⟨fd, ps, N, nm, qual, params, body, scope, dvs, kws, cd, mu, va, cls, F, S, hc, har, hps, hsl, hcomp, hv⟩ := h.ex
    refine ⟨F.kp, fun _ A outer s H us vs Q E _ _ _ ⟨_, as, S, ws, _, _, fin⟩ => fin.elim, fun k ds hd => ?_, fun k ks src hk => ?_, fun _ _ _ _ => rfl⟩
    · rcases hv with ⟨_, hx⟩ | ⟨_, hx⟩
      · obtain ⟨us, dvs, _, hr, _⟩ := hx.dc k ds hd
        exact ⟨dvs, hr, fun A outer s H us vs Q E _ _ _ ⟨_, _, as, S, ws, _, _, fin⟩ => fin.elim⟩
      · rw [hx.dc k] at hd
        cases hd
    · rcases hv with ⟨_, hx⟩ | ⟨_, hx⟩
      · obtain ⟨gg, gV, h1, h2⟩ := hx.kc k ks src hk
        exact ⟨fd, ps, gg, gV, ⟨fun vs H Q E ⟨hl, _⟩ => by rw [hl, hps], fun A outer s H args us vs Q E _ _ _ _ ⟨_, _, as, S, ws, _, _, fin⟩ => fin.elim⟩, h1, h2⟩
      · rw [hx.kc k ks] at hk
        cases hk
  | succ n ihn =>
    intro fa f m h
    obtain ⟨fd, ps, N, nm, qual, params, body, scope, dvs, kws, cd, mu, va, cls, F, S, hc, har, hps, hsl, hcomp, hv⟩ := h.ex
    rcases hv with ⟨hva, hx⟩ | ⟨hva, hx⟩
    · have hL : ∀ ws S, ws.length ≠ m → T.run (n + 1) f ws S = .no := fun ws S hq => run_len hc hva har hq
      have FO : FnOk P K.w K.K K.mg base (L2.CX P K.w) (2 * n + 1 + 1) fa fd ps (spF K m (T.run (n + 1) f)) := by
        refine F.ok S (fun vs H Q E ⟨hl, _⟩ => by rw [hl, hps]) (fun cdv A outer s H vs Q E hr hsp => ?_)
        obtain ⟨hl, hs, as, S0, ws, rs, rv, fin⟩ := hsp
        refine ⟨_, body_ok (nm := nm) S hr ihn hcomp, hs, as, S0, startR cd.slots ws, rs, rr_start rv _ hsl, ?_⟩
        have ha : cd.args ws = some ws := by
          unfold Fn.args
          rw [hva]
          exact if_pos (by rw [har, rv.length, hl])
        rw [run_eq hc ha] at fin
        exact end_fin rs.len fin
      refine ⟨F.kp, fun he => raw_of FO hL (hx.ex he), fun k ds hd => ?_, fun k ks src hk => ?_, fun _ => hL⟩
      · obtain ⟨us, dvs, hvl, hr, hb⟩ := hx.dc k ds hd
        exact ⟨dvs, hr, FO.raw hb hvl⟩
      · obtain ⟨gg, gV, h1, h2⟩ := hx.kc k ks src hk
        exact ⟨fd, ps, gg, gV, FO, h1, h2⟩
    · have hn1 : ∀ (k : Nat) (ds : List Val), G.dcs f k ≠ some ds := fun k ds hd => by
        rw [hx.dc k] at hd
        cases hd
      have hn2 : ∀ (k : Nat) (ks : List Str) (src : List Src), G.kcs f k ks ≠ some src := fun k ks src hd => by
        rw [hx.kc k ks] at hd
        cases hd
      refine ⟨F.kp, fun _ => ?_, fun k ds hd => (hn1 k ds hd).elim, fun k ks src hk => (hn2 k ks src hk).elim, fun hq => ?_⟩
      · obtain ⟨qs, pv, oc, od, dV, kV, doc, pm, an, cdv, ct, osl, rfl, lk, hcd, hb⟩ := hx.fd
        refine (StX.fn_star (P := P) (w := K.w) (base := base) (k := 2 * n + 1) (CX := L2.CX P K.w) (sp := fun vs H Q E => vs.length = m ∧ ∃ hs as S us, RS K hs H as S ∧ RVs K hs H as us vs ∧ FinV K hs E as H (fin cd.gc S.length (endR (evSs ⟨T.run n, T.kv⟩ cd.body (startR cd.slots us) S))) Q) lk hcd S StX.cxUp hb (fun A outer s H vs Q E hr hsp => ?_)).imp fun vs H Q E hsp => ?_
        · obtain ⟨hl, hs, as, S0, us, rs, rv, fin⟩ := hsp
          exact ⟨_, body_ok (nm := nm) S hr ihn hcomp, hs, as, S0, startR cd.slots us, rs, rr_start rv _ hsl, end_fin rs.len fin⟩
        · obtain ⟨hs, as, S0, ws, rs, rv, fin⟩ := hsp
          have hm : qs.length + 1 = m := by
            rw [← hps, List.length_append]
            rfl
          cases ha : cd.args ws with
          | none =>
            have : T.run (n + 1) f ws S0 = .no := by
              show (match T.fn f with
                | some d => match d.args ws with
                  | some ws => Mv.fin d.gc S0.length (endR (evSs ⟨T.run n, T.kv⟩ d.body (startR d.slots ws) S0))
                  | none => .no
                | none => .no) = .no
              rw [hc]
              simp only [ha]
            have fin : FinV K hs E as H (T.run (n + 1) f ws S0) Q := fin
            rw [this] at fin
            exact fin.elim
          | some us =>
            have fin : FinV K hs E as H (T.run (n + 1) f ws S0) Q := fin
            rw [run_eq hc ha] at fin
            unfold Fn.args at ha
            rw [hva] at ha
            simp only at ha
            split at ha
            · rename_i hq
              cases ha
              have l := rv.length
              have e1 : cd.ar - 1 = qs.length := by omega
              rw [e1] at fin
              refine ⟨vs.take qs.length, vs.drop qs.length, (List.take_append_drop _ _).symm, by rw [List.length_take]; omega, by rw [List.length_drop]; exact Nat.le_trans (by omega) (sz_le hq.2.2), fun p hp => ?_⟩
              have kp : Kp hs as as H (upd H p (.tup (vs.drop qs.length))) := Kp.new hp
              refine ⟨by rw [List.length_append, List.length_take]; simp; omega, hs, as, S0, _, rs.new hp, ((rv.take qs.length).mono (List.prefix_refl _) kp).append (.cons (.tup (.inl ⟨upd_same, rs.nm hp⟩) ((rv.drop qs.length).mono (List.prefix_refl _) kp)) .nil), Fin.mono (List.prefix_refl _) (Kp.new hp) fin⟩
            · cases ha
      · rcases hq with hq | ⟨k, ks, src, hq⟩
        · rw [hx.ex] at hq
          cases hq
        · rw [hx.kc k ks] at hq
          cases hq
/-- the law's promise -/
def spL (K : Pm) (R : List Val → Store → Out Val) : Sp := fun vs H Q _ => spF K 1 R vs H Q fun _ _ _ => False
theorem law_ok (Y : Says G T D K P) (n : Nat) {f : Nat} {fa : Addr} {fd : FuncData} {x : Str} {N : List Str} {nm qual : Str} {params : Arguments} {body : List Stmt} {scope : Scope} {dvs : List V} {kws : List (Str × V)} {cd : Fn}
    (F : FunD K.K nm qual params body scope dvs kws fa fd) (S : FnScope N [x] scope) (hc : T.fn f = some cd) (har : cd.ar = 1) (hva : cd.va = false) (hsl : cd.slots = N.length)
    (hcomp : compSs (compS G N D scope (fun _ => true) D) body = some cd.body) : FnOk P K.w K.K K.mg base CX0 (2 * n + 1 + 1) fa fd [x] (spL K (T.run (n + 1) f)) := by
  refine F.ok S (fun vs H Q E ⟨hl, _⟩ => by rw [hl]; rfl) (fun cdv A outer s H vs Q E hr hsp => ?_)
  obtain ⟨hl, hs, as, S0, ws, rs, rv, fin⟩ := hsp
  obtain ⟨hf1, hf2, hf3⟩ := all_have (P := P) (base := base) (g := ⟨T.run n, T.kv⟩) (n := 2 * n) Y fun fa f m h => tab_ok Y n fa f m h
  have ok : OK G ⟨T.run n, T.kv⟩ (2 * n) (cxOf CX0 P K.w K.K K.mg base N qual scope fa cdv A outer s H E).nox W0 N scope (fun _ => true) :=
    { hN := rfl
      hsc := rfl
      nd := S.nd
      calm := rfl
      room1 := hr
      pown := PassesOwn.never
      tk := fun u s' ⟨_, _, _, _, _, _, _, _, _, _, _, _, _, _, _, _, z⟩ => z.elim
      free := Y.free
      kv := Y.kv
      fn := hf1
      mt := hf2
      mak := hf3
      at_ := Y.at_
      cs := Y.cs
      er := Y.er
      erf := Y.erf
      isc := Y.isc
      tg := fun _ _ _ => .inl rfl }
  have all : ∀ {ss : List Stmt} {cs : C}, compSs (compS G N D scope (fun _ => true) D) ss = some cs → SSs (cxOf CX0 P K.w K.K K.mg base N qual scope fa cdv A outer s H E).nox W0 ⟨T.run n, T.kv⟩ ss cs := by
    intro ss
    induction ss with
    | nil =>
      intro cs h
      cases h
      exact ss_nil
    | cons a ss ih =>
      intro cs h
      have h : ((compS G N D scope (fun _ => true) D a).bind fun c => (compSs (compS G N D scope (fun _ => true) D) ss).bind fun cs => some (.cons c cs)) = some cs := h
      obtain ⟨c1, h1, h⟩ := bd h
      obtain ⟨c2, h2, h⟩ := bd h
      cases h
      exact ss_cons (soundS ok S.kind D D h1) (ih h2)
  refine ⟨_, (all hcomp).nox, hs, as, S0, startR cd.slots ws, rs, rr_start rv _ hsl, ?_⟩
  have ha : cd.args ws = some ws := by
    unfold Fn.args
    rw [hva]
    exact if_pos (by rw [har, rv.length, hl])
  rw [run_eq hc ha] at fin
  exact end_fin rs.len fin
/-- the law's promise from the evaluator's run -/
theorem law_sp {n : Nat} {f : Nat} {ns : List Int} (hrun : ∃ S', T.run n f [.wr (ns.map .int)] [] = .ok (.bl true) S') {H : Hp} {a : Addr} (hO : Only H) (hS : SqL K.K H a (ns.map V.int)) : spL K (T.run n f) [.ref a] H (fun v _ => v = .bl true) fun _ _ _ => False := by
  obtain ⟨S', hr⟩ := hrun
  refine ⟨rfl, [], [], [], [.wr (ns.map .int)], ⟨rfl, List.nodup_nil, fun k a o hk => by simp at hk, fun h hh => by simp at hh, fun a ha => by simp at ha⟩, .cons (.wr ?_ (RVs.ints ns)) .nil, ?_⟩
  · rcases hS with (h | ⟨o, h⟩) | h
    · rcases hO a with q | ⟨o, xs, q⟩
      · rw [h] at q
        cases q
      · rw [h] at q
        cases q
    · exact .inl ⟨o, h, by simp [Nm]⟩
    · exact .inr h
  · rw [hr]
    intro bs H' b p k rs rv
    cases rv
    rfl
end
end Mv

/-! MvQ: what a def binds, from lists; the law's promise. -/
namespace Mv
open PySem PySem.Spec PyProof.Rows L2
/-- from where a parameter's value comes: a positional value, a keyword's value, the n-th filled one -/
inductive Sr where | p (i : Nat) | k (i : Nat) | m (i : Nat)
def Sr.get {α : Type} (us ms ws : List α) : Sr → Option α
  | .p i => us[i]?
  | .k i => ws[i]?
  | .m i => ms[i]?
def sel {α : Type} (src : List Sr) (us ms ws : List α) : List α := src.filterMap (Sr.get us ms ws)
def srOf : Nat → List Src → List Sr
  | _, [] => []
  | n, .p i :: l => .p i :: srOf n l
  | n, .k i :: l => .k i :: srOf n l
  | n, .d _ :: l => .m n :: srOf (n + 1) l
def dsOf : List Src → List Val
  | [] => []
  | .p _ :: l => dsOf l
  | .k _ :: l => dsOf l
  | .d v :: l => v :: dsOf l
theorem sel_cons {α : Type} (z : Sr) (src : List Sr) (us ms ws : List α) : sel (z :: src) us ms ws = (match z.get us ms ws with | some a => a :: sel src us ms ws | none => sel src us ms ws) := by
  unfold sel
  rw [List.filterMap_cons]
  cases z.get us ms ws <;> rfl
theorem mapO_sel {vs ws : List Val} : ∀ (src : List Src) (n : Nat) (pre : List Val) (us : List Val), pre.length = n → mapO (Src.get vs ws) src = some us → us = sel (srOf n src) vs (pre ++ dsOf src) ws
  | [], n, pre, us, _, e => by
    cases e
    rfl
  | z :: l, n, pre, us, hp, e => by
    rw [mapO] at e
    cases h1 : Src.get vs ws z with
    | none =>
      rw [h1] at e
      cases e
    | some b =>
      rw [h1] at e
      cases h2 : mapO (Src.get vs ws) l with
      | none =>
        rw [h2] at e
        cases e
      | some bs =>
        rw [h2] at e
        cases e
        cases z with
        | p i =>
          have h1 : vs[i]? = some b := h1
          show b :: bs = sel (.p i :: srOf n l) vs (pre ++ dsOf l) ws
          rw [sel_cons]
          simp only [Sr.get, h1]
          rw [mapO_sel l n pre bs hp h2]
        | k i =>
          have h1 : ws[i]? = some b := h1
          show b :: bs = sel (.k i :: srOf n l) vs (pre ++ dsOf l) ws
          rw [sel_cons]
          simp only [Sr.get, h1]
          rw [mapO_sel l n pre bs hp h2]
        | d v =>
          cases h1
          show b :: bs = sel (.m n :: srOf (n + 1) l) vs (pre ++ b :: dsOf l) ws
          rw [sel_cons]
          have h3 : (pre ++ b :: dsOf l)[n]? = some b := by
            rw [List.getElem?_append_right (by omega), hp, Nat.sub_self]
            rfl
          simp only [Sr.get, h3]
          rw [mapO_sel l (n + 1) (pre ++ [b]) bs (by simp [hp]) h2]
          simp
def AtR {α β : Type} (R : α → β → Prop) : Option α → Option β → Prop
  | some a, some b => R a b
  | none, none => True
  | _, _ => False
theorem paired_sel {α β : Type} {R : α → β → Prop} {P : List α → List β → Prop} (nil : P [] []) (cons : ∀ a b as bs, R a b → P as bs → P (a :: as) (b :: bs))
    {us ms ws : List α} {us' ms' ws' : List β} (hu : ∀ i : Nat, AtR R (us[i]?) (us'[i]?))
    (hm : ∀ i : Nat, AtR R (ms[i]?) (ms'[i]?)) (hw : ∀ i : Nat, AtR R (ws[i]?) (ws'[i]?)) :
    ∀ src : List Sr, P (sel src us ms ws) (sel src us' ms' ws')
  | [] => nil
  | z :: src => by
    have ih := paired_sel (R := R) nil cons hu hm hw src
    rw [sel_cons, sel_cons]
    have key : AtR R (z.get us ms ws) (z.get us' ms' ws') := by
      cases z with
      | p i => exact hu i
      | k i => exact hw i
      | m i => exact hm i
    revert key
    generalize z.get us ms ws = A
    generalize z.get us' ms' ws' = B
    intro key
    cases A with
    | none => cases B with
      | none => exact ih
      | some b => exact key.elim
    | some a => cases B with
      | none => exact key.elim
      | some b => exact cons _ _ _ _ key ih
theorem vals_at {xs : List V} {us : List Value} (h : Vals xs us) (i : Nat) : AtR RelV xs[i]? us[i]? := by
  cases e : xs[i]? with
  | none =>
    have l : xs.length = us.length := h.length
    rw [List.getElem?_eq_none (by rw [← l]; exact List.getElem?_eq_none_iff.mp e)]
    trivial
  | some x =>
    obtain ⟨u, h1, h2⟩ := h.get e
    rw [h1]
    exact h2
theorem rvs_at {K : Pm} {hs : List Addr} {H : Hp} {as : List Addr} {ws : List Val} {xs : List V} (h : RVs K hs H as ws xs) (i : Nat) : AtR (RV K hs H as) ws[i]? xs[i]? := by
  cases e : ws[i]? with
  | none =>
    have l := h.length
    rw [List.getElem?_eq_none (by have := List.getElem?_eq_none_iff.mp e; omega)]
    trivial
  | some x =>
    obtain ⟨u, h1, h2⟩ := h.get e
    rw [h1]
    exact h2
theorem sel_vals {src : List Sr} {vs mz zs : List V} {us mv ws : List Value} (h1 : Vals vs us) (h2 : Vals mz mv) (h3 : Vals zs ws) : Vals (sel src vs mz zs) (sel src us mv ws) :=
  paired_sel (P := Vals) .nil (fun _ _ _ _ => .cons) (vals_at h1) (vals_at h2) (vals_at h3) src
theorem sel_rvs {K : Pm} {hs : List Addr} {H : Hp} {as : List Addr} {src : List Sr} {vs mz zs : List Val} {us mv ws : List V} (h1 : RVs K hs H as vs us) (h2 : RVs K hs H as mz mv) (h3 : RVs K hs H as zs ws) : RVs K hs H as (sel src vs mz zs) (sel src us mv ws) :=
  paired_sel (P := RVs K hs H as) .nil (fun _ _ _ _ => .cons) (rvs_at h1) (rvs_at h2) (rvs_at h3) src
/-- the keyword entry of DefHas from a selection -/
theorem kc_rel {K : Pm} {src : List Src} {mz : List V} (hd : ∀ hs H as, RVs K hs H as (dsOf src) mz) :
    ∀ (hs : List Addr) (H : Hp) (as : List Addr) (vs : List Val) (xs : List V) (ws : List Val) (zs : List V) (us : List Val), mapO (Src.get vs ws) src = some us → RVs K hs H as vs xs → RVs K hs H as ws zs → RVs K hs H as us (sel (srOf 0 src) xs mz zs) := by
  intro hs H as vs xs ws zs us e h1 h2
  rw [mapO_sel src 0 [] us rfl e]
  exact sel_rvs h1 (hd hs H as) h2
section
variable {K : Pm} {x qual : Str} {params : Arguments} {body : List Stmt} {scope : Scope} {dvs : List V} {kws : List (Str × V)} {f : Addr} {fd : FuncData} {ps : List Str}
/-- a call with keywords of a def without defaults -/
theorem kbindsN (F : FunD K.K x qual params body scope [] kws f fd) (n : Nat) (ks : List Str) (src : List Sr)
    (h : ∀ (kV doc pm : Value) (an : Option Addr) (cdv ct : Value) (us ws : List Value), us.length = n → ws.length = ks.length → bindArgs (PySem.W.fnOf x qual params body scope .none kV doc pm an cdv ct) ⟨us, ks.zip ws⟩ = pure (ps.zip (sel src us [] ws))) :
    KBn K.K fd ps n ks (fun us ws => sel src us [] ws) (fun vs zs => sel src vs [] zs) := by
  obtain ⟨oc, od, dV, kV, doc, pm, an, cdv, ct, osl, rfl, lk, hcd, hD, hK⟩ := F.ex
  rcases hD with ⟨_, rfl⟩ | ⟨e, _⟩
  · exact ⟨fun s us ws X l1 l2 => .of_eq (h kV doc pm an cdv ct us ws l1 l2), fun r1 r2 => sel_vals r1 .nil r2⟩
  · exact absurd rfl e
/-- the entry of a keyword call -/
def KcE (K : Pm) (fd : FuncData) (ps : List Str) (k : Nat) (ks : List Str) (src : List Src) : Prop :=
  ∃ gg gV, KBn K.K fd ps k ks gg gV ∧ KwRel K k ks src gV
theorem kcN (F : FunD K.K x qual params body scope [] kws f fd) {n : Nat} {ks : List Str} {src : List Src} (hd : dsOf src = [])
    (h : ∀ (kV doc pm : Value) (an : Option Addr) (cdv ct : Value) (us ws : List Value), us.length = n → ws.length = ks.length → bindArgs (PySem.W.fnOf x qual params body scope .none kV doc pm an cdv ct) ⟨us, ks.zip ws⟩ = pure (ps.zip (sel (srOf 0 src) us [] ws))) : KcE K fd ps n ks src :=
  ⟨_, _, kbindsN F n ks (srOf 0 src) h, fun hs H as vs xs ws zs us _ _ e h1 h2 => kc_rel (mz := []) (fun _ _ _ => by rw [hd]; exact .nil) hs H as vs xs ws zs us e h1 h2⟩
/-- of a def with keyword-only defaults alone; ms: the ones that lack -/
theorem kc0 (F : FunD K.K x qual params body scope [] kws f fd) {n : Nat} {ks : List Str} {src : List Src} (ms : List (Str × V)) (hk : kws ≠ []) (hms : ∀ q ∈ ms, q ∈ kws) (hd : ∀ hs H as, RVs K hs H as (dsOf src) (ms.map (·.2)))
    (h : ∀ (D : Addr) (doc pm : Value) (an : Option Addr) (cdv ct : Value) (us mv ws : List Value), us.length = n → mv.length = ms.length → ws.length = ks.length →
      KwChain D ((ms.map (·.1)).zip mv) (bindArgs (PySem.W.fnOf x qual params body scope .none (.ref D) doc pm an cdv ct) ⟨us, ks.zip ws⟩) (ps.zip (sel (srOf 0 src) us mv ws))) : KcE K fd ps n ks src := by
  obtain ⟨mv, hb⟩ := F.kbinds0 n ks ms (fun us mv ws => sel (srOf 0 src) us mv ws) hk hms (fun h1 h2 h3 => sel_vals h1 h2 h3) h
  exact ⟨_, _, hb, fun hs H as vs xs ws zs us _ _ e h1 h2 => kc_rel hd hs H as vs xs ws zs us e h1 h2⟩
/-- of a def with positional defaults, no keyword-only ones -/
theorem kcD (F : FunD K.K x qual params body scope dvs kws f fd) {n : Nat} {ks : List Str} {src : List Src} {sr : List Sr} {dd : List Val} (hd : dvs ≠ []) (hr : ∀ hs H as, RVs K hs H as dd dvs)
    (hs : ∀ vs ws us, mapO (Src.get vs ws) src = some us → us = sel sr vs dd ws)
    (h : ∀ (T : Addr) (kV doc pm : Value) (an : Option Addr) (cdv ct : Value) (us its ws : List Value), us.length = n → its.length = dvs.length → ws.length = ks.length →
      ∃ k, bindArgs (PySem.W.fnOf x qual params body scope (.ref T) kV doc pm an cdv ct) ⟨us, ks.zip ws⟩ = seqItems? (.ref T) >>= k ∧ k (some its.toArray) = pure (ps.zip (sel sr us its ws))) : KcE K fd ps n ks src := by
  obtain ⟨its, hb⟩ := F.kbindsD n ks (fun us mv ws => sel sr us mv ws) hd (fun h1 h2 h3 => sel_vals h1 h2 h3) h
  exact ⟨_, _, hb, fun hs' H as vs xs ws zs us _ _ e h1 h2 => by rw [hs vs ws us e]; exact sel_rvs h1 (hr hs' H as) h2⟩
def DcE (K : Pm) (fd : FuncData) (ps : List Str) (ds : List Val) : Prop := ∃ us dvs, Vals dvs us ∧ (∀ hs H as, RVs K hs H as ds dvs) ∧ Binds K.K fd ps us
theorem dc0 {ds : List Val} {zs : List V} (r : ∀ hs H as, RVs K hs H as ds zs) (h : ∃ us, Vals zs us ∧ Binds K.K fd ps us) : DcE K fd ps ds := by
  obtain ⟨us, h1, h2⟩ := h
  exact ⟨us, zs, h1, r, h2⟩
end
theorem mem_look {κ β : Type} [BEq κ] [LawfulBEq κ] {k : κ} {v : β} : ∀ {l : List (κ × β)}, l.lookup k = some v → (k, v) ∈ l
  | [], h => by cases h
  | (k', v') :: l, h => by
    rw [List.lookup_cons] at h
    cases e : k == k' with
    | true =>
      rw [e] at h
      cases h
      rw [eq_of_beq e]
      exact List.mem_cons_self ..
    | false =>
      rw [e] at h
      exact List.mem_cons_of_mem _ (mem_look h)
theorem dcs_of {l m : List ((Nat × Nat) × List Val)} {f : Nat} {R : Nat → List Val → Prop} (hm : l.filter (fun e => e.1.1 == f) = m) (h : ∀ e ∈ m, R e.1.2 e.2) : ∀ k ds, l.lookup (f, k) = some ds → R k ds := fun k ds e => by
  have h1 := mem_look e
  exact h _ (hm ▸ List.mem_filter.mpr ⟨h1, by simp⟩)
theorem kcs_of {l m : List ((Nat × Nat × List Str) × List Src)} {f : Nat} {R : Nat → List Str → List Src → Prop} (hm : l.filter (fun e => e.1.1 == f) = m) (h : ∀ e ∈ m, R e.1.2.1 e.1.2.2 e.2) : ∀ k ks src, l.lookup (f, k, ks) = some src → R k ks src := fun k ks src e => by
  have h1 := mem_look e
  exact h _ (hm ▸ List.mem_filter.mpr ⟨h1, by simp⟩)
theorem dcN_of {l : List ((Nat × Nat) × List Val)} {f : Nat} (hm : l.filter (fun e => e.1.1 == f) = []) (k : Nat) : l.lookup (f, k) = none := by
  cases e : l.lookup (f, k) with
  | none => rfl
  | some v =>
    have h1 := mem_look e
    have := List.mem_filter (p := fun e => e.1.1 == f).mpr ⟨h1, by simp⟩
    rw [hm] at this
    cases this
theorem kcN_of {l : List ((Nat × Nat × List Str) × List Src)} {f : Nat} (hm : l.filter (fun e => e.1.1 == f) = []) (k : Nat) (ks : List Str) : l.lookup (f, k, ks) = none := by
  cases e : l.lookup (f, k, ks) with
  | none => rfl
  | some v =>
    have h1 := mem_look e
    have := List.mem_filter (p := fun e => e.1.1 == f).mpr ⟨h1, by simp⟩
    rw [hm] at this
    cases this
theorem fns_of {l : List ((Nat × Str) × (Nat × Nat))} {R : Nat → Str → Nat → Nat → Prop} (h : ∀ e ∈ l, R e.1.1 e.1.2 e.2.1 e.2.2) : ∀ k x f m, l.lookup (k, x) = some (f, m) → R k x f m := fun k x f m e => by
  have h1 := mem_look e
  exact h _ h1
theorem mts_of {l : List ((Nat × Str × Str) × (Nat × Nat))} {R : Nat → Str → Str → Nat → Nat → Prop} (h : ∀ e ∈ l, R e.1.1 e.1.2.1 e.1.2.2 e.2.1 e.2.2) : ∀ k c x f m, l.lookup (k, c, x) = some (f, m) → R k c x f m := fun k c x f m e => by
  have h1 := mem_look e
  exact h _ h1
theorem fa_of {l : List (Str × Str)} {R : Str → Str → Prop} (h : ∀ e ∈ l, R e.1 e.2) : ∀ c f, l.contains (c, f) = true → R c f := fun c f e => h (c, f) (List.contains_iff_mem.mp e)
theorem kvs_of {l : List (Str × Val)} {R : Str → Val → Prop} (h : ∀ e ∈ l, R e.1 e.2) : ∀ x, (l.lookup x).isSome = true → ∃ v, l.lookup x = some v ∧ R x v := fun x e => by
  cases q : l.lookup x with
  | none =>
    rw [q] at e
    cases e
  | some v => exact ⟨v, rfl, h _ (mem_look q)⟩
/-! ### more facts of the head -/
/-- a tuple of the top -/
def tupB (K : PySem.W.Frag) (x : Str) (vs : List V) : Bool := match PySem.W.nsIn K mainGlobals x with
  | some (some (.ref a)) => (match K.lookup a with
    | some ⟨.type t, _, .seq its _, _⟩ => decide (t = "tuple") && (Nat.ble its.size 16777216 && He.relAll vs its.toList)
    | _ => false)
  | _ => false
theorem tupB_ok {K : Pm} {h : Heap} {x : Str} {ws : List Val} {vs : List V} (X : K.K.In h) (Gm : h.Ns mainGlobals K.mg) (hb : tupB K.K x vs = true) (rv : ∀ hs H as, RVs K hs H as ws vs) :
    ∃ y u, K.mg x = some u ∧ RelV y u ∧ ∀ hs H as, RV K hs H as (.tup ws) y := by
  unfold tupB at hb
  split at hb
  · rename_i a e
    split at hb
    · rename_i t od its n sl e2
      simp only [Bool.and_eq_true, decide_eq_true_eq] at hb
      obtain ⟨h1, h2, h3⟩ := hb
      subst h1
      exact ⟨.ref a, .ref a, PySem.W.mg_of X Gm e, rfl, fun hs H as => .tup (.inr ⟨_, its, n, e2, rfl, rfl, by rw [← sz_eq]; exact Nat.le_of_ble_eq_true h2, He.relAll_ok h3⟩) (rv hs H as)⟩
    · cases hb
  · cases hb
/-- a constant of a class -/
def cstB (K : PySem.W.Frag) (c f : Str) (v : V) : Bool := PySem.W.readsIn K (He.ga K c) (.type "type") && (He.eqO (PySem.W.specialIn K (.ref (He.ga K c)) "__getattribute__") (some (some (.builtin "type.__getattribute__"))) &&
  (match PySem.W.findCls K (.ref (He.ga K c)) (.type "type") f with
  | some (.val u) => He.relB v u
  | _ => false))
theorem cstB_ok {K : PySem.W.Frag} {c f : Str} {v : V} (hb : cstB K c f v = true) : ∃ u, ClX.CRead K (He.ga K c) (.type "type") ∧ ClX.CVal K (He.ga K c) (.type "type") f v u := by
  obtain ⟨h1, hb⟩ := He.ba hb
  obtain ⟨h2, hb⟩ := He.ba hb
  split at hb
  · rename_i u e
    exact ⟨u, ⟨h1, He.eqO_ok h2⟩, ⟨e, He.relB_ok hb⟩⟩
  · cases hb
theorem and_l {a b : Bool} (h : (a && b) = true) : a = true := (Bool.and_eq_true_iff.mp h).1
theorem and_r {a b : Bool} (h : (a && b) = true) : b = true := (Bool.and_eq_true_iff.mp h).2
theorem csf_of {l : List (Str × (Str × Str))} {R : Str → Str → Str → Prop} (h : ∀ e ∈ l, R e.1 e.2.1 e.2.2) : ∀ x c f, l.lookup x = some (c, f) → R x c f := fun x c f e => h _ (mem_look e)
/-! ### dicts of the top with text keys -/
def topA (K : PySem.W.Frag) (x : Str) : Addr := match PySem.W.nsIn K mainGlobals x with
  | some (some (.ref a)) => a
  | _ => 0
def dctB (K : PySem.W.Frag) (x : Str) (vs : List V) : Bool := match PySem.W.nsIn K mainGlobals x with
  | some (some (.ref a)) => (match K.lookup a with
    | some ⟨_, _, .dict es _, _⟩ => He.relAll vs (es.toList.map (·.val))
    | _ => false)
  | _ => false
theorem ns_list {P : Params} : ∀ {l : List DictEntry} {ks : List Str} {vs : List V}, l.map He.keyOf = He.keysIn P ks → Vals vs (l.map (·.val)) → l.any (·.refKey) = false ∧ ∀ z : Str, (∃ e, l.find? (·.key.isStr z) = some e ∧ RelO ((ks.zip vs).lookup z) (some e.val)) ∨ (l.find? (·.key.isStr z) = none ∧ (ks.zip vs).lookup z = none)
  | [], [], vs, _, r => by
    cases r
    exact ⟨rfl, fun z => .inr ⟨rfl, rfl⟩⟩
  | [], k :: ks, _, h, _ => by cases h
  | e :: l, [], _, h, _ => by cases h
  | e :: l, k :: ks, vs, h, r => by
    have h1 : He.keyOf e :: l.map He.keyOf = some (k, PyData.keyHash P k) :: He.keysIn P ks := h
    injection h1 with h2 h3
    have r1 : Vals vs (e.val :: l.map (·.val)) := r
    cases r1 with
    | @cons v _ vs _ rv rt =>
      obtain ⟨q1, q2⟩ := ns_list h3 rt
      obtain ⟨t, ek⟩ : ∃ t, e.key = .str k t := by
        unfold He.keyOf at h2
        split at h2
        · rename_i x t q
          cases (Prod.mk.inj (Option.some.inj h2)).1
          exact ⟨t, q⟩
        · cases h2
      refine ⟨by rw [List.any_cons, q1]; unfold DictEntry.refKey; rw [ek]; rfl, fun z => ?_⟩
      rw [List.find?_cons, List.zip_cons_cons, List.lookup_cons]
      have e1 : e.key.isStr z = (z == k) := by
        rw [ek]
        show (k == z) = (z == k)
        exact Bool.beq_comm
      rw [e1]
      cases y : z == k with
      | true => exact .inl ⟨e, rfl, rv⟩
      | false => exact q2 z
theorem dctB_ok {K : Pm} {h : Heap} {x : Str} {ks : List Str} {ws : List Val} {vs : List V} (X : K.K.In h) (Gm : h.Ns mainGlobals K.mg) (hd : He.dicW K.K (topA K.K x) = some (He.keysIn K.w.params ks)) (hb : dctB K.K x vs = true) (hl : ks.length = vs.length) (rv : ∀ hs H as, RVs K hs H as ws vs) :
    ∃ y u, K.mg x = some u ∧ RelV y u ∧ ∀ hs H as, RV K hs H as (.dc ks ws) y := by
  obtain ⟨es, n, D⟩ := He.dicW_ok hd
  unfold dctB at hb
  split at hb
  · rename_i a e
    have ea : topA K.K x = a := by
      unfold topA
      rw [e]
    rw [ea] at D hd
    rw [D.at_] at hb
    have hb := He.relAll_ok hb
    unfold He.dicW at hd
    rw [D.at_] at hd
    have hd : es.toList.map He.keyOf = He.keysIn K.w.params ks := by
      have hd : (match decide (("dict" : String) = "dict") && ((#[] : Array (Option Value)).isEmpty && !(a == sysModules)) with
        | true => some (es.toList.map He.keyOf)
        | false => none) = some (He.keysIn K.w.params ks) := hd
      split at hd
      · exact Option.some.inj hd
      · cases hd
    obtain ⟨q1, q2⟩ := ns_list hd hb
    refine ⟨.ref a, .ref a, PySem.W.mg_of X Gm e, rfl, fun hs H as => .dc ⟨hl, .inr ⟨es, n, D, fun z => ?_⟩⟩ (rv hs H as)⟩
    unfold PySem.W.nsIn
    rw [D.at_]
    dsimp only
    rcases q2 z with ⟨e, q3, q4⟩ | ⟨q3, q4⟩
    · rw [q3]
      exact ⟨_, rfl, q4⟩
    · rw [q3]
      refine ⟨none, by rw [q1]; rfl, ?_⟩
      rw [q4]
      trivial
  · cases hb
/-! ### the hook: the head's facts, one more Bool, the keys of dicts; the statics are looked at, too -/
abbrev AlY : Type := (He.AlD × Bool) × List (Option (List (Option (Str × Int))))
def sdY (g : Addr → Option Obj) (n : Nat) : List Addr := cStatics :: He.asD g n
def obsK (fa : List He.Fa) (fn : List He.DefD) (ex : PySem.W.Frag → Bool) (ts : List (Str × List Str)) (K : PySem.W.Frag) : AlY := ((He.obsD fa fn K, ex K), ts.map fun t => He.dicW K (topA K t.1))
def obsY (n : Nat) (fa : List He.Fa) (fn : List He.DefD) (ex : PySem.W.Frag → Bool) (ts : List (Str × List Str)) (g : Addr → Option Obj) : AlY := obsK fa fn ex ts (He.frG g (sdY g n))
theorem ts_of {w : World} {K : PySem.W.Frag} : ∀ {ts : List (Str × List Str)}, (ts.map fun t => He.dicW K (topA K t.1)) = (ts.map fun t => some (He.keysIn w.params t.2)) → ∀ t ∈ ts, He.dicW K (topA K t.1) = some (He.keysIn w.params t.2)
  | [], _, t, ht => nomatch ht
  | a :: ts, h, t, ht => by
    injection (show He.dicW K (topA K a.1) :: _ = some (He.keysIn w.params a.2) :: _ from h) with h1 h2
    rcases List.mem_cons.mp ht with rfl | ht
    · exact h1
    · exact ts_of h2 t ht
def hookY (n : Nat) (fa : List He.Fa) (fn : List He.DefD) (ex : PySem.W.Frag → Bool) (ts : List (Str × List Str)) : PySem.W.Hook where
  α := AlY
  obs := fun s => obsY n fa fn ex ts s.heap.get?
  val := fun w => ((He.valD fn, true), ts.map fun t => some (He.keysIn w.params t.2))
  says := fun w h => ∃ K : PySem.W.Frag, K.In h ∧ He.SaysD fa fn K ∧ ex K = true ∧ ∀ t ∈ ts, He.dicW K (topA K t.1) = some (He.keysIn w.params t.2)
  of := fun w s e => ⟨He.frG s.heap.get? (sdY s.heap.get? n), He.frG_in, congrArg (fun z : AlY => z.1.1) e, congrArg (fun z : AlY => z.1.2) e, ts_of (w := w) (by have q := congrArg (fun z : AlY => z.2) e; exact q)⟩
  keeps := fun _ _ _ ⟨K, hK, c⟩ k => ⟨K, PySem.W.Frag.In.keeps hK k, c⟩
theorem obsY_eq {n : Nat} {fa : List He.Fa} {fn : List He.DefD} {ex : PySem.W.Frag → Bool} {ts : List (Str × List Str)} {g : Addr → Option Obj} {s : Shared} (h : ∀ a, g a = s.heap.get? a) : obsY n fa fn ex ts g = (hookY n fa fn ex ts).obs s := by
  have e : g = s.heap.get? := funext h
  rw [e] <;> rfl
end Mv

/-! MvR: exception classes of the text: what the head says of them. -/
namespace Mv
open PySem PySem.Spec PyProof.Rows L2
/-- a built-in base class -/
structure XB where
  B : String
  newId : String
  i : String
  bm : List Value
def xbs : Nat → XB
  | 0 => ⟨"ValueError", "ValueError.__new__", "ValueError.__init__", [.type "ValueError", .type "Exception", .type "BaseException", .type "object"]⟩
  | 1 => ⟨"LookupError", "LookupError.__new__", "LookupError.__init__", [.type "LookupError", .type "Exception", .type "BaseException", .type "object"]⟩
  | _ => ⟨"IndexError", "IndexError.__new__", "IndexError.__init__", [.type "IndexError", .type "LookupError", .type "Exception", .type "BaseException", .type "object"]⟩
theorem xb_fb : ∀ n, ExcBaseFacts (xbs n).B (xbs n).newId (xbs n).i (xbs n).bm
  | 0 => PySem.F.excBase_ValueError
  | 1 => PySem.F.excBase_LookupError
  | _ + 2 => PySem.F.excBase_IndexError
theorem xb_kf : ∀ n, PySem.W.KxsFacts (xbs n).B (xbs n).i
  | 0 => PySem.W.kxs_ValueError
  | 1 => PySem.W.kxs_LookupError
  | _ + 2 => PySem.W.kxs_IndexError
theorem xb_sf : ∀ n, StoreFacts (xbs n).B (xbs n).bm "object.__setattr__" "object"
  | 0 => PySem.F.store_ValueError
  | 1 => PySem.F.store_LookupError
  | _ + 2 => PySem.F.store_IndexError
/-- an exception class with its __init__ -/
structure XcD where
  c : Str
  bi : Nat
  qual : Str
  params : Arguments
  body : List Stmt
  scope : Scope
  ps : List Str
  l : List (Str × ASrc)
  file : Str
abbrev XcW : Type := Option (Str × Str × Arguments × FuncBody × Scope × Addr × List Str × Value × Addr)
def xcF (K : PySem.W.Frag) (d : XcD) : Addr := He.ma K (He.ga K d.c) "__init__"
def xcW (K : PySem.W.Frag) (d : XcD) : XcW := match K.lookup (xcF K d) with
  | some ⟨_, _, .func fd, _⟩ => some (fd.name, fd.qualname, fd.params, fd.body, fd.scope, fd.globals, fd.closure.map (·.1), fd.defaults, fd.builtins)
  | _ => none
def XcD.val (d : XcD) : XcW := some ("__init__", d.qual, d.params, .stmts d.body, d.scope, mainGlobals, ["__class__"], .none, builtinsNs)
/-- its cell, its code -/
def xcell (K : PySem.W.Frag) (C : Addr) : List (Str × Addr) → Bool
  | [(_, cc)] => (match K.lookup cc with
    | some ⟨_, _, .cell (some (.ref C')), _⟩ => C' == C
    | _ => false)
  | _ => false
def xcode (K : PySem.W.Frag) (file : Str) : Value → Bool
  | .ref a => (match K.lookup a with
    | some ⟨_, _, .fields vs, _⟩ => (match (vs[2]? : Option Value) with
      | some (.str y _) => decide (y = file)
      | _ => false)
    | _ => false)
  | _ => false
def xcfun (K : PySem.W.Frag) (d : XcD) : Bool := match K.lookup (xcF K d) with
  | some ⟨_, _, .func fd, _⟩ => xcell K (He.ga K d.c) fd.closure && (PySem.W.codeIn K fd.code d.qual && xcode K d.file fd.code)
  | _ => false
def oEq (a b : Option (Option Value)) : Bool := decide (a = b)
def bEq (a : Option Bool) : Bool := decide (a = some true)
def XcD.ok (K : PySem.W.Frag) (d : XcD) : Bool :=
  [He.eqO (PySem.W.nsIn K mainGlobals d.c) (some (some (.ref (He.ga K d.c)))), PySem.W.excInitIn K (He.ga K d.c) (xbs d.bi).bm (xbs d.bi).newId, bEq (PySem.W.subIn K (.ref (He.ga K d.c)) (.type (xbs d.bi).B)),
   bEq (PySem.W.mroIn K (He.ga K d.c) (.ref (He.ga K d.c))), (PySem.W.clsIn K (He.ga K d.c)).isSome, He.eqO (PySem.W.ks_superIn K (He.ga K d.c) (He.ga K d.c) "__init__") (some (some (.builtin (xbs d.bi).i))),
   He.eqO (PySem.W.nsIn K cStatics "thirdparty.any") (some none), xcfun K d, He.eqO (PySem.W.findIn K (.ref (He.ga K d.c)) "__setattr__") (some (some (.builtin "object.__setattr__"))), PySem.W.excOver K (He.ga K d.c) (xbs d.bi).bm,
   PySem.W.hasDictIn K (He.ga K d.c), He.eqO (PySem.W.findIn K (.ref (He.ga K d.c)) "__init__") (some (some (.ref (xcF K d)))), PySem.W.isFn K (.ref (xcF K d)), PySem.W.keepIn K (.ref (He.ga K d.c)),
   d.l.all fun q => He.eqO (PySem.W.takerIn K (He.ga K d.c) q.1) (some none)].all id
/-- what is seen of its text -/
structure XcStat (d : XcD) : Prop where
  shape : ∃ (z : Str) (k : Nat) (p0 p1 p2 p3 p4 p5 : Pos) (sts : List Stmt), d.body = .Expr (.Call (.Attribute (.Call (.Name "super" p0) [] [] p1) "__init__" p2) [.Constant (.str z) k p3] [] p4) p5 :: sts ∧ lineOk0 p2 p4 = true ∧ stoL sts = some d.l
  first : ∃ ar, (d.params.posonlyargs ++ d.params.args).head? = some ar ∧ ar.arg = "self"
  bind : ∀ (kV doc pm : Value) (an : Option Addr) (cdv ct : Value) (cc : Addr) (us : List Value), us.length = d.ps.length + 1 → bindArgs (PySem.W.ksFn "__init__" d.qual d.params d.body d.scope .none kV doc pm an cdv ct cc) ⟨us, []⟩ = pure ((("self" : Str) :: d.ps).zip us)
  bindK : ∀ p, d.ps = [p] → ∀ (kV doc pm : Value) (an : Option Addr) (cdv ct : Value) (cc : Addr) (a v : Value), bindArgs (PySem.W.ksFn "__init__" d.qual d.params d.body d.scope .none kV doc pm an cdv ct cc) ⟨[a], [(p, v)]⟩ = pure [(("self" : Str), a), (p, v)]
  kS : d.scope.names.lookup ("super" : Str) = some .globalImplicit
  kC : d.scope.names.lookup ("__class__" : Str) = some .free
  kV : d.scope.names.lookup ("self" : Str) = some .local
  kd : d.scope.kind = .function
  nd : (("self" : Str) :: d.ps).Nodup
  par : ∀ p ∈ d.ps, d.scope.names.lookup p = some .local ∧ (p == ("__debug__" : Str)) = false
  nc : ∀ x ∈ d.scope.names, x.2 ≠ .cell
  co : d.scope.isCoroutine = false
  gen : d.scope.isGenerator = false
  src : ∀ q ∈ d.l, ∀ p, q.2 = .inl p → p ∈ d.ps
  l0 : d.l ≠ []
  l9 : d.l.length ≤ 900
  sz : d.ps.length ≤ 1000
theorem xcell_ok {K : PySem.W.Frag} {C : Addr} {l : List (Str × Addr)} (h : xcell K C l = true) : ∃ x cc cl cld csl, l = [(x, cc)] ∧ K.lookup cc = some ⟨cl, cld, .cell (some (.ref C)), csl⟩ := by
  unfold xcell at h
  split at h
  · rename_i x cc
    split at h
    · rename_i a b C' s e
      rw [beq_iff_eq] at h
      subst h
      exact ⟨x, cc, _, _, _, rfl, e⟩
    · cases h
  · cases h
theorem xcode_ok {K : PySem.W.Frag} {file : Str} {v : Value} (h : xcode K file v = true) : ∃ a ccl cdd vs ccs tf, v = .ref a ∧ K.lookup a = some ⟨ccl, cdd, .fields vs, ccs⟩ ∧ vs[2]? = some (.str file tf) := by
  unfold xcode at h
  split at h
  · split at h
    · rename_i a b c vs s e
      split at h
      · rename_i y t e2
        have := of_decide_eq_true h
        subst this
        exact ⟨_, _, _, _, _, _, rfl, e, e2⟩
      · cases h
    · cases h
  · cases h
/-- the class of the head's facts -/
theorem xc_ok {P : Program} {K : PySem.W.Frag} {h : Heap} {mg : Str → Option Value} {d : XcD} (X : K.In h) (Gm : h.Ns mainGlobals mg) (hv : xcW K d = d.val) (hb : d.ok K = true) (st : XcStat d) (hfile : (P.main.file == d.file) = true) (hsup : (P.main.scope.names.lookup ("super" : Str)).isSome = false) (hms : mg "super" = none) :
    ∃ C, mg d.c = some (.ref C) ∧ ErC P K mg C d.ps d.l := by
  unfold XcD.ok at hb
  simp only [List.all_cons, List.all_nil, id, Bool.and_true, Bool.and_eq_true] at hb
  obtain ⟨c1, c2, c3, c4, c5, c6, c7, c8, c9, c10, c11, c12, c13, c14, c15⟩ := hb
  refine ⟨He.ga K d.c, PySem.W.mg_of X Gm (He.eqO_ok c1), ?_⟩
  unfold xcfun at c8
  unfold xcW at hv
  split at c8
  · rename_i oc od fd osl e
    rw [e] at hv
    rw [Bool.and_eq_true, Bool.and_eq_true] at c8
    obtain ⟨k1, k2, k3⟩ := c8
    obtain ⟨n1, n2, n3, n4, n5, n6, n7, n8, n9, n10, n11, n12, n13, n14, n15⟩ := fd
    unfold XcD.val at hv
    dsimp only at hv k1 k2 k3
    simp only [Option.some.injEq, Prod.mk.injEq] at hv
    obtain ⟨h1, h2, h3, h4, h5, h6, h7, h8, h9⟩ := hv
    subst h1 h2 h3 h4 h5 h6 h8 h9
    obtain ⟨x, cc, cl, cld, csl, e1, e2⟩ := xcell_ok k1
    subst e1
    have ex : x = "__class__" := by simpa using h7
    subst ex
    obtain ⟨a, ccl, cdd, vs, ccs, tf, e3, e4, e5⟩ := xcode_ok k3
    subst e3
    obtain ⟨z, k, p0, p1, p2, p3, p4, p5, sts, b1, b2, b3⟩ := st.shape
    refine ⟨⟨xcF K d, a, cc, d.scope, PySem.W.ksFn "__init__" d.qual d.params d.body d.scope .none n9 n10 n11 n12 (.ref a) n14 cc, (xbs d.bi).B, (xbs d.bi).newId, (xbs d.bi).i, (xbs d.bi).bm, fun mb hmb => ?_, ?_, ?_, ?_⟩, c14, st.sz⟩
    · exact { fb := xb_fb _, kf := xb_kf _, ini := c2, sub := of_decide_eq_true c3, mro := of_decide_eq_true c4, cls := Option.isSome_iff_exists.mp c5, sup := He.eqO_ok c6, any := He.eqO_ok c7,
              cell := ⟨_, _, _, e2⟩, code := ⟨_, _, _, _, d.file, tf, e4, e5, hfile⟩, fn := ⟨_, _, _, e⟩, first := st.first, top := hsup, mgS := hms, mbS := hmb, kS := st.kS, kC := st.kC, kV := st.kV, kd := st.kd }
    · exact ⟨xb_sf _, He.eqO_ok c9, c10, c11⟩
    · exact { ini := He.eqO_ok c12, isf := c13, kp := c14, shape := ⟨_, _, _, _, .none, n9, n10, n11, n12, n14, z, k, p0, p1, p2, p3, p4, p5, sts, rfl, k2, b1, b2, b3⟩,
              bind := fun s us hl => .of_eq (st.bind _ _ _ _ _ _ _ us hl), nd := st.nd, par := st.par, nc := st.nc, co := st.co, gen := st.gen,
              tak := fun q hq => ⟨He.eqO_ok (List.all_eq_true.mp c15 q hq), st.src q hq⟩, l0 := st.l0, l9 := st.l9 }
    · exact fun p hp s a v => .of_eq (st.bindK p hp _ _ _ _ _ _ _ a v)
  · cases c8
end Mv
namespace Mv
open PySem PySem.Spec PyProof.Rows L2
def gloB (K : PySem.W.Frag) (c : Str) : Bool := He.eqO (PySem.W.nsIn K mainGlobals c) (some (some (.ref (He.ga K c))))
/-- attributes of an exception class that are read -/
def rdB (K : PySem.W.Frag) (fs : List Str) (c : Str) : Bool := gloB K c && (xfB K (He.ga K c) && fs.all fun f => He.eqO (PySem.W.findIn K (.ref (He.ga K c)) f) (some none))
/-- an exception class of whose instances isinstance asks -/
def exB (K : PySem.W.Frag) (c : Str) : Bool := gloB K c &&
  [He.eqO (PySem.W.findIn K (.ref (He.ga K c)) "__getattribute__") (some (some (.builtin "BaseException.__getattribute__"))), He.eqO (PySem.W.findIn K (.ref (He.ga K c)) "__getattr__") (some none), bEq (PySem.W.subIn K (.ref (He.ga K c)) (.type "BaseException")),
   PySem.W.hasDictIn K (He.ga K c), He.eqO (PySem.W.findIn K (.ref (He.ga K c)) "__class__") (some (some (.builtin "object.__class__"))), He.eqO (PySem.W.specialIn K (.builtin "object.__class__") "__get__") (some (some (.builtin "getset_descriptor.__get__"))),
   bEq (PySem.W.takesIn K (.builtin "object.__class__")), bEq (PySem.W.mroIn K (He.ga K c) (.type "object"))].all id
/-- a class as a value: an own one, a built-in one -/
def clV1 (K : PySem.W.Frag) (x : Str) : Option String → V
  | none => .ref (He.ga K x)
  | some n => .ty n
def clU1 (K : PySem.W.Frag) (x : Str) : Option String → Value
  | none => .ref (He.ga K x)
  | some n => .type n
def isB (K : PySem.W.Frag) (x : Str) (o : Option String) (t : List (Str × Bool)) : Bool := (match o with
  | none => gloB K x
  | some _ => He.eqO (PySem.W.nsIn K mainGlobals x) (some none)) && t.all fun q => decide (PySem.W.kitOne K (.ref (He.ga K q.1)) (clU1 K x o) = some q.2)
section
variable {K : PySem.W.Frag} {h : Heap} {mg : Str → Option Value}
theorem gloB_ok (X : K.In h) (Gm : h.Ns mainGlobals mg) {c : Str} (hb : gloB K c = true) : mg c = some (.ref (He.ga K c)) := PySem.W.mg_of X Gm (He.eqO_ok hb)
theorem rdB_ok (X : K.In h) (Gm : h.Ns mainGlobals mg) {fs : List Str} {c f : Str} (hb : rdB K fs c = true) (hf : f ∈ fs) : ∃ C, mg c = some (.ref C) ∧ XfC K C ∧ PySem.W.findIn K (.ref C) f = some none := by
  unfold rdB at hb
  rw [Bool.and_eq_true, Bool.and_eq_true] at hb
  exact ⟨_, gloB_ok X Gm hb.1, xfB_ok hb.2.1, He.eqO_ok (List.all_eq_true.mp hb.2.2 f hf)⟩
theorem exB_ok (X : K.In h) (Gm : h.Ns mainGlobals mg) {c : Str} (hb : exB K c = true) : mg c = some (.ref (He.ga K c)) ∧ ExcC K (He.ga K c) := by
  unfold exB at hb
  rw [Bool.and_eq_true] at hb
  obtain ⟨h0, hb⟩ := hb
  simp only [List.all_cons, List.all_nil, id, Bool.and_true, Bool.and_eq_true] at hb
  obtain ⟨c1, c2, c3, c4, c5, c6, c7, c8⟩ := hb
  exact ⟨gloB_ok X Gm h0, He.eqO_ok c1, He.eqO_ok c2, of_decide_eq_true c3, c4, He.eqO_ok c5, He.eqO_ok c6, of_decide_eq_true c7, of_decide_eq_true c8⟩
theorem isB_ok (X : K.In h) (Gm : h.Ns mainGlobals mg) {x : Str} {o : Option String} {t : List (Str × Bool)} (hb : isB K x o t = true) (ho : ∀ n, o = some n → bootBuiltins x = some (.type n)) (he : ∀ q ∈ t, exB K q.1 = true) :
    ∃ (y : V) (u : Value), (mg x = some u ∨ (mg x = none ∧ bootBuiltins x = some u)) ∧ RelV y u ∧ (∀ z, RelV y z → z = u) ∧ ∀ c b, t.lookup c = some b → ∃ C, mg c = some (.ref C) ∧ ExcC K C ∧ PySem.W.kitOne K (.ref C) u = some b := by
  unfold isB at hb
  rw [Bool.and_eq_true] at hb
  obtain ⟨h1, h2⟩ := hb
  refine ⟨clV1 K x o, clU1 K x o, ?_, ?_, ?_, fun c b e => ?_⟩
  · cases o with
    | none => exact .inl (gloB_ok X Gm h1)
    | some n => exact .inr ⟨PySem.W.mg_none_of X Gm (He.eqO_ok h1), ho n rfl⟩
  · cases o <;> rfl
  · intro z hz
    cases o <;> exact hz
  · have hm := mem_look e
    obtain ⟨q1, q2⟩ := exB_ok X Gm (he _ hm)
    exact ⟨_, q1, q2, of_decide_eq_true (List.all_eq_true.mp h2 _ hm)⟩
end
/-! ### the hook with exception classes -/
abbrev AlX : Type := AlY × List XcW
def obsX (n : Nat) (fa : List He.Fa) (fn : List He.DefD) (ex : PySem.W.Frag → Bool) (ts : List (Str × List Str)) (xs : List XcD) (g : Addr → Option Obj) : AlX := (obsK fa fn ex ts (He.frG g (sdY g n)), xs.map fun d => xcW (He.frG g (sdY g n)) d)
def hookX (n : Nat) (fa : List He.Fa) (fn : List He.DefD) (ex : PySem.W.Frag → Bool) (ts : List (Str × List Str)) (xs : List XcD) : PySem.W.Hook where
  α := AlX
  obs := fun s => obsX n fa fn ex ts xs s.heap.get?
  val := fun w => (((He.valD fn, true), ts.map fun t => some (He.keysIn w.params t.2)), xs.map XcD.val)
  says := fun w h => ∃ K : PySem.W.Frag, K.In h ∧ He.SaysD fa fn K ∧ ex K = true ∧ (∀ t ∈ ts, He.dicW K (topA K t.1) = some (He.keysIn w.params t.2)) ∧ ∀ d ∈ xs, xcW K d = d.val
  of := fun w s e => ⟨He.frG s.heap.get? (sdY s.heap.get? n), He.frG_in, congrArg (fun z : AlX => z.1.1.1) e, congrArg (fun z : AlX => z.1.1.2) e, ts_of (w := w) (by have q := congrArg (fun z : AlX => z.1.2) e; exact q), fun d hd => by
    have q : xs.map (fun d => xcW (He.frG s.heap.get? (sdY s.heap.get? n)) d) = xs.map XcD.val := congrArg (fun z : AlX => z.2) e
    exact List.map_inj_left.mp q d hd⟩
  keeps := fun _ _ _ ⟨K, hK, c⟩ k => ⟨K, PySem.W.Frag.In.keeps hK k, c⟩
theorem obsX_eq {n : Nat} {fa : List He.Fa} {fn : List He.DefD} {ex : PySem.W.Frag → Bool} {ts : List (Str × List Str)} {xs : List XcD} {g : Addr → Option Obj} {s : Shared} (h : ∀ a, g a = s.heap.get? a) : obsX n fa fn ex ts xs g = (hookX n fa fn ex ts xs).obs s := by
  have e : g = s.heap.get? := funext h
  rw [e] <;> rfl
/-- the classes of the table -/
theorem ers_of {P : Program} {K : PySem.W.Frag} {h : Heap} {mg : Str → Option Value} {xs : List XcD} (X : K.In h) (Gm : h.Ns mainGlobals mg) (cw : ∀ d ∈ xs, xcW K d = d.val) (cb : xs.all (XcD.ok K) = true) (hf : ∀ d ∈ xs, (P.main.file == d.file) = true) (hsup : (P.main.scope.names.lookup ("super" : Str)).isSome = false) (hms : mg "super" = none)
    (st : ∀ d ∈ xs, XcStat d) : ∀ x ps l, (xs.map fun d => (d.c, (d.ps, d.l))).lookup x = some (ps, l) → ∃ C, mg x = some (.ref C) ∧ ErC P K mg C ps l := fun x ps l e => by
  obtain ⟨d, hd, e⟩ := List.mem_map.mp (mem_look e)
  cases e
  exact xc_ok X Gm (cw d hd) (List.all_eq_true.mp cb d hd) (st d hd) (hf d hd) hsup hms
end Mv
namespace Mv
open PySem PySem.Spec PyProof.Rows L2
def srcB (ps : List Str) (q : Str × ASrc) : Bool := match q.2 with
  | .inl p => ps.contains p
  | .inr _ => true
theorem src_of {ps : List Str} {l : List (Str × ASrc)} (h : l.all (srcB ps) = true) : ∀ q ∈ l, ∀ p, q.2 = .inl p → p ∈ ps := fun q hq p e => by
  have h1 := List.all_eq_true.mp h q hq
  unfold srcB at h1
  rw [e] at h1
  exact List.contains_iff_mem.mp h1
theorem erf_of {K : PySem.W.Frag} {h : Heap} {mg : Str → Option Value} {fl cl : List Str} (X : K.In h) (Gm : h.Ns mainGlobals mg) (hb : cl.all (rdB K fl) = true) :
    ∀ f, ∀ c ∈ (match fl.contains f with | true => cl | false => []), ∃ C, mg c = some (.ref C) ∧ XfC K C ∧ PySem.W.findIn K (.ref C) f = some none := fun f c hc => by
  cases e : fl.contains f with
  | false =>
    rw [e] at hc
    cases hc
  | true =>
    rw [e] at hc
    exact rdB_ok X Gm (List.all_eq_true.mp hb c hc) (List.contains_iff_mem.mp e)
theorem is_ex {K : PySem.W.Frag} {cl : List Str} {t : List (Str × Bool)} (h : t.all (fun q => cl.contains q.1) = true) (hb : cl.all (exB K) = true) : ∀ q ∈ t, exB K q.1 = true := fun q hq =>
  List.all_eq_true.mp hb _ (List.contains_iff_mem.mp (List.all_eq_true.mp h q hq))
theorem isc_of {l : List (Str × List (Str × Bool))} {R : Str → List (Str × Bool) → Prop} (h : ∀ e ∈ l, R e.1 e.2) : ∀ x t, l.lookup x = some t → R x t := fun x t e => h _ (mem_look e)
end Mv

/-! MwA: what a run answers; loops; the small equations. -/
namespace Mv
open PySem (Str PyData)
def Out.Ok {α : Type} (o : Out α) (Q : α → Store → Prop) : Prop := match o with
  | .ok a S => Q a S
  | _ => False
def SO.Ok (o : SO) (Q : SO → Prop) : Prop := match o with
  | .no => False
  | .ex _ _ _ => False
  | o => Q o
namespace Out
theorem Ok_ok {α : Type} (a : α) (S : Store) (Q : α → Store → Prop) : (Out.ok a S).Ok Q = Q a S := rfl
theorem Ok_bind {α β : Type} (o : Out α) (f : α → Store → Out β) (Q : β → Store → Prop) : (o.bind f).Ok Q = o.Ok fun a S => (f a S).Ok Q := by cases o <;> rfl
theorem Ok_bindN {α β : Type} (o : Out α) (f : α → Store → Out β) (Q : β → Store → Prop) : (o.bindN f).Ok Q = o.Ok fun a S => (f a S).Ok Q := by cases o <;> rfl
theorem Ok_lift {α : Type} (r : Rho) (o : Out α) (f : α → Store → SO) (Q : SO → Prop) : (lift r o f).Ok Q = o.Ok fun a S => (f a S).Ok Q := by cases o <;> rfl
theorem Ok.imp {α : Type} {o : Out α} {P Q : α → Store → Prop} (h : o.Ok P) (f : ∀ a S, P a S → Q a S) : o.Ok Q := by
  cases o with
  | ok a S => exact f _ _ h
  | ex e S => exact h.elim
  | no => exact h.elim
theorem Ok.get {α : Type} {o : Out α} {P : α → Store → Prop} (h : o.Ok P) : ∃ a S, o = .ok a S ∧ P a S := by
  cases o with
  | ok a S => exact ⟨a, S, rfl, h⟩
  | ex e S => exact h.elim
  | no => exact h.elim
theorem Ok.eq {α : Type} {o : Out α} {a : α} {S : Store} (h : o.Ok fun b S' => b = a ∧ S' = S) : o = .ok a S := by
  obtain ⟨b, S', e, rfl, rfl⟩ := h.get
  exact e
theorem eq_Ok {α : Type} {o : Out α} {a : α} {S : Store} {Q : α → Store → Prop} (e : o = .ok a S) (h : Q a S) : o.Ok Q := by
  rw [e]
  exact h
end Out
namespace SO
theorem Ok_nx (r : Rho) (S : Store) (Q : SO → Prop) : (SO.nx r S).Ok Q = Q (.nx r S) := rfl
theorem Ok_rt (v : Val) (S : Store) (Q : SO → Prop) : (SO.rt v S).Ok Q = Q (.rt v S) := rfl
theorem Ok_bk (r : Rho) (S : Store) (Q : SO → Prop) : (SO.bk r S).Ok Q = Q (.bk r S) := rfl
theorem Ok_ct (r : Rho) (S : Store) (Q : SO → Prop) : (SO.ct r S).Ok Q = Q (.ct r S) := rfl
theorem Ok.imp {o : SO} {P Q : SO → Prop} (h : o.Ok P) (f : ∀ a, P a → Q a) : o.Ok Q := by
  cases o <;> first | exact f _ h | exact h.elim
end SO
/-- behind a statement: what follows, or the end itself -/
def thn (f : Rho → Store → SO) (Q : SO → Prop) : SO → Prop
  | .nx r S => (f r S).Ok Q
  | o => Q o
theorem thn_nx (f : Rho → Store → SO) (Q : SO → Prop) (r : Rho) (S : Store) : thn f Q (.nx r S) = (f r S).Ok Q := rfl
theorem thn_rt (f : Rho → Store → SO) (Q : SO → Prop) (r : Val) (S : Store) : thn f Q (.rt r S) = Q (.rt r S) := rfl
theorem thn_bk (f : Rho → Store → SO) (Q : SO → Prop) (r : Rho) (S : Store) : thn f Q (.bk r S) = Q (.bk r S) := rfl
theorem thn_ct (f : Rho → Store → SO) (Q : SO → Prop) (r : Rho) (S : Store) : thn f Q (.ct r S) = Q (.ct r S) := rfl
theorem Ok_ss (g : Cfg) (s ss : C) (r : Rho) (S : Store) (Q : SO → Prop) : (evSs g (.cons s ss) r S).Ok Q = (evS g s r S).Ok (thn (evSs g ss) Q) := by
  rw [evSs]
  cases evS g s r S <;> rfl
theorem Ok_ss0 (g : Cfg) (r : Rho) (S : Store) (Q : SO → Prop) : (evSs g .nil r S).Ok Q = Q (.nx r S) := by
  rw [evSs]
  rfl
def endQ (Q : Val → Store → Prop) : SO → Prop
  | .nx _ S => Q .non S
  | .rt v S => Q v S
  | _ => False
theorem endQ_nx (Q : Val → Store → Prop) (r : Rho) (S : Store) : endQ Q (.nx r S) = Q .non S := rfl
theorem endQ_rt (Q : Val → Store → Prop) (v : Val) (S : Store) : endQ Q (.rt v S) = Q v S := rfl
theorem ok_end {o : SO} {Q : Val → Store → Prop} (h : o.Ok (endQ Q)) : (endR o).Ok Q := by
  cases o <;> first | exact h | exact h.elim
/-- a run's body -/
theorem ok_run {T : Tab} {n f ar sl : Nat} {c : C} {vs : List Val} {S : Store} {Q : Val → Store → Prop} (hf : T.fn f = some ⟨ar, sl, false, false, c⟩) (hl : vs.length = ar)
    (h : (evSs ⟨T.run n, T.kv⟩ c (startR sl vs) S).Ok (endQ Q)) : (T.run (n + 1) f vs S).Ok Q := by
  have e : T.run (n + 1) f vs S = endR (evSs ⟨T.run n, T.kv⟩ c (startR sl vs) S) := by
    show (match T.fn f with
      | some d => match d.args vs with
        | some ws => fin d.gc S.length (endR (evSs ⟨T.run n, T.kv⟩ d.body (startR d.slots ws) S))
        | none => .no
      | none => .no) = _
    rw [hf]
    have : (Fn.mk ar sl false false c).args vs = some vs := if_pos hl
    simp only [this]
    rfl
  rw [e]
  exact ok_end h
/-- with a starred parameter -/
theorem ok_runV {T : Tab} {n f ar sl : Nat} {c : C} {vs : List Val} {S : Store} {Q : Val → Store → Prop} (hf : T.fn f = some ⟨ar + 1, sl, false, true, c⟩) (hl : ar ≤ vs.length) (hz : vs.length ≤ SZ)
    (h : (evSs ⟨T.run n, T.kv⟩ c (startR sl (vs.take ar ++ [.tup (vs.drop ar)])) S).Ok (endQ Q)) : (T.run (n + 1) f vs S).Ok Q := by
  have e : T.run (n + 1) f vs S = endR (evSs ⟨T.run n, T.kv⟩ c (startR sl (vs.take ar ++ [.tup (vs.drop ar)])) S) := by
    show (match T.fn f with
      | some d => match d.args vs with
        | some ws => fin d.gc S.length (endR (evSs ⟨T.run n, T.kv⟩ d.body (startR d.slots ws) S))
        | none => .no
      | none => .no) = _
    rw [hf]
    have : (Fn.mk (ar + 1) sl false true c).args vs = some (vs.take ar ++ [.tup (vs.drop ar)]) := if_pos ⟨by show ar + 1 ≤ _; omega, by show 1 ≤ ar + 1; omega, hz⟩
    simp only [this]
    rfl
  rw [e]
  exact ok_end h
/-! ### loops -/
theorem lcN_ok {it : Itr} {body : Val → Store → Out (Option Val)} {vs : List Val} (I : Nat → List Val → Store → Prop) (hit : ∀ i acc S, I i acc S → it.at_ S i = some vs[i]?) (hz : vs.length < SZ) (hacc : ∀ i acc S, I i acc S → acc.length ≤ i)
    (hb : ∀ i acc S v, vs[i]? = some v → I i acc S → (body v S).Ok fun y S' => match y with
      | none => I (i + 1) acc S'
      | some y => I (i + 1) (acc ++ [y]) S') :
    ∀ (n i : Nat) (acc : List Val) (S : Store), vs.length < n + i → i ≤ vs.length → I i acc S → (lcN it body n i acc S).Ok fun acc S' => I vs.length acc S'
  | 0, i, acc, S, h1, h2, _ => by omega
  | n + 1, i, acc, S, h1, h2, hI => by
    rw [lcN, hit i acc S hI]
    cases e : vs[i]? with
    | none =>
      have : i = vs.length := by
        have := List.getElem?_eq_none_iff.mp e
        omega
      exact this ▸ hI
    | some v =>
      have hi : i < vs.length := (List.getElem?_eq_some_iff.mp e).1
      have q := hb i acc S v e hI
      show Out.Ok ((body v S).bindN fun y S' => match y with
        | none => lcN it body n (i + 1) acc S'
        | some y => if acc.length < SZ then lcN it body n (i + 1) (acc ++ [y]) S' else .no) _
      rw [Out.Ok_bindN]
      refine q.imp fun y S' q => ?_
      cases y with
      | none => exact lcN_ok I hit hz hacc hb n (i + 1) acc S' (by omega) hi q
      | some y =>
        have := hacc i acc S hI
        show Out.Ok (if acc.length < SZ then lcN it body n (i + 1) (acc ++ [y]) S' else .no) _
        rw [if_pos (by omega)]
        exact lcN_ok I hit hz hacc hb n (i + 1) (acc ++ [y]) _ (by omega) hi q
theorem forN_ok {it : Itr} {body : Val → Rho → Store → SO} {vs : List Val} {Q : SO → Prop} (I : Nat → Rho → Store → Prop) (hit : ∀ i r S, I i r S → it.at_ S i = some vs[i]?)
    (hb : ∀ i r S v, vs[i]? = some v → I i r S → (body v r S).Ok fun o => match o with
      | .nx r' S' => I (i + 1) r' S'
      | .ct r' S' => I (i + 1) r' S'
      | .bk r' S' => Q (.nx r' S')
      | .rt w S' => Q (.rt w S')
      | _ => False)
    (hend : ∀ r S, I vs.length r S → Q (.nx r S)) : ∀ (n i : Nat) (r : Rho) (S : Store), vs.length < n + i → i ≤ vs.length → I i r S → (forN it body n i r S).Ok Q
  | 0, i, r, S, h1, h2, _ => by omega
  | n + 1, i, r, S, h1, h2, hI => by
    rw [forN, hit i r S hI]
    cases e : vs[i]? with
    | none =>
      have : i = vs.length := by
        have := List.getElem?_eq_none_iff.mp e
        omega
      exact hend r S (this ▸ hI)
    | some v =>
      have hi : i < vs.length := (List.getElem?_eq_some_iff.mp e).1
      have q := hb i r S v e hI
      show SO.Ok (match body v r S with
        | .nx r' S' => forN it body n (i + 1) r' S'
        | .ct r' S' => forN it body n (i + 1) r' S'
        | .bk r' S' => .nx r' S'
        | .rt w S' => .rt w S'
        | .ex e r' S' => .ex e r' S'
        | .no => .no) _
      cases hq : body v r S with
      | no =>
        rw [hq] at q
        exact q.elim
      | ex e r' S' =>
        rw [hq] at q
        exact q.elim
      | nx r' S' =>
        rw [hq] at q
        exact forN_ok I hit hb hend n (i + 1) r' S' (by omega) hi q
      | ct r' S' =>
        rw [hq] at q
        exact forN_ok I hit hb hend n (i + 1) r' S' (by omega) hi q
      | bk r' S' =>
        rw [hq] at q
        exact q
      | rt w S' =>
        rw [hq] at q
        exact q
theorem ok_forr {g : Cfg} {tg it body : C} {r : Rho} {S : Store} {Q : SO → Prop} (vs : List Val) (I : Nat → Rho → Store → Prop) (hl : vs.length < SZ)
    (hI : (evI g it r S).Ok fun j S1 => (∀ i r S, I i r S → j.at_ S i = some vs[i]?) ∧ I 0 r S1)
    (hb : ∀ i r S v, vs[i]? = some v → I i r S → (evG g tg v r S).Ok fun r1 S1 => (evSs g body r1 S1).Ok fun o => match o with
      | .nx r' S' => I (i + 1) r' S'
      | .ct r' S' => I (i + 1) r' S'
      | .bk r' S' => Q (.nx r' S')
      | .rt w S' => Q (.rt w S')
      | _ => False)
    (hend : ∀ r S, I vs.length r S → Q (.nx r S)) : (evS g (.forr tg it body) r S).Ok Q := by
  have hz : SZ = 16777216 := rfl
  have ht : TURNS = 20000000 := rfl
  rw [evS, Out.Ok_lift]
  refine hI.imp fun j S1 ⟨h1, h2⟩ => ?_
  exact forN_ok I h1 (fun i r S v hv h => by rw [Out.Ok_lift]; exact hb i r S v hv h) hend TURNS 0 r S1 (by omega) (Nat.zero_le _) h2
/-- items that read nothing but what is there -/
theorem lc_pure {vs : List Val} {S : Store} {body : Val → Store → Out (Option Val)} (h : Val → Option Val) (hl : vs.length < SZ) (hb : ∀ v ∈ vs, body v S = .ok (h v) S) : lcN (.its vs) body TURNS 0 [] S = .ok (vs.filterMap h) S := by
  have hz : SZ = 16777216 := rfl
  have ht : TURNS = 20000000 := rfl
  apply Out.Ok.eq
  refine (lcN_ok (vs := vs) (fun i acc S' => acc = (vs.take i).filterMap h ∧ S' = S) (fun _ _ _ _ => rfl) hl (fun i acc S' ⟨e, _⟩ => ?_) (fun i acc S' v hv ⟨e1, e2⟩ => ?_) TURNS 0 [] S (by omega) (Nat.zero_le _) ⟨rfl, rfl⟩).imp fun acc S' ⟨h1, h2⟩ => ⟨by rw [h1, List.take_length], h2⟩
  · rw [e]
    exact Nat.le_trans (List.length_filterMap_le _ _) (by rw [List.length_take]; omega)
  · subst e2
    rw [hb v (List.mem_of_getElem? hv)]
    show match h v with
      | none => _
      | some y => _
    have t : vs.take (i + 1) = vs.take i ++ [v] := by rw [List.take_succ, hv]; rfl
    cases q : h v with
    | none => exact ⟨by rw [t, List.filterMap_append, List.filterMap_cons, q, e1]; simp, rfl⟩
    | some y => exact ⟨by rw [t, List.filterMap_append, List.filterMap_cons, q, e1]; simp, rfl⟩
theorem lc_map {vs : List Val} {S : Store} {body : Val → Store → Out (Option Val)} (h : Val → Val) (hl : vs.length < SZ) (hb : ∀ v ∈ vs, body v S = .ok (some (h v)) S) : lcN (.its vs) body TURNS 0 [] S = .ok (vs.map h) S := by
  rw [lc_pure (fun v => some (h v)) hl hb]
  congr 1
  induction vs with
  | nil => rfl
  | cons v vs ih => exact congrArg (h v :: ·) (ih (Nat.lt_of_succ_lt hl) fun w hw => hb w (List.mem_cons_of_mem _ hw))
/-- items that change the store: J what stays true of it -/
theorem lc_st {vs : List Val} {S : Store} {body : Val → Store → Out (Option Val)} (J : Store → Prop) (P : Val → Prop) (hl : vs.length < SZ) (h0 : J S)
    (hb : ∀ v ∈ vs, ∀ S, J S → (body v S).Ok fun y S' => ∃ z, y = some z ∧ P z ∧ J S') : (lcN (.its vs) body TURNS 0 [] S).Ok fun ys S' => ys.length = vs.length ∧ (∀ y ∈ ys, P y) ∧ J S' := by
  have hz : SZ = 16777216 := rfl
  have ht : TURNS = 20000000 := rfl
  refine (lcN_ok (vs := vs) (fun i acc S' => acc.length = i ∧ (∀ y ∈ acc, P y) ∧ J S') (fun _ _ _ _ => rfl) hl (fun i acc S' h => by rw [h.1]; exact Nat.le_refl _) (fun i acc S' v hv ⟨e1, e2, e3⟩ => ?_) TURNS 0 [] S (by omega) (Nat.zero_le _) ⟨rfl, by simp, h0⟩)
  refine (hb v (List.mem_of_getElem? hv) S' e3).imp fun y S'' ⟨z, e, p, j⟩ => ?_
  subst e
  refine ⟨by rw [List.length_append, e1]; rfl, fun y hy => ?_, j⟩
  rcases List.mem_append.mp hy with q | q
  · exact e2 y q
  · rw [List.mem_singleton.mp q]
    exact p
/-! ### the small equations -/
theorem cmp_eq_int (S : Store) (i j : Int) : cmpV S .eq (.int i) (.int j) = some (decide (i = j)) := by
  show some (PyData.eqv (.int i) (.int j)) = _
  rw [PyData.eqv]
  rfl
theorem cmp_ne_int (S : Store) (i j : Int) : cmpV S .ne (.int i) (.int j) = some (!decide (i = j)) := by
  show some (!PyData.eqv (.int i) (.int j)) = _
  rw [PyData.eqv]
  rfl
theorem cmp_lt_int (S : Store) (i j : Int) : cmpV S .lt (.int i) (.int j) = some (decide (i < j)) := rfl
theorem cmp_le_int (S : Store) (i j : Int) : cmpV S .le (.int i) (.int j) = some (decide (i ≤ j)) := rfl
theorem cmp_gt_int (S : Store) (i j : Int) : cmpV S .gt (.int i) (.int j) = some (decide (j < i)) := rfl
theorem cmp_ge_int (S : Store) (i j : Int) : cmpV S .ge (.int i) (.int j) = some (decide (j ≤ i)) := rfl
theorem cmp_in (S : Store) (v w : Val) : cmpV S .inn v w = inV S v w := by cases v <;> cases w <;> rfl
theorem cmp_nin (S : Store) (v w : Val) : cmpV S .nin v w = (inV S v w).map (!·) := by cases v <;> cases w <;> rfl
theorem cmp_eq (S : Store) (v w : Val) : cmpV S .eq v w = match datV S v, datV S w with
    | some d, some e => some (PyData.eqv d e)
    | _, _ => none := by cases v <;> rfl
theorem cmp_ne (S : Store) (v w : Val) : cmpV S .ne v w = match datV S v, datV S w with
    | some d, some e => some (!PyData.eqv d e)
    | _, _ => none := by cases v <;> rfl
theorem tru_bl (S : Store) (b : Bool) : tru S (.bl b) = some b := rfl
theorem add_int (S : Store) (i j : Int) : binV S .add (.int i) (.int j) = .ok (.int (i + j)) S := rfl
theorem sub_int (S : Store) (i j : Int) : binV S .sub (.int i) (.int j) = .ok (.int (i - j)) S := rfl
theorem mul_intR (S : Store) (i j : Int) (h1 : -18446744073709551616 < j) (h2 : j < 18446744073709551616) : binV S .mul (.int i) (.int j) = .ok (.int (i * j)) S := if_pos (.inr ⟨h1, h2⟩)
theorem mod_int (S : Store) (i j : Int) (h : 0 < j) : binV S .mod (.int i) (.int j) = .ok (.int (i % j)) S := if_pos h
theorem fdiv_int (S : Store) (i j : Int) (h : 0 < j) (h2 : j.natAbs.log2 < 9000) : binV S .fdiv (.int i) (.int j) = .ok (.int (i / j)) S := if_pos ⟨h, h2⟩
theorem log_small {j : Int} (h0 : 0 < j) (h : j < 18446744073709551616) : j.natAbs.log2 < 9000 := by
  have : j.natAbs < 2 ^ 64 := by omega
  exact Nat.lt_trans ((Nat.log2_lt (by omega)).mpr this) (by decide)
theorem pow10 (S : Store) (k : Int) (r : Int) (h : (0 ≤ k ∧ k ≤ 1000000) ∧ (10 : Int) ^ k.toNat = r) : binV S .pow (.int 10) (.int k) = .ok (.int r) S := by
  show (if 0 ≤ k ∧ k ≤ 1000000 ∧ (10 : Int).natAbs < 2 ^ 64 then Out.ok (Val.int ((10 : Int) ^ k.toNat)) S else .no) = _
  rw [if_pos ⟨h.1.1, h.1.2, by decide⟩, h.2]
theorem pow10_18 (S : Store) : binV S .pow (.int 10) (.int 18) = .ok (.int 1000000000000000000) S := pow10 S 18 _ (by decide)
theorem pow10_17 (S : Store) : binV S .pow (.int 10) (.int 17) = .ok (.int 100000000000000000) S := pow10 S 17 _ (by decide)
theorem pow10_15 (S : Store) : binV S .pow (.int 10) (.int 15) = .ok (.int 1000000000000000) S := pow10 S 15 _ (by decide)
theorem pow10_6 (S : Store) : binV S .pow (.int 10) (.int 6) = .ok (.int 1000000) S := pow10 S 6 _ (by decide)
theorem seqAt_0 (vs : List Val) (S : Store) : seqAt (.lst vs :: S) 0 = some vs := rfl
theorem sq_cons (o : Ob) (S : Store) (k : Nat) : seqAt (o :: S) (k + 1) = seqAt S k := rfl
theorem int_int (S : Store) (i : Int) : bltV S "int" [.int i] = .ok (.int i) S := rfl
theorem int_bl (S : Store) (b : Bool) : bltV S "int" [.bl b] = .ok (.int (if b then 1 else 0)) S := rfl
theorem len_tup (S : Store) (xs : List Val) : bltV S "len" [.tup xs] = .ok (.int xs.length) S := rfl
theorem len_fz (S : Store) (xs : List Val) : bltV S "len" [.fz xs] = .ok (.int xs.length) S := rfl
theorem len_wr (S : Store) (xs : List Val) : bltV S "len" [.wr xs] = .ok (.int xs.length) S := rfl
theorem len_str (S : Store) (x : Str) (h : x.length ≤ SZ) : bltV S "len" [.str x] = .ok (.int x.length) S := if_pos h
theorem max_int (S : Store) (i j : Int) : bltV S "max" [.int i, .int j] = .ok (.int (if j > i then j else i)) S := rfl
theorem min_int (S : Store) (i j : Int) : bltV S "min" [.int i, .int j] = .ok (.int (if j < i then j else i)) S := rfl
theorem lst_fz (S : Store) (vs : List Val) : lstV S (.fz vs) = some vs := rfl
theorem sqv_fz (S : Store) (vs : List Val) : sqV S (.fz vs) = some vs := rfl
theorem sqv_tup (S : Store) (vs : List Val) : sqV S (.tup vs) = some vs := rfl
theorem idx_ref (S : Store) (k : Nat) (i : Int) : idxV S (.ref k) (.int i) = (seqAt S k).bind fun vs => L2.atI vs i := rfl
theorem idx_fz (S : Store) (vs : List Val) (i : Int) : idxV S (.fz vs) (.int i) = L2.atI vs i := rfl
theorem idx_tup (S : Store) (vs : List Val) (i : Int) : idxV S (.tup vs) (.int i) = L2.atI vs i := rfl
theorem mkL_f (S : Store) (vs : List Val) : mkL false S vs = .ok (.fz vs) S := rfl
theorem mkL_t (S : Store) (vs : List Val) : mkL true S vs = .ok (.ref S.length) (S ++ [.lst vs]) := rfl
theorem newL_f (S : Store) (vs : List Val) : newL false S vs = if vs.length ≤ SZ then .ok (.fz vs) S else .no := rfl
theorem newL_t (S : Store) (vs : List Val) : newL true S vs = if vs.length ≤ SZ then .ok (.ref S.length) (S ++ [.lst vs]) else .no := rfl
theorem add_fz (S : Store) (xs ys : List Val) : binV S .add (.fz xs) (.fz ys) = if xs.length + ys.length ≤ SZ then .ok (.fz (xs ++ ys)) S else .no := rfl
theorem add_tup (S : Store) (xs ys : List Val) : binV S .add (.tup xs) (.tup ys) = if xs.length + ys.length ≤ SZ then .ok (.tup (xs ++ ys)) S else .no := rfl
section
variable {α : Type} (a b c d e : α) (l : List α)
theorem at_nat (l : List α) (n : Nat) (i : Int) (hi : i = n) (h : n < l.length) : L2.atI l i = l[n]? := by
  subst hi
  unfold L2.atI L2.ixN
  rw [if_pos (by omega), if_pos (by omega)]
  rfl
theorem at0 : L2.atI (a :: l) 0 = some a := at_nat _ 0 0 rfl (by simp)
theorem at1 : L2.atI (a :: b :: l) 1 = some b := at_nat _ 1 1 rfl (by simp)
theorem at2 : L2.atI (a :: b :: c :: l) 2 = some c := at_nat _ 2 2 rfl (by simp)
theorem at3 : L2.atI (a :: b :: c :: d :: l) 3 = some d := at_nat _ 3 3 rfl (by simp)
theorem at4 : L2.atI (a :: b :: c :: d :: e :: l) 4 = some e := at_nat _ 4 4 rfl (by simp)
end
theorem ix51 : L2.ixN 5 1 = some 1 := rfl
theorem ix52 : L2.ixN 5 2 = some 2 := rfl
theorem ix53 : L2.ixN 5 3 = some 3 := rfl
theorem ix54 : L2.ixN 5 4 = some 4 := rfl
theorem ca0 : ((0 : Nat) : Int) = 0 := rfl
theorem ca1 : ((1 : Nat) : Int) = 1 := rfl
theorem ca2 : ((2 : Nat) : Int) = 2 := rfl
theorem ca3 : ((3 : Nat) : Int) = 3 := rfl
theorem ca4 : ((4 : Nat) : Int) = 4 := rfl
theorem ca5 : ((5 : Nat) : Int) = 5 := rfl
theorem ca6 : ((6 : Nat) : Int) = 6 := rfl
theorem ca7 : ((7 : Nat) : Int) = 7 := rfl
theorem ca8 : ((8 : Nat) : Int) = 8 := rfl
theorem ca9 : ((9 : Nat) : Int) = 9 := rfl
theorem ca10 : ((10 : Nat) : Int) = 10 := rfl
theorem ca11 : ((11 : Nat) : Int) = 11 := rfl
theorem ca12 : ((12 : Nat) : Int) = 12 := rfl
theorem szw_le (n : Nat) (h : n ≤ 1000) : (n ≤ SZ) = True := eq_true (Nat.le_trans h (by decide))
theorem ki_NoneType_bool : L2.kitB "NoneType" "bool" = some false := by decide +kernel
theorem ki_NoneType_int : L2.kitB "NoneType" "int" = some false := by decide +kernel
theorem ki_NoneType_str : L2.kitB "NoneType" "str" = some false := by decide +kernel
theorem ki_NoneType_list : L2.kitB "NoneType" "list" = some false := by decide +kernel
theorem ki_NoneType_tuple : L2.kitB "NoneType" "tuple" = some false := by decide +kernel
theorem ki_bool_bool : L2.kitB "bool" "bool" = some true := by decide +kernel
theorem ki_bool_int : L2.kitB "bool" "int" = some true := by decide +kernel
theorem ki_bool_str : L2.kitB "bool" "str" = some false := by decide +kernel
theorem ki_bool_list : L2.kitB "bool" "list" = some false := by decide +kernel
theorem ki_bool_tuple : L2.kitB "bool" "tuple" = some false := by decide +kernel
theorem ki_int_bool : L2.kitB "int" "bool" = some false := by decide +kernel
theorem ki_int_int : L2.kitB "int" "int" = some true := by decide +kernel
theorem ki_int_str : L2.kitB "int" "str" = some false := by decide +kernel
theorem ki_int_list : L2.kitB "int" "list" = some false := by decide +kernel
theorem ki_int_tuple : L2.kitB "int" "tuple" = some false := by decide +kernel
theorem ki_str_bool : L2.kitB "str" "bool" = some false := by decide +kernel
theorem ki_str_int : L2.kitB "str" "int" = some false := by decide +kernel
theorem ki_str_str : L2.kitB "str" "str" = some true := by decide +kernel
theorem ki_str_list : L2.kitB "str" "list" = some false := by decide +kernel
theorem ki_str_tuple : L2.kitB "str" "tuple" = some false := by decide +kernel
theorem ki_list_bool : L2.kitB "list" "bool" = some false := by decide +kernel
theorem ki_list_int : L2.kitB "list" "int" = some false := by decide +kernel
theorem ki_list_str : L2.kitB "list" "str" = some false := by decide +kernel
theorem ki_list_list : L2.kitB "list" "list" = some true := by decide +kernel
theorem ki_list_tuple : L2.kitB "list" "tuple" = some false := by decide +kernel
theorem ki_tuple_bool : L2.kitB "tuple" "bool" = some false := by decide +kernel
theorem ki_tuple_int : L2.kitB "tuple" "int" = some false := by decide +kernel
theorem ki_tuple_str : L2.kitB "tuple" "str" = some false := by decide +kernel
theorem ki_tuple_list : L2.kitB "tuple" "list" = some false := by decide +kernel
theorem ki_tuple_tuple : L2.kitB "tuple" "tuple" = some true := by decide +kernel
theorem isin (S : Store) (v : Val) (n : String) : bltV S "isinstance" [v, .ty n] = match tyN S v with
  | some t => ofO S ((L2.kitB t n).map .bl)
  | none => .no := rfl
theorem tyN_non (S : Store) : tyN S .non = some "NoneType" := rfl
theorem tyN_bl (S : Store) (b : Bool) : tyN S (.bl b) = some "bool" := rfl
theorem tyN_int (S : Store) (b : Int) : tyN S (.int b) = some "int" := rfl
theorem tyN_str (S : Store) (b : Str) : tyN S (.str b) = some "str" := rfl
theorem tyN_tup (S : Store) (b : List Val) : tyN S (.tup b) = some "tuple" := rfl
theorem tyN_fz (S : Store) (b : List Val) : tyN S (.fz b) = some "list" := rfl
theorem is_non (S : Store) (v : Val) : cmpV S .is v .non = some (match v with | .non => true | _ => false) := by cases v <;> rfl
theorem toD_bl (S : Store) (n : Nat) (b : Bool) : toD S n (.bl b) = some (.bool b) := by cases n <;> rfl
theorem toD_int (S : Store) (n : Nat) (b : Int) : toD S n (.int b) = some (.int b) := by cases n <;> rfl
theorem toD_non (S : Store) (n : Nat) : toD S n .non = some .none := by cases n <;> rfl
theorem toD_str (S : Store) (n : Nat) (x : Str) (h : PyData.strOk x = true) : toD S n (.str x) = some (.str x) := by
  have : scalD (.str x) = some (.str x) := if_pos h
  cases n <;> exact this
theorem in45 (S : Store) (i : Int) : inV S (.int i) (.tup [.int 4, .int 5]) = some (decide (i = 4 ∨ i = 5)) := by
  show some ([PyData.int 4, .int 5].any fun z => PyData.eqv z (.int i)) = _
  simp only [List.any_cons, List.any_nil, PyData.eqv, Bool.or_false]
  congr 1
  by_cases h1 : i = 4
  · subst h1
    rfl
  · by_cases h2 : i = 5
    · subst h2
      rfl
    · have e1 : ((4 : Int) == i) = false := beq_eq_false_iff_ne.mpr (fun z => h1 z.symm)
      have e2 : ((5 : Int) == i) = false := beq_eq_false_iff_ne.mpr (fun z => h2 z.symm)
      rw [e1, e2]
      simp [h1, h2]
theorem r62a (j : Nat) : -(2 ^ 62) ≤ (j : Int) := by omega
theorem r62b (j : Nat) (hj : j ≤ 1000000) : (j : Int) < 2 ^ 62 := Int.lt_of_le_of_lt (Int.ofNat_le.mpr hj) (by decide)
def rngV (j : Nat) : List Val := (List.range j).map fun (i : Nat) => .int (i : Int)
theorem rng_ok {g : Cfg} {a : C} {r : Rho} {S S1 : Store} {j : Nat} (h : evE g a r S = .ok (.int j) S1) (hj : j ≤ 1000000) : evI g (.irng a) r S = .ok (.its (rngV j)) S1 := by
  rw [evI, h, Out.bind_ok]
  dsimp only
  rw [if_pos ⟨r62a j, r62b j hj⟩, Int.toNat_natCast]
  rfl
end Mv

/-! MwB: the script's bag, kinds, sameness. -/
namespace Mv
open PySem (Str PyData)
theorem mt_index (S : Store) (vs : List Val) : mthT S (.fz vs) "index" = some "list" := rfl
theorem mt_append (S : Store) (k : Nat) (vs : List Val) (h : seqAt S k = some vs) : mthT S (.ref k) "append" = some "list" := by
  have e : tyN S (.ref k) = some "list" := by
    show (seqAt S k).map _ = _
    rw [h]
    rfl
  unfold mthT
  rw [e]
  rfl
theorem mt_clear (S : Store) (k : Nat) (vs : List Val) (h : seqAt S k = some vs) : mthT S (.ref k) "clear" = some "list" := by
  have e : tyN S (.ref k) = some "list" := by
    show (seqAt S k).map _ = _
    rw [h]
    rfl
  unfold mthT
  rw [e]
  rfl
local macro_rules | `(tactic| walk_at "ev") => `(tactic| try simp only [evS, evT, evE, evEs, evO, evG, evGs, evF, Out.bind_ok, Out.bind_no, Out.bindN_ok, lift_ok, Out.Ok_ok, Out.Ok_bind, Out.Ok_bindN, Out.Ok_lift, SO.Ok_nx, SO.Ok_rt, SO.Ok_bk, SO.Ok_ct, thn_nx, thn_rt, thn_bk, thn_ct, endQ_nx, endQ_rt, Ok_ss0, ofO_some, List.getElem?_cons_zero, List.getElem?_cons_succ, List.set_cons_zero, List.set_cons_succ, Option.map_some, Option.bind_some, List.length_cons, List.length_nil, ix51, ix52, ix53, ix54, Nat.zero_add, Nat.reduceAdd, cmp_eq_int, cmp_ne_int, cmp_lt_int, cmp_le_int, cmp_gt_int, cmp_ge_int, cmp_in, cmp_nin, tru_bl, add_int, sub_int, mul_intR, mod_int, fdiv_int, pow10_18, pow10_17, pow10_15, pow10_6, int_int, int_bl, len_tup, len_fz, len_wr, idx_fz, idx_tup, idx_ref, lst_fz, sq_cons, seqAt_0, at0, at1, at2, at3, at4, Int.reduceNeg, Int.reduceLT, Int.reduceLE, decide_true, decide_false, eq_self, isin, is_non, tyN_non, tyN_bl, tyN_int, tyN_str, tyN_tup, tyN_fz, mkL_f, newL_f, add_fz, add_tup, Int.reduceEq, ca0, ca1, ca2, ca3, ca4, ca5, ca6, ca7, ca8, ca9, ca10, ca11, ca12, List.foldl_cons, List.foldl_nil, List.zip_cons_cons, List.zip_nil_left, List.zip_nil_right, Int.toNat_natCast, wipe, List.foldr_cons, List.foldr_nil, szw_le, if_true, Nat.reduceLeDiff, Bool.not_true, Bool.not_false, List.cons_append, List.nil_append, mapO, Src.get, in45, ki_NoneType_bool, ki_NoneType_int, ki_NoneType_str, ki_NoneType_list, ki_NoneType_tuple, ki_bool_bool, ki_bool_int, ki_bool_str, ki_bool_list, ki_bool_tuple, ki_int_bool, ki_int_int, ki_int_str, ki_int_list, ki_int_tuple, ki_str_bool, ki_str_int, ki_str_str, ki_str_list, ki_str_tuple, ki_list_bool, ki_list_int, ki_list_str, ki_list_list, ki_list_tuple, ki_tuple_bool, ki_tuple_int, ki_tuple_str, ki_tuple_list, ki_tuple_tuple, *])
local macro_rules | `(tactic| walk_at "st") => `(tactic| ((try rw [Ok_ss]); walk_at "ev"))
local macro_rules | `(tactic| walk_at "go") => `(tactic| (walk_at "ev"; repeat (rw [Ok_ss]; walk_at "ev")))
local macro_rules | `(tactic| walk_at "end") => `(tactic| (walk_at "go"; first | done | exact ⟨rfl, trivial⟩ | exact ⟨trivial, trivial⟩ | (simp; done)))
def cPull2 : C :=
  (.cons (.iff (.cmp .gt (.idx (.var 0) (.kint 2)) (.kint 0)) (.cons (.asg (.tn 4) (.bin .mod (.blt "int" (.cons (.idx (.var 0) (.kint 2)) .nil)) (.var 1))) (.cons (.asg (.tsub (.var 0) (.kint 2)) (.bin .fdiv (.idx (.var 0) (.kint 2)) (.var 1))) (.cons (.ret (.var 4)) .nil))) .nil) (.cons (.asg (.tsub (.var 0) (.kint 4)) (.bin .add (.idx (.var 0) (.kint 4)) (.kint 1))) (.cons (.asg (.tn 2) (.idx (.var 0) (.kint 3))) (.cons (.asg (.tsub (.var 0) (.kint 3)) (.bin .mod (.blt "int" (.cons (.bin .add (.bin .add (.bin .add (.bin .mul (.var 2) (.var 2)) (.bin .mul (.var 2) (.kint 31081))) (.bin .mul (.idx (.var 0) (.kint 4)) (.kint 1299833))) (.kint 70001)) .nil)) (.kint 2147483549))) (.cons (.ret (.bin .mod (.blt "int" (.cons (.bin .add (.bin .fdiv (.idx (.var 0) (.kint 3)) (.kint 59)) (.bin .mul (.bin .mod (.blt "int" (.cons (.idx (.var 0) (.kint 3)) .nil)) (.kint 8053)) (.kint 47))) .nil)) (.var 1))) .nil)))))
def cPull : C :=
  (.cons (.iff (.and_ (.cmp .eq (.idx (.var 0) (.kint 2)) (.kint 0)) (.cmp .lt (.idx (.var 0) (.kint 1)) (.blt "len" (.cons (.idx (.var 0) (.kint 0)) .nil)))) (.cons (.asg (.tn 3) (.idx (.idx (.var 0) (.kint 0)) (.idx (.var 0) (.kint 1)))) (.cons (.asg (.tsub (.var 0) (.kint 1)) (.bin .add (.idx (.var 0) (.kint 1)) (.kint 1))) (.cons (.iff (.cmp .ge (.var 3) (.bin .pow (.kint 10) (.kint 18))) (.cons (.asg (.tsub (.var 0) (.kint 2)) (.var 3)) .nil) (.cons (.asg (.tsub (.var 0) (.kint 3)) (.bin .mod (.blt "int" (.cons (.bin .add (.bin .add (.bin .mul (.idx (.var 0) (.kint 3)) (.kint 43051)) (.bin .mul (.bin .mod (.blt "int" (.cons (.var 3) .nil)) (.kint 2147483423)) (.kint 7411))) (.kint 37)) .nil)) (.kint 2147483579))) .nil)) .nil))) .nil) cPull2)
/-- the bag's cell -/
def BagO (o : Ob) : Prop := ∃ (ns : List Int) (a c d e : Int), o = .lst [.fz (ns.map .int), .int a, .int c, .int d, .int e] ∧ 0 ≤ a ∧ 0 ≤ c ∧ 0 ≤ d ∧ d < 2 ^ 32
/-- the bag is cell 0, the rest stays -/
def Bq (R : Store) (P : Val → Prop) (v : Val) (S : Store) : Prop := ∃ o, BagO o ∧ S = o :: R ∧ P v
theorem pull2 {g : Cfg} {size : Int} {ns : List Int} {a c d e : Int} {R : Store} {x3 : Option Val} (ha : 0 ≤ a) (hc : 0 ≤ c) (hd : 0 ≤ d) (hd2 : d < 2 ^ 32) (hs : 0 < size) (hs2 : size.natAbs.log2 < 9000) :
    (evSs g cPull2 [some (.ref 0), some (.int size), none, x3, none] (.lst [.fz (ns.map .int), .int a, .int c, .int d, .int e] :: R)).Ok (endQ (Bq R fun v => ∃ r : Int, v = .int r ∧ 0 ≤ r ∧ r < size)) := by
  unfold cPull2
  walk_at "st"
  by_cases q : 0 < c
  · walk_at "ev"
    walk_at "st"
    walk_at "st"
    walk_at "st"
    exact ⟨_, ⟨_, _, _, _, _, rfl, ha, Int.ediv_nonneg hc (by omega), hd, hd2⟩, rfl, _, rfl, Int.emod_nonneg _ (by omega), Int.emod_lt_of_pos _ hs⟩
  · walk_at "ev"
    walk_at "st"
    walk_at "st"
    have m1 : -18446744073709551616 < d := by omega
    have m2 : d < 18446744073709551616 := by omega
    have l59 : (59 : Int).natAbs.log2 < 9000 := log_small (by omega) (by omega)
    have p59 : (0 : Int) < 59 := by omega
    walk_at "st"
    walk_at "st"
    refine ⟨_, ⟨_, _, _, _, _, rfl, ha, hc, Int.emod_nonneg _ (by omega), ?_⟩, rfl, _, rfl, Int.emod_nonneg _ (by omega), Int.emod_lt_of_pos _ hs⟩
    exact Int.lt_trans (Int.emod_lt_of_pos _ (by omega)) (by omega)
theorem pull_ok {T : Tab} {n f : Nat} {size : Int} {o : Ob} {R : Store} (hf : T.fn f = some ⟨2, 5, false, false, cPull⟩) (hb : BagO o) (hs : 0 < size) (hs2 : size < 18446744073709551616) :
    (T.run (n + 1) f [.ref 0, .int size] (o :: R)).Ok (Bq R fun v => ∃ r : Int, v = .int r ∧ 0 ≤ r ∧ r < size) := by
  obtain ⟨ns, a, c, d, e, rfl, ha, hc, hd, hd2⟩ := hb
  have hs3 := log_small hs hs2
  apply ok_run hf rfl
  show (evSs _ cPull [some (.ref 0), some (.int size), none, none, none] _).Ok _
  unfold cPull
  walk_at "st"
  by_cases q : c = 0
  · subst q
    walk_at "ev"
    by_cases q2 : a < ((ns.map Val.int).length : Nat)
    · walk_at "ev"
      walk_at "st"
      have ea : L2.atI (ns.map Val.int) a = some (.int (ns[a.toNat]'(by simp at q2; omega))) := by
        rw [at_nat _ a.toNat a (by omega) (by simp at q2 ⊢; omega)]
        simp
      generalize ns[a.toNat]'(by simp at q2; omega) = x at ea
      walk_at "st"
      walk_at "st"
      by_cases q3 : 1000000000000000000 ≤ x
      · walk_at "st"
        walk_at "st"
        exact pull2 (by omega) (Int.le_trans (by decide) q3) hd hd2 hs hs3
      · walk_at "st"
        walk_at "st"
        exact pull2 (by omega) (by omega) (Int.emod_nonneg _ (by omega)) (Int.lt_trans (Int.emod_lt_of_pos _ (by omega)) (by omega)) hs hs3
    · walk_at "ev"
      exact pull2 ha (by omega) hd hd2 hs hs3
  · walk_at "ev"
    exact pull2 ha hc hd hd2 hs hs3
/-- as a natural number -/
theorem pull_nat {T : Tab} {n f : Nat} {size : Int} {o : Ob} {R : Store} (hf : T.fn f = some ⟨2, 5, false, false, cPull⟩) (hb : BagO o) (hs : 0 < size) (hs2 : size < 18446744073709551616) :
    (T.run (n + 1) f [.ref 0, .int size] (o :: R)).Ok (Bq R fun v => ∃ r : Nat, v = .int r ∧ (r : Int) < size) :=
  (pull_ok hf hb hs hs2).imp fun v S ⟨o, h1, h2, r, e, h3, h4⟩ => ⟨o, h1, h2, r.toNat, by rw [e, Int.toNat_of_nonneg h3], by omega⟩
/-! ### the pick -/
def cPick (f : Nat) : C := (.cons (.ret (.idx (.var 1) (.call f (.cons (.var 0) (.cons (.blt "len" (.cons (.var 1) .nil)) .nil))))) .nil)
theorem pick_fz {T : Tab} {n f fp : Nat} {o : Ob} {R : Store} {vs : List Val} (hf : T.fn fp = some ⟨2, 5, false, false, cPull⟩) (hk : T.fn f = some ⟨2, 2, false, false, cPick fp⟩) (hb : BagO o) (h0 : vs ≠ []) (h1 : vs.length < 18446744073709551616) :
    (T.run (n + 2) f [.ref 0, .fz vs] (o :: R)).Ok (Bq R fun v => v ∈ vs) := by
  have hl : 0 < vs.length := List.length_pos_iff.mpr h0
  apply ok_run hk rfl
  show (evSs _ (cPick fp) [some (.ref 0), some (.fz vs)] _).Ok _
  unfold cPick
  walk_at "st"
  refine (pull_nat (n := n) hf hb (size := vs.length) (by omega) (by omega)).imp fun w S' ⟨o', b', e', r, e, h3⟩ => ?_
  subst e e'
  have h4 : r < vs.length := by omega
  have := at_nat vs r r rfl h4
  rw [List.getElem?_eq_getElem h4] at this
  walk_at "ev"
  exact ⟨o', b', rfl, List.getElem_mem h4⟩
theorem pick_tup {T : Tab} {n f fp : Nat} {o : Ob} {R : Store} {vs : List Val} (hf : T.fn fp = some ⟨2, 5, false, false, cPull⟩) (hk : T.fn f = some ⟨2, 2, false, false, cPick fp⟩) (hb : BagO o) (h0 : vs ≠ []) (h1 : vs.length < 18446744073709551616) :
    (T.run (n + 2) f [.ref 0, .tup vs] (o :: R)).Ok (Bq R fun v => v ∈ vs) := by
  have hl : 0 < vs.length := List.length_pos_iff.mpr h0
  apply ok_run hk rfl
  show (evSs _ (cPick fp) [some (.ref 0), some (.tup vs)] _).Ok _
  unfold cPick
  walk_at "st"
  refine (pull_nat (n := n) hf hb (size := vs.length) (by omega) (by omega)).imp fun w S' ⟨o', b', e', r, e, h3⟩ => ?_
  subst e e'
  have h4 : r < vs.length := by omega
  have := at_nat vs r r rfl h4
  rw [List.getElem?_eq_getElem h4] at this
  walk_at "ev"
  exact ⟨o', b', rfl, List.getElem_mem h4⟩
/-! ### the start -/
def cStart (seed : Int) : C :=
  (.cons (.ret (.lst true (.cons (.lof false (.sl false (.var 0) .nil (.kint 63))) (.cons (.kint 0) (.cons (.kint 0) (.cons (.bin .add (.kint seed) (.blt "len" (.cons (.var 0) .nil))) (.cons (.kint 0) .nil))))))) .nil)
theorem start_ok {T : Tab} {n f : Nat} {seed : Int} {ns : List Int} (hf : T.fn f = some ⟨1, 1, false, false, cStart seed⟩) (h0 : 0 ≤ seed) (h1 : seed < 1000000) (hl : ns.length ≤ 63) :
    ∃ o, BagO o ∧ T.run (n + 1) f [.wr (ns.map .int)] [] = .ok (.ref 0) [o] := by
  refine ⟨.lst [.fz (ns.map .int), .int 0, .int 0, .int (seed + ns.length), .int 0], ⟨ns, 0, 0, seed + ns.length, 0, rfl, by omega, by omega, by omega, by omega⟩, Out.Ok.eq ?_⟩
  apply ok_run hf rfl
  show (evSs _ (cStart seed) [some (.wr (ns.map .int))] _).Ok _
  unfold cStart
  have e1 : slV false [] (.wr (ns.map .int)) none (some 63) = .ok (.fz (ns.map .int)) [] := by
    show Out.ok (Val.fz (cut (ns.map Val.int) none (some 63))) [] = _
    congr 2
    unfold cut
    have e : HT.sIx (ns.map Val.int).length (ns.map Val.int).length (some 63) = (ns.map Val.int).length := by
      rw [show (63 : Int) = ((63 : Nat) : Int) from rfl, HT.sIx_nat]
      rw [List.length_map]
      omega
    rw [e, HT.sIx_none, Nat.sub_zero, List.drop_zero, List.take_length]
  have e2 := sqv_fz [] (ns.map .int)
  have e3 := newL_t []
  walk_at "st"
  simp only [List.length_map, List.length_nil, List.nil_append]
  exact ⟨trivial, trivial⟩
/-! ### kinds -/
def cKind : C :=
  (.cons (.asg (.tn 1) (.lst false (.cons (.cmp .is (.var 0) .knon) (.cons (.blt "isinstance" (.cons (.var 0) (.cons (.kty "bool") .nil))) (.cons (.blt "isinstance" (.cons (.var 0) (.cons (.kty "int") .nil))) (.cons (.blt "isinstance" (.cons (.var 0) (.cons (.kty "str") .nil))) .nil)))))) (.cons (.asg (.tn 1) (.bin .add (.var 1) (.lst false (.cons (.blt "isinstance" (.cons (.var 0) (.cons (.kty "list") .nil))) (.cons (.blt "isinstance" (.cons (.var 0) (.cons (.kty "tuple") .nil))) (.cons (.kbl true) .nil)))))) (.cons (.ret (.mth "index" (.var 1) (.cons (.kbl true) .nil))) .nil)))
def kind : Val → Option Nat
  | .non => some 0 | .bl _ => some 1 | .int _ => some 2 | .str _ => some 3 | .fz _ => some 4 | .tup _ => some 5
  | _ => none
theorem toD_bls (S : Store) (n : Nat) : ∀ bs : List Bool, mapO (toD S n) (bs.map .bl) = some (bs.map .bool) := by
  intro bs
  induction bs with
  | nil => rfl
  | cons b bs ih =>
    rw [List.map_cons, mapO, toD_bl, ih]
    rfl
/-- the place of True in a list of booleans -/
theorem index_bl {S : Store} {bs : List Bool} {j : Nat} (hj : bs.findIdx? (fun b => b) = some j) : mthV S "list" "index" (.fz (bs.map .bl)) [.bl true] = .ok (.int j) S := by
  have e1 : datV S (.fz (bs.map .bl)) = some (.list (bs.map .bool)) := by
    show (mapO (toD S 59) (bs.map .bl)).map PyData.list = _
    rw [toD_bls]
    rfl
  have e2 : datV S (.bl true) = some (.bool true) := toD_bl S 60 true
  have e3 : mthV S "list" "index" (.fz (bs.map .bl)) [.bl true] = match datV S (.fz (bs.map .bl)), datV S (.bl true) with
      | some (.list ds), some d => ofO S ((firstIx ds d).map fun j => .int (j : Nat))
      | _, _ => .no := rfl
  rw [e3, e1, e2]
  show ofO S ((firstIx (bs.map .bool) (.bool true)).map fun j => Val.int (j : Nat)) = _
  have e4 : firstIx (bs.map .bool) (.bool true) = some j := by
    unfold firstIx
    rw [List.findIdx?_map, ← hj]
    congr 1
    funext b
    show PyData.eqv (.bool b) (.bool true) = b
    rw [PyData.eqv]
    cases b <;> rfl
  rw [e4]
  rfl
theorem kind_ok {T : Tab} {n f : Nat} {S : Store} {v : Val} {j : Nat} (hf : T.fn f = some ⟨1, 2, false, false, cKind⟩) (h : kind v = some j) : T.run (n + 1) f [v] S = .ok (.int j) S := by
  apply Out.Ok.eq
  apply ok_run hf rfl
  show (evSs _ cKind [some v, none] S).Ok _
  unfold cKind
  have key : ∀ (b0 b1 b2 b3 b4 b5 : Bool), [b0, b1, b2, b3, b4, b5, true].findIdx? (fun b => b) = some j → mthV S "list" "index" (.fz [.bl b0, .bl b1, .bl b2, .bl b3, .bl b4, .bl b5, .bl true]) [.bl true] = .ok (.int j) S := fun b0 b1 b2 b3 b4 b5 hj => index_bl (bs := [b0, b1, b2, b3, b4, b5, true]) hj
  have mt := mt_index
  cases v <;> first | cases h | skip
  · have key := key true false false false false false rfl
    walk_at "st"
    walk_at "st"
    walk_at "st"
    exact ⟨trivial, trivial⟩
  · have key := key false true true false false false rfl
    walk_at "st"
    walk_at "st"
    walk_at "st"
    exact ⟨trivial, trivial⟩
  · have key := key false false true false false false rfl
    walk_at "st"
    walk_at "st"
    walk_at "st"
    exact ⟨trivial, trivial⟩
  · have key := key false false false true false false rfl
    walk_at "st"
    walk_at "st"
    walk_at "st"
    exact ⟨trivial, trivial⟩
  · have key := key false false false false false true rfl
    walk_at "st"
    walk_at "st"
    walk_at "st"
    exact ⟨trivial, trivial⟩
  · have key := key false false false false true false rfl
    walk_at "st"
    walk_at "st"
    walk_at "st"
    exact ⟨trivial, trivial⟩
/-! ### sameness -/
/-- data of nesting at most n -/
def dat : Nat → Val → Prop
  | _, .non => True
  | _, .bl _ => True
  | _, .int _ => True
  | _, .str x => PyData.strOk x = true
  | 0, .tup _ => False
  | 0, .fz _ => False
  | n + 1, .tup ds => ds.length < SZ ∧ ∀ d ∈ ds, dat n d
  | n + 1, .fz ds => ds.length < SZ ∧ ∀ d ∈ ds, dat n d
  | _, _ => False
theorem dat_up : ∀ {n : Nat} {v : Val}, dat n v → dat (n + 1) v
  | 0, .non, h => trivial
  | 0, .bl _, h => trivial
  | 0, .int _, h => trivial
  | 0, .str _, h => h
  | 0, .tup _, h => h.elim
  | 0, .fz _, h => h.elim
  | n + 1, .non, h => trivial
  | n + 1, .bl _, h => trivial
  | n + 1, .int _, h => trivial
  | n + 1, .str _, h => h
  | n + 1, .tup _, h => ⟨h.1, fun d hd => dat_up (h.2 d hd)⟩
  | n + 1, .fz _, h => ⟨h.1, fun d hd => dat_up (h.2 d hd)⟩
theorem dat_le {n m : Nat} {v : Val} (h : dat n v) (hm : n ≤ m) : dat m v := by
  induction hm with
  | refl => exact h
  | step _ ih => exact dat_up ih
theorem mapO_all {α β : Type} {f : α → Option β} {R : β → Prop} : ∀ {l : List α}, (∀ a ∈ l, ∃ b, f a = some b ∧ R b) → ∃ bs, mapO f l = some bs ∧ ∀ b ∈ bs, R b
  | [], _ => ⟨[], rfl, by simp⟩
  | a :: l, h => by
    obtain ⟨b, h1, h2⟩ := h a (List.mem_cons_self ..)
    obtain ⟨bs, h3, h4⟩ := mapO_all (l := l) fun x hx => h x (List.mem_cons_of_mem _ hx)
    refine ⟨b :: bs, by rw [mapO, h1]; simp only [h3], fun c hc => ?_⟩
    rcases List.mem_cons.mp hc with rfl | hc
    · exact h2
    · exact h4 c hc
theorem eqvAll_refl : ∀ {ds : List PyData}, (∀ d ∈ ds, PyData.eqv d d = true) → PyData.eqvAll ds ds = true
  | [], _ => by rw [PyData.eqvAll]
  | d :: ds, h => by
    rw [PyData.eqvAll, h d (List.mem_cons_self ..), eqvAll_refl (ds := ds) fun x hx => h x (List.mem_cons_of_mem _ hx)]
    rfl
theorem dat_toD (S : Store) : ∀ (m n : Nat) {v : Val}, n ≤ m → dat n v → ∃ d, toD S m v = some d ∧ PyData.eqv d d = true
  | m, n, .non, _, _ => ⟨.none, toD_non S m, by rw [PyData.eqv]⟩
  | m, n, .bl b, _, _ => ⟨.bool b, toD_bl S m b, by rw [PyData.eqv]; exact beq_self_eq_true b⟩
  | m, n, .int b, _, _ => ⟨.int b, toD_int S m b, by rw [PyData.eqv]; exact beq_self_eq_true b⟩
  | m, n, .str b, _, h => ⟨.str b, toD_str S m b (by cases n <;> exact h), by rw [PyData.eqv]; exact beq_self_eq_true b⟩
  | m, n, .ref _, _, h => (by cases n <;> exact h.elim)
  | m, n, .ty _, _, h => (by cases n <;> exact h.elim)
  | m, n, .wr _, _, h => (by cases n <;> exact h.elim)
  | m, n, .ob _ _ _, _, h => (by cases n <;> exact h.elim)
  | m, n, .er _ _ _, _, h => (by cases n <;> exact h.elim)
  | m, n, .dc _ _, _, h => (by cases n <;> exact h.elim)
  | m, n, .tud _, _, h => (by cases n <;> exact h.elim)
  | m, 0, .tup _, _, h => h.elim
  | m, 0, .fz _, _, h => h.elim
  | 0, n + 1, .tup _, hm, h => by omega
  | 0, n + 1, .fz _, hm, h => by omega
  | m + 1, n + 1, .tup vs, hm, h => by
    obtain ⟨bs, h1, h2⟩ := mapO_all (f := toD S m) (R := fun d => PyData.eqv d d = true) (l := vs) fun a ha => dat_toD S m n (by omega) (h.2 a ha)
    exact ⟨.tuple bs, by show (mapO (toD S m) vs).map PyData.tuple = _; rw [h1]; rfl, by rw [PyData.eqv]; exact eqvAll_refl h2⟩
  | m + 1, n + 1, .fz vs, hm, h => by
    obtain ⟨bs, h1, h2⟩ := mapO_all (f := toD S m) (R := fun d => PyData.eqv d d = true) (l := vs) fun a ha => dat_toD S m n (by omega) (h.2 a ha)
    exact ⟨.list bs, by show (mapO (toD S m) vs).map PyData.list = _; rw [h1]; rfl, by rw [PyData.eqv]; exact eqvAll_refl h2⟩
theorem eq_refl_ {S : Store} {n : Nat} {v : Val} (h : dat n v) (hn : n ≤ 60) : cmpV S .eq v v = some true := by
  obtain ⟨d, h1, h2⟩ := dat_toD S 60 n hn h
  rw [cmp_eq]
  show (match toD S 60 v, toD S 60 v with
    | some d, some e => some (PyData.eqv d e)
    | _, _ => none) = _
  rw [h1, ← h2]
theorem ne_refl_ {S : Store} {n : Nat} {v : Val} (h : dat n v) (hn : n ≤ 60) : cmpV S .ne v v = some false := by
  obtain ⟨d, h1, h2⟩ := dat_toD S 60 n hn h
  rw [cmp_ne]
  show (match toD S 60 v, toD S 60 v with
    | some d, some e => some (!PyData.eqv d e)
    | _, _ => none) = _
  rw [h1]
  show some (!PyData.eqv d d) = _
  rw [h2]
  rfl
theorem ne_of_eq {S : Store} {v w : Val} {b : Bool} (h : cmpV S .eq v w = some b) : cmpV S .ne v w = some (!b) := by
  rw [cmp_eq] at h
  rw [cmp_ne]
  split at h
  · have := Option.some.inj h
    rw [← this]
  · cases h
/-- a list against an empty one -/
theorem eq_nil {S : Store} {n : Nat} {vs : List Val} (h : dat n (.fz vs)) (hn : n ≤ 60) : cmpV S .eq (.fz vs) (.fz []) = some vs.isEmpty := by
  cases n with
  | zero => exact h.elim
  | succ n =>
    obtain ⟨bs, h1, h2⟩ := mapO_all (f := toD S 59) (R := fun _ => True) (l := vs) fun a ha => (dat_toD S 59 n (by omega) (h.2 a ha)).imp fun d z => ⟨z.1, trivial⟩
    rw [cmp_eq]
    show (match (mapO (toD S 59) vs).map PyData.list, (some (.list []) : Option PyData) with
      | some d, some e => some (PyData.eqv d e)
      | _, _ => none) = _
    rw [h1]
    show some (PyData.eqv (.list bs) (.list [])) = _
    rw [PyData.eqv]
    cases vs with
    | nil =>
      cases h1
      rw [PyData.eqvAll]
      rfl
    | cons v vs =>
      rw [mapO] at h1
      cases q : toD S 59 v with
      | none =>
        rw [q] at h1
        cases h1
      | some d =>
        rw [q] at h1
        cases q2 : mapO (toD S 59) vs with
        | none =>
          rw [q2] at h1
          cases h1
        | some ds =>
          rw [q2] at h1
          cases h1
          simp [PyData.eqvAll]
theorem ne_nil {S : Store} {n : Nat} {vs : List Val} (h : dat n (.fz vs)) (hn : n ≤ 60) : cmpV S .ne (.fz vs) (.fz []) = some (!vs.isEmpty) := by
  exact ne_of_eq (eq_nil h hn)
def cSame (fk fs : Nat) : C :=
  (.cons (.iff (.cmp .ne (.call fk (.cons (.var 0) .nil)) (.call fk (.cons (.var 1) .nil))) (.cons (.ret (.kbl false)) .nil) .nil) (.cons (.iff (.cmp .inn (.call fk (.cons (.var 1) .nil)) (.tup (.cons (.kint 4) (.cons (.kint 5) .nil)))) (.cons (.ret (.and_ (.cmp .eq (.blt "len" (.cons (.var 0) .nil)) (.blt "len" (.cons (.var 1) .nil))) (.blt "all" (.cons (.lc false (.call fs (.cons (.var 2) (.cons (.var 3) .nil))) (.tt (.cons (.tn 2) (.cons (.tn 3) .nil))) (.izip (.var 0) (.var 1)) .nil [2, 3]) .nil)))) .nil) .nil) (.cons (.ret (.cmp .eq (.var 0) (.var 1))) .nil)))
theorem mapO_bl : ∀ bs : List Bool, mapO blOf (bs.map .bl) = some bs := by
  intro bs
  induction bs with
  | nil => rfl
  | cons b bs ih => rw [List.map_cons, mapO, ih]; rfl
theorem all_bl (S : Store) (bs : List Bool) : bltV S "all" [.fz (bs.map .bl)] = .ok (.bl (bs.all id)) S := by
  show (match mapO blOf (bs.map .bl) with
      | some bs => Out.ok (Val.bl (bs.all id)) S
      | none => .no) = _
  rw [mapO_bl]
theorem any_bl (S : Store) (bs : List Bool) : bltV S "any" [.fz (bs.map .bl)] = .ok (.bl (bs.any id)) S := by
  show (match mapO blOf (bs.map .bl) with
      | some bs => Out.ok (Val.bl (bs.any id)) S
      | none => .no) = _
  rw [mapO_bl]
theorem all_const {α : Type} (S : Store) (vs : List α) : bltV S "all" [.fz (vs.map fun _ => .bl true)] = .ok (.bl true) S := by
  have : (vs.map fun _ => Val.bl true) = (vs.map fun _ => true).map Val.bl := by rw [List.map_map]; rfl
  rw [this, all_bl]
  congr 2
  rw [List.all_eq_true]
  intro b hb
  obtain ⟨_, _, rfl⟩ := List.mem_map.mp hb
  rfl
theorem mem_zipSelf {α : Type} {f : α → α → Val} {xs : List α} {p : Val} (h : p ∈ List.zipWith f xs xs) : ∃ x ∈ xs, p = f x x := by
  induction xs with
  | nil => cases h
  | cons x xs ih =>
    rcases List.mem_cons.mp h with rfl | h
    · exact ⟨x, List.mem_cons_self .., rfl⟩
    · obtain ⟨y, hy, e⟩ := ih h
      exact ⟨y, List.mem_cons_of_mem _ hy, e⟩
local macro_rules | `(tactic| walk_at "ev") => `(tactic| try simp only [evS, evT, evE, evEs, evO, evG, evGs, evF, Out.bind_ok, Out.bind_no, Out.bindN_ok, lift_ok, Out.Ok_ok, Out.Ok_bind, Out.Ok_bindN, Out.Ok_lift, SO.Ok_nx, SO.Ok_rt, SO.Ok_bk, SO.Ok_ct, thn_nx, thn_rt, thn_bk, thn_ct, endQ_nx, endQ_rt, Ok_ss0, ofO_some, List.getElem?_cons_zero, List.getElem?_cons_succ, List.set_cons_zero, List.set_cons_succ, Option.map_some, Option.bind_some, List.length_cons, List.length_nil, ix51, ix52, ix53, ix54, Nat.zero_add, Nat.reduceAdd, cmp_eq_int, cmp_ne_int, cmp_lt_int, cmp_le_int, cmp_gt_int, cmp_ge_int, cmp_in, cmp_nin, tru_bl, add_int, sub_int, mul_intR, mod_int, fdiv_int, pow10_18, pow10_17, pow10_15, pow10_6, int_int, int_bl, len_tup, len_fz, len_wr, idx_fz, idx_tup, idx_ref, lst_fz, sq_cons, seqAt_0, at0, at1, at2, at3, at4, Int.reduceNeg, Int.reduceLT, Int.reduceLE, decide_true, decide_false, eq_self, isin, is_non, tyN_non, tyN_bl, tyN_int, tyN_str, tyN_tup, tyN_fz, mkL_f, newL_f, add_fz, add_tup, Int.reduceEq, ca0, ca1, ca2, ca3, ca4, ca5, ca6, ca7, ca8, ca9, ca10, ca11, ca12, List.foldl_cons, List.foldl_nil, List.zip_cons_cons, List.zip_nil_left, List.zip_nil_right, Int.toNat_natCast, wipe, List.foldr_cons, List.foldr_nil, szw_le, if_true, Nat.reduceLeDiff, Bool.not_true, Bool.not_false, List.cons_append, List.nil_append, mapO, Src.get, in45, ki_NoneType_bool, ki_NoneType_int, ki_NoneType_str, ki_NoneType_list, ki_NoneType_tuple, ki_bool_bool, ki_bool_int, ki_bool_str, ki_bool_list, ki_bool_tuple, ki_int_bool, ki_int_int, ki_int_str, ki_int_list, ki_int_tuple, ki_str_bool, ki_str_int, ki_str_str, ki_str_list, ki_str_tuple, ki_list_bool, ki_list_int, ki_list_str, ki_list_list, ki_list_tuple, ki_tuple_bool, ki_tuple_int, ki_tuple_str, ki_tuple_list, ki_tuple_tuple, max_int, min_int, *])
local macro_rules | `(tactic| walk_at "st") => `(tactic| ((try rw [Ok_ss]); walk_at "ev"))
local macro_rules | `(tactic| walk_at "go") => `(tactic| (walk_at "ev"; repeat (rw [Ok_ss]; walk_at "ev")))
local macro_rules | `(tactic| walk_at "end") => `(tactic| (walk_at "go"; first | done | exact ⟨rfl, trivial⟩ | exact ⟨trivial, trivial⟩ | (simp; done)))
theorem same_seq {T : Tab} {fk f n : Nat} {S : Store} {v : Val} {xs : List Val} (hk : T.fn fk = some ⟨1, 2, false, false, cKind⟩) (hf : T.fn f = some ⟨2, 4, false, false, cSame fk f⟩) (hv : v = .fz xs ∨ v = .tup xs) (hl : xs.length < SZ)
    (hr : ∀ x ∈ xs, T.run (n + 1) f [x, x] S = .ok (.bl true) S) : T.run (n + 2) f [v, v] S = .ok (.bl true) S := by
  have ki : ∃ j : Nat, kind v = some j ∧ (j : Int) = 4 ∨ kind v = some 5 := by
    rcases hv with rfl | rfl
    · exact ⟨4, .inl ⟨rfl, rfl⟩⟩
    · exact ⟨5, .inr rfl⟩
  have ki : ∃ j : Nat, kind v = some j ∧ ((j : Int) = 4 ∨ (j : Int) = 5) := by
    obtain ⟨j, h | h⟩ := ki
    · exact ⟨j, h.1, .inl h.2⟩
    · exact ⟨5, h, .inr rfl⟩
  obtain ⟨j, k1, k2⟩ := ki
  have k3 := fun S => kind_ok (n := n) (S := S) hk k1
  have k2 := decide_eq_true k2
  have e1 : bltV S "len" [v] = .ok (.int xs.length) S := by rcases hv with rfl | rfl <;> rfl
  have e2 : ∀ g, evI g (.izip (.var 0) (.var 1)) [some v, some v, none, none] S = .ok (.its (List.zipWith (fun x y => .tup [x, y]) xs xs)) S := by
    intro g
    rw [evI]
    simp only [evE]
    rcases hv with rfl | rfl <;> rfl
  apply Out.Ok.eq
  apply ok_run hf rfl
  show (evSs _ (cSame fk f) [some v, some v, none, none] S).Ok _
  unfold cSame
  clear hv k1
  walk_at "st"
  walk_at "st"
  walk_at "st"
  refine Out.eq_Ok (lc_map (vs := List.zipWith (fun x y => .tup [x, y]) xs xs) (S := S) (fun _ => .bl true) (by rw [List.length_zipWith]; omega) fun p hp => ?_) ?_
  · obtain ⟨x, hx, rfl⟩ := mem_zipSelf hp
    have := hr x hx
    apply Out.Ok.eq
    clear hr e2 k3
    walk_at "ev"
    exact ⟨trivial, trivial⟩
  · rw [all_const]
    exact ⟨rfl, rfl⟩
theorem same_leaf {T : Tab} {fk f n : Nat} {S : Store} {v : Val} {j : Nat} (hk : T.fn fk = some ⟨1, 2, false, false, cKind⟩) (hf : T.fn f = some ⟨2, 4, false, false, cSame fk f⟩) (hj : kind v = some j) (h4 : ¬((j : Int) = 4 ∨ (j : Int) = 5)) (hd : dat 0 v) :
    T.run (n + 2) f [v, v] S = .ok (.bl true) S := by
  have k3 := fun S => kind_ok (n := n) (S := S) hk hj
  have h4 := decide_eq_false h4
  have he := eq_refl_ (S := S) (n := 0) hd (by omega)
  apply Out.Ok.eq
  apply ok_run hf rfl
  show (evSs _ (cSame fk f) [some v, some v, none, none] S).Ok _
  unfold cSame
  clear hj hd
  walk_at "st"
  walk_at "st"
  walk_at "st"
  exact ⟨trivial, trivial⟩
theorem same_ok {T : Tab} {fk f : Nat} (hk : T.fn fk = some ⟨1, 2, false, false, cKind⟩) (hf : T.fn f = some ⟨2, 4, false, false, cSame fk f⟩) : ∀ (m n : Nat) {S : Store} {v : Val}, dat m v → T.run (n + m + 2) f [v, v] S = .ok (.bl true) S
  | m, n, S, .non, h => same_leaf hk hf rfl (by decide) trivial
  | m, n, S, .bl _, h => same_leaf hk hf rfl (by decide) trivial
  | m, n, S, .int _, h => same_leaf hk hf rfl (by decide) trivial
  | m, n, S, .str x, h => same_leaf hk hf rfl (by decide) (by cases m <;> exact h)
  | m, n, S, .ref _, h => (by cases m <;> exact h.elim)
  | m, n, S, .ty _, h => (by cases m <;> exact h.elim)
  | m, n, S, .wr _, h => (by cases m <;> exact h.elim)
  | m, n, S, .ob _ _ _, h => (by cases m <;> exact h.elim)
  | m, n, S, .er _ _ _, h => (by cases m <;> exact h.elim)
  | m, n, S, .dc _ _, h => (by cases m <;> exact h.elim)
  | m, n, S, .tud _, h => (by cases m <;> exact h.elim)
  | 0, n, S, .tup _, h => h.elim
  | 0, n, S, .fz _, h => h.elim
  | m + 1, n, S, .tup vs, h => by
    rw [show n + (m + 1) + 2 = (n + m + 1) + 2 by omega]
    exact same_seq hk hf (.inr rfl) h.1 fun x hx => by
      rw [show n + m + 1 + 1 = n + m + 2 by omega]
      exact same_ok hk hf m n (h.2 x hx)
  | m + 1, n, S, .fz vs, h => by
    rw [show n + (m + 1) + 2 = (n + m + 1) + 2 by omega]
    exact same_seq hk hf (.inl rfl) h.1 fun x hx => by
      rw [show n + m + 1 + 1 = n + m + 2 by omega]
      exact same_ok hk hf m n (h.2 x hx)
/-- with the level's number at hand -/
theorem same_at {T : Tab} {fk f k : Nat} (hk : T.fn fk = some ⟨1, 2, false, false, cKind⟩) (hf : T.fn f = some ⟨2, 4, false, false, cSame fk f⟩) (m : Nat) {S : Store} {v : Val} (h : dat m v) (hkm : m + 2 ≤ k) : T.run k f [v, v] S = .ok (.bl true) S := by
  have := same_ok hk hf m (k - m - 2) (S := S) h
  rw [show k - m - 2 + m + 2 = k by omega] at this
  exact this
end Mv

/-! MwC: sorted lists, pairs. -/
namespace Mv
open PySem (Str PyData)
/-- kept from the walk's sight -/
def Hold (p : Prop) : Prop := p
/-! ### sorting -/
structure TotLt {α : Type} (lt : α → α → Bool) : Prop where
  tri : ∀ a b, lt a b = false → lt b a = false → a = b
  mix : ∀ a b c, lt c a = false → lt c b = true → lt a b = true
  asym : ∀ a b, lt a b = true → lt b a = false
section
variable {α : Type} {lt : α → α → Bool}
theorem insB_comm (h : TotLt lt) (a b : α) : ∀ l : List α, insB lt a (insB lt b l) = insB lt b (insB lt a l)
  | [] => by
    unfold insB
    cases e1 : lt b a with
    | true =>
      have e2 := h.asym _ _ e1
      simp [insB, e1, e2]
    | false =>
      cases e2 : lt a b with
      | true => simp [insB, e1, e2]
      | false =>
        have := h.tri _ _ e1 e2
        subst this
        rfl
  | c :: l => by
    have ih := insB_comm h a b l
    cases e1 : lt c a with
    | true =>
      cases e2 : lt c b with
      | true => simp [insB, e1, e2, ih]
      | false =>
        have e3 := h.mix b a c e2 e1
        simp [insB, e1, e2, e3]
    | false =>
      cases e2 : lt c b with
      | true =>
        have e3 := h.mix a b c e1 e2
        simp [insB, e1, e2, e3]
      | false =>
        cases e3 : lt b a with
        | true =>
          have e4 := h.asym _ _ e3
          simp [insB, e1, e2, e3, e4]
        | false =>
          cases e4 : lt a b with
          | true => simp [insB, e1, e2, e3, e4]
          | false =>
            have := h.tri _ _ e3 e4
            subst this
            rfl
theorem srtB_of_perm (h : TotLt lt) {l m : List α} (p : l.Perm m) : srtB lt l = srtB lt m := by
  induction p with
  | nil => rfl
  | cons x _ ih => exact congrArg (insB lt x) ih
  | swap x y l => exact insB_comm h y x (srtB lt l)
  | trans _ _ h1 h2 => exact h1.trans h2
theorem insB_p (a : α) : ∀ l : List α, (insB lt a l).Perm (a :: l)
  | [] => .refl _
  | c :: l => by
    cases e : lt c a with
    | true =>
      have : insB lt a (c :: l) = c :: insB lt a l := if_pos e
      rw [this]
      exact ((insB_p a l).cons c).trans (.swap a c l)
    | false =>
      have : insB lt a (c :: l) = a :: c :: l := if_neg (by rw [e]; decide)
      rw [this]
theorem srtB_p : ∀ l : List α, (srtB lt l).Perm l
  | [] => .refl _
  | c :: l => (insB_p c (srtB lt l)).trans ((srtB_p l).cons c)
theorem srtB_len (l : List α) : (srtB lt l).length = l.length := (srtB_p l).length_eq
theorem srtB_rev (h : TotLt lt) (l : List α) : srtB lt (srtB lt l).reverse = srtB lt l := srtB_of_perm h ((List.reverse_perm _).trans (srtB_p l))
end
theorem ltPr_if (p q : Int × Int) : ltPr p q = true ↔ p.1 < q.1 ∨ p.1 = q.1 ∧ p.2 < q.2 := by simp [ltPr]
theorem ltPr_not (p q : Int × Int) : ltPr p q = false ↔ ¬(p.1 < q.1 ∨ p.1 = q.1 ∧ p.2 < q.2) := by rw [← ltPr_if]; simp
theorem totPr : TotLt ltPr := ⟨fun a b h1 h2 => by
    rw [ltPr_not] at h1 h2
    obtain ⟨a1, a2⟩ := a
    obtain ⟨b1, b2⟩ := b
    simp only at h1 h2
    have e1 : a1 = b1 := by omega
    have e2 : a2 = b2 := by omega
    rw [e1, e2], fun a b c h1 h2 => by
    rw [ltPr_not] at h1
    rw [ltPr_if] at h2 ⊢
    omega, fun a b h1 => by
    rw [ltPr_if] at h1
    rw [ltPr_not]
    omega⟩
/-! ### lists of pairs -/
def pvs (ps : List (Int × Int)) : Val := .fz (ps.map pairV)
theorem dat_pair (p : Int × Int) : dat 1 (pairV p) := ⟨show 2 < SZ by decide, fun d hd => by
  rcases List.mem_cons.mp hd with rfl | hd
  · trivial
  · rw [List.mem_singleton.mp hd]
    trivial⟩
theorem dat_pvs {ps : List (Int × Int)} (h : ps.length < SZ) : dat 2 (pvs ps) := ⟨by rw [List.length_map]; exact h, fun d hd => by
  obtain ⟨p, _, rfl⟩ := List.mem_map.mp hd
  exact dat_pair p⟩
theorem pairs_of : ∀ ps : List (Int × Int), mapO pairOf (ps.map pairV) = some ps
  | [] => rfl
  | p :: ps => by
    rw [List.map_cons, mapO, pairs_of ps]
    rfl
theorem srt_pv (ps : List (Int × Int)) : srtL (ps.map pairV) = some ((srtB ltPr ps).map pairV) := by
  unfold srtL
  cases ps with
  | nil => rfl
  | cons p ps =>
    have : mapO intOf ((p :: ps).map pairV) = none := rfl
    rw [this, pairs_of]
    rfl
theorem srtV_pv (S : Store) (ps : List (Int × Int)) : srtV false false S (pvs ps) = .ok (pvs (srtB ltPr ps)) S := by
  unfold srtV
  have : (lstV S (pvs ps)).bind srtL = some ((srtB ltPr ps).map pairV) := srt_pv ps
  rw [this]
  rfl
theorem srtV_rv (S : Store) (ps : List (Int × Int)) : srtV false true S (pvs ps) = .ok (pvs (srtB ltPr ps).reverse) S := by
  unfold srtV
  have : (lstV S (pvs ps)).bind srtL = some ((srtB ltPr ps).map pairV) := srt_pv ps
  rw [this]
  show Out.ok (Val.fz ((srtB ltPr ps).map pairV).reverse) S = _
  rw [← List.map_reverse]
  rfl
theorem srtV_rvC (S : Store) (ps : List (Int × Int)) : srtV true true S (pvs ps) = .ok (.ref S.length) (S ++ [.lst ((srtB ltPr ps).reverse.map pairV)]) := by
  unfold srtV
  have : (lstV S (pvs ps)).bind srtL = some ((srtB ltPr ps).map pairV) := srt_pv ps
  rw [this]
  show Out.ok (Val.ref S.length) (S ++ [.lst ((srtB ltPr ps).map pairV).reverse]) = _
  rw [← List.map_reverse]
theorem revV_pv (S : Store) (ps : List (Int × Int)) : revV false S (pvs ps) = .ok (pvs ps.reverse) S := by
  show Out.ok (Val.fz (ps.map pairV).reverse) S = _
  rw [← List.map_reverse]
  rfl
theorem add_pv (S : Store) (ps qs : List (Int × Int)) (h : ps.length + qs.length ≤ SZ) : binV S .add (pvs ps) (pvs qs) = .ok (pvs (ps ++ qs)) S := by
  unfold pvs
  rw [add_fz, if_pos (by rw [List.length_map, List.length_map]; exact h), ← List.map_append]
theorem len_pv (S : Store) (ps : List (Int × Int)) : bltV S "len" [pvs ps] = .ok (.int ps.length) S := by
  unfold pvs
  rw [len_fz, List.length_map]
theorem sq_pv (S : Store) (ps : List (Int × Int)) : sqV S (pvs ps) = some (ps.map pairV) := rfl
theorem idx_pv (S : Store) (ps : List (Int × Int)) (k : Nat) (h : k < ps.length) : idxV S (pvs ps) (.int k) = some (pairV ps[k]) := by
  unfold pvs
  rw [idx_fz, at_nat _ k k rfl (by rw [List.length_map]; exact h), List.getElem?_map, List.getElem?_eq_getElem h]
  rfl
theorem idx_p0 (S : Store) (p : Int × Int) : idxV S (pairV p) (.int 0) = some (.int p.1) := rfl
theorem idx_p1 (S : Store) (p : Int × Int) : idxV S (pairV p) (.int 1) = some (.int p.2) := rfl
theorem cut_take {α : Type} (xs : List α) (n : Nat) : cut xs none (some (n : Int)) = xs.take n := by
  unfold cut
  rw [HT.sIx_none, HT.sIx_nat, List.drop_zero, Nat.sub_zero]
  rw [← List.take_eq_take_min]
theorem cut_drop {α : Type} (xs : List α) (n : Nat) : cut xs (some (n : Int)) none = xs.drop n := by
  unfold cut
  rw [HT.sIx_none, HT.sIx_nat]
  by_cases h : n ≤ xs.length
  · rw [Nat.min_eq_left h, List.take_of_length_le (by rw [List.length_drop]; exact Nat.le_refl _)]
  · rw [Nat.min_eq_right (by omega), List.drop_length, List.drop_eq_nil_of_le (by omega), List.take_nil]
theorem sl_take (S : Store) (ps : List (Int × Int)) (n : Nat) : slV false S (pvs ps) none (some (n : Int)) = .ok (pvs (ps.take n)) S := by
  show Out.ok (Val.fz (cut (ps.map pairV) none (some (n : Int)))) S = _
  rw [cut_take, ← List.map_take]
  rfl
theorem sl_drop (S : Store) (ps : List (Int × Int)) (n : Nat) : slV false S (pvs ps) (some (n : Int)) none = .ok (pvs (ps.drop n)) S := by
  show Out.ok (Val.fz (cut (ps.map pairV) (some (n : Int)) none)) S = _
  rw [cut_drop, ← List.map_drop]
  rfl
/-- x[:-1] -/
theorem cut_init {α : Type} (xs : List α) : cut xs none (some (-1)) = xs.dropLast := by
  unfold cut
  rw [HT.sIx_none, List.drop_zero, Nat.sub_zero, List.dropLast_eq_take]
  congr 1
  show (if (-1 : Int) < 0 then ((-1 : Int) + (xs.length : Int)).toNat else min (-1 : Int).toNat xs.length) = xs.length - 1
  rw [if_pos (by omega)]
  omega
theorem sl_init (S : Store) (ps : List (Int × Int)) : slV false S (pvs ps) none (some (-1)) = .ok (pvs ps.dropLast) S := by
  show Out.ok (Val.fz (cut (ps.map pairV) none (some (-1)))) S = _
  rw [cut_init, ← List.map_dropLast]
  rfl
theorem at_last {α : Type} (xs : List α) (h : xs ≠ []) : L2.atI xs (-1) = some (xs.getLast h) := by
  have hl : 0 < xs.length := List.length_pos_iff.mpr h
  unfold L2.atI
  have : L2.ixN xs.length (-1) = some (xs.length - 1) := by
    unfold L2.ixN
    rw [if_neg (by omega), if_pos (by omega)]
    congr 1
    omega
  rw [this]
  show xs[xs.length - 1]? = _
  rw [List.getLast_eq_getElem, List.getElem?_eq_getElem]
theorem idx_last (S : Store) (ps : List (Int × Int)) (h : ps ≠ []) : idxV S (pvs ps) (.int (-1)) = some (pairV (ps.getLast h)) := by
  unfold pvs
  rw [idx_fz, at_last _ (by simpa using h), List.getLast_map]
theorem eq_nil_pv (S : Store) (ps : List (Int × Int)) (h : ps.length < SZ) : cmpV S .eq (pvs ps) (.fz []) = some ps.isEmpty := by
  rw [show pvs ps = .fz (ps.map pairV) from rfl, eq_nil (n := 2) (dat_pvs h) (by omega)]
  cases ps <;> rfl
theorem ne_nil_pv (S : Store) (ps : List (Int × Int)) (h : ps.length < SZ) : cmpV S .ne (pvs ps) (.fz []) = some (!ps.isEmpty) := ne_of_eq (eq_nil_pv S ps h)
theorem ne_self_pv (S : Store) (ps : List (Int × Int)) (h : ps.length < SZ) : cmpV S .ne (pvs ps) (pvs ps) = some false := ne_refl_ (dat_pvs h) (by omega)
theorem lt_pair (S : Store) (p q : Int × Int) : cmpV S .lt (pairV p) (pairV q) = some (ltPr p q) := by
  show some (HT.lexLt [p.1, p.2] [q.1, q.2]) = _
  congr 1
  simp only [HT.lexLt, ltPr]
  rw [Bool.eq_iff_iff]
  by_cases h : p.1 = q.1
  · by_cases h2 : p.2 = q.2
    · simp [h, h2]
    · simp [h, h2]
  · simp [h]
theorem ge_pair (S : Store) (p q : Int × Int) : cmpV S .ge (pairV p) (pairV q) = some (!ltPr p q) := by
  have := lt_pair S p q
  have e1 : cmpV S .lt (pairV p) (pairV q) = some (HT.lexLt [p.1, p.2] [q.1, q.2]) := rfl
  have e2 : cmpV S .ge (pairV p) (pairV q) = some (!HT.lexLt [p.1, p.2] [q.1, q.2]) := rfl
  rw [e1] at this
  rw [e2, Option.some.inj this]
theorem map_of {α : Type} {f : α → Val} : ∀ {ys : List Val}, (∀ y ∈ ys, ∃ p, y = f p) → ∃ ps : List α, ys = ps.map f
  | [], _ => ⟨[], rfl⟩
  | y :: ys, h => by
    obtain ⟨p, e⟩ := h y (List.mem_cons_self ..)
    obtain ⟨ps, e2⟩ := map_of (ys := ys) fun z hz => h z (List.mem_cons_of_mem _ hz)
    exact ⟨p :: ps, by rw [e, e2]; rfl⟩
/-! ### comprehensions over what a list stands for -/
theorem lc_purf {α : Type} {as : List α} (f : α → Val) {S : Store} {body : Val → Store → Out (Option Val)} (h : α → Option Val) (hl : as.length < SZ) (hb : ∀ a ∈ as, body (f a) S = .ok (h a) S) : lcN (.its (as.map f)) body TURNS 0 [] S = .ok (as.filterMap h) S := by
  have hz : SZ = 16777216 := rfl
  have ht : TURNS = 20000000 := rfl
  have hl2 : (as.map f).length = as.length := List.length_map ..
  apply Out.Ok.eq
  refine (lcN_ok (vs := as.map f) (fun i acc S' => acc = (as.take i).filterMap h ∧ S' = S) (fun _ _ _ _ => rfl) (by omega) (fun i acc S' ⟨e, _⟩ => ?_) (fun i acc S' v hv ⟨e1, e2⟩ => ?_) TURNS 0 [] S (by omega) (Nat.zero_le _) ⟨rfl, rfl⟩).imp fun acc S' ⟨h1, h2⟩ => ⟨by rw [h1, hl2, List.take_length], h2⟩
  · rw [e]
    exact Nat.le_trans (List.length_filterMap_le _ _) (by rw [List.length_take]; omega)
  · subst e2
    rw [List.getElem?_map, Option.map_eq_some_iff] at hv
    obtain ⟨a, ha, rfl⟩ := hv
    rw [hb a (List.mem_of_getElem? ha)]
    show match h a with
      | none => _
      | some y => _
    have t : as.take (i + 1) = as.take i ++ [a] := by rw [List.take_succ, ha]; rfl
    cases q : h a with
    | none => exact ⟨by rw [t, List.filterMap_append, List.filterMap_cons, q, e1]; simp, rfl⟩
    | some y => exact ⟨by rw [t, List.filterMap_append, List.filterMap_cons, q, e1]; simp, rfl⟩
theorem lc_mapf {α : Type} {as : List α} (f : α → Val) {S : Store} {body : Val → Store → Out (Option Val)} (h : α → Val) (hl : as.length < SZ) (hb : ∀ a ∈ as, body (f a) S = .ok (some (h a)) S) : lcN (.its (as.map f)) body TURNS 0 [] S = .ok (as.map h) S := by
  rw [lc_purf f (fun v => some (h v)) hl hb]
  congr 1
  induction as with
  | nil => rfl
  | cons v vs ih => exact congrArg (h v :: ·) (ih (Nat.lt_of_succ_lt hl) fun w hw => hb w (List.mem_cons_of_mem _ hw))
/-- those that pass -/
theorem lc_filf {α : Type} {as : List α} (f : α → Val) {S : Store} {body : Val → Store → Out (Option Val)} (k : α → Bool) (hl : as.length < SZ) (hb : ∀ a ∈ as, body (f a) S = .ok (if k a = true then some (f a) else none) S) : lcN (.its (as.map f)) body TURNS 0 [] S = .ok ((as.filter k).map f) S := by
  rw [lc_purf f _ hl hb]
  congr 1
  clear hl hb
  induction as with
  | nil => rfl
  | cons p ps ih =>
    rw [List.filterMap_cons, List.filter_cons]
    cases k p with
    | true =>
      simp only [if_true, List.map_cons]
      rw [ih]
    | false => simpa using ih
/-- items that draw from the bag, one for each -/
theorem lc_bagf {α : Type} {as : List α} (f : α → Val) {o : Ob} {R : Store} {body : Val → Store → Out (Option Val)} (P : Val → Prop) (hl : as.length < SZ) (hb0 : BagO o)
    (hb : ∀ a ∈ as, ∀ o, BagO o → (body (f a) (o :: R)).Ok fun y S' => ∃ o' z, BagO o' ∧ S' = o' :: R ∧ y = some z ∧ P z) :
    (lcN (.its (as.map f)) body TURNS 0 [] (o :: R)).Ok fun ys S' => ∃ o', BagO o' ∧ S' = o' :: R ∧ ys.length = as.length ∧ ∀ y ∈ ys, P y := by
  refine (lc_st (fun S => ∃ o, BagO o ∧ S = o :: R) P (vs := as.map f) (by rw [List.length_map]; exact hl) ⟨o, hb0, rfl⟩ fun v hv S ⟨o, b, e⟩ => ?_).imp fun ys S' ⟨h1, h2, o', b, e⟩ => ⟨o', b, e, by rw [h1, List.length_map], h2⟩
  obtain ⟨a, ha, rfl⟩ := List.mem_map.mp hv
  subst e
  exact (hb a ha o b).imp fun y S' ⟨o', z, b', e, e2, p⟩ => ⟨z, e2, p, o', b', e⟩
theorem zip_pv (ps qs : List (Int × Int)) : List.zipWith (fun x y => Val.tup [x, y]) (ps.map pairV) (qs.map pairV) = (ps.zip qs).map fun z => .tup [pairV z.1, pairV z.2] := by
  rw [List.zipWith_map, List.zip_eq_zipWith, List.map_zipWith]
theorem all_blf {α : Type} (S : Store) (as : List α) (k : α → Bool) : bltV S "all" [.fz (as.map fun a => .bl (k a))] = .ok (.bl (as.all k)) S := by
  have : (as.map fun a => Val.bl (k a)) = (as.map k).map Val.bl := by rw [List.map_map]; rfl
  rw [this, all_bl, List.all_map]
  rfl
/-! ### a list as a new cell -/
def ap (S : Store) (vs : List Val) : Store := S ++ [Ob.lst vs]
theorem ap_len (S : Store) (vs : List Val) : (ap S vs).length = S.length + 1 := by simp [ap]
theorem ap_at (S : Store) (vs : List Val) : (ap S vs)[S.length]? = some (.lst vs) := by simp [ap]
theorem ap_sq (S : Store) (vs : List Val) : seqAt (ap S vs) S.length = some vs := by
  unfold seqAt
  rw [ap_at]
theorem mk_ap (S : Store) (vs : List Val) : mkL true S vs = .ok (.ref S.length) (ap S vs) := rfl
theorem ap2 (S : Store) (vs ws : List Val) : ap (ap S vs) ws = S ++ [Ob.lst vs, Ob.lst ws] := by simp [ap]
theorem set_pos (o x : Ob) (R : Store) {k : Nat} (h : 1 ≤ k) : (o :: R).set k x = o :: R.set (k - 1) x := by
  obtain ⟨j, rfl⟩ : ∃ j, k = j + 1 := ⟨k - 1, by omega⟩
  rfl
theorem app_ok {S : Store} {k : Nat} {xs : List Val} (v : Val) (h : S[k]? = some (.lst xs)) (hl : xs.length < SZ) : mthV S "list" "append" (.ref k) [v] = .ok .non (S.set k (.lst (xs ++ [v]))) := by
  show (match S[k]? with
      | some (.lst xs) => if xs.length < SZ then Out.ok Val.non (S.set k (.lst (xs ++ [v]))) else .no
      | _ => .no) = _
  rw [h]
  exact if_pos hl
theorem clr_ok {S : Store} {k : Nat} {xs : List Val} (h : S[k]? = some (.lst xs)) : mthV S "list" "clear" (.ref k) [] = .ok .non (S.set k (.lst [])) := by
  show (match S[k]? with
      | some (.lst xs) => Out.ok Val.non (S.set k (.lst []))
      | _ => .no) = _
  rw [h]
theorem sq_of {S : Store} {k : Nat} {vs : List Val} (h : S[k]? = some (.lst vs)) : seqAt S k = some vs := by
  unfold seqAt
  rw [h]
theorem ap2_at (S : Store) (vs ws : List Val) : (ap (ap S vs) ws)[S.length + 1]? = some (.lst ws) := by
  rw [← ap_len S vs]
  exact ap_at _ _
end Mv

/-! MwD: texts, numbers, names, items, given-up cells, words. -/
namespace Mv
open PySem (Str PyData)
/-! ### texts -/
theorem sig_S (l : List Nat) : signs (SX.S l) = l := by simp [signs]
theorem cut_lo (l : List Nat) (n : Nat) (h : n ≤ l.length) : L2.cutS (SX.S l) none (some (n : Int)) = SX.S (l.take n) := by
  unfold L2.cutS
  rw [HT.sIx_none, HT.sIx_nat, SX.S_len, Nat.min_eq_left h]
  simp
theorem cut_hi (l : List Nat) (n : Nat) (h : n ≤ l.length) : L2.cutS (SX.S l) (some (n : Int)) none = SX.S (l.drop n) := by
  unfold L2.cutS
  rw [HT.sIx_none, HT.sIx_nat, SX.S_len, Nat.min_eq_left h]
  congr 1
  simp [List.take_of_length_le]
theorem sl_lo (S : Store) (l : List Nat) (n : Nat) (h : n ≤ l.length) (hl : l.length ≤ SZ) : slV false S (.str (SX.S l)) none (some (n : Int)) = .ok (.str (SX.S (l.take n))) S := by
  show (if (SX.S l).length ≤ SZ then Out.ok (Val.str (L2.cutS (SX.S l) none (some (n : Int)))) S else .no) = _
  rw [SX.S_len, if_pos hl, cut_lo l n h]
theorem sl_hi (S : Store) (l : List Nat) (n : Nat) (h : n ≤ l.length) (hl : l.length ≤ SZ) : slV false S (.str (SX.S l)) (some (n : Int)) none = .ok (.str (SX.S (l.drop n))) S := by
  show (if (SX.S l).length ≤ SZ then Out.ok (Val.str (L2.cutS (SX.S l) (some (n : Int)) none)) S else .no) = _
  rw [SX.S_len, if_pos hl, cut_hi l n h]
theorem add_S (S : Store) (a b : List Nat) (h : a.length + b.length ≤ SZ) : binV S .add (.str (SX.S a)) (.str (SX.S b)) = .ok (.str (SX.S (a ++ b))) S := by
  show (if (SX.S a).length + (SX.S b).length ≤ SZ then Out.ok (Val.str (SX.S a ++ SX.S b)) S else .no) = _
  rw [SX.S_len, SX.S_len, if_pos h, SX.S_cat]
theorem len_S (S : Store) (a : List Nat) (h : a.length ≤ SZ) : bltV S "len" [.str (SX.S a)] = .ok (.int a.length) S := by
  rw [len_str S (SX.S a) (by rw [SX.S_len]; exact h), SX.S_len]
theorem ok_S (l : List Nat) (h : ∀ c ∈ l, c < 1114112) : PyData.strOk (SX.S l) = true := by
  show (SX.S l).cps.all (· < 0x110000) = true
  simp
  exact h
theorem eqs_S (S : Store) (a b : List Nat) (ha : ∀ c ∈ a, c < 1114112) (hb : ∀ c ∈ b, c < 1114112) : cmpV S .eq (.str (SX.S a)) (.str (SX.S b)) = some (decide (a = b)) := by
  show (match datV S (.str (SX.S a)), datV S (.str (SX.S b)) with
    | some d, some e => some (PyData.eqv d e)
    | _, _ => none) = _
  have e1 : datV S (.str (SX.S a)) = some (.str (SX.S a)) := toD_str S 60 _ (ok_S a ha)
  have e2 : datV S (.str (SX.S b)) = some (.str (SX.S b)) := toD_str S 60 _ (ok_S b hb)
  rw [e1, e2]
  show some (PyData.eqv (.str (SX.S a)) (.str (SX.S b))) = _
  rw [PyData.eqv, SX.S_beq_eq]
theorem join_S : ∀ (ls : List (List Nat)), PySem.Txt.join (Str.ofString "") (ls.map SX.S) = SX.S ls.flatten := by
  intro ls
  have e : ∀ ls : List (List Nat), Str.join (Str.ofString "") (ls.map SX.S) = SX.S ls.flatten := by
    intro ls
    induction ls with
    | nil => rfl
    | cons a ls ih =>
      cases ls with
      | nil => simp [Str.join]
      | cons b r =>
        show SX.S a ++ Str.ofString "" ++ Str.join (Str.ofString "") ((b :: r).map SX.S) = _
        rw [ih]
        have : Str.ofString "" = SX.S [] := by decide +kernel
        rw [this, SX.S_cat, SX.S_cat]
        simp
  rw [TL.join_eq]
  exact e ls
def LET : List Nat := (List.range 26).map (· + 97)
theorem let_S : Str.ofString "abcdefghijklmnopqrstuvwxyz" = SX.S LET := by decide +kernel
theorem mem_LET (c : Nat) : c ∈ LET ↔ 97 ≤ c ∧ c ≤ 122 := by
  unfold LET
  rw [List.mem_map]
  constructor
  · rintro ⟨a, h, rfl⟩
    have := List.mem_range.mp h
    omega
  · intro h
    exact ⟨c - 97, List.mem_range.mpr (by omega), by omega⟩
theorem in_S (S : Store) (c : Nat) (z : List Nat) : inV S (.str (sign c)) (.str (SX.S z)) = some (decide (c ∈ z)) := by
  show (match signs (sign c) with
      | [c] => some (decide (c ∈ signs (SX.S z)))
      | _ => none) = _
  rw [sig_S]
  rfl
/-! ### numbers, names -/
local macro_rules | `(tactic| walk_at "ev") => `(tactic| try simp only [evS, evT, evE, evEs, evO, evG, evGs, evF, Out.bind_ok, Out.bind_no, Out.bindN_ok, lift_ok, Out.Ok_ok, Out.Ok_bind, Out.Ok_bindN, Out.Ok_lift, SO.Ok_nx, SO.Ok_rt, SO.Ok_bk, SO.Ok_ct, thn_nx, thn_rt, thn_bk, thn_ct, endQ_nx, endQ_rt, Ok_ss0, ofO_some, List.getElem?_cons_zero, List.getElem?_cons_succ, List.set_cons_zero, List.set_cons_succ, Option.map_some, Option.bind_some, List.length_cons, List.length_nil, ix51, ix52, ix53, ix54, Nat.zero_add, Nat.reduceAdd, cmp_eq_int, cmp_ne_int, cmp_lt_int, cmp_le_int, cmp_gt_int, cmp_ge_int, cmp_in, cmp_nin, tru_bl, add_int, sub_int, mul_intR, mod_int, fdiv_int, pow10_18, pow10_17, pow10_15, pow10_6, int_int, int_bl, len_tup, len_fz, len_wr, idx_fz, idx_tup, idx_ref, lst_fz, sq_cons, seqAt_0, at0, at1, at2, at3, at4, Int.reduceNeg, Int.reduceLT, Int.reduceLE, decide_true, decide_false, eq_self, isin, is_non, tyN_non, tyN_bl, tyN_int, tyN_str, tyN_tup, tyN_fz, mkL_f, newL_f, add_fz, add_tup, Int.reduceEq, ca0, ca1, ca2, ca3, ca4, ca5, ca6, ca7, ca8, ca9, ca10, ca11, ca12, List.foldl_cons, List.foldl_nil, List.zip_cons_cons, List.zip_nil_left, List.zip_nil_right, Int.toNat_natCast, wipe, List.foldr_cons, List.foldr_nil, szw_le, if_true, Nat.reduceLeDiff, Bool.not_true, Bool.not_false, List.cons_append, List.nil_append, mapO, Src.get, in45, ki_NoneType_bool, ki_NoneType_int, ki_NoneType_str, ki_NoneType_list, ki_NoneType_tuple, ki_bool_bool, ki_bool_int, ki_bool_str, ki_bool_list, ki_bool_tuple, ki_int_bool, ki_int_int, ki_int_str, ki_int_list, ki_int_tuple, ki_str_bool, ki_str_int, ki_str_str, ki_str_list, ki_str_tuple, ki_list_bool, ki_list_int, ki_list_str, ki_list_list, ki_list_tuple, ki_tuple_bool, ki_tuple_int, ki_tuple_str, ki_tuple_list, ki_tuple_tuple, evI, len_str, *])
local macro_rules | `(tactic| walk_at "st") => `(tactic| ((try rw [Ok_ss]); walk_at "ev"))
local macro_rules | `(tactic| walk_at "go") => `(tactic| (walk_at "ev"; repeat (rw [Ok_ss]; walk_at "ev")))
local macro_rules | `(tactic| walk_at "end") => `(tactic| (walk_at "go"; first | done | exact ⟨rfl, trivial⟩ | exact ⟨trivial, trivial⟩ | (simp; done)))
def cNumber : C :=
  (.cons (.ret (.and_ (.blt "isinstance" (.cons (.var 0) (.cons (.kty "int") .nil))) (.and_ (.not_ (.blt "isinstance" (.cons (.var 0) (.cons (.kty "bool") .nil)))) (.chain .le .le (.var 1) (.var 0) (.var 2))))) .nil)
def numB (lo hi : Int) : Val → Bool
  | .int i => decide (lo ≤ i) && decide (i ≤ hi)
  | _ => false
/-- what has a kind -/
def knd (v : Val) : Prop := (tyN [] v).isSome = true ∧ ∀ k, v ≠ .ref k
theorem number_ok {T : Tab} {n f : Nat} {S : Store} {v : Val} {lo hi : Int} (hf : T.fn f = some ⟨3, 3, false, false, cNumber⟩) {m : Nat} (hd : dat m v) :
    T.run (n + 1) f [v, .int lo, .int hi] S = .ok (.bl (numB lo hi v)) S := by
  apply Out.Ok.eq
  apply ok_run hf rfl
  show (evSs _ cNumber [some v, some (.int lo), some (.int hi)] S).Ok _
  unfold cNumber
  cases v with
  | int i =>
    walk_at "st"
    by_cases q : lo ≤ i
    · walk_at "ev"
      simp [numB, q]
    · walk_at "ev"
      simp [numB, q]
  | non => walk_at "st"; exact ⟨rfl, trivial⟩
  | bl b => walk_at "st"; exact ⟨rfl, trivial⟩
  | str b => walk_at "st"; exact ⟨rfl, trivial⟩
  | tup b => walk_at "st"; exact ⟨rfl, trivial⟩
  | fz b => walk_at "st"; exact ⟨rfl, trivial⟩
  | _ => cases m <;> exact hd.elim
def cName : C :=
  (.cons (.ret (.and_ (.blt "isinstance" (.cons (.var 0) (.cons (.kty "str") .nil))) (.and_ (.chain .le .le (.kint 1) (.blt "len" (.cons (.var 0) .nil)) (.kint 6)) (.blt "all" (.cons (.lc false (.cmp .inn (.var 1) (.kval "LETTERS")) (.tn 1) (.var 0) .nil [1]) .nil))))) .nil)
def letB (x : Str) : Bool := (signs x).all fun c => decide (c ∈ LET)
def nameL (x : Str) : Bool := decide (1 ≤ x.length) && decide (x.length ≤ 6) && letB x
def nameB : Val → Bool
  | .str x => nameL x
  | _ => false
theorem sgn_len (x : Str) : (signs x).length = x.length := by
  unfold signs
  rw [Array.length_toList]
  rfl
/-- whether all signs are letters -/
theorem let_lc {g : Cfg} {S : Store} {x : Str} {e : C} (h : ∀ c, evE g e [some (.str x), some (.str (sign c))] S = .ok (.bl (decide (c ∈ LET))) S) (hx : x.length < SZ) :
    evE g (.lc false e (.tn 1) (.var 0) .nil [1]) [some (.str x), none] S = .ok (.fz ((signs x).map fun c => .bl (decide (c ∈ LET)))) S := by
  apply Out.Ok.eq
  have hl := sgn_len x
  rw [evE]
  walk_at "ev"
  rw [lc_mapf (as := signs x) (fun c => .str (sign c)) (fun c => .bl (decide (c ∈ LET))) (by omega) fun c _ => ?_]
  · walk_at "ev"
    exact ⟨trivial, trivial⟩
  · apply Out.Ok.eq
    have := h c
    walk_at "ev"
    exact ⟨trivial, trivial⟩
theorem name_ok {T : Tab} {n f : Nat} {S : Store} {v : Val} (hf : T.fn f = some ⟨1, 2, false, false, cName⟩) (hk : T.kv "LETTERS" = some (.str "abcdefghijklmnopqrstuvwxyz")) {m : Nat} (hd : dat m v) (hx : ∀ x, v = .str x → x.length < SZ) :
    T.run (n + 1) f [v] S = .ok (.bl (nameB v)) S := by
  apply Out.Ok.eq
  apply ok_run hf rfl
  show (evSs _ cName [some v, none] S).Ok _
  unfold cName
  cases v with
  | str x =>
    have hx := hx x rfl
    have hx2 := Nat.le_of_lt hx
    have h1 := let_lc (g := ⟨T.run n, T.kv⟩) (S := S) (x := x) (e := .cmp .inn (.var 1) (.kval "LETTERS")) (fun c => by
      apply Out.Ok.eq
      have i1 := in_S S c LET
      rw [← let_S] at i1
      walk_at "ev"
      exact ⟨trivial, trivial⟩) hx
    have e1 := len_str S x hx2
    have a1 := all_blf S (signs x) (fun c => decide (c ∈ LET))
    have h2 : evEs ⟨T.run n, T.kv⟩ (.cons (.lc false (.cmp .inn (.var 1) (.kval "LETTERS")) (.tn 1) (.var 0) .nil [1]) .nil) [some (.str x), none] S = .ok [.fz ((signs x).map fun c => .bl (decide (c ∈ LET)))] S := by
      simp only [evEs, h1, Out.bind_ok]
    generalize C.cons (.lc false (.cmp .inn (.var 1) (.kval "LETTERS")) (.tn 1) (.var 0) .nil [1]) .nil = L at h2 ⊢
    rw [Ok_ss]
    simp only [evS, evE, evT, List.getElem?_cons_zero, Out.bind_ok, evEs, isin, tyN_str, ki_str_str, Option.map_some, ofO_some, tru_bl, e1, cmp_le_int, Out.Ok_lift]
    by_cases q1 : (1 : Int) ≤ x.length
    · by_cases q2 : (x.length : Int) ≤ 6
      · rw [decide_eq_true q1, decide_eq_true q2]
        simp only [evE, tru_bl, Out.bind_ok, h2, a1, Out.Ok_ok, SO.Ok_rt, thn_rt, endQ_rt, Option.map_some, ofO_some]
        refine ⟨?_, trivial⟩
        show Val.bl (letB x) = Val.bl (nameL x)
        unfold nameL
        rw [decide_eq_true (show 1 ≤ x.length by omega), decide_eq_true (show x.length ≤ 6 by omega)]
        rfl
      · rw [decide_eq_true q1, decide_eq_false q2]
        simp only [evE, tru_bl, Out.bind_ok, evEs, Out.Ok_ok, SO.Ok_rt, thn_rt, endQ_rt, Option.map_some, ofO_some]
        refine ⟨?_, trivial⟩
        show Val.bl false = Val.bl (nameL x)
        unfold nameL
        rw [decide_eq_false (show ¬x.length ≤ 6 by omega)]
        simp
    · rw [decide_eq_false q1]
      simp only [evE, tru_bl, Out.bind_ok, evEs, Out.Ok_ok, SO.Ok_rt, thn_rt, endQ_rt, Option.map_some, ofO_some]
      refine ⟨?_, trivial⟩
      show Val.bl false = Val.bl (nameL x)
      unfold nameL
      rw [decide_eq_false (show ¬1 ≤ x.length by omega)]
      simp
  | non => walk_at "st"; exact ⟨rfl, trivial⟩
  | bl b => walk_at "st"; exact ⟨rfl, trivial⟩
  | int b => walk_at "st"; exact ⟨rfl, trivial⟩
  | tup b => walk_at "st"; exact ⟨rfl, trivial⟩
  | fz b => walk_at "st"; exact ⟨rfl, trivial⟩
  | _ => cases m <;> exact hd.elim
/-! ### items against texts -/
def memS (v : Val) (xs : List Str) : Bool := match v with
  | .str x => decide (x ∈ xs)
  | _ => false
def eqS (v : Val) (x : Str) : Bool := match v with
  | .str y => decide (y = x)
  | _ => false
def okS (xs : List Str) : Prop := ∀ x ∈ xs, PyData.strOk x = true
theorem eqv_str (z : Str) (d : PyData) : PyData.eqv (.str z) d = match d with | .str x => z == x | _ => false := by
  cases d <;> rw [PyData.eqv] <;> first | rfl | (intros; contradiction)
theorem eqv_str2 (z : Str) (d : PyData) : PyData.eqv d (.str z) = match d with | .str x => x == z | _ => false := by
  cases d <;> rw [PyData.eqv] <;> first | rfl | (intros; contradiction)
theorem beq_dec (x z : Str) : (x == z) = decide (x = z) := by
  by_cases h : x = z
  · subst h
    simp
  · rw [decide_eq_false h]
    exact beq_eq_false_iff_ne.mpr h
def strD : PyData → Option Str
  | .str x => some x
  | _ => none
/-- an item's data: a text or none of them -/
theorem dat_str (S : Store) {m n : Nat} {v : Val} (h : dat m v) (hm : m ≤ n) : ∃ d, toD S n v = some d ∧ strD d = strOf v := by
  obtain ⟨d, h1, _⟩ := dat_toD S n m hm h
  refine ⟨d, h1, ?_⟩
  cases v with
  | non => rw [toD_non] at h1; cases h1; rfl
  | bl b => rw [toD_bl] at h1; cases h1; rfl
  | int b => rw [toD_int] at h1; cases h1; rfl
  | str b => rw [toD_str S n b (by cases m <;> exact h)] at h1; cases h1; rfl
  | tup vs =>
    cases n with
    | zero => cases m with
      | zero => exact h.elim
      | succ m => omega
    | succ n =>
      have h1 : (mapO (toD S n) vs).map PyData.tuple = some d := h1
      cases q : mapO (toD S n) vs with
      | none => rw [q] at h1; cases h1
      | some ds => rw [q] at h1; cases h1; rfl
  | fz vs =>
    cases n with
    | zero => cases m with
      | zero => exact h.elim
      | succ m => omega
    | succ n =>
      have h1 : (mapO (toD S n) vs).map PyData.list = some d := h1
      cases q : mapO (toD S n) vs with
      | none => rw [q] at h1; cases h1
      | some ds => rw [q] at h1; cases h1; rfl
  | _ => cases m <;> exact h.elim
theorem mapO_strs (S : Store) (n : Nat) : ∀ {xs : List Str}, okS xs → mapO (toD S n) (xs.map .str) = some (xs.map .str)
  | [], _ => rfl
  | x :: xs, h => by
    rw [List.map_cons, mapO, toD_str S n x (h x (List.mem_cons_self ..)), mapO_strs S n fun y hy => h y (List.mem_cons_of_mem _ hy)]
    rfl
theorem any_str {v : Val} {d : PyData} (h : strD d = strOf v) (xs : List Str) : ((xs.map PyData.str).any fun z => PyData.eqv z d) = memS v xs := by
  induction xs with
  | nil => cases v <;> rfl
  | cons x xs ih =>
    rw [List.map_cons, List.any_cons, ih, eqv_str]
    cases v <;> cases d <;> first | rfl | (cases h; done) | skip
    cases h
    rename_i s0
    show ((x == s0) || memS (.str s0) xs) = decide (s0 ∈ x :: xs)
    rw [beq_dec]
    simp only [memS, List.mem_cons]
    rw [Bool.decide_or]
    congr 1
    exact decide_eq_decide.mpr eq_comm
theorem in_fz (S : Store) {m : Nat} {v : Val} {xs : List Str} (h : dat m v) (hm : m ≤ 59) (hx : okS xs) : inV S v (.fz (xs.map .str)) = some (memS v xs) := by
  obtain ⟨d, h1, h2⟩ := dat_str S h (show m ≤ 60 by omega)
  have e : inV S v (.fz (xs.map .str)) = (match datV S v, mapO (toD S 59) (xs.map .str) with
      | some d, some ds => some (ds.any fun z => PyData.eqv z d)
      | _, _ => none) := rfl
  rw [e, mapO_strs S 59 hx]
  show (match toD S 60 v, (some (xs.map PyData.str) : Option (List PyData)) with
      | some d, some ds => some (ds.any fun z => PyData.eqv z d)
      | _, _ => none) = _
  rw [h1]
  show some _ = some _
  rw [any_str h2]
theorem in_tup (S : Store) {m : Nat} {v : Val} {xs : List Str} (h : dat m v) (hm : m ≤ 59) (hx : okS xs) : inV S v (.tup (xs.map .str)) = some (memS v xs) := by
  obtain ⟨d, h1, h2⟩ := dat_str S h (show m ≤ 60 by omega)
  have e : inV S v (.tup (xs.map .str)) = (match datV S v, mapO (toD S 59) (xs.map .str) with
      | some d, some ds => some (ds.any fun z => PyData.eqv z d)
      | _, _ => none) := rfl
  rw [e, mapO_strs S 59 hx]
  show (match toD S 60 v, (some (xs.map PyData.str) : Option (List PyData)) with
      | some d, some ds => some (ds.any fun z => PyData.eqv z d)
      | _, _ => none) = _
  rw [h1]
  show some _ = some _
  rw [any_str h2]
theorem eq_str (S : Store) {m : Nat} {v : Val} {x : Str} (h : dat m v) (hm : m ≤ 59) (hx : PyData.strOk x = true) : cmpV S .eq v (.str x) = some (eqS v x) := by
  obtain ⟨d, h1, h2⟩ := dat_str S h (show m ≤ 60 by omega)
  rw [cmp_eq]
  show (match toD S 60 v, toD S 60 (.str x) with
    | some d, some e => some (PyData.eqv d e)
    | _, _ => none) = _
  rw [h1, toD_str S 60 x hx]
  show some (PyData.eqv d (.str x)) = _
  rw [eqv_str2]
  congr 1
  cases v <;> cases d <;> first | rfl | (cases h2; done) | skip
  cases h2
  exact beq_dec _ _
theorem ne_str (S : Store) {m : Nat} {v : Val} {x : Str} (h : dat m v) (hm : m ≤ 59) (hx : PyData.strOk x = true) : cmpV S .ne v (.str x) = some (!eqS v x) := ne_of_eq (eq_str S h hm hx)
/-- a tuple, a list against the empty one -/
theorem eq_nilT {S : Store} {n : Nat} {vs : List Val} (h : dat n (.tup vs)) (hn : n ≤ 60) : cmpV S .eq (.tup vs) (.tup []) = some vs.isEmpty := by
  cases n with
  | zero => exact h.elim
  | succ n =>
    obtain ⟨bs, h1, h2⟩ := mapO_all (f := toD S 59) (R := fun _ => True) (l := vs) fun a ha => (dat_toD S 59 n (by omega) (h.2 a ha)).imp fun d z => ⟨z.1, trivial⟩
    rw [cmp_eq]
    show (match (mapO (toD S 59) vs).map PyData.tuple, (some (.tuple []) : Option PyData) with
      | some d, some e => some (PyData.eqv d e)
      | _, _ => none) = _
    rw [h1]
    show some (PyData.eqv (.tuple bs) (.tuple [])) = _
    rw [PyData.eqv]
    cases vs with
    | nil =>
      cases h1
      rw [PyData.eqvAll]
      rfl
    | cons v vs =>
      rw [mapO] at h1
      cases q : toD S 59 v with
      | none =>
        rw [q] at h1
        cases h1
      | some d =>
        rw [q] at h1
        cases q2 : mapO (toD S 59) vs with
        | none =>
          rw [q2] at h1
          cases h1
        | some ds =>
          rw [q2] at h1
          cases h1
          simp [PyData.eqvAll]
/-! ### cells given up -/
theorem frz_pur {S : Store} {n : Nat} (d : Nat) {v : Val} (h : pur v = true) : frzV S n d v = some v := by
  cases d <;> exact if_pos h
theorem purs_all : ∀ {vs : List Val}, purs vs = true ↔ ∀ v ∈ vs, pur v = true
  | [] => by simp [purs]
  | v :: vs => by rw [purs, Bool.and_eq_true, purs_all]; simp
theorem frzs_pur {S : Store} {n : Nat} (d : Nat) : ∀ {vs : List Val}, (∀ v ∈ vs, pur v = true) → mapO (frzV S n d) vs = some vs
  | [], _ => rfl
  | v :: vs, h => by
    rw [mapO, frz_pur d (h v (List.mem_cons_self ..)), frzs_pur d fun w hw => h w (List.mem_cons_of_mem _ hw)]
theorem bag_cl {o : Ob} (h : BagO o) : clS 1 [o] = true := by
  obtain ⟨ns, a, c, d, e, rfl, _⟩ := h
  have h1 : pur (.fz (ns.map .int)) = true := by
    rw [pur, purs_all]
    intro v hv
    obtain ⟨_, _, rfl⟩ := List.mem_map.mp hv
    rfl
  have q : clV 1 20 (.fz (ns.map .int)) = true := by
    show (pur (.fz (ns.map .int)) || _) = true
    rw [h1]
    rfl
  show (List.all [_, _, _, _, _] (clV 1 20) && true) = true
  rw [List.all_cons, q]
  rfl
/-- a def whose cells are given up, over the bag alone -/
theorem ok_runG {T : Tab} {n f ar sl : Nat} {c : C} {vs : List Val} {o : Ob} {Q : Val → Store → Prop} (hf : T.fn f = some ⟨ar, sl, true, false, c⟩) (hl : vs.length = ar)
    (h : (evSs ⟨T.run n, T.kv⟩ c (startR sl vs) [o]).Ok (endQ fun v S' => ∃ o' x R w, S' = o' :: x :: R ∧ BagO o' ∧ frzV S' 1 20 v = some w ∧ Q w [o'])) : (T.run (n + 1) f vs [o]).Ok Q := by
  have e : T.run (n + 1) f vs [o] = gcV 1 (endR (evSs ⟨T.run n, T.kv⟩ c (startR sl vs) [o])) := by
    show (match T.fn f with
      | some d => match d.args vs with
        | some ws => fin d.gc 1 (endR (evSs ⟨T.run n, T.kv⟩ d.body (startR d.slots ws) [o]))
        | none => .no
      | none => .no) = _
    rw [hf]
    have : (Fn.mk ar sl true false c).args vs = some vs := if_pos hl
    simp only [this]
    rfl
  rw [e]
  obtain ⟨v, S', e2, o', x, R, w, rfl, b, fz, q⟩ := (ok_end h).get
  rw [e2]
  have h1 : ¬(o' :: x :: R).length ≤ 1 := by simp
  have h2 : clS 1 (o' :: x :: R) = true := bag_cl b
  show (if (o' :: x :: R).length ≤ 1 then Out.ok v (o' :: x :: R) else if clS 1 (o' :: x :: R) = true then (match frzV (o' :: x :: R) 1 20 v with
    | some w => .ok w ((o' :: x :: R).take 1)
    | none => .no) else .no).Ok Q
  rw [if_neg h1, if_pos h2, fz]
  exact q
end Mv

/-! GA_k01: the codes of the text, its table. Printed by gen2.py. -/
namespace Mv
open PySem (Str)
abbrev xl_InvalidName : List (Str × ASrc) := [("given", .inl "given"), ("code", .inr "InvalidName")]
abbrev xl_InvalidVat : List (Str × ASrc) := [("at", .inl "at"), ("code", .inr "InvalidVat")]
abbrev xl_InvalidFloat : List (Str × ASrc) := [("at", .inl "at"), ("code", .inr "InvalidFloat")]
abbrev xl_InvalidOutlet : List (Str × ASrc) := [("at", .inl "at"), ("code", .inr "InvalidOutlet")]
abbrev xl_InvalidRow : List (Str × ASrc) := [("at", .inl "at"), ("code", .inr "InvalidRow")]
abbrev xl_InvalidPlace : List (Str × ASrc) := [("given", .inl "given"), ("code", .inr "InvalidPlace")]
abbrev xl_InvalidGiven : List (Str × ASrc) := [("at", .inl "at"), ("code", .inr "InvalidGiven")]
abbrev xl_InvalidWish : List (Str × ASrc) := [("given", .inl "given"), ("code", .inr "InvalidWish")]
abbrev xl_InvalidNumber : List (Str × ASrc) := [("given", .inl "given"), ("code", .inr "InvalidNumber")]
abbrev xl_InvalidAnswer : List (Str × ASrc) := [("given", .inl "given"), ("code", .inr "InvalidAnswer")]
abbrev xl_InvalidText : List (Str × ASrc) := [("line", .inl "line"), ("code", .inr "InvalidText")]
abbrev xl_InvalidPage : List (Str × ASrc) := [("line", .inl "line"), ("code", .inr "InvalidPage")]
abbrev xl_InvalidCommand : List (Str × ASrc) := [("at", .inl "at"), ("code", .inr "InvalidCommand")]
abbrev xl_InvalidLimit : List (Str × ASrc) := [("given", .inl "given"), ("code", .inr "InvalidLimit")]
abbrev xl_DuplicateName : List (Str × ASrc) := [("name", .inl "name"), ("code", .inr "DuplicateName")]
abbrev xl_OtherPlant : List (Str × ASrc) := [("code", .inr "OtherPlant")]
abbrev xl_NotPlain : List (Str × ASrc) := [("code", .inr "NotPlain")]
abbrev xl_NoFit : List (Str × ASrc) := [("code", .inr "NoFit")]
abbrev xl_TooMany : List (Str × ASrc) := [("most", .inl "most"), ("code", .inr "TooMany")]
abbrev xl_Full : List (Str × ASrc) := [("limit", .inl "limit"), ("code", .inr "Full")]
abbrev xl_UnknownName : List (Str × ASrc) := [("name", .inl "name"), ("code", .inr "UnknownName")]
abbrev xl_UnknownLiquid : List (Str × ASrc) := [("liquid", .inl "liquid"), ("code", .inr "UnknownLiquid")]
abbrev xl_NothingLeft : List (Str × ASrc) := [("code", .inr "NothingLeft")]
abbrev xCl : List Str := (["InvalidName", "InvalidVat", "InvalidFloat", "InvalidOutlet", "InvalidRow", "InvalidPlace", "InvalidGiven", "InvalidWish", "InvalidNumber", "InvalidAnswer", "InvalidText", "InvalidPage", "InvalidCommand", "InvalidLimit", "DuplicateName", "OtherPlant", "NotPlain", "NoFit", "TooMany", "Full", "UnknownName", "UnknownLiquid", "NothingLeft"] : List Str)
abbrev is_InvalidName : List (Str × Bool) := [("InvalidName", true), ("InvalidVat", false), ("InvalidFloat", false), ("InvalidOutlet", false), ("InvalidRow", false), ("InvalidPlace", false), ("InvalidGiven", false), ("InvalidWish", false), ("InvalidNumber", false), ("InvalidAnswer", false), ("InvalidText", false), ("InvalidPage", false), ("InvalidCommand", false), ("InvalidLimit", false), ("DuplicateName", false), ("OtherPlant", false), ("NotPlain", false), ("NoFit", false), ("TooMany", false), ("Full", false), ("UnknownName", false), ("UnknownLiquid", false), ("NothingLeft", false)]
abbrev is_InvalidVat : List (Str × Bool) := [("InvalidName", false), ("InvalidVat", true), ("InvalidFloat", false), ("InvalidOutlet", false), ("InvalidRow", false), ("InvalidPlace", false), ("InvalidGiven", false), ("InvalidWish", false), ("InvalidNumber", false), ("InvalidAnswer", false), ("InvalidText", false), ("InvalidPage", false), ("InvalidCommand", false), ("InvalidLimit", false), ("DuplicateName", false), ("OtherPlant", false), ("NotPlain", false), ("NoFit", false), ("TooMany", false), ("Full", false), ("UnknownName", false), ("UnknownLiquid", false), ("NothingLeft", false)]
abbrev is_InvalidFloat : List (Str × Bool) := [("InvalidName", false), ("InvalidVat", false), ("InvalidFloat", true), ("InvalidOutlet", false), ("InvalidRow", false), ("InvalidPlace", false), ("InvalidGiven", false), ("InvalidWish", false), ("InvalidNumber", false), ("InvalidAnswer", false), ("InvalidText", false), ("InvalidPage", false), ("InvalidCommand", false), ("InvalidLimit", false), ("DuplicateName", false), ("OtherPlant", false), ("NotPlain", false), ("NoFit", false), ("TooMany", false), ("Full", false), ("UnknownName", false), ("UnknownLiquid", false), ("NothingLeft", false)]
abbrev is_InvalidOutlet : List (Str × Bool) := [("InvalidName", false), ("InvalidVat", false), ("InvalidFloat", false), ("InvalidOutlet", true), ("InvalidRow", false), ("InvalidPlace", false), ("InvalidGiven", false), ("InvalidWish", false), ("InvalidNumber", false), ("InvalidAnswer", false), ("InvalidText", false), ("InvalidPage", false), ("InvalidCommand", false), ("InvalidLimit", false), ("DuplicateName", false), ("OtherPlant", false), ("NotPlain", false), ("NoFit", false), ("TooMany", false), ("Full", false), ("UnknownName", false), ("UnknownLiquid", false), ("NothingLeft", false)]
abbrev is_InvalidRow : List (Str × Bool) := [("InvalidName", false), ("InvalidVat", false), ("InvalidFloat", false), ("InvalidOutlet", false), ("InvalidRow", true), ("InvalidPlace", false), ("InvalidGiven", false), ("InvalidWish", false), ("InvalidNumber", false), ("InvalidAnswer", false), ("InvalidText", false), ("InvalidPage", false), ("InvalidCommand", false), ("InvalidLimit", false), ("DuplicateName", false), ("OtherPlant", false), ("NotPlain", false), ("NoFit", false), ("TooMany", false), ("Full", false), ("UnknownName", false), ("UnknownLiquid", false), ("NothingLeft", false)]
abbrev is_InvalidPlace : List (Str × Bool) := [("InvalidName", false), ("InvalidVat", false), ("InvalidFloat", false), ("InvalidOutlet", false), ("InvalidRow", false), ("InvalidPlace", true), ("InvalidGiven", false), ("InvalidWish", false), ("InvalidNumber", false), ("InvalidAnswer", false), ("InvalidText", false), ("InvalidPage", false), ("InvalidCommand", false), ("InvalidLimit", false), ("DuplicateName", false), ("OtherPlant", false), ("NotPlain", false), ("NoFit", false), ("TooMany", false), ("Full", false), ("UnknownName", false), ("UnknownLiquid", false), ("NothingLeft", false)]
abbrev is_InvalidGiven : List (Str × Bool) := [("InvalidName", false), ("InvalidVat", false), ("InvalidFloat", false), ("InvalidOutlet", false), ("InvalidRow", false), ("InvalidPlace", false), ("InvalidGiven", true), ("InvalidWish", false), ("InvalidNumber", false), ("InvalidAnswer", false), ("InvalidText", false), ("InvalidPage", false), ("InvalidCommand", false), ("InvalidLimit", false), ("DuplicateName", false), ("OtherPlant", false), ("NotPlain", false), ("NoFit", false), ("TooMany", false), ("Full", false), ("UnknownName", false), ("UnknownLiquid", false), ("NothingLeft", false)]
abbrev is_InvalidWish : List (Str × Bool) := [("InvalidName", false), ("InvalidVat", false), ("InvalidFloat", false), ("InvalidOutlet", false), ("InvalidRow", false), ("InvalidPlace", false), ("InvalidGiven", false), ("InvalidWish", true), ("InvalidNumber", false), ("InvalidAnswer", false), ("InvalidText", false), ("InvalidPage", false), ("InvalidCommand", false), ("InvalidLimit", false), ("DuplicateName", false), ("OtherPlant", false), ("NotPlain", false), ("NoFit", false), ("TooMany", false), ("Full", false), ("UnknownName", false), ("UnknownLiquid", false), ("NothingLeft", false)]
abbrev is_InvalidNumber : List (Str × Bool) := [("InvalidName", false), ("InvalidVat", false), ("InvalidFloat", false), ("InvalidOutlet", false), ("InvalidRow", false), ("InvalidPlace", false), ("InvalidGiven", false), ("InvalidWish", false), ("InvalidNumber", true), ("InvalidAnswer", false), ("InvalidText", false), ("InvalidPage", false), ("InvalidCommand", false), ("InvalidLimit", false), ("DuplicateName", false), ("OtherPlant", false), ("NotPlain", false), ("NoFit", false), ("TooMany", false), ("Full", false), ("UnknownName", false), ("UnknownLiquid", false), ("NothingLeft", false)]
abbrev is_InvalidAnswer : List (Str × Bool) := [("InvalidName", false), ("InvalidVat", false), ("InvalidFloat", false), ("InvalidOutlet", false), ("InvalidRow", false), ("InvalidPlace", false), ("InvalidGiven", false), ("InvalidWish", false), ("InvalidNumber", false), ("InvalidAnswer", true), ("InvalidText", false), ("InvalidPage", false), ("InvalidCommand", false), ("InvalidLimit", false), ("DuplicateName", false), ("OtherPlant", false), ("NotPlain", false), ("NoFit", false), ("TooMany", false), ("Full", false), ("UnknownName", false), ("UnknownLiquid", false), ("NothingLeft", false)]
abbrev is_InvalidText : List (Str × Bool) := [("InvalidName", false), ("InvalidVat", false), ("InvalidFloat", false), ("InvalidOutlet", false), ("InvalidRow", false), ("InvalidPlace", false), ("InvalidGiven", false), ("InvalidWish", false), ("InvalidNumber", false), ("InvalidAnswer", false), ("InvalidText", true), ("InvalidPage", false), ("InvalidCommand", false), ("InvalidLimit", false), ("DuplicateName", false), ("OtherPlant", false), ("NotPlain", false), ("NoFit", false), ("TooMany", false), ("Full", false), ("UnknownName", false), ("UnknownLiquid", false), ("NothingLeft", false)]
abbrev is_InvalidPage : List (Str × Bool) := [("InvalidName", false), ("InvalidVat", false), ("InvalidFloat", false), ("InvalidOutlet", false), ("InvalidRow", false), ("InvalidPlace", false), ("InvalidGiven", false), ("InvalidWish", false), ("InvalidNumber", false), ("InvalidAnswer", false), ("InvalidText", false), ("InvalidPage", true), ("InvalidCommand", false), ("InvalidLimit", false), ("DuplicateName", false), ("OtherPlant", false), ("NotPlain", false), ("NoFit", false), ("TooMany", false), ("Full", false), ("UnknownName", false), ("UnknownLiquid", false), ("NothingLeft", false)]
abbrev is_InvalidCommand : List (Str × Bool) := [("InvalidName", false), ("InvalidVat", false), ("InvalidFloat", false), ("InvalidOutlet", false), ("InvalidRow", false), ("InvalidPlace", false), ("InvalidGiven", false), ("InvalidWish", false), ("InvalidNumber", false), ("InvalidAnswer", false), ("InvalidText", false), ("InvalidPage", false), ("InvalidCommand", true), ("InvalidLimit", false), ("DuplicateName", false), ("OtherPlant", false), ("NotPlain", false), ("NoFit", false), ("TooMany", false), ("Full", false), ("UnknownName", false), ("UnknownLiquid", false), ("NothingLeft", false)]
abbrev is_InvalidLimit : List (Str × Bool) := [("InvalidName", false), ("InvalidVat", false), ("InvalidFloat", false), ("InvalidOutlet", false), ("InvalidRow", false), ("InvalidPlace", false), ("InvalidGiven", false), ("InvalidWish", false), ("InvalidNumber", false), ("InvalidAnswer", false), ("InvalidText", false), ("InvalidPage", false), ("InvalidCommand", false), ("InvalidLimit", true), ("DuplicateName", false), ("OtherPlant", false), ("NotPlain", false), ("NoFit", false), ("TooMany", false), ("Full", false), ("UnknownName", false), ("UnknownLiquid", false), ("NothingLeft", false)]
abbrev is_DuplicateName : List (Str × Bool) := [("InvalidName", false), ("InvalidVat", false), ("InvalidFloat", false), ("InvalidOutlet", false), ("InvalidRow", false), ("InvalidPlace", false), ("InvalidGiven", false), ("InvalidWish", false), ("InvalidNumber", false), ("InvalidAnswer", false), ("InvalidText", false), ("InvalidPage", false), ("InvalidCommand", false), ("InvalidLimit", false), ("DuplicateName", true), ("OtherPlant", false), ("NotPlain", false), ("NoFit", false), ("TooMany", false), ("Full", false), ("UnknownName", false), ("UnknownLiquid", false), ("NothingLeft", false)]
abbrev is_OtherPlant : List (Str × Bool) := [("InvalidName", false), ("InvalidVat", false), ("InvalidFloat", false), ("InvalidOutlet", false), ("InvalidRow", false), ("InvalidPlace", false), ("InvalidGiven", false), ("InvalidWish", false), ("InvalidNumber", false), ("InvalidAnswer", false), ("InvalidText", false), ("InvalidPage", false), ("InvalidCommand", false), ("InvalidLimit", false), ("DuplicateName", false), ("OtherPlant", true), ("NotPlain", false), ("NoFit", false), ("TooMany", false), ("Full", false), ("UnknownName", false), ("UnknownLiquid", false), ("NothingLeft", false)]
abbrev is_NotPlain : List (Str × Bool) := [("InvalidName", false), ("InvalidVat", false), ("InvalidFloat", false), ("InvalidOutlet", false), ("InvalidRow", false), ("InvalidPlace", false), ("InvalidGiven", false), ("InvalidWish", false), ("InvalidNumber", false), ("InvalidAnswer", false), ("InvalidText", false), ("InvalidPage", false), ("InvalidCommand", false), ("InvalidLimit", false), ("DuplicateName", false), ("OtherPlant", false), ("NotPlain", true), ("NoFit", false), ("TooMany", false), ("Full", false), ("UnknownName", false), ("UnknownLiquid", false), ("NothingLeft", false)]
abbrev is_NoFit : List (Str × Bool) := [("InvalidName", false), ("InvalidVat", false), ("InvalidFloat", false), ("InvalidOutlet", false), ("InvalidRow", false), ("InvalidPlace", false), ("InvalidGiven", false), ("InvalidWish", false), ("InvalidNumber", false), ("InvalidAnswer", false), ("InvalidText", false), ("InvalidPage", false), ("InvalidCommand", false), ("InvalidLimit", false), ("DuplicateName", false), ("OtherPlant", false), ("NotPlain", false), ("NoFit", true), ("TooMany", false), ("Full", false), ("UnknownName", false), ("UnknownLiquid", false), ("NothingLeft", false)]
abbrev is_TooMany : List (Str × Bool) := [("InvalidName", false), ("InvalidVat", false), ("InvalidFloat", false), ("InvalidOutlet", false), ("InvalidRow", false), ("InvalidPlace", false), ("InvalidGiven", false), ("InvalidWish", false), ("InvalidNumber", false), ("InvalidAnswer", false), ("InvalidText", false), ("InvalidPage", false), ("InvalidCommand", false), ("InvalidLimit", false), ("DuplicateName", false), ("OtherPlant", false), ("NotPlain", false), ("NoFit", false), ("TooMany", true), ("Full", false), ("UnknownName", false), ("UnknownLiquid", false), ("NothingLeft", false)]
abbrev is_Full : List (Str × Bool) := [("InvalidName", false), ("InvalidVat", false), ("InvalidFloat", false), ("InvalidOutlet", false), ("InvalidRow", false), ("InvalidPlace", false), ("InvalidGiven", false), ("InvalidWish", false), ("InvalidNumber", false), ("InvalidAnswer", false), ("InvalidText", false), ("InvalidPage", false), ("InvalidCommand", false), ("InvalidLimit", false), ("DuplicateName", false), ("OtherPlant", false), ("NotPlain", false), ("NoFit", false), ("TooMany", false), ("Full", true), ("UnknownName", false), ("UnknownLiquid", false), ("NothingLeft", false)]
abbrev is_UnknownName : List (Str × Bool) := [("InvalidName", false), ("InvalidVat", false), ("InvalidFloat", false), ("InvalidOutlet", false), ("InvalidRow", false), ("InvalidPlace", false), ("InvalidGiven", false), ("InvalidWish", false), ("InvalidNumber", false), ("InvalidAnswer", false), ("InvalidText", false), ("InvalidPage", false), ("InvalidCommand", false), ("InvalidLimit", false), ("DuplicateName", false), ("OtherPlant", false), ("NotPlain", false), ("NoFit", false), ("TooMany", false), ("Full", false), ("UnknownName", true), ("UnknownLiquid", false), ("NothingLeft", false)]
abbrev is_UnknownLiquid : List (Str × Bool) := [("InvalidName", false), ("InvalidVat", false), ("InvalidFloat", false), ("InvalidOutlet", false), ("InvalidRow", false), ("InvalidPlace", false), ("InvalidGiven", false), ("InvalidWish", false), ("InvalidNumber", false), ("InvalidAnswer", false), ("InvalidText", false), ("InvalidPage", false), ("InvalidCommand", false), ("InvalidLimit", false), ("DuplicateName", false), ("OtherPlant", false), ("NotPlain", false), ("NoFit", false), ("TooMany", false), ("Full", false), ("UnknownName", false), ("UnknownLiquid", true), ("NothingLeft", false)]
abbrev is_NothingLeft : List (Str × Bool) := [("InvalidName", false), ("InvalidVat", false), ("InvalidFloat", false), ("InvalidOutlet", false), ("InvalidRow", false), ("InvalidPlace", false), ("InvalidGiven", false), ("InvalidWish", false), ("InvalidNumber", false), ("InvalidAnswer", false), ("InvalidText", false), ("InvalidPage", false), ("InvalidCommand", false), ("InvalidLimit", false), ("DuplicateName", false), ("OtherPlant", false), ("NotPlain", false), ("NoFit", false), ("TooMany", false), ("Full", false), ("UnknownName", false), ("UnknownLiquid", false), ("NothingLeft", true)]
abbrev is_LiquidError : List (Str × Bool) := [("InvalidName", true), ("InvalidVat", true), ("InvalidFloat", true), ("InvalidOutlet", true), ("InvalidRow", true), ("InvalidPlace", true), ("InvalidGiven", true), ("InvalidWish", true), ("InvalidNumber", true), ("InvalidAnswer", true), ("InvalidText", true), ("InvalidPage", true), ("InvalidCommand", true), ("InvalidLimit", true), ("DuplicateName", true), ("OtherPlant", true), ("NotPlain", true), ("NoFit", true), ("TooMany", true), ("Full", true), ("UnknownName", false), ("UnknownLiquid", false), ("NothingLeft", false)]
abbrev is_Missing : List (Str × Bool) := [("InvalidName", false), ("InvalidVat", false), ("InvalidFloat", false), ("InvalidOutlet", false), ("InvalidRow", false), ("InvalidPlace", false), ("InvalidGiven", false), ("InvalidWish", false), ("InvalidNumber", false), ("InvalidAnswer", false), ("InvalidText", false), ("InvalidPage", false), ("InvalidCommand", false), ("InvalidLimit", false), ("DuplicateName", false), ("OtherPlant", false), ("NotPlain", false), ("NoFit", false), ("TooMany", false), ("Full", false), ("UnknownName", true), ("UnknownLiquid", true), ("NothingLeft", false)]
abbrev is_ValueError : List (Str × Bool) := [("InvalidName", true), ("InvalidVat", true), ("InvalidFloat", true), ("InvalidOutlet", true), ("InvalidRow", true), ("InvalidPlace", true), ("InvalidGiven", true), ("InvalidWish", true), ("InvalidNumber", true), ("InvalidAnswer", true), ("InvalidText", true), ("InvalidPage", true), ("InvalidCommand", true), ("InvalidLimit", true), ("DuplicateName", true), ("OtherPlant", true), ("NotPlain", true), ("NoFit", true), ("TooMany", true), ("Full", true), ("UnknownName", false), ("UnknownLiquid", false), ("NothingLeft", false)]
abbrev is_LookupError : List (Str × Bool) := [("InvalidName", false), ("InvalidVat", false), ("InvalidFloat", false), ("InvalidOutlet", false), ("InvalidRow", false), ("InvalidPlace", false), ("InvalidGiven", false), ("InvalidWish", false), ("InvalidNumber", false), ("InvalidAnswer", false), ("InvalidText", false), ("InvalidPage", false), ("InvalidCommand", false), ("InvalidLimit", false), ("DuplicateName", false), ("OtherPlant", false), ("NotPlain", false), ("NoFit", false), ("TooMany", false), ("Full", false), ("UnknownName", true), ("UnknownLiquid", true), ("NothingLeft", true)]
abbrev is_IndexError : List (Str × Bool) := [("InvalidName", false), ("InvalidVat", false), ("InvalidFloat", false), ("InvalidOutlet", false), ("InvalidRow", false), ("InvalidPlace", false), ("InvalidGiven", false), ("InvalidWish", false), ("InvalidNumber", false), ("InvalidAnswer", false), ("InvalidText", false), ("InvalidPage", false), ("InvalidCommand", false), ("InvalidLimit", false), ("DuplicateName", false), ("OtherPlant", false), ("NotPlain", false), ("NoFit", false), ("TooMany", false), ("Full", false), ("UnknownName", false), ("UnknownLiquid", false), ("NothingLeft", true)]
def f__law_start : Nat := 0
def f__law_pull : Nat := 1
def f__law_pick : Nat := 2
def f__law_kind : Nat := 3
def f__law_same : Nat := 4
def f__law_field : Nat := 5
def f__law_odd : Nat := 6
def f__law_codes : Nat := 7
def f__law_errors : Nat := 8
def f__law_classes : Nat := 9
def f__law_named_so : Nat := 10
def f_law : Nat := 11
def c__law_start : C :=
  (.cons (.ret (.lst true (.cons (.lof false (.sl false (.var 0) .nil (.kint 63))) (.cons (.kint 0) (.cons (.kint 0) (.cons (.bin .add (.kint 4933) (.blt "len" (.cons (.var 0) .nil))) (.cons (.kint 0) .nil))))))) .nil)
def d__law_start : Fn := ⟨1, 1, false, false, c__law_start⟩
def c__law_pull : C :=
  (.cons (.iff (.and_ (.cmp .eq (.idx (.var 0) (.kint 2)) (.kint 0)) (.cmp .lt (.idx (.var 0) (.kint 1)) (.blt "len" (.cons (.idx (.var 0) (.kint 0)) .nil)))) (.cons (.asg (.tn 3) (.idx (.idx (.var 0) (.kint 0)) (.idx (.var 0) (.kint 1)))) (.cons (.asg (.tsub (.var 0) (.kint 1)) (.bin .add (.idx (.var 0) (.kint 1)) (.kint 1))) (.cons (.iff (.cmp .ge (.var 3) (.bin .pow (.kint 10) (.kint 18))) (.cons (.asg (.tsub (.var 0) (.kint 2)) (.var 3)) .nil) (.cons (.asg (.tsub (.var 0) (.kint 3)) (.bin .mod (.blt "int" (.cons (.bin .add (.bin .add (.bin .mul (.idx (.var 0) (.kint 3)) (.kint 43051)) (.bin .mul (.bin .mod (.blt "int" (.cons (.var 3) .nil)) (.kint 2147483423)) (.kint 7411))) (.kint 37)) .nil)) (.kint 2147483579))) .nil)) .nil))) .nil) (.cons (.iff (.cmp .gt (.idx (.var 0) (.kint 2)) (.kint 0)) (.cons (.asg (.tn 4) (.bin .mod (.blt "int" (.cons (.idx (.var 0) (.kint 2)) .nil)) (.var 1))) (.cons (.asg (.tsub (.var 0) (.kint 2)) (.bin .fdiv (.idx (.var 0) (.kint 2)) (.var 1))) (.cons (.ret (.var 4)) .nil))) .nil) (.cons (.asg (.tsub (.var 0) (.kint 4)) (.bin .add (.idx (.var 0) (.kint 4)) (.kint 1))) (.cons (.asg (.tn 2) (.idx (.var 0) (.kint 3))) (.cons (.asg (.tsub (.var 0) (.kint 3)) (.bin .mod (.blt "int" (.cons (.bin .add (.bin .add (.bin .add (.bin .mul (.var 2) (.var 2)) (.bin .mul (.var 2) (.kint 31081))) (.bin .mul (.idx (.var 0) (.kint 4)) (.kint 1299833))) (.kint 70001)) .nil)) (.kint 2147483549))) (.cons (.ret (.bin .mod (.blt "int" (.cons (.bin .add (.bin .fdiv (.idx (.var 0) (.kint 3)) (.kint 59)) (.bin .mul (.bin .mod (.blt "int" (.cons (.idx (.var 0) (.kint 3)) .nil)) (.kint 8053)) (.kint 47))) .nil)) (.var 1))) .nil))))))
def d__law_pull : Fn := ⟨2, 5, false, false, c__law_pull⟩
def c__law_pick : C :=
  (.cons (.ret (.idx (.var 1) (.call f__law_pull (.cons (.var 0) (.cons (.blt "len" (.cons (.var 1) .nil)) .nil))))) .nil)
def d__law_pick : Fn := ⟨2, 2, false, false, c__law_pick⟩
def c__law_kind : C :=
  (.cons (.asg (.tn 1) (.lst false (.cons (.cmp .is (.var 0) .knon) (.cons (.blt "isinstance" (.cons (.var 0) (.cons (.kty "bool") .nil))) (.cons (.blt "isinstance" (.cons (.var 0) (.cons (.kty "int") .nil))) (.cons (.blt "isinstance" (.cons (.var 0) (.cons (.kty "str") .nil))) .nil)))))) (.cons (.asg (.tn 1) (.bin .add (.var 1) (.lst false (.cons (.blt "isinstance" (.cons (.var 0) (.cons (.kty "list") .nil))) (.cons (.blt "isinstance" (.cons (.var 0) (.cons (.kty "tuple") .nil))) (.cons (.kbl true) .nil)))))) (.cons (.ret (.mth "index" (.var 1) (.cons (.kbl true) .nil))) .nil)))
def d__law_kind : Fn := ⟨1, 2, false, false, c__law_kind⟩
def c__law_same : C :=
  (.cons (.iff (.cmp .ne (.call f__law_kind (.cons (.var 0) .nil)) (.call f__law_kind (.cons (.var 1) .nil))) (.cons (.ret (.kbl false)) .nil) .nil) (.cons (.iff (.cmp .inn (.call f__law_kind (.cons (.var 1) .nil)) (.tup (.cons (.kint 4) (.cons (.kint 5) .nil)))) (.cons (.ret (.and_ (.cmp .eq (.blt "len" (.cons (.var 0) .nil)) (.blt "len" (.cons (.var 1) .nil))) (.blt "all" (.cons (.lc false (.call f__law_same (.cons (.var 2) (.cons (.var 3) .nil))) (.tt (.cons (.tn 2) (.cons (.tn 3) .nil))) (.izip (.var 0) (.var 1)) .nil [2, 3]) .nil)))) .nil) .nil) (.cons (.ret (.cmp .eq (.var 0) (.var 1))) .nil)))
def d__law_same : Fn := ⟨2, 4, false, false, c__law_same⟩
def c__law_field : C :=
  (.cons (.iff (.cmp .inn (.erf "code" xCl (.var 0)) (.lst false (.cons (.kstr "InvalidVat") (.cons (.kstr "InvalidFloat") (.cons (.kstr "InvalidOutlet") (.cons (.kstr "InvalidRow") (.cons (.kstr "InvalidGiven") (.cons (.kstr "InvalidCommand") .nil)))))))) (.cons (.ret (.erf "at" xCl (.var 0))) .nil) .nil) (.cons (.iff (.cmp .inn (.erf "code" xCl (.var 0)) (.lst false (.cons (.kstr "InvalidText") (.cons (.kstr "InvalidPage") .nil)))) (.cons (.ret (.erf "line" xCl (.var 0))) .nil) .nil) (.cons (.iff (.cmp .inn (.erf "code" xCl (.var 0)) (.lst false (.cons (.kstr "DuplicateName") (.cons (.kstr "UnknownName") .nil)))) (.cons (.ret (.erf "name" xCl (.var 0))) .nil) .nil) (.cons (.iff (.cmp .eq (.erf "code" xCl (.var 0)) (.kstr "UnknownLiquid")) (.cons (.ret (.erf "liquid" xCl (.var 0))) .nil) .nil) (.cons (.iff (.cmp .eq (.erf "code" xCl (.var 0)) (.kstr "TooMany")) (.cons (.ret (.erf "most" xCl (.var 0))) .nil) .nil) (.cons (.iff (.cmp .eq (.erf "code" xCl (.var 0)) (.kstr "Full")) (.cons (.ret (.erf "limit" xCl (.var 0))) .nil) .nil) (.cons (.ret (.ife (.cmp .inn (.erf "code" xCl (.var 0)) (.lst false (.cons (.kstr "OtherPlant") (.cons (.kstr "NotPlain") (.cons (.kstr "NoFit") (.cons (.kstr "NothingLeft") .nil)))))) .knon (.erf "given" xCl (.var 0)))) .nil)))))))
def d__law_field : Fn := ⟨1, 1, false, false, c__law_field⟩
def c__law_odd : C :=
  (.cons (.ret (.call f__law_pick (.cons (.var 0) (.cons (.bin .add (.lst false (.cons .knon (.cons (.kbl true) (.cons (.kbl false) (.cons (.kstr "") (.cons (.kstr "A") (.cons (.neg (.kint 1)) (.cons (.tup (.cons (.kint 1) (.cons (.kstr "a") .nil))) (.cons (.lst false (.cons (.kint 1) .nil)) (.cons (.tup .nil) (.cons (.lst false (.cons (.kstr "a") .nil)) (.cons (.bin .pow (.kint 10) (.kint 17)) .nil)))))))))))) (.var 1)) .nil)))) .nil)
def d__law_odd : Fn := ⟨2, 2, false, false, c__law_odd⟩
def c__law_codes : C :=
  (.cons (.ret (.lst false (.cons (.kstr "InvalidName") (.cons (.kstr "InvalidVat") (.cons (.kstr "InvalidFloat") (.cons (.kstr "InvalidOutlet") (.cons (.kstr "InvalidRow") (.cons (.kstr "InvalidPlace") (.cons (.kstr "InvalidGiven") (.cons (.kstr "InvalidWish") (.cons (.kstr "InvalidNumber") (.cons (.kstr "InvalidAnswer") (.cons (.kstr "InvalidText") (.cons (.kstr "InvalidPage") (.cons (.kstr "InvalidCommand") (.cons (.kstr "InvalidLimit") (.cons (.kstr "DuplicateName") (.cons (.kstr "OtherPlant") (.cons (.kstr "NotPlain") (.cons (.kstr "NoFit") (.cons (.kstr "TooMany") (.cons (.kstr "Full") (.cons (.kstr "UnknownName") (.cons (.kstr "UnknownLiquid") (.cons (.kstr "NothingLeft") .nil))))))))))))))))))))))))) .nil)
def d__law_codes : Fn := ⟨0, 0, false, false, c__law_codes⟩
def c__law_errors : C :=
  (.cons (.asg (.tn 1) (.lst false (.cons (.mke "InvalidName" ["given"] xl_InvalidName (.cons (.var 0) .nil)) (.cons (.mke "InvalidVat" ["at"] xl_InvalidVat (.cons (.var 0) .nil)) (.cons (.mke "InvalidFloat" ["at"] xl_InvalidFloat (.cons (.var 0) .nil)) (.cons (.mke "InvalidOutlet" ["at"] xl_InvalidOutlet (.cons (.var 0) .nil)) (.cons (.mke "InvalidRow" ["at"] xl_InvalidRow (.cons (.var 0) .nil)) (.cons (.mke "InvalidPlace" ["given"] xl_InvalidPlace (.cons (.var 0) .nil)) .nil)))))))) (.cons (.asg (.tn 1) (.bin .add (.var 1) (.lst false (.cons (.mke "InvalidGiven" ["at"] xl_InvalidGiven (.cons (.var 0) .nil)) (.cons (.mke "InvalidWish" ["given"] xl_InvalidWish (.cons (.var 0) .nil)) (.cons (.mke "InvalidNumber" ["given"] xl_InvalidNumber (.cons (.var 0) .nil)) (.cons (.mke "InvalidAnswer" ["given"] xl_InvalidAnswer (.cons (.var 0) .nil)) (.cons (.mke "InvalidText" ["line"] xl_InvalidText (.cons (.var 0) .nil)) (.cons (.mke "InvalidPage" ["line"] xl_InvalidPage (.cons (.var 0) .nil)) .nil))))))))) (.cons (.asg (.tn 1) (.bin .add (.var 1) (.lst false (.cons (.mke "InvalidCommand" ["at"] xl_InvalidCommand (.cons (.var 0) .nil)) (.cons (.mke "InvalidLimit" ["given"] xl_InvalidLimit (.cons (.var 0) .nil)) (.cons (.mke "DuplicateName" ["name"] xl_DuplicateName (.cons (.var 0) .nil)) (.cons (.mke "OtherPlant" [] xl_OtherPlant .nil) (.cons (.mke "NotPlain" [] xl_NotPlain .nil) (.cons (.mke "NoFit" [] xl_NoFit .nil) (.cons (.mke "TooMany" ["most"] xl_TooMany (.cons (.var 0) .nil)) .nil)))))))))) (.cons (.ret (.bin .add (.var 1) (.lst false (.cons (.mke "Full" ["limit"] xl_Full (.cons (.var 0) .nil)) (.cons (.mke "UnknownName" ["name"] xl_UnknownName (.cons (.var 0) .nil)) (.cons (.mke "UnknownLiquid" ["liquid"] xl_UnknownLiquid (.cons (.var 0) .nil)) (.cons (.mke "NothingLeft" [] xl_NothingLeft .nil) .nil))))))) .nil))))
def d__law_errors : Fn := ⟨1, 2, false, false, c__law_errors⟩
def c__law_classes : C :=
  (.cons (.asg (.tn 1) (.lst false (.cons (.isc (.var 0) is_InvalidName) (.cons (.isc (.var 0) is_InvalidVat) (.cons (.isc (.var 0) is_InvalidFloat) .nil))))) (.cons (.asg (.tn 1) (.bin .add (.var 1) (.lst false (.cons (.isc (.var 0) is_InvalidOutlet) (.cons (.isc (.var 0) is_InvalidRow) (.cons (.isc (.var 0) is_InvalidPlace) .nil)))))) (.cons (.asg (.tn 1) (.bin .add (.var 1) (.lst false (.cons (.isc (.var 0) is_InvalidGiven) (.cons (.isc (.var 0) is_InvalidWish) (.cons (.isc (.var 0) is_InvalidNumber) .nil)))))) (.cons (.asg (.tn 1) (.bin .add (.var 1) (.lst false (.cons (.isc (.var 0) is_InvalidAnswer) (.cons (.isc (.var 0) is_InvalidText) (.cons (.isc (.var 0) is_InvalidPage) .nil)))))) (.cons (.asg (.tn 1) (.bin .add (.var 1) (.lst false (.cons (.isc (.var 0) is_InvalidCommand) (.cons (.isc (.var 0) is_InvalidLimit) (.cons (.isc (.var 0) is_DuplicateName) .nil)))))) (.cons (.asg (.tn 1) (.bin .add (.var 1) (.lst false (.cons (.isc (.var 0) is_OtherPlant) (.cons (.isc (.var 0) is_NotPlain) (.cons (.isc (.var 0) is_NoFit) (.cons (.isc (.var 0) is_TooMany) .nil))))))) (.cons (.ret (.bin .add (.var 1) (.lst false (.cons (.isc (.var 0) is_Full) (.cons (.isc (.var 0) is_UnknownName) (.cons (.isc (.var 0) is_UnknownLiquid) (.cons (.isc (.var 0) is_NothingLeft) .nil))))))) .nil)))))))
def d__law_classes : Fn := ⟨1, 2, false, false, c__law_classes⟩
def c__law_named_so : C :=
  (.cons (.asg (.tn 1) (.lst false (.cons (.mke "InvalidName" ["given"] xl_InvalidName (.cons (.var 0) .nil)) (.cons (.mke "InvalidPlace" ["given"] xl_InvalidPlace (.cons (.var 0) .nil)) (.cons (.mke "InvalidWish" ["given"] xl_InvalidWish (.cons (.var 0) .nil)) (.cons (.mke "InvalidNumber" ["given"] xl_InvalidNumber (.cons (.var 0) .nil)) (.cons (.mke "InvalidAnswer" ["given"] xl_InvalidAnswer (.cons (.var 0) .nil)) .nil))))))) (.cons (.asg (.tn 1) (.bin .add (.var 1) (.lst false (.cons (.mke "InvalidLimit" ["given"] xl_InvalidLimit (.cons (.var 0) .nil)) (.cons (.mke "InvalidVat" ["at"] xl_InvalidVat (.cons (.var 0) .nil)) (.cons (.mke "InvalidFloat" ["at"] xl_InvalidFloat (.cons (.var 0) .nil)) (.cons (.mke "InvalidOutlet" ["at"] xl_InvalidOutlet (.cons (.var 0) .nil)) (.cons (.mke "InvalidRow" ["at"] xl_InvalidRow (.cons (.var 0) .nil)) .nil)))))))) (.cons (.asg (.tn 1) (.bin .add (.var 1) (.lst false (.cons (.mke "InvalidGiven" ["at"] xl_InvalidGiven (.cons (.var 0) .nil)) (.cons (.mke "InvalidCommand" ["at"] xl_InvalidCommand (.cons (.var 0) .nil)) (.cons (.mke "InvalidText" ["line"] xl_InvalidText (.cons (.var 0) .nil)) (.cons (.mke "InvalidPage" ["line"] xl_InvalidPage (.cons (.var 0) .nil)) .nil))))))) (.cons (.asg (.tn 1) (.bin .add (.var 1) (.lst false (.cons (.mke "DuplicateName" ["name"] xl_DuplicateName (.cons (.var 0) .nil)) (.cons (.mke "TooMany" ["most"] xl_TooMany (.cons (.var 0) .nil)) (.cons (.mke "Full" ["limit"] xl_Full (.cons (.var 0) .nil)) (.cons (.mke "UnknownName" ["name"] xl_UnknownName (.cons (.var 0) .nil)) (.cons (.mke "UnknownLiquid" ["liquid"] xl_UnknownLiquid (.cons (.var 0) .nil)) .nil)))))))) (.cons (.ret (.call f__law_same (.cons (.lc false (.call f__law_field (.cons (.var 2) .nil)) (.tn 2) (.var 1) .nil [2]) (.cons (.bin .mul (.lst false (.cons (.var 0) .nil)) (.kint 19)) .nil)))) .nil)))))
def d__law_named_so : Fn := ⟨1, 3, false, false, c__law_named_so⟩
def b_law_1_4 : C :=
  (.cons (.iff (.or_ (.cmp .ne (.isc (.var 8) is_IndexError) (.cmp .eq (.var 5) (.kint 22))) (.cmp .ne (.call f__law_classes (.cons (.var 8) .nil)) (.lc false (.cmp .eq (.var 9) (.var 5)) (.tn 9) (.irng (.kint 23)) .nil [9]))) (.cons (.ret (.kbl false)) .nil) .nil) .nil)
def b_law_1_3 : C :=
  (.cons (.iff (.cmp .ne (.lst false (.cons (.isc (.var 8) is_Missing) (.cons (.isc (.var 8) is_LookupError) .nil))) (.lst false (.cons (.cmp .inn (.var 5) (.lst false (.cons (.kint 20) (.cons (.kint 21) .nil)))) (.cons (.cmp .gt (.var 5) (.kint 19)) .nil)))) (.cons (.ret (.kbl false)) .nil) .nil) b_law_1_4)
def b_law_1_2 : C :=
  (.cons (.iff (.cmp .ne (.lst false (.cons (.isc (.var 8) is_LiquidError) (.cons (.isc (.var 8) is_ValueError) .nil))) (.lst false (.cons (.cmp .lt (.var 5) (.kint 20)) (.cons (.cmp .lt (.var 5) (.kint 20)) .nil)))) (.cons (.ret (.kbl false)) .nil) .nil) b_law_1_3)
def b_law_1_1 : C :=
  (.cons (.iff (.not_ (.call f__law_same (.cons (.lst false (.cons (.erf "code" xCl (.var 8)) (.cons (.call f__law_field (.cons (.var 8) .nil)) .nil))) (.cons (.lst false (.cons (.idx (.var 7) (.var 5)) (.cons (.ife (.cmp .inn (.idx (.var 7) (.var 5)) (.var 4)) .knon (.var 3)) .nil))) .nil)))) (.cons (.ret (.kbl false)) .nil) .nil) b_law_1_2)
def b_law_1_0 : C :=
  (.cons (.asg (.tn 8) (.idx (.var 6) (.var 5))) b_law_1_1)
def b_law_0_4 : C :=
  (.cons (.iff (.or_ (.cmp .ne (.blt "len" (.cons (.var 6) .nil)) (.kint 23)) (.not_ (.call f__law_named_so (.cons (.var 3) .nil)))) (.cons (.ret (.kbl false)) .nil) .nil) .nil)
def b_law_0_3 : C :=
  (.cons (.forr (.tn 5) (.irng (.blt "len" (.cons (.var 6) .nil))) b_law_1_0) b_law_0_4)
def b_law_0_2 : C :=
  (.cons (.asg (.tn 4) (.lst false (.cons (.kstr "OtherPlant") (.cons (.kstr "NotPlain") (.cons (.kstr "NoFit") (.cons (.kstr "NothingLeft") .nil)))))) b_law_0_3)
def b_law_0_1 : C :=
  (.cons (.par [6, 7] (.cons (.call f__law_errors (.cons (.var 3) .nil)) (.cons (.call f__law_codes .nil) .nil))) b_law_0_2)
def b_law_0_0 : C :=
  (.cons (.asg (.tn 3) (.call f__law_odd (.cons (.var 1) (.cons (.lst false (.cons (.kstr "x") (.cons (.tup (.cons (.kint 3) (.cons (.kint 1) .nil))) (.cons (.call f__law_pull (.cons (.var 1) (.cons (.bin .pow (.kint 10) (.kint 9)) .nil))) .nil)))) .nil)))) b_law_0_1)
def c_law : C :=
  (.cons (.asg (.tn 1) (.call f__law_start (.cons (.var 0) .nil))) (.cons (.forr (.tn 2) (.irng (.kint 3)) b_law_0_0) (.cons (.ret (.kbl true)) .nil)))
def d_law : Fn := ⟨1, 10, false, false, c_law⟩
def fnTab : List Fn := ([d__law_start, d__law_pull, d__law_pick, d__law_kind, d__law_same, d__law_field, d__law_odd, d__law_codes, d__law_errors, d__law_classes, d__law_named_so, d_law] : List Fn)
def kvTab : List (Str × Val) := ([] : List (Str × Val))
def kvTabC : List (Str × Val) := ([] : List (Str × Val))
def TT : Tab := ⟨fun f => fnTab[f]?, fun x => match kvTab.lookup x with
  | some v => some v
  | none => kvTabC.lookup x⟩
theorem fn__law_start : TT.fn f__law_start = some d__law_start := rfl
theorem fn__law_pull : TT.fn f__law_pull = some d__law_pull := rfl
theorem fn__law_pick : TT.fn f__law_pick = some d__law_pick := rfl
theorem fn__law_kind : TT.fn f__law_kind = some d__law_kind := rfl
theorem fn__law_same : TT.fn f__law_same = some d__law_same := rfl
theorem fn__law_field : TT.fn f__law_field = some d__law_field := rfl
theorem fn__law_odd : TT.fn f__law_odd = some d__law_odd := rfl
theorem fn__law_codes : TT.fn f__law_codes = some d__law_codes := rfl
theorem fn__law_errors : TT.fn f__law_errors = some d__law_errors := rfl
theorem fn__law_classes : TT.fn f__law_classes = some d__law_classes := rfl
theorem fn__law_named_so : TT.fn f__law_named_so = some d__law_named_so := rfl
theorem fn_law : TT.fn f_law = some d_law := rfl
end Mv

/-! LAW_k01: what the law's text computes is True. -/
namespace Mv
open PySem (Str PyData)
abbrev gg : Cfg := ⟨TT.run 39, TT.kv⟩
theorem hPull : TT.fn f__law_pull = some ⟨2, 5, false, false, cPull⟩ := rfl
theorem hPick : TT.fn f__law_pick = some ⟨2, 2, false, false, cPick f__law_pull⟩ := rfl
theorem hKind : TT.fn f__law_kind = some ⟨1, 2, false, false, cKind⟩ := rfl
theorem hSame : TT.fn f__law_same = some ⟨2, 4, false, false, cSame f__law_kind f__law_same⟩ := rfl
def CN : List Str := ["InvalidName", "InvalidVat", "InvalidFloat", "InvalidOutlet", "InvalidRow", "InvalidPlace", "InvalidGiven", "InvalidWish", "InvalidNumber", "InvalidAnswer", "InvalidText", "InvalidPage", "InvalidCommand", "InvalidLimit", "DuplicateName", "OtherPlant", "NotPlain", "NoFit", "TooMany", "Full", "UnknownName", "UnknownLiquid", "NothingLeft"]
def L1 : List Str := ["InvalidVat", "InvalidFloat", "InvalidOutlet", "InvalidRow", "InvalidGiven", "InvalidCommand"]
def L2 : List Str := ["InvalidText", "InvalidPage"]
def L3 : List Str := ["DuplicateName", "UnknownName"]
def BR : List Str := ["OtherPlant", "NotPlain", "NoFit", "NothingLeft"]
def made (a : Val) : List Val := [erV "InvalidName" ["given"] xl_InvalidName [a], erV "InvalidVat" ["at"] xl_InvalidVat [a], erV "InvalidFloat" ["at"] xl_InvalidFloat [a], erV "InvalidOutlet" ["at"] xl_InvalidOutlet [a], erV "InvalidRow" ["at"] xl_InvalidRow [a], erV "InvalidPlace" ["given"] xl_InvalidPlace [a], erV "InvalidGiven" ["at"] xl_InvalidGiven [a], erV "InvalidWish" ["given"] xl_InvalidWish [a], erV "InvalidNumber" ["given"] xl_InvalidNumber [a], erV "InvalidAnswer" ["given"] xl_InvalidAnswer [a], erV "InvalidText" ["line"] xl_InvalidText [a], erV "InvalidPage" ["line"] xl_InvalidPage [a], erV "InvalidCommand" ["at"] xl_InvalidCommand [a], erV "InvalidLimit" ["given"] xl_InvalidLimit [a], erV "DuplicateName" ["name"] xl_DuplicateName [a], erV "OtherPlant" [] xl_OtherPlant [], erV "NotPlain" [] xl_NotPlain [], erV "NoFit" [] xl_NoFit [], erV "TooMany" ["most"] xl_TooMany [a], erV "Full" ["limit"] xl_Full [a], erV "UnknownName" ["name"] xl_UnknownName [a], erV "UnknownLiquid" ["liquid"] xl_UnknownLiquid [a], erV "NothingLeft" [] xl_NothingLeft []]
def madeN (a : Val) : List Val := [erV "InvalidName" ["given"] xl_InvalidName [a], erV "InvalidPlace" ["given"] xl_InvalidPlace [a], erV "InvalidWish" ["given"] xl_InvalidWish [a], erV "InvalidNumber" ["given"] xl_InvalidNumber [a], erV "InvalidAnswer" ["given"] xl_InvalidAnswer [a], erV "InvalidLimit" ["given"] xl_InvalidLimit [a], erV "InvalidVat" ["at"] xl_InvalidVat [a], erV "InvalidFloat" ["at"] xl_InvalidFloat [a], erV "InvalidOutlet" ["at"] xl_InvalidOutlet [a], erV "InvalidRow" ["at"] xl_InvalidRow [a], erV "InvalidGiven" ["at"] xl_InvalidGiven [a], erV "InvalidCommand" ["at"] xl_InvalidCommand [a], erV "InvalidText" ["line"] xl_InvalidText [a], erV "InvalidPage" ["line"] xl_InvalidPage [a], erV "DuplicateName" ["name"] xl_DuplicateName [a], erV "TooMany" ["most"] xl_TooMany [a], erV "Full" ["limit"] xl_Full [a], erV "UnknownName" ["name"] xl_UnknownName [a], erV "UnknownLiquid" ["liquid"] xl_UnknownLiquid [a]]
def nm (k : Nat) : Str := CN.getD k ""
def mk (a : Val) (k : Nat) : Val := (made a).getD k .non
def fieldV (v : Val) (c : Str) : Option Val := match memS (.str c) L1 with
  | true => erfV "at" xCl v
  | false => match memS (.str c) L2 with
    | true => erfV "line" xCl v
    | false => match memS (.str c) L3 with
      | true => erfV "name" xCl v
      | false => match eqS (.str c) "UnknownLiquid" with
        | true => erfV "liquid" xCl v
        | false => match eqS (.str c) "TooMany" with
          | true => erfV "most" xCl v
          | false => match eqS (.str c) "Full" with
            | true => erfV "limit" xCl v
            | false => match memS (.str c) BR with
              | true => some .non
              | false => erfV "given" xCl v
/-- what is due -/
def due (a : Val) (k : Nat) : Val := match memS (.str (nm k)) BR with
  | true => .non
  | false => a
def isT : Nat → List (Str × Bool)
  | 0 => is_InvalidName
  | 1 => is_InvalidVat
  | 2 => is_InvalidFloat
  | 3 => is_InvalidOutlet
  | 4 => is_InvalidRow
  | 5 => is_InvalidPlace
  | 6 => is_InvalidGiven
  | 7 => is_InvalidWish
  | 8 => is_InvalidNumber
  | 9 => is_InvalidAnswer
  | 10 => is_InvalidText
  | 11 => is_InvalidPage
  | 12 => is_InvalidCommand
  | 13 => is_InvalidLimit
  | 14 => is_DuplicateName
  | 15 => is_OtherPlant
  | 16 => is_NotPlain
  | 17 => is_NoFit
  | 18 => is_TooMany
  | 19 => is_Full
  | 20 => is_UnknownName
  | 21 => is_UnknownLiquid
  | _ => is_NothingLeft
theorem k_cases {P : Nat → Prop} {k : Nat} (hk : k < 23) (h : P 0 ∧ P 1 ∧ P 2 ∧ P 3 ∧ P 4 ∧ P 5 ∧ P 6 ∧ P 7 ∧ P 8 ∧ P 9 ∧ P 10 ∧ P 11 ∧ P 12 ∧ P 13 ∧ P 14 ∧ P 15 ∧ P 16 ∧ P 17 ∧ P 18 ∧ P 19 ∧ P 20 ∧ P 21 ∧ P 22) : P k := by
  have e : k = 0 ∨ k = 1 ∨ k = 2 ∨ k = 3 ∨ k = 4 ∨ k = 5 ∨ k = 6 ∨ k = 7 ∨ k = 8 ∨ k = 9 ∨ k = 10 ∨ k = 11 ∨ k = 12 ∨ k = 13 ∨ k = 14 ∨ k = 15 ∨ k = 16 ∨ k = 17 ∨ k = 18 ∨ k = 19 ∨ k = 20 ∨ k = 21 ∨ k = 22 := by omega
  obtain ⟨h0, h1, h2, h3, h4, h5, h6, h7, h8, h9, h10, h11, h12, h13, h14, h15, h16, h17, h18, h19, h20, h21, h22⟩ := h
  rcases e with rfl | rfl | rfl | rfl | rfl | rfl | rfl | rfl | rfl | rfl | rfl | rfl | rfl | rfl | rfl | rfl | rfl | rfl | rfl | rfl | rfl | rfl | rfl <;> assumption
theorem code_k (a : Val) {k : Nat} (hk : k < 23) : erfV "code" xCl (mk a k) = some (.str (nm k)) :=
  k_cases (P := fun k => erfV "code" xCl (mk a k) = some (.str (nm k))) hk ⟨by kernel_rfl, by kernel_rfl, by kernel_rfl, by kernel_rfl, by kernel_rfl, by kernel_rfl, by kernel_rfl, by kernel_rfl, by kernel_rfl, by kernel_rfl, by kernel_rfl, by kernel_rfl, by kernel_rfl, by kernel_rfl, by kernel_rfl, by kernel_rfl, by kernel_rfl, by kernel_rfl, by kernel_rfl, by kernel_rfl, by kernel_rfl, by kernel_rfl, by kernel_rfl⟩
theorem fld_k (a : Val) {k : Nat} (hk : k < 23) : fieldV (mk a k) (nm k) = some (due a k) :=
  k_cases (P := fun k => fieldV (mk a k) (nm k) = some (due a k)) hk ⟨by kernel_rfl, by kernel_rfl, by kernel_rfl, by kernel_rfl, by kernel_rfl, by kernel_rfl, by kernel_rfl, by kernel_rfl, by kernel_rfl, by kernel_rfl, by kernel_rfl, by kernel_rfl, by kernel_rfl, by kernel_rfl, by kernel_rfl, by kernel_rfl, by kernel_rfl, by kernel_rfl, by kernel_rfl, by kernel_rfl, by kernel_rfl, by kernel_rfl, by kernel_rfl⟩
theorem isc_k (a : Val) (t : List (Str × Bool)) {k : Nat} (hk : k < 23) : iscV t (mk a k) = t.lookup (nm k) :=
  k_cases (P := fun k => iscV t (mk a k) = t.lookup (nm k)) hk ⟨rfl, rfl, rfl, rfl, rfl, rfl, rfl, rfl, rfl, rfl, rfl, rfl, rfl, rfl, rfl, rfl, rfl, rfl, rfl, rfl, rfl, rfl, rfl⟩
theorem cls_k : ∀ k < 23, ∀ j < 23, (isT j).lookup (nm k) = some (decide ((j : Int) = (k : Int))) := by decide +kernel
theorem liq_k : ∀ k < 23, is_LiquidError.lookup (nm k) = some (decide ((k : Int) < 20)) := by decide +kernel
theorem val_k : ∀ k < 23, is_ValueError.lookup (nm k) = some (decide ((k : Int) < 20)) := by decide +kernel
theorem mis_k : ∀ k < 23, is_Missing.lookup (nm k) = some (decide ((k : Int) = 20 ∨ (k : Int) = 21)) := by decide +kernel
theorem lkp_k : ∀ k < 23, is_LookupError.lookup (nm k) = some (decide (19 < (k : Int))) := by decide +kernel
theorem ind_k : ∀ k < 23, is_IndexError.lookup (nm k) = some (decide ((k : Int) = 22)) := by decide +kernel
theorem nm_ok : ∀ k < 23, PyData.strOk (nm k) = true := by decide +kernel
theorem okL1 : okS L1 := by unfold okS; decide +kernel
theorem okL2 : okS L2 := by unfold okS; decide +kernel
theorem okL3 : okS L3 := by unfold okS; decide +kernel
theorem okBR : okS BR := by unfold okS; decide +kernel
local macro_rules | `(tactic| walk_at "ev") => `(tactic| try simp only [evS, evT, evE, evEs, evO, evG, evGs, evF, Out.bind_ok, Out.bind_no, Out.bindN_ok, lift_ok, Out.Ok_ok, Out.Ok_bind, Out.Ok_bindN, Out.Ok_lift, SO.Ok_nx, SO.Ok_rt, SO.Ok_bk, SO.Ok_ct, thn_nx, thn_rt, thn_bk, thn_ct, endQ_nx, endQ_rt, Ok_ss0, ofO_some, List.getElem?_cons_zero, List.getElem?_cons_succ, List.set_cons_zero, List.set_cons_succ, Option.map_some, Option.bind_some, List.length_cons, List.length_nil, ix51, ix52, ix53, ix54, Nat.zero_add, Nat.reduceAdd, cmp_eq_int, cmp_ne_int, cmp_lt_int, cmp_le_int, cmp_gt_int, cmp_ge_int, cmp_in, cmp_nin, tru_bl, add_int, sub_int, mul_intR, mod_int, fdiv_int, pow10_18, pow10_17, pow10_15, pow10_6, int_int, int_bl, len_tup, len_fz, len_wr, idx_fz, idx_tup, idx_ref, lst_fz, sq_cons, seqAt_0, at0, at1, at2, at3, at4, Int.reduceNeg, Int.reduceLT, Int.reduceLE, decide_true, decide_false, eq_self, isin, is_non, tyN_non, tyN_bl, tyN_int, tyN_str, tyN_tup, tyN_fz, mkL_f, newL_f, add_fz, add_tup, Int.reduceEq, ca0, ca1, ca2, ca3, ca4, ca5, ca6, ca7, ca8, ca9, ca10, ca11, ca12, List.foldl_cons, List.foldl_nil, List.zip_cons_cons, List.zip_nil_left, List.zip_nil_right, Int.toNat_natCast, wipe, List.foldr_cons, List.foldr_nil, szw_le, if_true, Nat.reduceLeDiff, Bool.not_true, Bool.not_false, List.cons_append, List.nil_append, mapO, Src.get, in45, ki_NoneType_bool, ki_NoneType_int, ki_NoneType_str, ki_NoneType_list, ki_NoneType_tuple, ki_bool_bool, ki_bool_int, ki_bool_str, ki_bool_list, ki_bool_tuple, ki_int_bool, ki_int_int, ki_int_str, ki_int_list, ki_int_tuple, ki_str_bool, ki_str_int, ki_str_str, ki_str_list, ki_str_tuple, ki_list_bool, ki_list_int, ki_list_str, ki_list_list, ki_list_tuple, ki_tuple_bool, ki_tuple_int, ki_tuple_str, ki_tuple_list, ki_tuple_tuple, *])
local macro_rules | `(tactic| walk_at "st") => `(tactic| ((try rw [Ok_ss]); walk_at "ev"))
local macro_rules | `(tactic| walk_at "go") => `(tactic| (walk_at "ev"; repeat (rw [Ok_ss]; walk_at "ev")))
local macro_rules | `(tactic| walk_at "end") => `(tactic| (walk_at "go"; first | done | exact ⟨rfl, trivial⟩ | exact ⟨trivial, trivial⟩ | (simp; done)))
/-! ### what an error keeps -/
theorem field_ok {n : Nat} {S : Store} {v w : Val} {c : Str} (h1 : erfV "code" xCl v = some (.str c)) (hc : PyData.strOk c = true) (h2 : fieldV v c = some w) : TT.run (n + 1) f__law_field [v] S = .ok w S := by
  apply Out.Ok.eq
  refine ok_run fn__law_field rfl ?_
  show (evSs _ c__law_field [some v] S).Ok _
  unfold c__law_field
  have i1 : inV S (.str c) (.fz [.str "InvalidVat", .str "InvalidFloat", .str "InvalidOutlet", .str "InvalidRow", .str "InvalidGiven", .str "InvalidCommand"]) = some (memS (.str c) L1) := in_fz S (m := 0) (xs := L1) hc (by omega) okL1
  have i2 : inV S (.str c) (.fz [.str "InvalidText", .str "InvalidPage"]) = some (memS (.str c) L2) := in_fz S (m := 0) (xs := L2) hc (by omega) okL2
  have i3 : inV S (.str c) (.fz [.str "DuplicateName", .str "UnknownName"]) = some (memS (.str c) L3) := in_fz S (m := 0) (xs := L3) hc (by omega) okL3
  have i4 : inV S (.str c) (.fz [.str "OtherPlant", .str "NotPlain", .str "NoFit", .str "NothingLeft"]) = some (memS (.str c) BR) := in_fz S (m := 0) (xs := BR) hc (by omega) okBR
  have j1 := eq_str S (m := 0) (v := .str c) (x := "UnknownLiquid") hc (by omega) (by decide +kernel)
  have j2 := eq_str S (m := 0) (v := .str c) (x := "TooMany") hc (by omega) (by decide +kernel)
  have j3 := eq_str S (m := 0) (v := .str c) (x := "Full") hc (by omega) (by decide +kernel)
  unfold fieldV at h2
  clear hc
  generalize memS (.str c) L1 = b1 at i1 h2
  cases b1 with
  | true =>
    clear i2 i3 i4 j1 j2 j3
    dsimp only at h2
    walk_at "end"
  | false =>
    generalize memS (.str c) L2 = b2 at i2 h2
    cases b2 with
    | true =>
      clear i3 i4 j1 j2 j3
      dsimp only at h2
      walk_at "end"
    | false =>
      generalize memS (.str c) L3 = b3 at i3 h2
      cases b3 with
      | true =>
        clear i4 j1 j2 j3
        dsimp only at h2
        walk_at "end"
      | false =>
        generalize eqS (.str c) "UnknownLiquid" = b4 at j1 h2
        cases b4 with
        | true =>
          clear i4 j2 j3
          dsimp only at h2
          walk_at "end"
        | false =>
          generalize eqS (.str c) "TooMany" = b5 at j2 h2
          cases b5 with
          | true =>
            clear i4 j3
            dsimp only at h2
            walk_at "end"
          | false =>
            generalize eqS (.str c) "Full" = b6 at j3 h2
            cases b6 with
            | true =>
              clear i4
              dsimp only at h2
              walk_at "end"
            | false =>
              generalize memS (.str c) BR = b7 at i4 h2
              cases b7 with
              | true =>
                dsimp only at h2
                cases h2
                walk_at "end"
              | false =>
                dsimp only at h2
                walk_at "end"
theorem fldrun {n : Nat} {S : Store} {a : Val} {k : Nat} (hk : k < 23) : TT.run (n + 1) f__law_field [mk a k] S = .ok (due a k) S := field_ok (code_k a hk) (nm_ok k hk) (fld_k a hk)
/-! ### the classes -/
theorem classes_ok {n : Nat} {S : Store} {v : Val} (b : Nat → Bool) (h : ∀ j < 23, iscV (isT j) v = some (b j)) : TT.run (n + 1) f__law_classes [v] S = .ok (.fz ((List.range 23).map fun j => .bl (b j))) S := by
  apply Out.Ok.eq
  refine ok_run fn__law_classes rfl ?_
  show (evSs _ c__law_classes [some v, none] S).Ok _
  unfold c__law_classes
  have e0 : iscV is_InvalidName v = some (b 0) := h 0 (by decide)
  have e1 : iscV is_InvalidVat v = some (b 1) := h 1 (by decide)
  have e2 : iscV is_InvalidFloat v = some (b 2) := h 2 (by decide)
  have e3 : iscV is_InvalidOutlet v = some (b 3) := h 3 (by decide)
  have e4 : iscV is_InvalidRow v = some (b 4) := h 4 (by decide)
  have e5 : iscV is_InvalidPlace v = some (b 5) := h 5 (by decide)
  have e6 : iscV is_InvalidGiven v = some (b 6) := h 6 (by decide)
  have e7 : iscV is_InvalidWish v = some (b 7) := h 7 (by decide)
  have e8 : iscV is_InvalidNumber v = some (b 8) := h 8 (by decide)
  have e9 : iscV is_InvalidAnswer v = some (b 9) := h 9 (by decide)
  have e10 : iscV is_InvalidText v = some (b 10) := h 10 (by decide)
  have e11 : iscV is_InvalidPage v = some (b 11) := h 11 (by decide)
  have e12 : iscV is_InvalidCommand v = some (b 12) := h 12 (by decide)
  have e13 : iscV is_InvalidLimit v = some (b 13) := h 13 (by decide)
  have e14 : iscV is_DuplicateName v = some (b 14) := h 14 (by decide)
  have e15 : iscV is_OtherPlant v = some (b 15) := h 15 (by decide)
  have e16 : iscV is_NotPlain v = some (b 16) := h 16 (by decide)
  have e17 : iscV is_NoFit v = some (b 17) := h 17 (by decide)
  have e18 : iscV is_TooMany v = some (b 18) := h 18 (by decide)
  have e19 : iscV is_Full v = some (b 19) := h 19 (by decide)
  have e20 : iscV is_UnknownName v = some (b 20) := h 20 (by decide)
  have e21 : iscV is_UnknownLiquid v = some (b 21) := h 21 (by decide)
  have e22 : iscV is_NothingLeft v = some (b 22) := h 22 (by decide)
  clear h
  have er : (List.range 23).map (fun j => Val.bl (b j)) = [.bl (b 0), .bl (b 1), .bl (b 2), .bl (b 3), .bl (b 4), .bl (b 5), .bl (b 6), .bl (b 7), .bl (b 8), .bl (b 9), .bl (b 10), .bl (b 11), .bl (b 12), .bl (b 13), .bl (b 14), .bl (b 15), .bl (b 16), .bl (b 17), .bl (b 18), .bl (b 19), .bl (b 20), .bl (b 21), .bl (b 22)] := rfl
  rw [er]
  clear er
  walk_at "end"
theorem codes_ok {n : Nat} {S : Store} : TT.run (n + 1) f__law_codes [] S = .ok (.fz (CN.map .str)) S := by
  apply Out.Ok.eq
  refine ok_run fn__law_codes rfl ?_
  show (evSs _ c__law_codes [] S).Ok _
  unfold c__law_codes
  walk_at "go"
  exact ⟨rfl, trivial⟩
theorem mke1 (g : Cfg) (S : Store) (a : Val) (r : Rho) (c p : Str) (l : List (Str × ASrc)) : evE g (.mke c [p] l (.cons (.var 0) .nil)) (some a :: r) S = .ok (erV c [p] l [a]) S := by
  rw [evE]
  simp only [evEs, evE, List.getElem?_cons_zero, Out.bind_ok]
  rfl
theorem mke0 (g : Cfg) (S : Store) (r : Rho) (c : Str) (l : List (Str × ASrc)) : evE g (.mke c [] l .nil) r S = .ok (erV c [] l []) S := by
  rw [evE]
  simp only [evEs, Out.bind_ok]
  rfl
theorem errors_ok {n : Nat} {S : Store} {a : Val} : TT.run (n + 1) f__law_errors [a] S = .ok (.fz (made a)) S := by
  apply Out.Ok.eq
  refine ok_run fn__law_errors rfl ?_
  show (evSs _ c__law_errors [some a, none] S).Ok _
  unfold c__law_errors
  have m1 := mke1
  have m0 := mke0
  walk_at "go"
  exact ⟨rfl, trivial⟩
/-! ### by name -/
theorem byname (a : Val) : ∀ v ∈ madeN a, ∃ k < 23, v = mk a k ∧ due a k = a := by
  unfold madeN
  simp only [List.forall_mem_cons, List.not_mem_nil, false_imp_iff, implies_true, and_true]
  exact ⟨⟨0, by decide, rfl, rfl⟩, ⟨5, by decide, rfl, rfl⟩, ⟨7, by decide, rfl, rfl⟩, ⟨8, by decide, rfl, rfl⟩, ⟨9, by decide, rfl, rfl⟩, ⟨13, by decide, rfl, rfl⟩, ⟨1, by decide, rfl, rfl⟩, ⟨2, by decide, rfl, rfl⟩, ⟨3, by decide, rfl, rfl⟩, ⟨4, by decide, rfl, rfl⟩, ⟨6, by decide, rfl, rfl⟩, ⟨12, by decide, rfl, rfl⟩, ⟨10, by decide, rfl, rfl⟩, ⟨11, by decide, rfl, rfl⟩, ⟨14, by decide, rfl, rfl⟩, ⟨18, by decide, rfl, rfl⟩, ⟨19, by decide, rfl, rfl⟩, ⟨20, by decide, rfl, rfl⟩, ⟨21, by decide, rfl, rfl⟩⟩
theorem mul19 (S : Store) (a : Val) : binV S .mul (.fz [a]) (.int 19) = .ok (.fz (List.replicate 19 a)) S := by
  show (if -(2 ^ 63) ≤ (19 : Int) ∧ (19 : Int) < 2 ^ 63 ∧ [a].length * (19 : Int).toNat ≤ SZ then Out.ok (Val.fz (List.replicate (19 : Int).toNat [a]).flatten) S else .no) = _
  rw [if_pos ⟨by decide, by decide, by show 1 * 19 ≤ SZ; decide⟩]
  rfl
theorem named_ok {n m : Nat} {S : Store} {a : Val} (hd : dat m a) (hm : m ≤ 5) : TT.run (n + 9) f__law_named_so [a] S = .ok (.bl true) S := by
  apply Out.Ok.eq
  refine ok_run fn__law_named_so rfl ?_
  show (evSs _ c__law_named_so [some a, none, none] S).Ok _
  unfold c__law_named_so
  have m1 := mke1
  have m0 := mke0
  rw [Ok_ss]
  walk_at "ev"
  rw [Ok_ss]
  walk_at "ev"
  rw [Ok_ss]
  walk_at "ev"
  rw [Ok_ss]
  walk_at "ev"
  show (evSs _ (.cons (.ret (.call f__law_same (.cons (.lc false (.call f__law_field (.cons (.var 2) .nil)) (.tn 2) (.var 1) .nil [2]) (.cons (.bin .mul (.lst false (.cons (.var 0) .nil)) (.kint 19)) .nil)))) .nil) [some a, some (.fz (madeN a)), none] S).Ok _
  clear m1 m0
  have hl : (madeN a).length = 19 := rfl
  have hb := byname a
  generalize madeN a = X at hl hb
  have e2 : ∀ g, evI g (.var 1) [some a, some (.fz X), none] S = .ok (.its X) S := by
    intro g
    rw [evI]
    · rw [evE]
      rfl
    all_goals (intros; contradiction)
  rw [Ok_ss]
  walk_at "ev"
  refine Out.eq_Ok (lc_map (fun _ => a) (by rw [hl]; decide) fun v hv => ?_) ?_
  · obtain ⟨k, hk, rfl, hu⟩ := hb v hv
    have f := fldrun (n := n + 7) (S := S) (a := a) hk
    rw [hu] at f
    clear e2 hb hu
    apply Out.Ok.eq
    walk_at "ev"
    first | exact ⟨rfl, trivial⟩ | exact ⟨trivial, trivial⟩
  · clear e2 hb
    have e3 : X.map (fun _ => a) = List.replicate 19 a := by rw [List.map_const', hl]
    rw [e3]
    have m9 := mul19
    have sm := same_at (T := TT) (k := n + 8) hKind hSame (m + 1) (S := S) (v := .fz (List.replicate 19 a)) ⟨by rw [List.length_replicate]; decide, fun d hd' => by rw [List.eq_of_mem_replicate hd']; exact hd⟩ (by omega)
    clear e3 hl
    walk_at "end"
/-! ### a turn of the inner loop -/
theorem in2021 (S : Store) (i : Int) : inV S (.int i) (.fz [.int 20, .int 21]) = some (decide (i = 20 ∨ i = 21)) := by
  show some ([PyData.int 20, .int 21].any fun z => PyData.eqv z (.int i)) = _
  simp only [List.any_cons, List.any_nil, PyData.eqv, Bool.or_false]
  congr 1
  rw [Bool.eq_iff_iff]
  simp only [Bool.or_eq_true, beq_iff_eq, decide_eq_true_eq]
  omega
theorem dat_bls {α : Type} (l : List α) (f : α → Bool) (h : l.length < SZ) : dat 1 (.fz (l.map fun i => .bl (f i))) := ⟨by rw [List.length_map]; exact h, fun d hd => by
  obtain ⟨i, _, rfl⟩ := List.mem_map.mp hd
  trivial⟩
theorem ne_bl2 (S : Store) (x y : Bool) : cmpV S .ne (.fz [.bl x, .bl y]) (.fz [.bl x, .bl y]) = some false := ne_refl_ (dat_bls [x, y] id (by show 2 < SZ; decide)) (by omega)
theorem mk_at (a : Val) {k : Nat} (hk : k < 23) : L2.atI (made a) (k : Int) = some (mk a k) := by
  have hl : (made a).length = 23 := rfl
  rw [at_nat _ k _ rfl (by omega)]
  unfold mk
  rw [List.getD_eq_getElem?_getD, List.getElem?_eq_getElem (by omega)]
  rfl
theorem cn_at {k : Nat} (hk : k < 23) : L2.atI (CN.map Val.str) (k : Int) = some (.str (nm k)) := by
  have hl : CN.length = 23 := rfl
  rw [at_nat _ k _ rfl (by rw [List.length_map]; omega), List.getElem?_map]
  unfold nm
  rw [List.getD_eq_getElem?_getD, List.getElem?_eq_getElem (by omega)]
  rfl
theorem lc_eqk (S : Store) (k : Nat) : lcN (.its (rngV 23)) (fun v S2 => (ofO S2 ((cmpV S2 .eq v (.int k)).map .bl)).bind fun y S5 => .ok (some y) S5) TURNS 0 [] S = .ok ((List.range 23).map fun (j : Nat) => Val.bl (decide ((j : Int) = (k : Int)))) S := by
  have hb : ∀ j ∈ List.range 23, (fun (v : Val) (S2 : Store) => (ofO S2 ((cmpV S2 .eq v (.int k)).map Val.bl)).bind fun y S5 => Out.ok (some y) S5) (Val.int ((j : Nat) : Int)) S = .ok (some (Val.bl (decide ((j : Int) = (k : Int))))) S := fun j _ => by
    show (ofO S ((cmpV S .eq (.int (j : Int)) (.int k)).map Val.bl)).bind _ = _
    rw [cmp_eq_int]
    rfl
  exact lc_mapf (as := List.range 23) (S := S) (fun (i : Nat) => Val.int (i : Int)) (fun (j : Nat) => Val.bl (decide ((j : Int) = (k : Int)))) (by rw [List.length_range]; decide) hb
theorem body_ok {a : Val} {k m : Nat} {S : Store} {x0 x1 x2 x8 x9 : Option Val} {Q : SO → Prop} (hd : dat m a) (hm : m ≤ 5) (hk : k < 23)
    (h : ∀ y8 y9, Q (.nx [x0, x1, x2, some a, some (.fz (BR.map .str)), some (.int k), some (.fz (made a)), some (.fz (CN.map .str)), y8, y9] S)) :
    (evSs gg b_law_1_0 [x0, x1, x2, some a, some (.fz (BR.map .str)), some (.int k), some (.fz (made a)), some (.fz (CN.map .str)), x8, x9] S).Ok Q := by
  have h : Hold (∀ y8 y9, Q (.nx [x0, x1, x2, some a, some (.fz (BR.map .str)), some (.int k), some (.fz (made a)), some (.fz (CN.map .str)), y8, y9] S)) := h
  unfold b_law_1_0
  have i0 := mk_at a hk
  walk_at "st"
  clear i0
  have isk := fun t => isc_k a t hk
  have c1 := code_k a hk
  have f1 := fldrun (n := 38) (S := S) (a := a) hk
  have hu : dat m (due a k) := by
    unfold due
    split
    · cases m <;> trivial
    · exact hd
  have hdu : due a k = (match memS (.str (nm k)) BR with | true => .non | false => a) := rfl
  have k1 := (isk is_LiquidError).trans (liq_k k hk)
  have k2 := (isk is_ValueError).trans (val_k k hk)
  have k3 := (isk is_Missing).trans (mis_k k hk)
  have k4 := (isk is_LookupError).trans (lkp_k k hk)
  have k5 := (isk is_IndexError).trans (ind_k k hk)
  have k6 := classes_ok (n := 38) (S := S) (v := mk a k) (fun j => decide ((j : Int) = (k : Int))) fun j hj => (isk _).trans (cls_k k hk j hj)
  clear isk
  generalize mk a k = v at c1 f1 k1 k2 k3 k4 k5 k6
  unfold b_law_1_1
  have i1 := cn_at hk
  have i2 := in_fz S (m := 0) (v := .str (nm k)) (xs := BR) (nm_ok k hk) (by omega) okBR
  have sm := same_at (T := TT) (k := 39) hKind hSame (m + 1) (S := S) (v := .fz [.str (nm k), due a k]) ⟨by show 2 < SZ; decide, fun d hd' => by
    simp only [List.mem_cons, List.not_mem_nil, or_false] at hd'
    rcases hd' with rfl | rfl
    · cases m <;> exact nm_ok k hk
    · exact hu⟩ (by omega)
  clear hu hd
  generalize due a k = u at f1 sm hdu
  generalize memS (.str (nm k)) BR = b at i2 hdu
  have st1 : (evS gg (.iff (.not_ (.call f__law_same (.cons (.lst false (.cons (.erf "code" xCl (.var 8)) (.cons (.call f__law_field (.cons (.var 8) .nil)) .nil))) (.cons (.lst false (.cons (.idx (.var 7) (.var 5)) (.cons (.ife (.cmp .inn (.idx (.var 7) (.var 5)) (.var 4)) .knon (.var 3)) .nil))) .nil)))) (.cons (.ret (.kbl false)) .nil) .nil) [x0, x1, x2, some a, some (.fz (BR.map .str)), some (.int k), some (.fz (made a)), some (.fz (CN.map .str)), some v, x9] S)
      = .nx [x0, x1, x2, some a, some (.fz (BR.map .str)), some (.int k), some (.fz (made a)), some (.fz (CN.map .str)), some v, x9] S := by
    clear h
    cases b <;> (dsimp only at hdu; subst hdu; walk_at "ev"; rw [evSs])
  rw [Ok_ss, st1, SO.Ok_nx, thn_nx]
  clear st1 c1 f1 i1 i2 sm hdu
  unfold b_law_1_2
  have n2 := ne_bl2
  walk_at "st"
  unfold b_law_1_3
  have i3 := in2021
  walk_at "st"
  clear n2 i3
  unfold b_law_1_4
  have n1 := fun x : Bool => ne_refl_ (S := S) (n := 0) (v := .bl x) trivial (by omega)
  have n3 := ne_refl_ (S := S) (dat_bls (List.range 23) (fun j => decide ((j : Int) = (k : Int))) (by rw [List.length_range]; decide)) (by omega)
  have e3 : ∀ r, evI gg (.irng (.kint 23)) r S = .ok (.its (rngV 23)) S := fun r => rng_ok (j := 23) (by rw [evE]; rfl) (by omega)
  generalize hW : rngV 23 = W at e3
  walk_at "st"
  subst hW
  rw [lc_eqk S k]
  walk_at "ev"
  all_goals exact h _ _
/-! ### odd values, a turn, the law -/
def O11 : List Val := [.non, .bl true, .bl false, .str "", .str "A", .int (-1), .tup [.int 1, .str "a"], .fz [.int 1], .tup [], .fz [.str "a"], .int 100000000000000000]
theorem odd_ok {n : Nat} {o : Ob} {w : Val} (hb : BagO o) : (TT.run (n + 3) f__law_odd [.ref 0, .fz [.str "x", .tup [.int 3, .int 1], w]] [o]).Ok (Bq [] fun v => v ∈ O11 ++ [.str "x", .tup [.int 3, .int 1], w]) := by
  apply ok_run fn__law_odd rfl
  show (evSs _ c__law_odd [some (.ref 0), some (.fz [.str "x", .tup [.int 3, .int 1], w])] [o]).Ok _
  unfold c__law_odd
  have ng : Int.neg 1 = -1 := rfl
  have eO : [Val.non, .bl true, .bl false, .str "", .str "A", .int (-1), .tup [.int 1, .str "a"], .fz [.int 1], .tup [], .fz [.str "a"], .int 100000000000000000] = O11 := rfl
  have lO : O11.length = 11 := rfl
  rw [Ok_ss]
  walk_at "ev"
  exact (pick_fz (n := n) (vs := O11 ++ [.str "x", .tup [.int 3, .int 1], w]) hPull hPick hb (by simp [O11]) (by simp [O11])).imp fun v S h => h
theorem odd_dat {v : Val} {r : Int} (h : v ∈ O11 ++ [.str "x", .tup [.int 3, .int 1], .int r]) : dat 2 v := by
  have d2 : ∀ (x y : Val), dat 1 x → dat 1 y → dat 2 (.tup [x, y]) := fun x y hx hy => ⟨by show 2 < SZ; decide, fun d hd => by
    simp only [List.mem_cons, List.not_mem_nil, or_false] at hd
    rcases hd with rfl | rfl <;> assumption⟩
  have d1 : ∀ x : Val, dat 1 x → dat 2 (.fz [x]) := fun x hx => ⟨by show 1 < SZ; decide, fun d hd => by
    simp only [List.mem_cons, List.not_mem_nil, or_false] at hd
    subst hd
    assumption⟩
  simp only [O11, List.cons_append, List.nil_append, List.mem_cons, List.not_mem_nil, or_false] at h
  rcases h with rfl | rfl | rfl | rfl | rfl | rfl | rfl | rfl | rfl | rfl | rfl | rfl | rfl | rfl
  · trivial
  · trivial
  · trivial
  · show PyData.strOk _ = true; decide +kernel
  · show PyData.strOk _ = true; decide +kernel
  · trivial
  · exact d2 _ _ trivial (show PyData.strOk _ = true by decide +kernel)
  · exact d1 _ trivial
  · exact ⟨by show 0 < SZ; decide, fun d hd => by cases hd⟩
  · exact d1 _ (show PyData.strOk _ = true by decide +kernel)
  · trivial
  · show PyData.strOk _ = true; decide +kernel
  · exact d2 _ _ trivial trivial
  · trivial
theorem turn_ok {o : Ob} {w : Val} {x2 x3 x4 x5 x6 x7 x8 x9 : Option Val} (hb : BagO o) :
    (evSs gg b_law_0_0 [some w, some (.ref 0), x2, x3, x4, x5, x6, x7, x8, x9] [o]).Ok fun q => ∃ y3 y4 y5 y6 y7 y8 y9 o', BagO o' ∧ q = .nx [some w, some (.ref 0), x2, y3, y4, y5, y6, y7, y8, y9] [o'] := by
  unfold b_law_0_0
  have p9 : ∀ S, binV S .pow (.int 10) (.int 9) = .ok (.int 1000000000) S := fun S => pow10 S 9 _ (by decide)
  rw [Ok_ss]
  walk_at "ev"
  refine (pull_ok (n := 38) hPull hb (by decide) (by decide)).imp fun v S' ⟨o1, b1, e1, r, e, _, _⟩ => ?_
  subst e1 e
  clear hb p9
  walk_at "ev"
  refine (odd_ok (n := 36) b1).imp fun a S' ⟨o2, b2, e2, ha⟩ => ?_
  subst e2
  have hd := odd_dat ha
  clear ha b1
  walk_at "ev"
  unfold b_law_0_1
  have r1 := errors_ok (n := 38) (S := [o2]) (a := a)
  have r2 := codes_ok (n := 38) (S := [o2])
  walk_at "st"
  clear r1 r2
  unfold b_law_0_2
  walk_at "st"
  unfold b_law_0_3
  rw [Ok_ss]
  have lm : (made a).length = 23 := rfl
  refine ok_forr (rngV 23) (fun i r S => ∃ y5 y8 y9, r = [some w, some (.ref 0), x2, some a, some (.fz (BR.map .str)), y5, some (.fz (made a)), some (.fz (CN.map .str)), y8, y9] ∧ S = [o2]) (by decide) ?_ (fun i r S v hv ⟨y5, y8, y9, er, eS⟩ => ?_) (fun r S ⟨y5, y8, y9, er, eS⟩ => ?_)
  · rw [rng_ok (j := 23) (S1 := [o2]) (by walk_at "ev"; first | done | rfl) (by omega)]
    exact ⟨fun _ _ _ _ => rfl, _, _, _, rfl, rfl⟩
  · subst er eS
    have hi : i < 23 ∧ v = .int i := by
      have hl : i < (rngV 23).length := (List.getElem?_eq_some_iff.mp hv).1
      have hl : i < 23 := by simpa [rngV] using hl
      refine ⟨hl, ?_⟩
      unfold rngV at hv
      rw [List.getElem?_map, List.getElem?_range hl] at hv
      exact (Option.some.inj hv).symm
    obtain ⟨hi, rfl⟩ := hi
    rw [evG, Out.Ok_ok]
    exact body_ok hd (by omega) hi fun y8 y9 => ⟨_, _, _, rfl, rfl⟩
  · subst er eS
    rw [thn_nx]
    unfold b_law_0_4
    have nd := named_ok (n := 30) (S := [o2]) hd (by omega)
    rw [Ok_ss]
    walk_at "ev"
    exact ⟨_, _, _, _, _, _, _, _, b2, rfl⟩
theorem law_true (ns : List Int) (hl : ns.length ≤ 63) : ∃ S', TT.run 40 f_law [.wr (ns.map .int)] [] = .ok (.bl true) S' := by
  have key : (TT.run 40 f_law [.wr (ns.map .int)] []).Ok fun v _ => v = .bl true := by
    refine ok_run fn_law rfl ?_
    show (evSs gg c_law [some (.wr (ns.map .int)), none, none, none, none, none, none, none, none, none] []).Ok _
    obtain ⟨o, hb, e⟩ := start_ok (n := 38) (T := TT) (f := f__law_start) (seed := 4933) rfl (by decide) (by decide) hl
    unfold c_law
    rw [Ok_ss]
    walk_at "ev"
    clear e
    rw [Ok_ss]
    refine ok_forr (rngV 3) (fun i r S => ∃ x2 x3 x4 x5 x6 x7 x8 x9 o', BagO o' ∧ S = [o'] ∧ r = [some (.wr (ns.map .int)), some (.ref 0), x2, x3, x4, x5, x6, x7, x8, x9]) (by decide) ?_ (fun i r S v hv ⟨x2, x3, x4, x5, x6, x7, x8, x9, o', b', eS, er⟩ => ?_) (fun r S ⟨x2, x3, x4, x5, x6, x7, x8, x9, o', b', eS, er⟩ => ?_)
    · rw [rng_ok (j := 3) (by rw [evE]; rfl) (by omega)]
      exact ⟨fun _ _ _ _ => rfl, _, _, _, _, _, _, _, _, o, hb, rfl, rfl⟩
    · subst eS er
      rw [evG, Out.Ok_ok]
      refine (turn_ok (w := .wr (ns.map .int)) (x2 := some v) b').imp fun q ⟨y3, y4, y5, y6, y7, y8, y9, o2, b2, e⟩ => ?_
      subst e
      exact ⟨_, _, _, _, _, _, _, _, o2, b2, rfl, rfl⟩
    · subst eS er
      rw [thn_nx]
      walk_at "st"
  obtain ⟨v, S', e, rfl⟩ := key.get
  exact ⟨S', e⟩
end Mv

namespace Mv
open PySem PySem.Spec PyProof.Rows L2
def topS (i : Nat) : Stmt := PySem.Challenge.pw_lightabove_k01_errors_by_themselves.main.body.getD i (.Pass ⟨0, 0, 0, 0⟩)
def clsBody (s : Stmt) : List Stmt := match s with
  | .ClassDef _ _ _ b _ _ _ _ _ _ _ => b
  | _ => []
def metS (i k : Nat) : Stmt := (clsBody (topS i)).getD k (.Pass ⟨0, 0, 0, 0⟩)
abbrev R : PySem.W.OpenRow := PySem.W.OpenLaw.row PySem.Challenge.rw_lightabove_k01_errors_by_themselves
def xd_InvalidName : XcD := ⟨"InvalidName", 0, "InvalidName.__init__", defArgs (metS 3 0), defBody (metS 3 0), defScope (metS 3 0), ["given"], xl_InvalidName, R.prog.main.file⟩
theorem st_InvalidName : XcStat xd_InvalidName where
  shape := ⟨_, _, _, _, _, _, _, _, _, rfl, by decide +kernel, by rfl⟩
  first := ⟨_, rfl, rfl⟩
  bind := fun _ _ _ _ _ _ _ us hl => match us, hl with | [_, _], _ => rfl
  bindK := fun p e => by
    have e : (["given"] : List Str) = [p] := e
    cases e
    intros
    rfl
  kS := by rfl
  kC := by rfl
  kV := by rfl
  kd := by rfl
  nd := by decide +kernel
  par := by decide +kernel
  nc := by decide +kernel
  co := by rfl
  gen := by rfl
  src := src_of (by decide +kernel)
  l0 := List.cons_ne_nil _ _
  l9 := by decide +kernel
  sz := by decide +kernel
def xd_InvalidVat : XcD := ⟨"InvalidVat", 0, "InvalidVat.__init__", defArgs (metS 4 0), defBody (metS 4 0), defScope (metS 4 0), ["at"], xl_InvalidVat, R.prog.main.file⟩
theorem st_InvalidVat : XcStat xd_InvalidVat where
  shape := ⟨_, _, _, _, _, _, _, _, _, rfl, by decide +kernel, by rfl⟩
  first := ⟨_, rfl, rfl⟩
  bind := fun _ _ _ _ _ _ _ us hl => match us, hl with | [_, _], _ => rfl
  bindK := fun p e => by
    have e : (["at"] : List Str) = [p] := e
    cases e
    intros
    rfl
  kS := by rfl
  kC := by rfl
  kV := by rfl
  kd := by rfl
  nd := by decide +kernel
  par := by decide +kernel
  nc := by decide +kernel
  co := by rfl
  gen := by rfl
  src := src_of (by decide +kernel)
  l0 := List.cons_ne_nil _ _
  l9 := by decide +kernel
  sz := by decide +kernel
def xd_InvalidFloat : XcD := ⟨"InvalidFloat", 0, "InvalidFloat.__init__", defArgs (metS 5 0), defBody (metS 5 0), defScope (metS 5 0), ["at"], xl_InvalidFloat, R.prog.main.file⟩
theorem st_InvalidFloat : XcStat xd_InvalidFloat where
  shape := ⟨_, _, _, _, _, _, _, _, _, rfl, by decide +kernel, by rfl⟩
  first := ⟨_, rfl, rfl⟩
  bind := fun _ _ _ _ _ _ _ us hl => match us, hl with | [_, _], _ => rfl
  bindK := fun p e => by
    have e : (["at"] : List Str) = [p] := e
    cases e
    intros
    rfl
  kS := by rfl
  kC := by rfl
  kV := by rfl
  kd := by rfl
  nd := by decide +kernel
  par := by decide +kernel
  nc := by decide +kernel
  co := by rfl
  gen := by rfl
  src := src_of (by decide +kernel)
  l0 := List.cons_ne_nil _ _
  l9 := by decide +kernel
  sz := by decide +kernel
def xd_InvalidOutlet : XcD := ⟨"InvalidOutlet", 0, "InvalidOutlet.__init__", defArgs (metS 6 0), defBody (metS 6 0), defScope (metS 6 0), ["at"], xl_InvalidOutlet, R.prog.main.file⟩
theorem st_InvalidOutlet : XcStat xd_InvalidOutlet where
  shape := ⟨_, _, _, _, _, _, _, _, _, rfl, by decide +kernel, by rfl⟩
  first := ⟨_, rfl, rfl⟩
  bind := fun _ _ _ _ _ _ _ us hl => match us, hl with | [_, _], _ => rfl
  bindK := fun p e => by
    have e : (["at"] : List Str) = [p] := e
    cases e
    intros
    rfl
  kS := by rfl
  kC := by rfl
  kV := by rfl
  kd := by rfl
  nd := by decide +kernel
  par := by decide +kernel
  nc := by decide +kernel
  co := by rfl
  gen := by rfl
  src := src_of (by decide +kernel)
  l0 := List.cons_ne_nil _ _
  l9 := by decide +kernel
  sz := by decide +kernel
def xd_InvalidRow : XcD := ⟨"InvalidRow", 0, "InvalidRow.__init__", defArgs (metS 7 0), defBody (metS 7 0), defScope (metS 7 0), ["at"], xl_InvalidRow, R.prog.main.file⟩
theorem st_InvalidRow : XcStat xd_InvalidRow where
  shape := ⟨_, _, _, _, _, _, _, _, _, rfl, by decide +kernel, by rfl⟩
  first := ⟨_, rfl, rfl⟩
  bind := fun _ _ _ _ _ _ _ us hl => match us, hl with | [_, _], _ => rfl
  bindK := fun p e => by
    have e : (["at"] : List Str) = [p] := e
    cases e
    intros
    rfl
  kS := by rfl
  kC := by rfl
  kV := by rfl
  kd := by rfl
  nd := by decide +kernel
  par := by decide +kernel
  nc := by decide +kernel
  co := by rfl
  gen := by rfl
  src := src_of (by decide +kernel)
  l0 := List.cons_ne_nil _ _
  l9 := by decide +kernel
  sz := by decide +kernel
def xd_InvalidPlace : XcD := ⟨"InvalidPlace", 0, "InvalidPlace.__init__", defArgs (metS 8 0), defBody (metS 8 0), defScope (metS 8 0), ["given"], xl_InvalidPlace, R.prog.main.file⟩
theorem st_InvalidPlace : XcStat xd_InvalidPlace where
  shape := ⟨_, _, _, _, _, _, _, _, _, rfl, by decide +kernel, by rfl⟩
  first := ⟨_, rfl, rfl⟩
  bind := fun _ _ _ _ _ _ _ us hl => match us, hl with | [_, _], _ => rfl
  bindK := fun p e => by
    have e : (["given"] : List Str) = [p] := e
    cases e
    intros
    rfl
  kS := by rfl
  kC := by rfl
  kV := by rfl
  kd := by rfl
  nd := by decide +kernel
  par := by decide +kernel
  nc := by decide +kernel
  co := by rfl
  gen := by rfl
  src := src_of (by decide +kernel)
  l0 := List.cons_ne_nil _ _
  l9 := by decide +kernel
  sz := by decide +kernel
def xd_InvalidGiven : XcD := ⟨"InvalidGiven", 0, "InvalidGiven.__init__", defArgs (metS 9 0), defBody (metS 9 0), defScope (metS 9 0), ["at"], xl_InvalidGiven, R.prog.main.file⟩
theorem st_InvalidGiven : XcStat xd_InvalidGiven where
  shape := ⟨_, _, _, _, _, _, _, _, _, rfl, by decide +kernel, by rfl⟩
  first := ⟨_, rfl, rfl⟩
  bind := fun _ _ _ _ _ _ _ us hl => match us, hl with | [_, _], _ => rfl
  bindK := fun p e => by
    have e : (["at"] : List Str) = [p] := e
    cases e
    intros
    rfl
  kS := by rfl
  kC := by rfl
  kV := by rfl
  kd := by rfl
  nd := by decide +kernel
  par := by decide +kernel
  nc := by decide +kernel
  co := by rfl
  gen := by rfl
  src := src_of (by decide +kernel)
  l0 := List.cons_ne_nil _ _
  l9 := by decide +kernel
  sz := by decide +kernel
def xd_InvalidWish : XcD := ⟨"InvalidWish", 0, "InvalidWish.__init__", defArgs (metS 10 0), defBody (metS 10 0), defScope (metS 10 0), ["given"], xl_InvalidWish, R.prog.main.file⟩
theorem st_InvalidWish : XcStat xd_InvalidWish where
  shape := ⟨_, _, _, _, _, _, _, _, _, rfl, by decide +kernel, by rfl⟩
  first := ⟨_, rfl, rfl⟩
  bind := fun _ _ _ _ _ _ _ us hl => match us, hl with | [_, _], _ => rfl
  bindK := fun p e => by
    have e : (["given"] : List Str) = [p] := e
    cases e
    intros
    rfl
  kS := by rfl
  kC := by rfl
  kV := by rfl
  kd := by rfl
  nd := by decide +kernel
  par := by decide +kernel
  nc := by decide +kernel
  co := by rfl
  gen := by rfl
  src := src_of (by decide +kernel)
  l0 := List.cons_ne_nil _ _
  l9 := by decide +kernel
  sz := by decide +kernel
def xd_InvalidNumber : XcD := ⟨"InvalidNumber", 0, "InvalidNumber.__init__", defArgs (metS 11 0), defBody (metS 11 0), defScope (metS 11 0), ["given"], xl_InvalidNumber, R.prog.main.file⟩
theorem st_InvalidNumber : XcStat xd_InvalidNumber where
  shape := ⟨_, _, _, _, _, _, _, _, _, rfl, by decide +kernel, by rfl⟩
  first := ⟨_, rfl, rfl⟩
  bind := fun _ _ _ _ _ _ _ us hl => match us, hl with | [_, _], _ => rfl
  bindK := fun p e => by
    have e : (["given"] : List Str) = [p] := e
    cases e
    intros
    rfl
  kS := by rfl
  kC := by rfl
  kV := by rfl
  kd := by rfl
  nd := by decide +kernel
  par := by decide +kernel
  nc := by decide +kernel
  co := by rfl
  gen := by rfl
  src := src_of (by decide +kernel)
  l0 := List.cons_ne_nil _ _
  l9 := by decide +kernel
  sz := by decide +kernel
def xd_InvalidAnswer : XcD := ⟨"InvalidAnswer", 0, "InvalidAnswer.__init__", defArgs (metS 12 0), defBody (metS 12 0), defScope (metS 12 0), ["given"], xl_InvalidAnswer, R.prog.main.file⟩
theorem st_InvalidAnswer : XcStat xd_InvalidAnswer where
  shape := ⟨_, _, _, _, _, _, _, _, _, rfl, by decide +kernel, by rfl⟩
  first := ⟨_, rfl, rfl⟩
  bind := fun _ _ _ _ _ _ _ us hl => match us, hl with | [_, _], _ => rfl
  bindK := fun p e => by
    have e : (["given"] : List Str) = [p] := e
    cases e
    intros
    rfl
  kS := by rfl
  kC := by rfl
  kV := by rfl
  kd := by rfl
  nd := by decide +kernel
  par := by decide +kernel
  nc := by decide +kernel
  co := by rfl
  gen := by rfl
  src := src_of (by decide +kernel)
  l0 := List.cons_ne_nil _ _
  l9 := by decide +kernel
  sz := by decide +kernel
def xd_InvalidText : XcD := ⟨"InvalidText", 0, "InvalidText.__init__", defArgs (metS 13 0), defBody (metS 13 0), defScope (metS 13 0), ["line"], xl_InvalidText, R.prog.main.file⟩
theorem st_InvalidText : XcStat xd_InvalidText where
  shape := ⟨_, _, _, _, _, _, _, _, _, rfl, by decide +kernel, by rfl⟩
  first := ⟨_, rfl, rfl⟩
  bind := fun _ _ _ _ _ _ _ us hl => match us, hl with | [_, _], _ => rfl
  bindK := fun p e => by
    have e : (["line"] : List Str) = [p] := e
    cases e
    intros
    rfl
  kS := by rfl
  kC := by rfl
  kV := by rfl
  kd := by rfl
  nd := by decide +kernel
  par := by decide +kernel
  nc := by decide +kernel
  co := by rfl
  gen := by rfl
  src := src_of (by decide +kernel)
  l0 := List.cons_ne_nil _ _
  l9 := by decide +kernel
  sz := by decide +kernel
def xd_InvalidPage : XcD := ⟨"InvalidPage", 0, "InvalidPage.__init__", defArgs (metS 14 0), defBody (metS 14 0), defScope (metS 14 0), ["line"], xl_InvalidPage, R.prog.main.file⟩
theorem st_InvalidPage : XcStat xd_InvalidPage where
  shape := ⟨_, _, _, _, _, _, _, _, _, rfl, by decide +kernel, by rfl⟩
  first := ⟨_, rfl, rfl⟩
  bind := fun _ _ _ _ _ _ _ us hl => match us, hl with | [_, _], _ => rfl
  bindK := fun p e => by
    have e : (["line"] : List Str) = [p] := e
    cases e
    intros
    rfl
  kS := by rfl
  kC := by rfl
  kV := by rfl
  kd := by rfl
  nd := by decide +kernel
  par := by decide +kernel
  nc := by decide +kernel
  co := by rfl
  gen := by rfl
  src := src_of (by decide +kernel)
  l0 := List.cons_ne_nil _ _
  l9 := by decide +kernel
  sz := by decide +kernel
def xd_InvalidCommand : XcD := ⟨"InvalidCommand", 0, "InvalidCommand.__init__", defArgs (metS 15 0), defBody (metS 15 0), defScope (metS 15 0), ["at"], xl_InvalidCommand, R.prog.main.file⟩
theorem st_InvalidCommand : XcStat xd_InvalidCommand where
  shape := ⟨_, _, _, _, _, _, _, _, _, rfl, by decide +kernel, by rfl⟩
  first := ⟨_, rfl, rfl⟩
  bind := fun _ _ _ _ _ _ _ us hl => match us, hl with | [_, _], _ => rfl
  bindK := fun p e => by
    have e : (["at"] : List Str) = [p] := e
    cases e
    intros
    rfl
  kS := by rfl
  kC := by rfl
  kV := by rfl
  kd := by rfl
  nd := by decide +kernel
  par := by decide +kernel
  nc := by decide +kernel
  co := by rfl
  gen := by rfl
  src := src_of (by decide +kernel)
  l0 := List.cons_ne_nil _ _
  l9 := by decide +kernel
  sz := by decide +kernel
def xd_InvalidLimit : XcD := ⟨"InvalidLimit", 0, "InvalidLimit.__init__", defArgs (metS 16 0), defBody (metS 16 0), defScope (metS 16 0), ["given"], xl_InvalidLimit, R.prog.main.file⟩
theorem st_InvalidLimit : XcStat xd_InvalidLimit where
  shape := ⟨_, _, _, _, _, _, _, _, _, rfl, by decide +kernel, by rfl⟩
  first := ⟨_, rfl, rfl⟩
  bind := fun _ _ _ _ _ _ _ us hl => match us, hl with | [_, _], _ => rfl
  bindK := fun p e => by
    have e : (["given"] : List Str) = [p] := e
    cases e
    intros
    rfl
  kS := by rfl
  kC := by rfl
  kV := by rfl
  kd := by rfl
  nd := by decide +kernel
  par := by decide +kernel
  nc := by decide +kernel
  co := by rfl
  gen := by rfl
  src := src_of (by decide +kernel)
  l0 := List.cons_ne_nil _ _
  l9 := by decide +kernel
  sz := by decide +kernel
def xd_DuplicateName : XcD := ⟨"DuplicateName", 0, "DuplicateName.__init__", defArgs (metS 17 0), defBody (metS 17 0), defScope (metS 17 0), ["name"], xl_DuplicateName, R.prog.main.file⟩
theorem st_DuplicateName : XcStat xd_DuplicateName where
  shape := ⟨_, _, _, _, _, _, _, _, _, rfl, by decide +kernel, by rfl⟩
  first := ⟨_, rfl, rfl⟩
  bind := fun _ _ _ _ _ _ _ us hl => match us, hl with | [_, _], _ => rfl
  bindK := fun p e => by
    have e : (["name"] : List Str) = [p] := e
    cases e
    intros
    rfl
  kS := by rfl
  kC := by rfl
  kV := by rfl
  kd := by rfl
  nd := by decide +kernel
  par := by decide +kernel
  nc := by decide +kernel
  co := by rfl
  gen := by rfl
  src := src_of (by decide +kernel)
  l0 := List.cons_ne_nil _ _
  l9 := by decide +kernel
  sz := by decide +kernel
def xd_OtherPlant : XcD := ⟨"OtherPlant", 0, "OtherPlant.__init__", defArgs (metS 18 0), defBody (metS 18 0), defScope (metS 18 0), [], xl_OtherPlant, R.prog.main.file⟩
theorem st_OtherPlant : XcStat xd_OtherPlant where
  shape := ⟨_, _, _, _, _, _, _, _, _, rfl, by decide +kernel, by rfl⟩
  first := ⟨_, rfl, rfl⟩
  bind := fun _ _ _ _ _ _ _ us hl => match us, hl with | [_], _ => rfl
  bindK := fun p e => by
    have e : ([] : List Str) = [p] := e
    cases e
  kS := by rfl
  kC := by rfl
  kV := by rfl
  kd := by rfl
  nd := by decide +kernel
  par := by decide +kernel
  nc := by decide +kernel
  co := by rfl
  gen := by rfl
  src := src_of (by decide +kernel)
  l0 := List.cons_ne_nil _ _
  l9 := by decide +kernel
  sz := by decide +kernel
def xd_NotPlain : XcD := ⟨"NotPlain", 0, "NotPlain.__init__", defArgs (metS 19 0), defBody (metS 19 0), defScope (metS 19 0), [], xl_NotPlain, R.prog.main.file⟩
theorem st_NotPlain : XcStat xd_NotPlain where
  shape := ⟨_, _, _, _, _, _, _, _, _, rfl, by decide +kernel, by rfl⟩
  first := ⟨_, rfl, rfl⟩
  bind := fun _ _ _ _ _ _ _ us hl => match us, hl with | [_], _ => rfl
  bindK := fun p e => by
    have e : ([] : List Str) = [p] := e
    cases e
  kS := by rfl
  kC := by rfl
  kV := by rfl
  kd := by rfl
  nd := by decide +kernel
  par := by decide +kernel
  nc := by decide +kernel
  co := by rfl
  gen := by rfl
  src := src_of (by decide +kernel)
  l0 := List.cons_ne_nil _ _
  l9 := by decide +kernel
  sz := by decide +kernel
def xd_NoFit : XcD := ⟨"NoFit", 0, "NoFit.__init__", defArgs (metS 20 0), defBody (metS 20 0), defScope (metS 20 0), [], xl_NoFit, R.prog.main.file⟩
theorem st_NoFit : XcStat xd_NoFit where
  shape := ⟨_, _, _, _, _, _, _, _, _, rfl, by decide +kernel, by rfl⟩
  first := ⟨_, rfl, rfl⟩
  bind := fun _ _ _ _ _ _ _ us hl => match us, hl with | [_], _ => rfl
  bindK := fun p e => by
    have e : ([] : List Str) = [p] := e
    cases e
  kS := by rfl
  kC := by rfl
  kV := by rfl
  kd := by rfl
  nd := by decide +kernel
  par := by decide +kernel
  nc := by decide +kernel
  co := by rfl
  gen := by rfl
  src := src_of (by decide +kernel)
  l0 := List.cons_ne_nil _ _
  l9 := by decide +kernel
  sz := by decide +kernel
def xd_TooMany : XcD := ⟨"TooMany", 0, "TooMany.__init__", defArgs (metS 21 0), defBody (metS 21 0), defScope (metS 21 0), ["most"], xl_TooMany, R.prog.main.file⟩
theorem st_TooMany : XcStat xd_TooMany where
  shape := ⟨_, _, _, _, _, _, _, _, _, rfl, by decide +kernel, by rfl⟩
  first := ⟨_, rfl, rfl⟩
  bind := fun _ _ _ _ _ _ _ us hl => match us, hl with | [_, _], _ => rfl
  bindK := fun p e => by
    have e : (["most"] : List Str) = [p] := e
    cases e
    intros
    rfl
  kS := by rfl
  kC := by rfl
  kV := by rfl
  kd := by rfl
  nd := by decide +kernel
  par := by decide +kernel
  nc := by decide +kernel
  co := by rfl
  gen := by rfl
  src := src_of (by decide +kernel)
  l0 := List.cons_ne_nil _ _
  l9 := by decide +kernel
  sz := by decide +kernel
def xd_Full : XcD := ⟨"Full", 0, "Full.__init__", defArgs (metS 22 0), defBody (metS 22 0), defScope (metS 22 0), ["limit"], xl_Full, R.prog.main.file⟩
theorem st_Full : XcStat xd_Full where
  shape := ⟨_, _, _, _, _, _, _, _, _, rfl, by decide +kernel, by rfl⟩
  first := ⟨_, rfl, rfl⟩
  bind := fun _ _ _ _ _ _ _ us hl => match us, hl with | [_, _], _ => rfl
  bindK := fun p e => by
    have e : (["limit"] : List Str) = [p] := e
    cases e
    intros
    rfl
  kS := by rfl
  kC := by rfl
  kV := by rfl
  kd := by rfl
  nd := by decide +kernel
  par := by decide +kernel
  nc := by decide +kernel
  co := by rfl
  gen := by rfl
  src := src_of (by decide +kernel)
  l0 := List.cons_ne_nil _ _
  l9 := by decide +kernel
  sz := by decide +kernel
def xd_UnknownName : XcD := ⟨"UnknownName", 1, "UnknownName.__init__", defArgs (metS 23 0), defBody (metS 23 0), defScope (metS 23 0), ["name"], xl_UnknownName, R.prog.main.file⟩
theorem st_UnknownName : XcStat xd_UnknownName where
  shape := ⟨_, _, _, _, _, _, _, _, _, rfl, by decide +kernel, by rfl⟩
  first := ⟨_, rfl, rfl⟩
  bind := fun _ _ _ _ _ _ _ us hl => match us, hl with | [_, _], _ => rfl
  bindK := fun p e => by
    have e : (["name"] : List Str) = [p] := e
    cases e
    intros
    rfl
  kS := by rfl
  kC := by rfl
  kV := by rfl
  kd := by rfl
  nd := by decide +kernel
  par := by decide +kernel
  nc := by decide +kernel
  co := by rfl
  gen := by rfl
  src := src_of (by decide +kernel)
  l0 := List.cons_ne_nil _ _
  l9 := by decide +kernel
  sz := by decide +kernel
def xd_UnknownLiquid : XcD := ⟨"UnknownLiquid", 1, "UnknownLiquid.__init__", defArgs (metS 24 0), defBody (metS 24 0), defScope (metS 24 0), ["liquid"], xl_UnknownLiquid, R.prog.main.file⟩
theorem st_UnknownLiquid : XcStat xd_UnknownLiquid where
  shape := ⟨_, _, _, _, _, _, _, _, _, rfl, by decide +kernel, by rfl⟩
  first := ⟨_, rfl, rfl⟩
  bind := fun _ _ _ _ _ _ _ us hl => match us, hl with | [_, _], _ => rfl
  bindK := fun p e => by
    have e : (["liquid"] : List Str) = [p] := e
    cases e
    intros
    rfl
  kS := by rfl
  kC := by rfl
  kV := by rfl
  kd := by rfl
  nd := by decide +kernel
  par := by decide +kernel
  nc := by decide +kernel
  co := by rfl
  gen := by rfl
  src := src_of (by decide +kernel)
  l0 := List.cons_ne_nil _ _
  l9 := by decide +kernel
  sz := by decide +kernel
def xd_NothingLeft : XcD := ⟨"NothingLeft", 2, "NothingLeft.__init__", defArgs (metS 25 0), defBody (metS 25 0), defScope (metS 25 0), [], xl_NothingLeft, R.prog.main.file⟩
theorem st_NothingLeft : XcStat xd_NothingLeft where
  shape := ⟨_, _, _, _, _, _, _, _, _, rfl, by decide +kernel, by rfl⟩
  first := ⟨_, rfl, rfl⟩
  bind := fun _ _ _ _ _ _ _ us hl => match us, hl with | [_], _ => rfl
  bindK := fun p e => by
    have e : ([] : List Str) = [p] := e
    cases e
  kS := by rfl
  kC := by rfl
  kV := by rfl
  kd := by rfl
  nd := by decide +kernel
  par := by decide +kernel
  nc := by decide +kernel
  co := by rfl
  gen := by rfl
  src := src_of (by decide +kernel)
  l0 := List.cons_ne_nil _ _
  l9 := by decide +kernel
  sz := by decide +kernel
def hXs : List XcD := ([xd_InvalidName, xd_InvalidVat, xd_InvalidFloat, xd_InvalidOutlet, xd_InvalidRow, xd_InvalidPlace, xd_InvalidGiven, xd_InvalidWish, xd_InvalidNumber, xd_InvalidAnswer, xd_InvalidText, xd_InvalidPage, xd_InvalidCommand, xd_InvalidLimit, xd_DuplicateName, xd_OtherPlant, xd_NotPlain, xd_NoFit, xd_TooMany, xd_Full, xd_UnknownName, xd_UnknownLiquid, xd_NothingLeft] : List XcD)
def xFl : List Str := ["code", "at", "line", "name", "liquid", "most", "limit", "given"]
def gtIsc : List (Str × List (Str × Bool)) := ([("InvalidName", is_InvalidName), ("InvalidVat", is_InvalidVat), ("InvalidFloat", is_InvalidFloat), ("InvalidOutlet", is_InvalidOutlet), ("InvalidRow", is_InvalidRow), ("InvalidPlace", is_InvalidPlace), ("InvalidGiven", is_InvalidGiven), ("InvalidWish", is_InvalidWish), ("InvalidNumber", is_InvalidNumber), ("InvalidAnswer", is_InvalidAnswer), ("InvalidText", is_InvalidText), ("InvalidPage", is_InvalidPage), ("InvalidCommand", is_InvalidCommand), ("InvalidLimit", is_InvalidLimit), ("DuplicateName", is_DuplicateName), ("OtherPlant", is_OtherPlant), ("NotPlain", is_NotPlain), ("NoFit", is_NoFit), ("TooMany", is_TooMany), ("Full", is_Full), ("UnknownName", is_UnknownName), ("UnknownLiquid", is_UnknownLiquid), ("NothingLeft", is_NothingLeft), ("LiquidError", is_LiquidError), ("Missing", is_Missing), ("ValueError", is_ValueError), ("LookupError", is_LookupError), ("IndexError", is_IndexError)] : List (Str × List (Str × Bool)))
def gtEx : List (Nat × Bool) := ([(f__law_start, true), (f__law_pull, true), (f__law_pick, true), (f__law_kind, true), (f__law_same, true), (f__law_field, true), (f__law_odd, true), (f__law_codes, true), (f__law_errors, true), (f__law_classes, true), (f__law_named_so, true), (f_law, true)] : List (Nat × Bool))
def gtFns : List ((Nat × Str) × (Nat × Nat)) := ([((0, "_law_start"), (f__law_start, 1)), ((0, "_law_pull"), (f__law_pull, 2)), ((0, "_law_pick"), (f__law_pick, 2)), ((0, "_law_kind"), (f__law_kind, 1)), ((0, "_law_same"), (f__law_same, 2)), ((0, "_law_field"), (f__law_field, 1)), ((0, "_law_odd"), (f__law_odd, 2)), ((0, "_law_codes"), (f__law_codes, 0)), ((0, "_law_errors"), (f__law_errors, 1)), ((0, "_law_classes"), (f__law_classes, 1)), ((0, "_law_named_so"), (f__law_named_so, 1)), ((0, "law"), (f_law, 1))] : List ((Nat × Str) × (Nat × Nat)))
def gtMts : List ((Nat × Str × Str) × (Nat × Nat)) := ([] : List ((Nat × Str × Str) × (Nat × Nat)))
def gtMks : List ((Nat × Str) × (Nat × Nat)) := ([] : List ((Nat × Str) × (Nat × Nat)))
def gtFa : List (Str × Str) := ([] : List (Str × Str))
def gtDcs : List ((Nat × Nat) × List Val) := ([] : List ((Nat × Nat) × List Val))
def gtKcs : List ((Nat × Nat × List Str) × List Src) := ([] : List ((Nat × Nat × List Str) × List Src))
def posIn (l : List (Nat × Nat × Nat × Nat)) (p : Pos) : Bool := l.any fun q => q.1 == p.line && q.2.1 == p.col && q.2.2.1 == p.endLine && q.2.2.2 == p.endCol
def posAt (l : List ((Nat × Nat × Nat × Nat) × Nat)) (p : Pos) : Nat := ((l.find? fun q => q.1.1 == p.line && q.1.2.1 == p.col && q.1.2.2.1 == p.endLine && q.1.2.2.2 == p.endCol).map (·.2)).getD 0
def posCl (l : List ((Nat × Nat × Nat × Nat) × Str)) (p : Pos) : Option Str := (l.find? fun q => q.1.1 == p.line && q.1.2.1 == p.col && q.1.2.2.1 == p.endLine && q.1.2.2.2 == p.endCol).map (·.2)
def mu__law_start : List (Nat × Nat × Nat × Nat) := [(142, 11, 142, 69)]
def va__law_start : List ((Nat × Nat × Nat × Nat) × Nat) := []
def cs__law_start : List ((Nat × Nat × Nat × Nat) × Str) := []
def cl__law_start : List ((Nat × Nat × Nat × Nat) × Str) := []
def mu__law_pull : List (Nat × Nat × Nat × Nat) := []
def va__law_pull : List ((Nat × Nat × Nat × Nat) × Nat) := []
def cs__law_pull : List ((Nat × Nat × Nat × Nat) × Str) := []
def cl__law_pull : List ((Nat × Nat × Nat × Nat) × Str) := []
def mu__law_pick : List (Nat × Nat × Nat × Nat) := []
def va__law_pick : List ((Nat × Nat × Nat × Nat) × Nat) := []
def cs__law_pick : List ((Nat × Nat × Nat × Nat) × Str) := []
def cl__law_pick : List ((Nat × Nat × Nat × Nat) × Str) := []
def mu__law_kind : List (Nat × Nat × Nat × Nat) := []
def va__law_kind : List ((Nat × Nat × Nat × Nat) × Nat) := []
def cs__law_kind : List ((Nat × Nat × Nat × Nat) × Str) := []
def cl__law_kind : List ((Nat × Nat × Nat × Nat) × Str) := []
def mu__law_same : List (Nat × Nat × Nat × Nat) := []
def va__law_same : List ((Nat × Nat × Nat × Nat) × Nat) := []
def cs__law_same : List ((Nat × Nat × Nat × Nat) × Str) := []
def cl__law_same : List ((Nat × Nat × Nat × Nat) × Str) := []
def mu__law_field : List (Nat × Nat × Nat × Nat) := []
def va__law_field : List ((Nat × Nat × Nat × Nat) × Nat) := []
def cs__law_field : List ((Nat × Nat × Nat × Nat) × Str) := []
def cl__law_field : List ((Nat × Nat × Nat × Nat) × Str) := []
def mu__law_odd : List (Nat × Nat × Nat × Nat) := []
def va__law_odd : List ((Nat × Nat × Nat × Nat) × Nat) := []
def cs__law_odd : List ((Nat × Nat × Nat × Nat) × Str) := []
def cl__law_odd : List ((Nat × Nat × Nat × Nat) × Str) := []
def mu__law_codes : List (Nat × Nat × Nat × Nat) := []
def va__law_codes : List ((Nat × Nat × Nat × Nat) × Nat) := []
def cs__law_codes : List ((Nat × Nat × Nat × Nat) × Str) := []
def cl__law_codes : List ((Nat × Nat × Nat × Nat) × Str) := []
def mu__law_errors : List (Nat × Nat × Nat × Nat) := []
def va__law_errors : List ((Nat × Nat × Nat × Nat) × Nat) := []
def cs__law_errors : List ((Nat × Nat × Nat × Nat) × Str) := []
def cl__law_errors : List ((Nat × Nat × Nat × Nat) × Str) := []
def mu__law_classes : List (Nat × Nat × Nat × Nat) := []
def va__law_classes : List ((Nat × Nat × Nat × Nat) × Nat) := []
def cs__law_classes : List ((Nat × Nat × Nat × Nat) × Str) := []
def cl__law_classes : List ((Nat × Nat × Nat × Nat) × Str) := []
def mu__law_named_so : List (Nat × Nat × Nat × Nat) := []
def va__law_named_so : List ((Nat × Nat × Nat × Nat) × Nat) := []
def cs__law_named_so : List ((Nat × Nat × Nat × Nat) × Str) := []
def cl__law_named_so : List ((Nat × Nat × Nat × Nat) × Str) := []
def mu_law : List (Nat × Nat × Nat × Nat) := []
def va_law : List ((Nat × Nat × Nat × Nat) × Nat) := []
def cs_law : List ((Nat × Nat × Nat × Nat) × Str) := []
def cl_law : List ((Nat × Nat × Nat × Nat) × Str) := []
def csAll : List ((Nat × Nat × Nat × Nat) × Str) := ([] : List ((Nat × Nat × Nat × Nat) × Str))
def gtCsf : List (Str × (Str × Str)) := ([] : List (Str × (Str × Str)))
def GG : GT := { ers := fun x => (hXs.map fun d => (d.c, (d.ps, d.l))).lookup x, erc := fun f => match xFl.contains f with | true => xCl | false => [], isc := fun x => gtIsc.lookup x, cst := posCl csAll, csf := fun k => gtCsf.lookup k, mu := posIn mu_law, va := posAt va_law, cls := posCl cl_law, fa := fun c f => gtFa.contains (c, f), mts := fun k c m => gtMts.lookup (k, c, m), mks := fun k c => gtMks.lookup (k, c), ex := fun f => (gtEx.lookup f).getD false, fns := fun k x => gtFns.lookup (k, x), dcs := fun f k => gtDcs.lookup (f, k), kcs := fun f k ks => gtKcs.lookup (f, k, ks), kvs := fun x => (kvTab.lookup x).isSome }
def DP : Nat := 60
def dd__law_start : He.DefD := ⟨("_law_start", none), "_law_start", "_law_start", defArgs (topS 27), defBody (topS 27), defScope (topS 27), [], []⟩
def dd__law_pull : He.DefD := ⟨("_law_pull", none), "_law_pull", "_law_pull", defArgs (topS 28), defBody (topS 28), defScope (topS 28), [], []⟩
def dd__law_pick : He.DefD := ⟨("_law_pick", none), "_law_pick", "_law_pick", defArgs (topS 29), defBody (topS 29), defScope (topS 29), [], []⟩
def dd__law_kind : He.DefD := ⟨("_law_kind", none), "_law_kind", "_law_kind", defArgs (topS 30), defBody (topS 30), defScope (topS 30), [], []⟩
def dd__law_same : He.DefD := ⟨("_law_same", none), "_law_same", "_law_same", defArgs (topS 31), defBody (topS 31), defScope (topS 31), [], []⟩
def dd__law_field : He.DefD := ⟨("_law_field", none), "_law_field", "_law_field", defArgs (topS 32), defBody (topS 32), defScope (topS 32), [], []⟩
def dd__law_odd : He.DefD := ⟨("_law_odd", none), "_law_odd", "_law_odd", defArgs (topS 33), defBody (topS 33), defScope (topS 33), [], []⟩
def dd__law_codes : He.DefD := ⟨("_law_codes", none), "_law_codes", "_law_codes", defArgs (topS 34), defBody (topS 34), defScope (topS 34), [], []⟩
def dd__law_errors : He.DefD := ⟨("_law_errors", none), "_law_errors", "_law_errors", defArgs (topS 35), defBody (topS 35), defScope (topS 35), [], []⟩
def dd__law_classes : He.DefD := ⟨("_law_classes", none), "_law_classes", "_law_classes", defArgs (topS 36), defBody (topS 36), defScope (topS 36), [], []⟩
def dd__law_named_so : He.DefD := ⟨("_law_named_so", none), "_law_named_so", "_law_named_so", defArgs (topS 37), defBody (topS 37), defScope (topS 37), [], []⟩
def dd_law : He.DefD := ⟨("law", none), "law", "law", defArgs (topS 38), defBody (topS 38), defScope (topS 38), [], []⟩
def hFn : List He.DefD := ([dd__law_start, dd__law_pull, dd__law_pick, dd__law_kind, dd__law_same, dd__law_field, dd__law_odd, dd__law_codes, dd__law_errors, dd__law_classes, dd__law_named_so, dd_law] : List He.DefD)
def hTs : List (Str × List Str) := []
def hEx (K : PySem.W.Frag) : Bool := (hXs.all (XcD.ok K) && (xCl.all (rdB K xFl) && (xCl.all (exB K) && (isB K "InvalidName" none is_InvalidName && (isB K "InvalidVat" none is_InvalidVat && (isB K "InvalidFloat" none is_InvalidFloat && (isB K "InvalidOutlet" none is_InvalidOutlet && (isB K "InvalidRow" none is_InvalidRow && (isB K "InvalidPlace" none is_InvalidPlace && (isB K "InvalidGiven" none is_InvalidGiven && (isB K "InvalidWish" none is_InvalidWish && (isB K "InvalidNumber" none is_InvalidNumber && (isB K "InvalidAnswer" none is_InvalidAnswer && (isB K "InvalidText" none is_InvalidText && (isB K "InvalidPage" none is_InvalidPage && (isB K "InvalidCommand" none is_InvalidCommand && (isB K "InvalidLimit" none is_InvalidLimit && (isB K "DuplicateName" none is_DuplicateName && (isB K "OtherPlant" none is_OtherPlant && (isB K "NotPlain" none is_NotPlain && (isB K "NoFit" none is_NoFit && (isB K "TooMany" none is_TooMany && (isB K "Full" none is_Full && (isB K "UnknownName" none is_UnknownName && (isB K "UnknownLiquid" none is_UnknownLiquid && (isB K "NothingLeft" none is_NothingLeft && (isB K "LiquidError" none is_LiquidError && (isB K "Missing" none is_Missing && (isB K "ValueError" (some "ValueError") is_ValueError && (isB K "LookupError" (some "LookupError") is_LookupError && (isB K "IndexError" (some "IndexError") is_IndexError && true)))))))))))))))))))))))))))))))
def hFa : List He.Fa := ([.glo "_law_start", .glo "_law_pull", .glo "_law_pick", .glo "_law_kind", .glo "_law_same", .glo "_law_field", .glo "_law_odd", .glo "_law_codes", .glo "_law_errors", .glo "_law_classes", .glo "_law_named_so", .glo "law", .free "len", .free "isinstance", .free "all", .free "any", .free "list", .free "tuple", .free "int", .free "bool", .free "str", .free "range", .free "enumerate", .free "zip", .free "max", .free "min", .free "sorted", .free "dict", .free "super"] : List He.Fa)
def n__law_start : List Str := (["_law_script"] : List Str)
theorem sc__law_start : FnScope n__law_start ["_law_script"] (defScope (topS 27)) := ⟨by rfl, by rfl, by rfl, by decide +kernel, by rfl, by decide +kernel, by decide +kernel⟩
theorem comp__law_start : compSs (compS { GG with mu := posIn mu__law_start, va := posAt va__law_start, cls := posCl cl__law_start } n__law_start DP (defScope (topS 27)) (fun _ => true) DP) (defBody (topS 27)) = some c__law_start := by kernel_rfl
theorem core__law_start {K : Pm} (c : He.SaysD hFa hFn K.K) : DefCore GG TT DP K (He.fAd K.K ("_law_start", none)) f__law_start 1 := by
  obtain ⟨fd, F⟩ := c.def_ 0 (d := dd__law_start) rfl
  refine ⟨fd, ["_law_script"], n__law_start, _, _, _, _, _, _, _, d__law_start, posIn mu__law_start, posAt va__law_start, posCl cl__law_start, F, sc__law_start, rfl, rfl, rfl, rfl, comp__law_start, .inl ⟨rfl, ?_, ?_, ?_⟩⟩
  · exact fun _ => F.bindsN fun _ _ _ _ _ _ us hl => match us, hl with | [_], _ => rfl
  · exact dcs_of (l := gtDcs) (f := f__law_start) (R := fun _ ds => DcE K fd ["_law_script"] ds) (m := []) (by rfl) (List.forall_mem_nil _)
  · exact kcs_of (l := gtKcs) (f := f__law_start) (R := fun k ks src => KcE K fd ["_law_script"] k ks src) (m := []) (by rfl) (List.forall_mem_nil _)
def n__law_pull : List Str := (["_law_bag", "_law_size", "_law_seed", "_law_cell", "_law_digit"] : List Str)
theorem sc__law_pull : FnScope n__law_pull ["_law_bag", "_law_size"] (defScope (topS 28)) := ⟨by rfl, by rfl, by rfl, by decide +kernel, by rfl, by decide +kernel, by decide +kernel⟩
theorem comp__law_pull : compSs (compS { GG with mu := posIn mu__law_pull, va := posAt va__law_pull, cls := posCl cl__law_pull } n__law_pull DP (defScope (topS 28)) (fun _ => true) DP) (defBody (topS 28)) = some c__law_pull := by kernel_rfl
theorem core__law_pull {K : Pm} (c : He.SaysD hFa hFn K.K) : DefCore GG TT DP K (He.fAd K.K ("_law_pull", none)) f__law_pull 2 := by
  obtain ⟨fd, F⟩ := c.def_ 1 (d := dd__law_pull) rfl
  refine ⟨fd, ["_law_bag", "_law_size"], n__law_pull, _, _, _, _, _, _, _, d__law_pull, posIn mu__law_pull, posAt va__law_pull, posCl cl__law_pull, F, sc__law_pull, rfl, rfl, rfl, rfl, comp__law_pull, .inl ⟨rfl, ?_, ?_, ?_⟩⟩
  · exact fun _ => F.bindsN fun _ _ _ _ _ _ us hl => match us, hl with | [_, _], _ => rfl
  · exact dcs_of (l := gtDcs) (f := f__law_pull) (R := fun _ ds => DcE K fd ["_law_bag", "_law_size"] ds) (m := []) (by rfl) (List.forall_mem_nil _)
  · exact kcs_of (l := gtKcs) (f := f__law_pull) (R := fun k ks src => KcE K fd ["_law_bag", "_law_size"] k ks src) (m := []) (by rfl) (List.forall_mem_nil _)
def n__law_pick : List Str := (["_law_bag", "_law_some"] : List Str)
theorem sc__law_pick : FnScope n__law_pick ["_law_bag", "_law_some"] (defScope (topS 29)) := ⟨by rfl, by rfl, by rfl, by decide +kernel, by rfl, by decide +kernel, by decide +kernel⟩
theorem comp__law_pick : compSs (compS { GG with mu := posIn mu__law_pick, va := posAt va__law_pick, cls := posCl cl__law_pick } n__law_pick DP (defScope (topS 29)) (fun _ => true) DP) (defBody (topS 29)) = some c__law_pick := by kernel_rfl
theorem core__law_pick {K : Pm} (c : He.SaysD hFa hFn K.K) : DefCore GG TT DP K (He.fAd K.K ("_law_pick", none)) f__law_pick 2 := by
  obtain ⟨fd, F⟩ := c.def_ 2 (d := dd__law_pick) rfl
  refine ⟨fd, ["_law_bag", "_law_some"], n__law_pick, _, _, _, _, _, _, _, d__law_pick, posIn mu__law_pick, posAt va__law_pick, posCl cl__law_pick, F, sc__law_pick, rfl, rfl, rfl, rfl, comp__law_pick, .inl ⟨rfl, ?_, ?_, ?_⟩⟩
  · exact fun _ => F.bindsN fun _ _ _ _ _ _ us hl => match us, hl with | [_, _], _ => rfl
  · exact dcs_of (l := gtDcs) (f := f__law_pick) (R := fun _ ds => DcE K fd ["_law_bag", "_law_some"] ds) (m := []) (by rfl) (List.forall_mem_nil _)
  · exact kcs_of (l := gtKcs) (f := f__law_pick) (R := fun k ks src => KcE K fd ["_law_bag", "_law_some"] k ks src) (m := []) (by rfl) (List.forall_mem_nil _)
def n__law_kind : List Str := (["_law_thing", "_law_marks"] : List Str)
theorem sc__law_kind : FnScope n__law_kind ["_law_thing"] (defScope (topS 30)) := ⟨by rfl, by rfl, by rfl, by decide +kernel, by rfl, by decide +kernel, by decide +kernel⟩
theorem comp__law_kind : compSs (compS { GG with mu := posIn mu__law_kind, va := posAt va__law_kind, cls := posCl cl__law_kind } n__law_kind DP (defScope (topS 30)) (fun _ => true) DP) (defBody (topS 30)) = some c__law_kind := by kernel_rfl
theorem core__law_kind {K : Pm} (c : He.SaysD hFa hFn K.K) : DefCore GG TT DP K (He.fAd K.K ("_law_kind", none)) f__law_kind 1 := by
  obtain ⟨fd, F⟩ := c.def_ 3 (d := dd__law_kind) rfl
  refine ⟨fd, ["_law_thing"], n__law_kind, _, _, _, _, _, _, _, d__law_kind, posIn mu__law_kind, posAt va__law_kind, posCl cl__law_kind, F, sc__law_kind, rfl, rfl, rfl, rfl, comp__law_kind, .inl ⟨rfl, ?_, ?_, ?_⟩⟩
  · exact fun _ => F.bindsN fun _ _ _ _ _ _ us hl => match us, hl with | [_], _ => rfl
  · exact dcs_of (l := gtDcs) (f := f__law_kind) (R := fun _ ds => DcE K fd ["_law_thing"] ds) (m := []) (by rfl) (List.forall_mem_nil _)
  · exact kcs_of (l := gtKcs) (f := f__law_kind) (R := fun k ks src => KcE K fd ["_law_thing"] k ks src) (m := []) (by rfl) (List.forall_mem_nil _)
def n__law_same : List Str := (["_law_found", "_law_due", "_law_a", "_law_b"] : List Str)
theorem sc__law_same : FnScope n__law_same ["_law_found", "_law_due"] (defScope (topS 31)) := ⟨by rfl, by rfl, by rfl, by decide +kernel, by rfl, by decide +kernel, by decide +kernel⟩
theorem comp__law_same : compSs (compS { GG with mu := posIn mu__law_same, va := posAt va__law_same, cls := posCl cl__law_same } n__law_same DP (defScope (topS 31)) (fun _ => true) DP) (defBody (topS 31)) = some c__law_same := by kernel_rfl
theorem core__law_same {K : Pm} (c : He.SaysD hFa hFn K.K) : DefCore GG TT DP K (He.fAd K.K ("_law_same", none)) f__law_same 2 := by
  obtain ⟨fd, F⟩ := c.def_ 4 (d := dd__law_same) rfl
  refine ⟨fd, ["_law_found", "_law_due"], n__law_same, _, _, _, _, _, _, _, d__law_same, posIn mu__law_same, posAt va__law_same, posCl cl__law_same, F, sc__law_same, rfl, rfl, rfl, rfl, comp__law_same, .inl ⟨rfl, ?_, ?_, ?_⟩⟩
  · exact fun _ => F.bindsN fun _ _ _ _ _ _ us hl => match us, hl with | [_, _], _ => rfl
  · exact dcs_of (l := gtDcs) (f := f__law_same) (R := fun _ ds => DcE K fd ["_law_found", "_law_due"] ds) (m := []) (by rfl) (List.forall_mem_nil _)
  · exact kcs_of (l := gtKcs) (f := f__law_same) (R := fun k ks src => KcE K fd ["_law_found", "_law_due"] k ks src) (m := []) (by rfl) (List.forall_mem_nil _)
def n__law_field : List Str := (["_law_e"] : List Str)
theorem sc__law_field : FnScope n__law_field ["_law_e"] (defScope (topS 32)) := ⟨by rfl, by rfl, by rfl, by decide +kernel, by rfl, by decide +kernel, by decide +kernel⟩
theorem comp__law_field : compSs (compS { GG with mu := posIn mu__law_field, va := posAt va__law_field, cls := posCl cl__law_field } n__law_field DP (defScope (topS 32)) (fun _ => true) DP) (defBody (topS 32)) = some c__law_field := by kernel_rfl
theorem core__law_field {K : Pm} (c : He.SaysD hFa hFn K.K) : DefCore GG TT DP K (He.fAd K.K ("_law_field", none)) f__law_field 1 := by
  obtain ⟨fd, F⟩ := c.def_ 5 (d := dd__law_field) rfl
  refine ⟨fd, ["_law_e"], n__law_field, _, _, _, _, _, _, _, d__law_field, posIn mu__law_field, posAt va__law_field, posCl cl__law_field, F, sc__law_field, rfl, rfl, rfl, rfl, comp__law_field, .inl ⟨rfl, ?_, ?_, ?_⟩⟩
  · exact fun _ => F.bindsN fun _ _ _ _ _ _ us hl => match us, hl with | [_], _ => rfl
  · exact dcs_of (l := gtDcs) (f := f__law_field) (R := fun _ ds => DcE K fd ["_law_e"] ds) (m := []) (by rfl) (List.forall_mem_nil _)
  · exact kcs_of (l := gtKcs) (f := f__law_field) (R := fun k ks src => KcE K fd ["_law_e"] k ks src) (m := []) (by rfl) (List.forall_mem_nil _)
def n__law_odd : List Str := (["_law_bag", "_law_more"] : List Str)
theorem sc__law_odd : FnScope n__law_odd ["_law_bag", "_law_more"] (defScope (topS 33)) := ⟨by rfl, by rfl, by rfl, by decide +kernel, by rfl, by decide +kernel, by decide +kernel⟩
theorem comp__law_odd : compSs (compS { GG with mu := posIn mu__law_odd, va := posAt va__law_odd, cls := posCl cl__law_odd } n__law_odd DP (defScope (topS 33)) (fun _ => true) DP) (defBody (topS 33)) = some c__law_odd := by kernel_rfl
theorem core__law_odd {K : Pm} (c : He.SaysD hFa hFn K.K) : DefCore GG TT DP K (He.fAd K.K ("_law_odd", none)) f__law_odd 2 := by
  obtain ⟨fd, F⟩ := c.def_ 6 (d := dd__law_odd) rfl
  refine ⟨fd, ["_law_bag", "_law_more"], n__law_odd, _, _, _, _, _, _, _, d__law_odd, posIn mu__law_odd, posAt va__law_odd, posCl cl__law_odd, F, sc__law_odd, rfl, rfl, rfl, rfl, comp__law_odd, .inl ⟨rfl, ?_, ?_, ?_⟩⟩
  · exact fun _ => F.bindsN fun _ _ _ _ _ _ us hl => match us, hl with | [_, _], _ => rfl
  · exact dcs_of (l := gtDcs) (f := f__law_odd) (R := fun _ ds => DcE K fd ["_law_bag", "_law_more"] ds) (m := []) (by rfl) (List.forall_mem_nil _)
  · exact kcs_of (l := gtKcs) (f := f__law_odd) (R := fun k ks src => KcE K fd ["_law_bag", "_law_more"] k ks src) (m := []) (by rfl) (List.forall_mem_nil _)
def n__law_codes : List Str := ([] : List Str)
theorem sc__law_codes : FnScope n__law_codes [] (defScope (topS 34)) := ⟨by rfl, by rfl, by rfl, by decide +kernel, by rfl, by decide +kernel, by decide +kernel⟩
theorem comp__law_codes : compSs (compS { GG with mu := posIn mu__law_codes, va := posAt va__law_codes, cls := posCl cl__law_codes } n__law_codes DP (defScope (topS 34)) (fun _ => true) DP) (defBody (topS 34)) = some c__law_codes := by kernel_rfl
theorem core__law_codes {K : Pm} (c : He.SaysD hFa hFn K.K) : DefCore GG TT DP K (He.fAd K.K ("_law_codes", none)) f__law_codes 0 := by
  obtain ⟨fd, F⟩ := c.def_ 7 (d := dd__law_codes) rfl
  refine ⟨fd, [], n__law_codes, _, _, _, _, _, _, _, d__law_codes, posIn mu__law_codes, posAt va__law_codes, posCl cl__law_codes, F, sc__law_codes, rfl, rfl, rfl, rfl, comp__law_codes, .inl ⟨rfl, ?_, ?_, ?_⟩⟩
  · exact fun _ => F.bindsN fun _ _ _ _ _ _ us hl => match us, hl with | [], _ => rfl
  · exact dcs_of (l := gtDcs) (f := f__law_codes) (R := fun _ ds => DcE K fd [] ds) (m := []) (by rfl) (List.forall_mem_nil _)
  · exact kcs_of (l := gtKcs) (f := f__law_codes) (R := fun k ks src => KcE K fd [] k ks src) (m := []) (by rfl) (List.forall_mem_nil _)
def n__law_errors : List Str := (["_law_a", "_law_found"] : List Str)
theorem sc__law_errors : FnScope n__law_errors ["_law_a"] (defScope (topS 35)) := ⟨by rfl, by rfl, by rfl, by decide +kernel, by rfl, by decide +kernel, by decide +kernel⟩
theorem comp__law_errors : compSs (compS { GG with mu := posIn mu__law_errors, va := posAt va__law_errors, cls := posCl cl__law_errors } n__law_errors DP (defScope (topS 35)) (fun _ => true) DP) (defBody (topS 35)) = some c__law_errors := by kernel_rfl
theorem core__law_errors {K : Pm} (c : He.SaysD hFa hFn K.K) : DefCore GG TT DP K (He.fAd K.K ("_law_errors", none)) f__law_errors 1 := by
  obtain ⟨fd, F⟩ := c.def_ 8 (d := dd__law_errors) rfl
  refine ⟨fd, ["_law_a"], n__law_errors, _, _, _, _, _, _, _, d__law_errors, posIn mu__law_errors, posAt va__law_errors, posCl cl__law_errors, F, sc__law_errors, rfl, rfl, rfl, rfl, comp__law_errors, .inl ⟨rfl, ?_, ?_, ?_⟩⟩
  · exact fun _ => F.bindsN fun _ _ _ _ _ _ us hl => match us, hl with | [_], _ => rfl
  · exact dcs_of (l := gtDcs) (f := f__law_errors) (R := fun _ ds => DcE K fd ["_law_a"] ds) (m := []) (by rfl) (List.forall_mem_nil _)
  · exact kcs_of (l := gtKcs) (f := f__law_errors) (R := fun k ks src => KcE K fd ["_law_a"] k ks src) (m := []) (by rfl) (List.forall_mem_nil _)
def n__law_classes : List Str := (["_law_e", "_law_found"] : List Str)
theorem sc__law_classes : FnScope n__law_classes ["_law_e"] (defScope (topS 36)) := ⟨by rfl, by rfl, by rfl, by decide +kernel, by rfl, by decide +kernel, by decide +kernel⟩
theorem comp__law_classes : compSs (compS { GG with mu := posIn mu__law_classes, va := posAt va__law_classes, cls := posCl cl__law_classes } n__law_classes DP (defScope (topS 36)) (fun _ => true) DP) (defBody (topS 36)) = some c__law_classes := by kernel_rfl
theorem core__law_classes {K : Pm} (c : He.SaysD hFa hFn K.K) : DefCore GG TT DP K (He.fAd K.K ("_law_classes", none)) f__law_classes 1 := by
  obtain ⟨fd, F⟩ := c.def_ 9 (d := dd__law_classes) rfl
  refine ⟨fd, ["_law_e"], n__law_classes, _, _, _, _, _, _, _, d__law_classes, posIn mu__law_classes, posAt va__law_classes, posCl cl__law_classes, F, sc__law_classes, rfl, rfl, rfl, rfl, comp__law_classes, .inl ⟨rfl, ?_, ?_, ?_⟩⟩
  · exact fun _ => F.bindsN fun _ _ _ _ _ _ us hl => match us, hl with | [_], _ => rfl
  · exact dcs_of (l := gtDcs) (f := f__law_classes) (R := fun _ ds => DcE K fd ["_law_e"] ds) (m := []) (by rfl) (List.forall_mem_nil _)
  · exact kcs_of (l := gtKcs) (f := f__law_classes) (R := fun k ks src => KcE K fd ["_law_e"] k ks src) (m := []) (by rfl) (List.forall_mem_nil _)
def n__law_named_so : List Str := (["_law_a", "_law_found", "_law_e"] : List Str)
theorem sc__law_named_so : FnScope n__law_named_so ["_law_a"] (defScope (topS 37)) := ⟨by rfl, by rfl, by rfl, by decide +kernel, by rfl, by decide +kernel, by decide +kernel⟩
theorem comp__law_named_so : compSs (compS { GG with mu := posIn mu__law_named_so, va := posAt va__law_named_so, cls := posCl cl__law_named_so } n__law_named_so DP (defScope (topS 37)) (fun _ => true) DP) (defBody (topS 37)) = some c__law_named_so := by kernel_rfl
theorem core__law_named_so {K : Pm} (c : He.SaysD hFa hFn K.K) : DefCore GG TT DP K (He.fAd K.K ("_law_named_so", none)) f__law_named_so 1 := by
  obtain ⟨fd, F⟩ := c.def_ 10 (d := dd__law_named_so) rfl
  refine ⟨fd, ["_law_a"], n__law_named_so, _, _, _, _, _, _, _, d__law_named_so, posIn mu__law_named_so, posAt va__law_named_so, posCl cl__law_named_so, F, sc__law_named_so, rfl, rfl, rfl, rfl, comp__law_named_so, .inl ⟨rfl, ?_, ?_, ?_⟩⟩
  · exact fun _ => F.bindsN fun _ _ _ _ _ _ us hl => match us, hl with | [_], _ => rfl
  · exact dcs_of (l := gtDcs) (f := f__law_named_so) (R := fun _ ds => DcE K fd ["_law_a"] ds) (m := []) (by rfl) (List.forall_mem_nil _)
  · exact kcs_of (l := gtKcs) (f := f__law_named_so) (R := fun k ks src => KcE K fd ["_law_a"] k ks src) (m := []) (by rfl) (List.forall_mem_nil _)
def n_law : List Str := (["_law_script", "_law_bag", "_law_turn", "_law_a", "_law_bare", "_law_k", "_law_made", "_law_codes_here", "_law_e", "_law_j"] : List Str)
theorem sc_law : FnScope n_law ["_law_script"] (defScope (topS 38)) := ⟨by rfl, by rfl, by rfl, by decide +kernel, by rfl, by decide +kernel, by decide +kernel⟩
theorem comp_law : compSs (compS { GG with mu := posIn mu_law, va := posAt va_law, cls := posCl cl_law } n_law DP (defScope (topS 38)) (fun _ => true) DP) (defBody (topS 38)) = some c_law := by kernel_rfl
theorem core_law {K : Pm} (c : He.SaysD hFa hFn K.K) : DefCore GG TT DP K (He.fAd K.K ("law", none)) f_law 1 := by
  obtain ⟨fd, F⟩ := c.def_ 11 (d := dd_law) rfl
  refine ⟨fd, ["_law_script"], n_law, _, _, _, _, _, _, _, d_law, posIn mu_law, posAt va_law, posCl cl_law, F, sc_law, rfl, rfl, rfl, rfl, comp_law, .inl ⟨rfl, ?_, ?_, ?_⟩⟩
  · exact fun _ => F.bindsN fun _ _ _ _ _ _ us hl => match us, hl with | [_], _ => rfl
  · exact dcs_of (l := gtDcs) (f := f_law) (R := fun _ ds => DcE K fd ["_law_script"] ds) (m := []) (by rfl) (List.forall_mem_nil _)
  · exact kcs_of (l := gtKcs) (f := f_law) (R := fun k ks src => KcE K fd ["_law_script"] k ks src) (m := []) (by rfl) (List.forall_mem_nil _)
section
variable {K : Pm} {h : Heap}
theorem h_free (X : K.K.In h) (Gm : h.Ns mainGlobals K.mg) (c : He.SaysD hFa hFn K.K) : ∀ x ∈ freeNames, K.mg x = none :=
  show ∀ x ∈ (["len", "isinstance", "all", "any", "list", "tuple", "int", "bool", "str", "range", "enumerate", "zip", "max", "min", "sorted", "dict"] : List Str), K.mg x = none from List.forall_mem_cons.2 ⟨He.free_ok X Gm (c.fact 12 (f := .free "len") rfl), List.forall_mem_cons.2 ⟨He.free_ok X Gm (c.fact 13 (f := .free "isinstance") rfl), List.forall_mem_cons.2 ⟨He.free_ok X Gm (c.fact 14 (f := .free "all") rfl), List.forall_mem_cons.2 ⟨He.free_ok X Gm (c.fact 15 (f := .free "any") rfl), List.forall_mem_cons.2 ⟨He.free_ok X Gm (c.fact 16 (f := .free "list") rfl), List.forall_mem_cons.2 ⟨He.free_ok X Gm (c.fact 17 (f := .free "tuple") rfl), List.forall_mem_cons.2 ⟨He.free_ok X Gm (c.fact 18 (f := .free "int") rfl), List.forall_mem_cons.2 ⟨He.free_ok X Gm (c.fact 19 (f := .free "bool") rfl), List.forall_mem_cons.2 ⟨He.free_ok X Gm (c.fact 20 (f := .free "str") rfl), List.forall_mem_cons.2 ⟨He.free_ok X Gm (c.fact 21 (f := .free "range") rfl), List.forall_mem_cons.2 ⟨He.free_ok X Gm (c.fact 22 (f := .free "enumerate") rfl), List.forall_mem_cons.2 ⟨He.free_ok X Gm (c.fact 23 (f := .free "zip") rfl), List.forall_mem_cons.2 ⟨He.free_ok X Gm (c.fact 24 (f := .free "max") rfl), List.forall_mem_cons.2 ⟨He.free_ok X Gm (c.fact 25 (f := .free "min") rfl), List.forall_mem_cons.2 ⟨He.free_ok X Gm (c.fact 26 (f := .free "sorted") rfl), List.forall_mem_cons.2 ⟨He.free_ok X Gm (c.fact 27 (f := .free "dict") rfl), List.forall_mem_nil _⟩⟩⟩⟩⟩⟩⟩⟩⟩⟩⟩⟩⟩⟩⟩⟩
theorem h_kv (X : K.K.In h) (Gm : h.Ns mainGlobals K.mg) (c : He.SaysD hFa hFn K.K) (cx : hEx K.K = true) (ct : ∀ t ∈ hTs, He.dicW K.K (topA K.K t.1) = some (He.keysIn K.w.params t.2)) : ∀ x, GG.kvs x = true → ∃ v y u, TT.kv x = some v ∧ K.mg x = some u ∧ RelV y u ∧ ∀ hs H as, RV K hs H as v y := fun x hx => by
  obtain ⟨v, h1, y, u, h2, h3, h4⟩ := kvs_of (l := kvTab) (R := fun x v => ∃ y u, K.mg x = some u ∧ RelV y u ∧ ∀ hs H as, RV K hs H as v y) (show ∀ e ∈ ([] : List (Str × Val)), _ from List.forall_mem_nil _) x hx
  exact ⟨v, y, u, by show (match kvTab.lookup x with | some v => some v | none => kvTabC.lookup x) = some v; rw [h1], h2, h3, h4⟩
theorem h_fn (X : K.K.In h) (Gm : h.Ns mainGlobals K.mg) (c : He.SaysD hFa hFn K.K) : ∀ k x f m, GG.fns k x = some (f, m) → DefHas GG TT DP K x f m :=
  fns_of (l := gtFns) (R := fun _ x f m => DefHas GG TT DP K x f m) (show ∀ e ∈ ([((0, "_law_start"), (f__law_start, 1)), ((0, "_law_pull"), (f__law_pull, 2)), ((0, "_law_pick"), (f__law_pick, 2)), ((0, "_law_kind"), (f__law_kind, 1)), ((0, "_law_same"), (f__law_same, 2)), ((0, "_law_field"), (f__law_field, 1)), ((0, "_law_odd"), (f__law_odd, 2)), ((0, "_law_codes"), (f__law_codes, 0)), ((0, "_law_errors"), (f__law_errors, 1)), ((0, "_law_classes"), (f__law_classes, 1)), ((0, "_law_named_so"), (f__law_named_so, 1)), ((0, "law"), (f_law, 1))] : List ((Nat × Str) × (Nat × Nat))), DefHas GG TT DP K e.1.2 e.2.1 e.2.2 from List.forall_mem_cons.2 ⟨⟨_, He.glo_ok X Gm (c.fact 0 (f := .glo "_law_start") rfl), core__law_start c⟩, List.forall_mem_cons.2 ⟨⟨_, He.glo_ok X Gm (c.fact 1 (f := .glo "_law_pull") rfl), core__law_pull c⟩, List.forall_mem_cons.2 ⟨⟨_, He.glo_ok X Gm (c.fact 2 (f := .glo "_law_pick") rfl), core__law_pick c⟩, List.forall_mem_cons.2 ⟨⟨_, He.glo_ok X Gm (c.fact 3 (f := .glo "_law_kind") rfl), core__law_kind c⟩, List.forall_mem_cons.2 ⟨⟨_, He.glo_ok X Gm (c.fact 4 (f := .glo "_law_same") rfl), core__law_same c⟩, List.forall_mem_cons.2 ⟨⟨_, He.glo_ok X Gm (c.fact 5 (f := .glo "_law_field") rfl), core__law_field c⟩, List.forall_mem_cons.2 ⟨⟨_, He.glo_ok X Gm (c.fact 6 (f := .glo "_law_odd") rfl), core__law_odd c⟩, List.forall_mem_cons.2 ⟨⟨_, He.glo_ok X Gm (c.fact 7 (f := .glo "_law_codes") rfl), core__law_codes c⟩, List.forall_mem_cons.2 ⟨⟨_, He.glo_ok X Gm (c.fact 8 (f := .glo "_law_errors") rfl), core__law_errors c⟩, List.forall_mem_cons.2 ⟨⟨_, He.glo_ok X Gm (c.fact 9 (f := .glo "_law_classes") rfl), core__law_classes c⟩, List.forall_mem_cons.2 ⟨⟨_, He.glo_ok X Gm (c.fact 10 (f := .glo "_law_named_so") rfl), core__law_named_so c⟩, List.forall_mem_cons.2 ⟨⟨_, He.glo_ok X Gm (c.fact 11 (f := .glo "law") rfl), core_law c⟩, List.forall_mem_nil _⟩⟩⟩⟩⟩⟩⟩⟩⟩⟩⟩⟩)
theorem h_mt (X : K.K.In h) (Gm : h.Ns mainGlobals K.mg) (c : He.SaysD hFa hFn K.K) : ∀ k cc m f a, GG.mts k cc m = some (f, a) → MetHas GG TT DP K cc m f :=
  mts_of (l := gtMts) (R := fun _ cc m f _ => MetHas GG TT DP K cc m f) (show ∀ e ∈ ([] : List ((Nat × Str × Str) × (Nat × Nat))), MetHas GG TT DP K e.1.2.1 e.1.2.2 e.2.1 from List.forall_mem_nil _)
theorem h_mk (X : K.K.In h) (Gm : h.Ns mainGlobals K.mg) (c : He.SaysD hFa hFn K.K) : ∀ k x f m, GG.mks k x = some (f, m) → MakHas GG TT DP K x f m :=
  fns_of (l := gtMks) (R := fun _ x f m => MakHas GG TT DP K x f m) (show ∀ e ∈ ([] : List ((Nat × Str) × (Nat × Nat))), MakHas GG TT DP K e.1.2 e.2.1 e.2.2 from List.forall_mem_nil _)
theorem h_fa (X : K.K.In h) (Gm : h.Ns mainGlobals K.mg) (c : He.SaysD hFa hFn K.K) : ∀ cc f, GG.fa cc f = true → ∀ C, K.mg cc = some (.ref C) → Cls K.K C ∧ NoAttr K.K C f :=
  fa_of (l := gtFa) (R := fun cc f => ∀ C, K.mg cc = some (.ref C) → Cls K.K C ∧ NoAttr K.K C f) (show ∀ e ∈ ([] : List (Str × Str)), ∀ C, K.mg e.1 = some (.ref C) → Cls K.K C ∧ NoAttr K.K C e.2 from List.forall_mem_nil _)
theorem h_cs (X : K.K.In h) (Gm : h.Ns mainGlobals K.mg) (c : He.SaysD hFa hFn K.K) (cx : hEx K.K = true) : ∀ key cc f, GG.csf key = some (cc, f) → ∃ (C : Addr) (mc : Value) (v : Val) (y : V) (u : Value), K.mg cc = some (.ref C) ∧ ClX.CRead K.K C mc ∧ ClX.CVal K.K C mc f y u ∧ TT.kv key = some v ∧ ∀ hs H as, RV K hs H as v y :=
  csf_of (l := gtCsf) (R := fun key cc f => ∃ (C : Addr) (mc : Value) (v : Val) (y : V) (u : Value), K.mg cc = some (.ref C) ∧ ClX.CRead K.K C mc ∧ ClX.CVal K.K C mc f y u ∧ TT.kv key = some v ∧ ∀ hs H as, RV K hs H as v y) (show ∀ e ∈ ([] : List (Str × (Str × Str))), _ from List.forall_mem_nil _)
theorem h_er (X : K.K.In h) (Gm : h.Ns mainGlobals K.mg) (c : He.SaysD hFa hFn K.K) (cx : hEx K.K = true) (cw : ∀ d ∈ hXs, xcW K.K d = d.val) : ∀ x ps l, GG.ers x = some (ps, l) → ∃ C, K.mg x = some (.ref C) ∧ ErC R.prog K.K K.mg C ps l :=
  ers_of X Gm cw (and_l cx) (show ∀ d ∈ ([xd_InvalidName, xd_InvalidVat, xd_InvalidFloat, xd_InvalidOutlet, xd_InvalidRow, xd_InvalidPlace, xd_InvalidGiven, xd_InvalidWish, xd_InvalidNumber, xd_InvalidAnswer, xd_InvalidText, xd_InvalidPage, xd_InvalidCommand, xd_InvalidLimit, xd_DuplicateName, xd_OtherPlant, xd_NotPlain, xd_NoFit, xd_TooMany, xd_Full, xd_UnknownName, xd_UnknownLiquid, xd_NothingLeft] : List XcD), (R.prog.main.file == d.file) = true from List.forall_mem_cons.2 ⟨beq_self_eq_true _, List.forall_mem_cons.2 ⟨beq_self_eq_true _, List.forall_mem_cons.2 ⟨beq_self_eq_true _, List.forall_mem_cons.2 ⟨beq_self_eq_true _, List.forall_mem_cons.2 ⟨beq_self_eq_true _, List.forall_mem_cons.2 ⟨beq_self_eq_true _, List.forall_mem_cons.2 ⟨beq_self_eq_true _, List.forall_mem_cons.2 ⟨beq_self_eq_true _, List.forall_mem_cons.2 ⟨beq_self_eq_true _, List.forall_mem_cons.2 ⟨beq_self_eq_true _, List.forall_mem_cons.2 ⟨beq_self_eq_true _, List.forall_mem_cons.2 ⟨beq_self_eq_true _, List.forall_mem_cons.2 ⟨beq_self_eq_true _, List.forall_mem_cons.2 ⟨beq_self_eq_true _, List.forall_mem_cons.2 ⟨beq_self_eq_true _, List.forall_mem_cons.2 ⟨beq_self_eq_true _, List.forall_mem_cons.2 ⟨beq_self_eq_true _, List.forall_mem_cons.2 ⟨beq_self_eq_true _, List.forall_mem_cons.2 ⟨beq_self_eq_true _, List.forall_mem_cons.2 ⟨beq_self_eq_true _, List.forall_mem_cons.2 ⟨beq_self_eq_true _, List.forall_mem_cons.2 ⟨beq_self_eq_true _, List.forall_mem_cons.2 ⟨beq_self_eq_true _, List.forall_mem_nil _⟩⟩⟩⟩⟩⟩⟩⟩⟩⟩⟩⟩⟩⟩⟩⟩⟩⟩⟩⟩⟩⟩⟩) (by rfl) (He.free_ok X Gm (c.fact 28 (f := .free "super") rfl)) (show ∀ d ∈ ([xd_InvalidName, xd_InvalidVat, xd_InvalidFloat, xd_InvalidOutlet, xd_InvalidRow, xd_InvalidPlace, xd_InvalidGiven, xd_InvalidWish, xd_InvalidNumber, xd_InvalidAnswer, xd_InvalidText, xd_InvalidPage, xd_InvalidCommand, xd_InvalidLimit, xd_DuplicateName, xd_OtherPlant, xd_NotPlain, xd_NoFit, xd_TooMany, xd_Full, xd_UnknownName, xd_UnknownLiquid, xd_NothingLeft] : List XcD), XcStat d from List.forall_mem_cons.2 ⟨st_InvalidName, List.forall_mem_cons.2 ⟨st_InvalidVat, List.forall_mem_cons.2 ⟨st_InvalidFloat, List.forall_mem_cons.2 ⟨st_InvalidOutlet, List.forall_mem_cons.2 ⟨st_InvalidRow, List.forall_mem_cons.2 ⟨st_InvalidPlace, List.forall_mem_cons.2 ⟨st_InvalidGiven, List.forall_mem_cons.2 ⟨st_InvalidWish, List.forall_mem_cons.2 ⟨st_InvalidNumber, List.forall_mem_cons.2 ⟨st_InvalidAnswer, List.forall_mem_cons.2 ⟨st_InvalidText, List.forall_mem_cons.2 ⟨st_InvalidPage, List.forall_mem_cons.2 ⟨st_InvalidCommand, List.forall_mem_cons.2 ⟨st_InvalidLimit, List.forall_mem_cons.2 ⟨st_DuplicateName, List.forall_mem_cons.2 ⟨st_OtherPlant, List.forall_mem_cons.2 ⟨st_NotPlain, List.forall_mem_cons.2 ⟨st_NoFit, List.forall_mem_cons.2 ⟨st_TooMany, List.forall_mem_cons.2 ⟨st_Full, List.forall_mem_cons.2 ⟨st_UnknownName, List.forall_mem_cons.2 ⟨st_UnknownLiquid, List.forall_mem_cons.2 ⟨st_NothingLeft, List.forall_mem_nil _⟩⟩⟩⟩⟩⟩⟩⟩⟩⟩⟩⟩⟩⟩⟩⟩⟩⟩⟩⟩⟩⟩⟩)
theorem h_erf (X : K.K.In h) (Gm : h.Ns mainGlobals K.mg) (cx : hEx K.K = true) : ∀ f, ∀ c ∈ GG.erc f, ∃ C, K.mg c = some (.ref C) ∧ XfC K.K C ∧ PySem.W.findIn K.K (.ref C) f = some none :=
  erf_of X Gm (and_l (and_r cx))
theorem h_isc (X : K.K.In h) (Gm : h.Ns mainGlobals K.mg) (cx : hEx K.K = true) : ∀ x t, GG.isc x = some t → ∃ (y : V) (u : Value), (K.mg x = some u ∨ (K.mg x = none ∧ bootBuiltins x = some u)) ∧ RelV y u ∧ (∀ z, RelV y z → z = u) ∧ ∀ c b, t.lookup c = some b → ∃ C, K.mg c = some (.ref C) ∧ ExcC K.K C ∧ PySem.W.kitOne K.K (.ref C) u = some b :=
  isc_of (l := gtIsc) (R := fun x t => ∃ (y : V) (u : Value), (K.mg x = some u ∨ (K.mg x = none ∧ bootBuiltins x = some u)) ∧ RelV y u ∧ (∀ z, RelV y z → z = u) ∧ ∀ c b, t.lookup c = some b → ∃ C, K.mg c = some (.ref C) ∧ ExcC K.K C ∧ PySem.W.kitOne K.K (.ref C) u = some b) (show ∀ e ∈ ([("InvalidName", is_InvalidName), ("InvalidVat", is_InvalidVat), ("InvalidFloat", is_InvalidFloat), ("InvalidOutlet", is_InvalidOutlet), ("InvalidRow", is_InvalidRow), ("InvalidPlace", is_InvalidPlace), ("InvalidGiven", is_InvalidGiven), ("InvalidWish", is_InvalidWish), ("InvalidNumber", is_InvalidNumber), ("InvalidAnswer", is_InvalidAnswer), ("InvalidText", is_InvalidText), ("InvalidPage", is_InvalidPage), ("InvalidCommand", is_InvalidCommand), ("InvalidLimit", is_InvalidLimit), ("DuplicateName", is_DuplicateName), ("OtherPlant", is_OtherPlant), ("NotPlain", is_NotPlain), ("NoFit", is_NoFit), ("TooMany", is_TooMany), ("Full", is_Full), ("UnknownName", is_UnknownName), ("UnknownLiquid", is_UnknownLiquid), ("NothingLeft", is_NothingLeft), ("LiquidError", is_LiquidError), ("Missing", is_Missing), ("ValueError", is_ValueError), ("LookupError", is_LookupError), ("IndexError", is_IndexError)] : List (Str × List (Str × Bool))), ∃ (y : V) (u : Value), (K.mg e.1 = some u ∨ (K.mg e.1 = none ∧ bootBuiltins e.1 = some u)) ∧ RelV y u ∧ (∀ z, RelV y z → z = u) ∧ ∀ c b, e.2.lookup c = some b → ∃ C, K.mg c = some (.ref C) ∧ ExcC K.K C ∧ PySem.W.kitOne K.K (.ref C) u = some b from List.forall_mem_cons.2 ⟨isB_ok X Gm (o := none) (and_l (and_r (and_r (and_r cx)))) (fun n e => by cases e) (is_ex (cl := xCl) (by decide +kernel) (and_l (and_r (and_r cx)))), List.forall_mem_cons.2 ⟨isB_ok X Gm (o := none) (and_l (and_r (and_r (and_r (and_r cx))))) (fun n e => by cases e) (is_ex (cl := xCl) (by decide +kernel) (and_l (and_r (and_r cx)))), List.forall_mem_cons.2 ⟨isB_ok X Gm (o := none) (and_l (and_r (and_r (and_r (and_r (and_r cx)))))) (fun n e => by cases e) (is_ex (cl := xCl) (by decide +kernel) (and_l (and_r (and_r cx)))), List.forall_mem_cons.2 ⟨isB_ok X Gm (o := none) (and_l (and_r (and_r (and_r (and_r (and_r (and_r cx))))))) (fun n e => by cases e) (is_ex (cl := xCl) (by decide +kernel) (and_l (and_r (and_r cx)))), List.forall_mem_cons.2 ⟨isB_ok X Gm (o := none) (and_l (and_r (and_r (and_r (and_r (and_r (and_r (and_r cx)))))))) (fun n e => by cases e) (is_ex (cl := xCl) (by decide +kernel) (and_l (and_r (and_r cx)))), List.forall_mem_cons.2 ⟨isB_ok X Gm (o := none) (and_l (and_r (and_r (and_r (and_r (and_r (and_r (and_r (and_r cx))))))))) (fun n e => by cases e) (is_ex (cl := xCl) (by decide +kernel) (and_l (and_r (and_r cx)))), List.forall_mem_cons.2 ⟨isB_ok X Gm (o := none) (and_l (and_r (and_r (and_r (and_r (and_r (and_r (and_r (and_r (and_r cx)))))))))) (fun n e => by cases e) (is_ex (cl := xCl) (by decide +kernel) (and_l (and_r (and_r cx)))), List.forall_mem_cons.2 ⟨isB_ok X Gm (o := none) (and_l (and_r (and_r (and_r (and_r (and_r (and_r (and_r (and_r (and_r (and_r cx))))))))))) (fun n e => by cases e) (is_ex (cl := xCl) (by decide +kernel) (and_l (and_r (and_r cx)))), List.forall_mem_cons.2 ⟨isB_ok X Gm (o := none) (and_l (and_r (and_r (and_r (and_r (and_r (and_r (and_r (and_r (and_r (and_r (and_r cx)))))))))))) (fun n e => by cases e) (is_ex (cl := xCl) (by decide +kernel) (and_l (and_r (and_r cx)))), List.forall_mem_cons.2 ⟨isB_ok X Gm (o := none) (and_l (and_r (and_r (and_r (and_r (and_r (and_r (and_r (and_r (and_r (and_r (and_r (and_r cx))))))))))))) (fun n e => by cases e) (is_ex (cl := xCl) (by decide +kernel) (and_l (and_r (and_r cx)))), List.forall_mem_cons.2 ⟨isB_ok X Gm (o := none) (and_l (and_r (and_r (and_r (and_r (and_r (and_r (and_r (and_r (and_r (and_r (and_r (and_r (and_r cx)))))))))))))) (fun n e => by cases e) (is_ex (cl := xCl) (by decide +kernel) (and_l (and_r (and_r cx)))), List.forall_mem_cons.2 ⟨isB_ok X Gm (o := none) (and_l (and_r (and_r (and_r (and_r (and_r (and_r (and_r (and_r (and_r (and_r (and_r (and_r (and_r (and_r cx))))))))))))))) (fun n e => by cases e) (is_ex (cl := xCl) (by decide +kernel) (and_l (and_r (and_r cx)))), List.forall_mem_cons.2 ⟨isB_ok X Gm (o := none) (and_l (and_r (and_r (and_r (and_r (and_r (and_r (and_r (and_r (and_r (and_r (and_r (and_r (and_r (and_r (and_r cx)))))))))))))))) (fun n e => by cases e) (is_ex (cl := xCl) (by decide +kernel) (and_l (and_r (and_r cx)))), List.forall_mem_cons.2 ⟨isB_ok X Gm (o := none) (and_l (and_r (and_r (and_r (and_r (and_r (and_r (and_r (and_r (and_r (and_r (and_r (and_r (and_r (and_r (and_r (and_r cx))))))))))))))))) (fun n e => by cases e) (is_ex (cl := xCl) (by decide +kernel) (and_l (and_r (and_r cx)))), List.forall_mem_cons.2 ⟨isB_ok X Gm (o := none) (and_l (and_r (and_r (and_r (and_r (and_r (and_r (and_r (and_r (and_r (and_r (and_r (and_r (and_r (and_r (and_r (and_r (and_r cx)))))))))))))))))) (fun n e => by cases e) (is_ex (cl := xCl) (by decide +kernel) (and_l (and_r (and_r cx)))), List.forall_mem_cons.2 ⟨isB_ok X Gm (o := none) (and_l (and_r (and_r (and_r (and_r (and_r (and_r (and_r (and_r (and_r (and_r (and_r (and_r (and_r (and_r (and_r (and_r (and_r (and_r cx))))))))))))))))))) (fun n e => by cases e) (is_ex (cl := xCl) (by decide +kernel) (and_l (and_r (and_r cx)))), List.forall_mem_cons.2 ⟨isB_ok X Gm (o := none) (and_l (and_r (and_r (and_r (and_r (and_r (and_r (and_r (and_r (and_r (and_r (and_r (and_r (and_r (and_r (and_r (and_r (and_r (and_r (and_r cx)))))))))))))))))))) (fun n e => by cases e) (is_ex (cl := xCl) (by decide +kernel) (and_l (and_r (and_r cx)))), List.forall_mem_cons.2 ⟨isB_ok X Gm (o := none) (and_l (and_r (and_r (and_r (and_r (and_r (and_r (and_r (and_r (and_r (and_r (and_r (and_r (and_r (and_r (and_r (and_r (and_r (and_r (and_r (and_r cx))))))))))))))))))))) (fun n e => by cases e) (is_ex (cl := xCl) (by decide +kernel) (and_l (and_r (and_r cx)))), List.forall_mem_cons.2 ⟨isB_ok X Gm (o := none) (and_l (and_r (and_r (and_r (and_r (and_r (and_r (and_r (and_r (and_r (and_r (and_r (and_r (and_r (and_r (and_r (and_r (and_r (and_r (and_r (and_r (and_r cx)))))))))))))))))))))) (fun n e => by cases e) (is_ex (cl := xCl) (by decide +kernel) (and_l (and_r (and_r cx)))), List.forall_mem_cons.2 ⟨isB_ok X Gm (o := none) (and_l (and_r (and_r (and_r (and_r (and_r (and_r (and_r (and_r (and_r (and_r (and_r (and_r (and_r (and_r (and_r (and_r (and_r (and_r (and_r (and_r (and_r (and_r cx))))))))))))))))))))))) (fun n e => by cases e) (is_ex (cl := xCl) (by decide +kernel) (and_l (and_r (and_r cx)))), List.forall_mem_cons.2 ⟨isB_ok X Gm (o := none) (and_l (and_r (and_r (and_r (and_r (and_r (and_r (and_r (and_r (and_r (and_r (and_r (and_r (and_r (and_r (and_r (and_r (and_r (and_r (and_r (and_r (and_r (and_r (and_r cx)))))))))))))))))))))))) (fun n e => by cases e) (is_ex (cl := xCl) (by decide +kernel) (and_l (and_r (and_r cx)))), List.forall_mem_cons.2 ⟨isB_ok X Gm (o := none) (and_l (and_r (and_r (and_r (and_r (and_r (and_r (and_r (and_r (and_r (and_r (and_r (and_r (and_r (and_r (and_r (and_r (and_r (and_r (and_r (and_r (and_r (and_r (and_r (and_r cx))))))))))))))))))))))))) (fun n e => by cases e) (is_ex (cl := xCl) (by decide +kernel) (and_l (and_r (and_r cx)))), List.forall_mem_cons.2 ⟨isB_ok X Gm (o := none) (and_l (and_r (and_r (and_r (and_r (and_r (and_r (and_r (and_r (and_r (and_r (and_r (and_r (and_r (and_r (and_r (and_r (and_r (and_r (and_r (and_r (and_r (and_r (and_r (and_r (and_r cx)))))))))))))))))))))))))) (fun n e => by cases e) (is_ex (cl := xCl) (by decide +kernel) (and_l (and_r (and_r cx)))), List.forall_mem_cons.2 ⟨isB_ok X Gm (o := none) (and_l (and_r (and_r (and_r (and_r (and_r (and_r (and_r (and_r (and_r (and_r (and_r (and_r (and_r (and_r (and_r (and_r (and_r (and_r (and_r (and_r (and_r (and_r (and_r (and_r (and_r (and_r cx))))))))))))))))))))))))))) (fun n e => by cases e) (is_ex (cl := xCl) (by decide +kernel) (and_l (and_r (and_r cx)))), List.forall_mem_cons.2 ⟨isB_ok X Gm (o := none) (and_l (and_r (and_r (and_r (and_r (and_r (and_r (and_r (and_r (and_r (and_r (and_r (and_r (and_r (and_r (and_r (and_r (and_r (and_r (and_r (and_r (and_r (and_r (and_r (and_r (and_r (and_r (and_r cx)))))))))))))))))))))))))))) (fun n e => by cases e) (is_ex (cl := xCl) (by decide +kernel) (and_l (and_r (and_r cx)))), List.forall_mem_cons.2 ⟨isB_ok X Gm (o := some "ValueError") (and_l (and_r (and_r (and_r (and_r (and_r (and_r (and_r (and_r (and_r (and_r (and_r (and_r (and_r (and_r (and_r (and_r (and_r (and_r (and_r (and_r (and_r (and_r (and_r (and_r (and_r (and_r (and_r (and_r cx))))))))))))))))))))))))))))) (fun n e => by cases e; decide +kernel) (is_ex (cl := xCl) (by decide +kernel) (and_l (and_r (and_r cx)))), List.forall_mem_cons.2 ⟨isB_ok X Gm (o := some "LookupError") (and_l (and_r (and_r (and_r (and_r (and_r (and_r (and_r (and_r (and_r (and_r (and_r (and_r (and_r (and_r (and_r (and_r (and_r (and_r (and_r (and_r (and_r (and_r (and_r (and_r (and_r (and_r (and_r (and_r (and_r cx)))))))))))))))))))))))))))))) (fun n e => by cases e; decide +kernel) (is_ex (cl := xCl) (by decide +kernel) (and_l (and_r (and_r cx)))), List.forall_mem_cons.2 ⟨isB_ok X Gm (o := some "IndexError") (and_l (and_r (and_r (and_r (and_r (and_r (and_r (and_r (and_r (and_r (and_r (and_r (and_r (and_r (and_r (and_r (and_r (and_r (and_r (and_r (and_r (and_r (and_r (and_r (and_r (and_r (and_r (and_r (and_r (and_r (and_r cx))))))))))))))))))))))))))))))) (fun n e => by cases e; decide +kernel) (is_ex (cl := xCl) (by decide +kernel) (and_l (and_r (and_r cx)))), List.forall_mem_nil _⟩⟩⟩⟩⟩⟩⟩⟩⟩⟩⟩⟩⟩⟩⟩⟩⟩⟩⟩⟩⟩⟩⟩⟩⟩⟩⟩⟩)
theorem h_says (X : K.K.In h) (Gm : h.Ns mainGlobals K.mg) (c : He.SaysD hFa hFn K.K) (cx : hEx K.K = true) (ct : ∀ t ∈ hTs, He.dicW K.K (topA K.K t.1) = some (He.keysIn K.w.params t.2)) (cw : ∀ d ∈ hXs, xcW K.K d = d.val) : Says GG TT DP K R.prog := ⟨h_free X Gm c, h_kv X Gm c cx ct, h_fn X Gm c, h_mt X Gm c, h_mk X Gm c, h_fa X Gm c, h_cs X Gm c cx, h_er X Gm c cx cw, h_erf X Gm cx, h_isc X Gm cx⟩
end
def names : List Str := (["LiquidError", "Missing", "InvalidName", "InvalidVat", "InvalidFloat", "InvalidOutlet", "InvalidRow", "InvalidPlace", "InvalidGiven", "InvalidWish", "InvalidNumber", "InvalidAnswer", "InvalidText", "InvalidPage", "InvalidCommand", "InvalidLimit", "DuplicateName", "OtherPlant", "NotPlain", "NoFit", "TooMany", "Full", "UnknownName", "UnknownLiquid", "NothingLeft", "_law_start", "_law_pull", "_law_pick", "_law_kind", "_law_same"] : List Str) ++
  (["_law_field", "_law_odd", "_law_codes", "_law_errors", "_law_classes", "_law_named_so"] : List Str)
abbrev hk : PySem.W.Hook := hookX 5 hFa hFn hEx hTs hXs
def ob (s : PySem.W.SharedT) : AlX := obsX 5 hFa hFn hEx hTs hXs (HandSHeadRun.getT s)
theorem ob_eq (s : PySem.W.SharedT) : ob s = hk.obs s.abs := obsX_eq (HandSHeadRun.getT_eq s)
theorem run (w : World) : HandSHeadRun.RunEq R (PySem.W.view R.prog [38]) hk ob 30000 names w := by
  intro os
  kernel_rfl
end Mv
open PySem PySem.W PySem.Calls PyProof.Rows
theorem PySem.Challenge.cw_lightabove_k01_errors_by_themselves_holds : PySem.Challenge.rw_lightabove_k01_errors_by_themselves.Holds := by
  w_on; o_law
  refine HandSHeadRun.head_any (r := OpenLaw.row PySem.Challenge.rw_lightabove_k01_errors_by_themselves) (q := view (OpenLaw.row PySem.Challenge.rw_lightabove_k01_errors_by_themselves).prog [38]) (H := Mv.hk) (ob := Mv.ob) (M := 30000) (loose := Mv.names) (d := HandSHeadRun.topDef (OpenLaw.row PySem.Challenge.rw_lightabove_k01_errors_by_themselves).prog 38) (kwd := []) Mv.ob_eq
    (by kernel_rfl) (fun s => by kernel_rfl) Mv.run (by kernel_rfl) (by kernel_rfl) (by kernel_rfl) (by rfl) (by first | assumption | decide +kernel) (by decide +kernel) ⟨rfl, rfl, rfl, rfl, rfl, by decide +kernel⟩ ?hw ?hc
  case hw => w_witness2
  case hc =>
    refine L2.walk_ofE (l := PySem.Challenge.rw_lightabove_k01_errors_by_themselves) (n := 63) (k := 80) (x := "_law_script") (CX := L2.CX0) rfl (by decide) (by kernel_rfl) ⟨rfl, by decide, by decide⟩ ?F (fun _ _ _ _ z => z)
    intro w mg fa h Y G hmg0
    obtain ⟨K, KX, c, cx, ct, cw⟩ := Y
    have hmg : mg ("law" : PySem.Str) = some (.ref fa) := by
      have e : (HandSHeadRun.topDef (OpenLaw.row PySem.Challenge.rw_lightabove_k01_errors_by_themselves).prog 38).name = ("law" : PySem.Str) := by kernel_rfl
      rw [← e]
      exact hmg0
    obtain ⟨fd, F⟩ := c.def_ 11 (d := Mv.dd_law) rfl
    have hga := He.glo_ok KX G (c.fact 11 (f := .glo "law") rfl)
    refine ⟨K, fd, Mv.spL ⟨K, mg, w⟩ (Mv.TT.run 40 Mv.f_law), KX, ?_, ?_, ?_⟩
    · have b := L2.FunD.bindsA (ps := ["_law_script"]) F fun _ _ _ _ _ _ us hl => match us, hl with | [_], _ => rfl
      exact fun s u => b s [u] rfl
    · exact fun H a ns hl hO hS => Mv.law_sp (K := ⟨K, mg, w⟩) (Mv.law_true ns hl) hO hS
    · intro base _ _
      have e := hmg.symm.trans hga
      cases e
      exact Mv.law_ok (K := ⟨K, mg, w⟩) (x := "_law_script") (Mv.h_says (K := ⟨K, mg, w⟩) KX G c cx ct cw) 39 F Mv.sc_law Mv.fn_law rfl rfl rfl Mv.comp_law
