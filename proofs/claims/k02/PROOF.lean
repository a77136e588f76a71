import PyProof.Rows.All
import HandS.ForMost
import HandS.Wide
import HandS.TupAny
import HandS.TupMul
import HandS.IsInst
import HandS.Star
import HandS.Deep
import HandS.Flow
import HandS.Zip
import HandS.Walk
import HandS.Defaults
import HandS.Style
import HandS.HeadEnd
import HandS.Head2
import HandS.HeadHook2
import HandS.MakeKwOnly
import HandS.EndBits
import Wide.Once
import HandS.MakeKw
import HandS.Codes
import Wide.All
import OpenK.AllK
import Wide.FinOn
import KE.KStateDown
import PySem.Challenge.RW_lightabove_k02_names_numbers_liquids
set_option Elab.async false
set_option linter.all false
set_option maxRecDepth 100000
set_option maxHeartbeats 0
/-! LvA: codes, values, stores; the evaluator. -/
namespace Lv
open PySem (Str PyData)

inductive Val where
  | non | bl (b : Bool) | int (i : Int) | str (s : Str) | tup (vs : List Val) | ref (k : Nat) | ty (n : String) | fz (vs : List Val)
instance : Inhabited Val := ⟨.non⟩
inductive Ob where
  | lst (vs : List Val)
abbrev Store := List Ob
abbrev Rho := List (Option Val)
inductive Out (α : Type) where
  | ok (a : α) (S : Store)
  | no
/-- how a statement ends -/
inductive SO where
  | nx (r : Rho) (S : Store)
  | rt (v : Val) (S : Store)
  | bk (r : Rho) (S : Store)
  | ct (r : Rho) (S : Store)
  | no
namespace Out
def bind {α β : Type} (o : Out α) (f : α → Store → Out β) : Out β := match o with
  | .ok a S => f a S
  | .no => .no
@[simp] theorem bind_ok {α β : Type} (a : α) (S : Store) (f : α → Store → Out β) : (Out.ok a S).bind f = f a S := rfl
@[simp] theorem bind_no {α β : Type} (f : α → Store → Out β) : (Out.no : Out α).bind f = .no := rfl
end Out
namespace SO
def bind (o : SO) (f : Rho → Store → SO) : SO := match o with
  | .nx r S => f r S
  | .rt v S => .rt v S
  | .bk r S => .bk r S
  | .ct r S => .ct r S
  | .no => .no
@[simp] theorem bind_nx (r : Rho) (S : Store) (f : Rho → Store → SO) : (SO.nx r S).bind f = f r S := rfl
@[simp] theorem bind_rt (v : Val) (S : Store) (f : Rho → Store → SO) : (SO.rt v S).bind f = .rt v S := rfl
@[simp] theorem bind_bk (r : Rho) (S : Store) (f : Rho → Store → SO) : (SO.bk r S).bind f = .bk r S := rfl
@[simp] theorem bind_ct (r : Rho) (S : Store) (f : Rho → Store → SO) : (SO.ct r S).bind f = .ct r S := rfl
@[simp] theorem bind_no (f : Rho → Store → SO) : SO.no.bind f = .no := rfl
end SO
def lift {α : Type} (o : Out α) (f : α → Store → SO) : SO := match o with
  | .ok a S => f a S
  | .no => .no
@[simp] theorem lift_ok {α : Type} (a : α) (S : Store) (f : α → Store → SO) : lift (Out.ok a S) f = f a S := rfl
@[simp] theorem lift_no {α : Type} (f : α → Store → SO) : lift (Out.no : Out α) f = .no := rfl
def ofO {α : Type} (S : Store) : Option α → Out α
  | some a => .ok a S
  | none => .no
@[simp] theorem ofO_some {α : Type} (S : Store) (a : α) : ofO S (some a) = .ok a S := rfl
@[simp] theorem ofO_none {α : Type} (S : Store) : ofO S (none : Option α) = .no := rfl

inductive Bop where | add | sub | mul | fdiv | mod | pow
inductive Cop where | eq | ne | lt | le | gt | ge | inn | nin | is | isn
/-- where a parameter's value comes from: a positional value, a keyword's, a default -/
inductive Src where | p (i : Nat) | k (i : Nat) | d (v : Val)
def Src.get (vs ws : List Val) : Src → Option Val
  | .p i => vs[i]?
  | .k i => ws[i]?
  | .d v => some v
/-- codes: expressions, lists of them, targets, iterables, statements -/
inductive C where
  | nil | cons (a b : C)
  | var (i : Nat) | kint (i : Int) | kstr (s : Str) | kbl (b : Bool) | knon | kval (x : Str) | kty (n : String)
  | tup (es : C) | lst (es : C) | star (e : C)
  | bin (op : Bop) (a b : C) | neg (a : C)
  | cmp (op : Cop) (a b : C) | chain (op op' : Cop) (a b c : C)
  | and_ (a b : C) | or_ (a b : C) | not_ (a : C) | ife (t a b : C)
  | idx (a i : C) | sl (a lo hi : C)
  | call (f : Nat) (es : C) | calld (f : Nat) (es : C) (ds : List Val) | callk (f : Nat) (es : C) (src : List Src) (ws : C)
  | blt (b : String) (es : C) | mth (m : String) (o es : C)
  | lc (elt tg it ifs : C) (own : List Nat)
  | irng (a : C) | irng2 (a b : C) | ienum (e : C) | izip (a b : C)
  | tn (i : Nat) | tt (ts : C) | tsub (o i : C) | par (is : List Nat) (es : C)
  | asg (tg e : C) | expr (e : C) | ret (e : C) | retn | iff (t a b : C) | forr (tg it body : C) | whl (t body : C) | brk | cont | pass

/-! ### data -/
def SZ : Nat := 16777216
def seqAt (S : Store) (k : Nat) : Option (List Val) := match S[k]? with
  | some (.lst vs) => some vs
  | none => none
def mapO {α β : Type} (f : α → Option β) : List α → Option (List β)
  | [] => some []
  | a :: as => match f a with
    | some b => match mapO f as with
      | some bs => some (b :: bs)
      | none => none
    | none => none
def scalD : Val → Option PyData
  | .non => some .none
  | .bl b => some (.bool b)
  | .int i => some (.int i)
  | .str x => if PyData.strOk x = true then some (.str x) else none
  | _ => none
/-- a value's data, of nesting at most n -/
def toD (S : Store) : Nat → Val → Option PyData
  | 0, v => scalD v
  | n + 1, .tup vs => (mapO (toD S n) vs).map .tuple
  | n + 1, .ref k => (seqAt S k).bind fun vs => (mapO (toD S n) vs).map .list
  | _ + 1, v => scalD v
/-- the sixty levels that a comparison may go down -/
def datV (S : Store) (v : Val) : Option PyData := toD S 60 v

/-! ### truth, operators -/
def tru (S : Store) : Val → Option Bool
  | .non => some false
  | .bl b => some b
  | .int i => some (i != 0)
  | .str x => if x.length ≤ SZ then some (x.length != 0) else none
  | .tup vs => some (!vs.isEmpty)
  | .ref k => (seqAt S k).map fun vs => !vs.isEmpty
  | .ty _ => none
  | .fz _ => none
/-- a new object -/
def new (S : Store) (o : Ob) : Out Val := .ok (.ref S.length) (S ++ [o])
def newL (S : Store) (vs : List Val) : Out Val := if vs.length ≤ SZ then new S (.lst vs) else .no
def binV (S : Store) : Bop → Val → Val → Out Val
  | .add, .int i, .int j => .ok (.int (i + j)) S
  | .add, .str x, .str y => if x.length + y.length ≤ SZ then .ok (.str (x ++ y)) S else .no
  | .add, .tup xs, .tup ys => if xs.length + ys.length ≤ SZ then .ok (.tup (xs ++ ys)) S else .no
  | .add, .ref k, .ref l => match S[k]?, S[l]? with
    | some (.lst xs), some (.lst ys) => if xs.length + ys.length ≤ SZ then new S (.lst (xs ++ ys)) else .no
    | _, _ => .no
  | .sub, .int i, .int j => .ok (.int (i - j)) S
  | .mul, .int i, .int j => if (-(2 ^ 64) < i ∧ i < 2 ^ 64) ∨ (-(2 ^ 64) < j ∧ j < 2 ^ 64) then .ok (.int (i * j)) S else .no
  | .mul, .ref k, .int n => match S[k]? with
    | some (.lst xs) => if -(2 ^ 63) ≤ n ∧ n < 2 ^ 63 ∧ xs.length * n.toNat ≤ SZ then new S (.lst (List.replicate n.toNat xs).flatten) else .no
    | _ => .no
  | .mul, .tup xs, .int n => if xs ≠ [] ∧ 2 ≤ n ∧ n ≤ 1000 ∧ xs.length ≤ 1000 then .ok (.tup (List.replicate n.toNat xs).flatten) S else .no
  | .fdiv, .int i, .int j => if 0 < j ∧ j.natAbs.log2 < 9000 then .ok (.int (i / j)) S else .no
  | .mod, .int i, .int j => if 0 < j then .ok (.int (i % j)) S else .no
  | .pow, .int i, .int j => if 0 ≤ j ∧ j ≤ 1000000 ∧ i.natAbs < 2 ^ 64 then .ok (.int (i ^ j.toNat)) S else .no
  | _, _, _ => .no
/-- a text's signs -/
def signs (x : Str) : List Nat := x.cps.toList
def sign (c : Nat) : Str := ⟨#[c]⟩
def inV (S : Store) (v w : Val) : Option Bool := match w with
  | .str z => match v with
    | .str y => (match signs y with
      | [c] => some (decide (c ∈ signs z))
      | _ => none)
    | _ => none
  | .ref _ => match datV S v, datV S w with
    | some d, some (.list ds) => some (ds.any fun z => PyData.eqv z d)
    | _, _ => none
  | .tup vs => match scalD v, mapO scalD vs with
    | some d, some ds => some (ds.any fun z => PyData.eqv z d)
    | _, _ => none
  | _ => none
def cmpV (S : Store) : Cop → Val → Val → Option Bool
  | .eq, v, w => match datV S v, datV S w with
    | some d, some e => some (PyData.eqv d e)
    | _, _ => none
  | .ne, v, w => match datV S v, datV S w with
    | some d, some e => some (!PyData.eqv d e)
    | _, _ => none
  | .lt, .int i, .int j => some (decide (i < j))
  | .le, .int i, .int j => some (decide (i ≤ j))
  | .gt, .int i, .int j => some (decide (j < i))
  | .ge, .int i, .int j => some (decide (j ≤ i))
  | .inn, v, w => inV S v w
  | .nin, v, w => (inV S v w).map (!·)
  | .is, .non, .non => some true
  | .is, _, .non => some false
  | .isn, .non, .non => some false
  | .isn, _, .non => some true
  | _, _, _ => none
def idxV (S : Store) : Val → Val → Option Val
  | .ref k, .int i => (seqAt S k).bind fun vs => L2.atI vs i
  | .tup vs, .int i => L2.atI vs i
  | .str z, .int i => if z.length ≤ SZ then (L2.atI (signs z) i).map fun c => .str (sign c) else none
  | _, _ => none
def cut {α : Type} (xs : List α) (lo hi : Option Int) : List α := (xs.drop (HT.sIx xs.length 0 lo)).take (HT.sIx xs.length xs.length hi - HT.sIx xs.length 0 lo)
def slV (S : Store) (v : Val) (lo hi : Option Int) : Out Val := match v with
  | .ref k => match seqAt S k with
    | some vs => new S (.lst (cut vs lo hi))
    | none => .no
  | .tup vs => .ok (.tup (cut vs lo hi)) S
  | .fz vs => new S (.lst (cut vs lo hi))
  | .str z => if z.length ≤ SZ then .ok (.str (L2.cutS z lo hi)) S else .no
  | _ => .no

/-! ### built-in functions and methods -/
def tyN (S : Store) : Val → Option String
  | .non => some "NoneType"
  | .bl _ => some "bool"
  | .int _ => some "int"
  | .str _ => some "str"
  | .tup _ => some "tuple"
  | .ref k => (seqAt S k).map fun _ => "list"
  | .ty _ => none
  | .fz _ => none
def isIn (t : String) : List Val → Option Bool
  | [] => some false
  | .ty n :: vs => match L2.kitB t n, isIn t vs with
    | some a, some b => some (a || b)
    | _, _ => none
  | _ :: _ => none
def blOf : Val → Option Bool
  | .bl b => some b
  | _ => none
def strOf : Val → Option Str
  | .str b => some b
  | _ => none
def bltV (S : Store) (b : String) (vs : List Val) : Out Val :=
  if b = "len" then match vs with
    | [.ref k] => match seqAt S k with
      | some xs => .ok (.int xs.length) S
      | none => .no
    | [.tup xs] => .ok (.int xs.length) S
    | [.fz xs] => .ok (.int xs.length) S
    | [.str x] => if x.length ≤ SZ then .ok (.int x.length) S else .no
    | _ => .no
  else if b = "list" then match vs with
    | [.ref k] => match seqAt S k with
      | some xs => new S (.lst xs)
      | none => .no
    | [.tup xs] => new S (.lst xs)
    | _ => .no
  else if b = "tuple" then match vs with
    | [.ref k] => match seqAt S k with
      | some xs => .ok (.tup xs) S
      | none => .no
    | [.tup xs] => .ok (.tup xs) S
    | _ => .no
  else if b = "int" then match vs with
    | [.int i] => .ok (.int i) S
    | [.bl k] => .ok (.int (if k then 1 else 0)) S
    | _ => .no
  else if b = "isinstance" then match vs with
    | [v, .ty n] => match tyN S v with
      | some t => ofO S ((L2.kitB t n).map .bl)
      | none => .no
    | [v, .tup cs] => match tyN S v with
      | some t => ofO S ((isIn t cs).map .bl)
      | none => .no
    | _ => .no
  else if b = "all" then match vs with
    | [.ref k] => match (seqAt S k).bind (mapO blOf) with
      | some bs => .ok (.bl (bs.all id)) S
      | none => .no
    | _ => .no
  else if b = "any" then match vs with
    | [.ref k] => match (seqAt S k).bind (mapO blOf) with
      | some bs => .ok (.bl (bs.any id)) S
      | none => .no
    | _ => .no
  else .no
def firstIx (ds : List PyData) (d : PyData) : Option Nat := ds.findIdx? fun z => PyData.eqv z d
def mthL (S : Store) (m : String) (o : Val) (vs : List Val) : Out Val :=
  if m = "append" then match o, vs with
    | .ref k, [v] => match S[k]? with
      | some (.lst xs) => if xs.length < SZ then .ok .non (S.set k (.lst (xs ++ [v]))) else .no
      | _ => .no
    | _, _ => .no
  else if m = "clear" then match o, vs with
    | .ref k, [] => match S[k]? with
      | some (.lst xs) => .ok .non (S.set k (.lst []))
      | _ => .no
    | _, _ => .no
  else if m = "index" then match o, vs with
    | .ref k, [v] => match datV S (.ref k), datV S v with
      | some (.list ds), some d => ofO S ((firstIx ds d).map fun j => .int (j : Nat))
      | _, _ => .no
    | _, _ => .no
  else .no
def mthS (S : Store) (m : String) (o : Val) (vs : List Val) : Out Val :=
  if m = "join" then match o, vs with
    | .str a, [.ref k] => match (seqAt S k).bind (mapO strOf) with
      | some ys => if (ys.map (·.length)).sum + ys.length * a.length ≤ 16777216 then .ok (.str (PySem.Txt.join a ys)) S else .no
      | none => .no
    | _, _ => .no
  else if m = "upper" then match o, vs with
    | .str a, [] => if a.length ≤ 5592405 then .ok (.str (PySem.Txt.upper a)) S else .no
    | _, _ => .no
  else .no
/-- the method m of a value of type T -/
def mthV (S : Store) (T m : String) (o : Val) (vs : List Val) : Out Val :=
  if T = "list" then mthL S m o vs else if T = "str" then mthS S m o vs else .no

/-! ### what is walked -/
inductive Itr where
  | its (vs : List Val)
  | live (k : Nat)
  | enm (k : Nat)
  | zip (k l : Nat)
def Itr.at_ (S : Store) : Itr → Nat → Option (Option Val)
  | .its vs, i => some vs[i]?
  | .live k, i => (seqAt S k).map fun vs => vs[i]?
  | .enm k, i => (seqAt S k).map fun vs => vs[i]?.map fun v => .tup [.int (i : Nat), v]
  | .zip k l, i => match seqAt S k, seqAt S l with
    | some xs, some ys => some (match xs[i]?, ys[i]? with
      | some x, some y => some (.tup [x, y])
      | _, _ => none)
    | _, _ => none
/-- a walk's turns: n at most -/
def forN (it : Itr) (body : Val → Rho → Store → SO) : Nat → Nat → Rho → Store → SO
  | 0, _, _, _ => .no
  | n + 1, i, r, S => match it.at_ S i with
    | none => .no
    | some none => .nx r S
    | some (some v) => match body v r S with
      | .nx r' S' => forN it body n (i + 1) r' S'
      | .ct r' S' => forN it body n (i + 1) r' S'
      | .bk r' S' => .nx r' S'
      | .rt w S' => .rt w S'
      | .no => .no
def lcN (it : Itr) (D : Nat) (body : Val → Store → Out (Option Val)) : Nat → Nat → Store → Out Val
  | 0, _, _ => .no
  | n + 1, i, S => match it.at_ S i with
    | none => .no
    | some none => .ok (.ref D) S
    | some (some v) => match body v S with
      | .ok none S' => lcN it D body n (i + 1) S'
      | .ok (some y) S' => match S'[D]? with
        | some (.lst acc) => if acc.length < SZ then lcN it D body n (i + 1) (S'.set D (.lst (acc ++ [y]))) else .no
        | _ => .no
      | .no => .no
def whlN (t : Rho → Store → Out Bool) (body : Rho → Store → SO) : Nat → Rho → Store → SO
  | 0, _, _ => .no
  | n + 1, r, S => match t r S with
    | .ok true S' => (match body r S' with
      | .nx r' S'' => whlN t body n r' S''
      | .ct r' S'' => whlN t body n r' S''
      | .bk r' S'' => .nx r' S''
      | .rt w S'' => .rt w S''
      | .no => .no)
    | .ok false S' => .nx r S'
    | .no => .no
def wipe (r : Rho) (own : List Nat) : Rho := own.foldr (fun i r => r.set i none) r
/-- the most turns of a walk -/
def TURNS : Nat := 20000000

/-! ### the evaluator -/
structure Cfg where
  R : Nat → List Val → Store → Out Val
  kv : Str → Option Val
mutual
def evE (g : Cfg) : C → Rho → Store → Out Val
  | .var i, r, S => match r[i]? with
    | some (some v) => .ok v S
    | _ => .no
  | .kint i, _, S => .ok (.int i) S
  | .kstr x, _, S => .ok (.str x) S
  | .kbl b, _, S => .ok (.bl b) S
  | .knon, _, S => .ok .non S
  | .kval x, _, S => ofO S (g.kv x)
  | .kty n, _, S => .ok (.ty n) S
  | .tup es, r, S => (evEs g es r S).bind fun vs S1 => if vs.length ≤ SZ then .ok (.tup vs) S1 else .no
  | .lst es, r, S => (evEs g es r S).bind fun vs S1 => newL S1 vs
  | .bin op a b, r, S => (evE g a r S).bind fun v S1 => (evE g b r S1).bind fun w S2 => binV S2 op v w
  | .neg a, r, S => (evE g a r S).bind fun v S1 => match v with
    | .int i => .ok (.int (-i)) S1
    | _ => .no
  | .cmp op a b, r, S => (evE g a r S).bind fun v S1 => (evE g b r S1).bind fun w S2 => ofO S2 ((cmpV S2 op v w).map .bl)
  | .chain op op' a b c, r, S => (evE g a r S).bind fun v S1 => (evE g b r S1).bind fun w S2 => match cmpV S2 op v w with
    | some true => (evE g c r S2).bind fun u S3 => ofO S3 ((cmpV S3 op' w u).map .bl)
    | some false => .ok (.bl false) S2
    | none => .no
  | .and_ a b, r, S => (evE g a r S).bind fun v S1 => match tru S1 v with
    | some true => evE g b r S1
    | some false => .ok v S1
    | none => .no
  | .or_ a b, r, S => (evE g a r S).bind fun v S1 => match tru S1 v with
    | some true => .ok v S1
    | some false => evE g b r S1
    | none => .no
  | .not_ a, r, S => (evE g a r S).bind fun v S1 => ofO S1 ((tru S1 v).map fun b => .bl (!b))
  | .ife t a b, r, S => (evT g t r S).bind fun c S1 => match c with
    | true => evE g a r S1
    | false => evE g b r S1
  | .idx a i, r, S => (evE g a r S).bind fun v S1 => (evE g i r S1).bind fun w S2 => ofO S2 (idxV S2 v w)
  | .sl a lo hi, r, S => (evE g a r S).bind fun v S1 => (evO g lo r S1).bind fun l S2 => (evO g hi r S2).bind fun h S3 => slV S3 v l h
  | .call f es, r, S => (evEs g es r S).bind fun vs S1 => g.R f vs S1
  | .calld f es ds, r, S => (evEs g es r S).bind fun vs S1 => g.R f (vs ++ ds) S1
  | .callk f es src ws, r, S => (evEs g es r S).bind fun vs S1 => (evEs g ws r S1).bind fun us S2 => match mapO (Src.get vs us) src with
    | some as => g.R f as S2
    | none => .no
  | .blt b es, r, S => (evEs g es r S).bind fun vs S1 => bltV S1 b vs
  | .mth m o es, r, S => (evE g o r S).bind fun v S1 => (evEs g es r S1).bind fun vs S2 => match tyN S1 v with
    | some T => mthV S2 T m v vs
    | none => .no
  | .lc elt tg it ifs own, r, S => (evI g it r S).bind fun j S1 => lcN j S1.length (fun v S2 => (evG g tg v (wipe r own) S2).bind fun r1 S3 => (evF g ifs r1 S3).bind fun b S4 => match b with
    | true => (evE g elt r1 S4).bind fun y S5 => .ok (some y) S5
    | false => .ok none S4) TURNS 0 (S1 ++ [.lst []])
  | _, _, _ => .no
/-- a test -/
def evT (g : Cfg) : C → Rho → Store → Out Bool
  | .not_ a, r, S => (evT g a r S).bind fun b S1 => .ok (!b) S1
  | .and_ a b, r, S => (evT g a r S).bind fun c S1 => match c with
    | true => evT g b r S1
    | false => .ok false S1
  | .or_ a b, r, S => (evT g a r S).bind fun c S1 => match c with
    | true => .ok true S1
    | false => evT g b r S1
  | .ife t a b, r, S => (evT g t r S).bind fun c S1 => match c with
    | true => evT g a r S1
    | false => evT g b r S1
  | c, r, S => (evE g c r S).bind fun v S1 => ofO S1 (tru S1 v)
/-- an optional part of a slice -/
def evO (g : Cfg) : C → Rho → Store → Out (Option Int)
  | .nil, _, S => .ok none S
  | c, r, S => (evE g c r S).bind fun v S1 => match v with
    | .int i => .ok (some i) S1
    | _ => .no
def evEs (g : Cfg) : C → Rho → Store → Out (List Val)
  | .nil, _, S => .ok [] S
  | .cons (.star e) es, r, S => (evE g e r S).bind fun v S1 => match (match v with
      | .ref k => seqAt S1 k
      | .tup vs => some vs
      | _ => none) with
    | some xs => (evEs g es r S1).bind fun vs S2 => .ok (xs ++ vs) S2
    | none => .no
  | .cons e es, r, S => (evE g e r S).bind fun v S1 => (evEs g es r S1).bind fun vs S2 => .ok (v :: vs) S2
  | _, _, _ => .no
/-- the tests of a comprehension: none or one -/
def evF (g : Cfg) : C → Rho → Store → Out Bool
  | .nil, _, S => .ok true S
  | .cons t .nil, r, S => evT g t r S
  | _, _, _ => .no
/-- what is walked -/
def evI (g : Cfg) : C → Rho → Store → Out Itr
  | .irng a, r, S => (evE g a r S).bind fun v S1 => match v with
    | .int j => if -(2 ^ 62) ≤ j ∧ j < 2 ^ 62 then .ok (.its ((List.range j.toNat).map fun (i : Nat) => .int (i : Int))) S1 else .no
    | _ => .no
  | .irng2 a b, r, S => (evE g a r S).bind fun v S1 => (evE g b r S1).bind fun w S2 => match v, w with
    | .int i, .int j => if -(2 ^ 62) ≤ i ∧ i < 2 ^ 62 ∧ -(2 ^ 62) ≤ j ∧ j < 2 ^ 62 then .ok (.its ((List.range (j - i).toNat).map fun (n : Nat) => .int (i + (n : Int)))) S2 else .no
    | _, _ => .no
  | .ienum e, r, S => (evE g e r S).bind fun v S1 => match v with
    | .ref k => .ok (.enm k) S1
    | _ => .no
  | .izip a b, r, S => (evE g a r S).bind fun v S1 => (evE g b r S1).bind fun w S2 => match v, w with
    | .ref k, .ref l => .ok (.zip k l) S2
    | .tup xs, .tup ys => .ok (.its (List.zipWith (fun x y => .tup [x, y]) xs ys)) S2
    | _, _ => .no
  | c, r, S => (evE g c r S).bind fun v S1 => match v with
    | .ref k => .ok (.live k) S1
    | .tup vs => .ok (.its vs) S1
    | .str x => .ok (.its ((signs x).map fun c => .str (sign c))) S1
    | _ => .no
/-- a target takes a value -/
def evG (g : Cfg) : C → Val → Rho → Store → Out Rho
  | .tn i, v, r, S => .ok (r.set i (some v)) S
  | .tt ts, v, r, S => match v with
    | .tup vs => evGs g ts vs r S
    | _ => .no
  | .tsub o i, v, r, S => (evE g o r S).bind fun x S1 => (evE g i r S1).bind fun j S2 => match x, j with
    | .ref k, .int n => match S2[k]? with
      | some (.lst xs) => match L2.ixN xs.length n with
        | some m => .ok r (S2.set k (.lst (xs.set m v)))
        | none => .no
      | _ => .no
    | _, _ => .no
  | _, _, _, _ => .no
def evGs (g : Cfg) : C → List Val → Rho → Store → Out Rho
  | .nil, [], r, S => .ok r S
  | .cons t ts, v :: vs, r, S => (evG g t v r S).bind fun r1 S1 => evGs g ts vs r1 S1
  | _, _, _, _ => .no
end
mutual
def evS (g : Cfg) : C → Rho → Store → SO
  | .asg tg e, r, S => lift (evE g e r S) fun v S1 => lift (evG g tg v r S1) .nx
  | .par is es, r, S => lift (evEs g es r S) fun vs S1 => if vs.length = is.length then .nx ((is.zip vs).foldl (fun r q => r.set q.1 (some q.2)) r) S1 else .no
  | .expr e, r, S => lift (evE g e r S) fun _ S1 => .nx r S1
  | .ret e, r, S => lift (evE g e r S) .rt
  | .retn, _, S => .rt .non S
  | .iff t a b, r, S => lift (evT g t r S) fun c S1 => match c with
    | true => evSs g a r S1
    | false => evSs g b r S1
  | .forr tg it body, r, S => lift (evI g it r S) fun j S1 => forN j (fun v r S => lift (evG g tg v r S) fun r1 S1 => evSs g body r1 S1) TURNS 0 r S1
  | .whl t body, r, S => whlN (evT g t) (evSs g body) TURNS r S
  | .brk, r, S => .bk r S
  | .cont, r, S => .ct r S
  | .pass, r, S => .nx r S
  | _, _, _ => .no
def evSs (g : Cfg) : C → Rho → Store → SO
  | .nil, r, S => .nx r S
  | .cons s ss, r, S => (evS g s r S).bind fun r1 S1 => evSs g ss r1 S1
  | _, _, _ => .no
end
/-- a def: its name's number of slots, its parameters, its body -/
structure Fn where
  ar : Nat
  slots : Nat
  body : C
def startR (n : Nat) (vs : List Val) : Rho := vs.map some ++ List.replicate (n - vs.length) none
def endR : SO → Out Val
  | .nx _ S => .ok .non S
  | .rt v S => .ok v S
  | _ => .no
/-- the defs of a text -/
structure Tab where
  fn : Nat → Option Fn
  kv : Str → Option Val
def Tab.run (T : Tab) : Nat → Nat → List Val → Store → Out Val
  | 0, _, _, _ => .no
  | n + 1, f, vs, S => match T.fn f with
    | some d => if vs.length = d.ar then endR (evSs ⟨T.run n, T.kv⟩ d.body (startR d.slots vs) S) else .no
    | none => .no
end Lv

/-! LvB: values and stores against the abstract heap; each operation against the hand layer's rule. -/
namespace Lv
open PySem PySem.Spec PyProof.Rows L2

theorem sz_eq : SZ = sizeLine := by rw [sizeLine_eq] <;> rfl
theorem sz_le {n : Nat} (h : n ≤ SZ) : n ≤ sizeLine := by rw [← sz_eq]; exact h
theorem sz_lt {n : Nat} (h : n < SZ) : n < sizeLine := by rw [← sz_eq]; exact h

/-- a tuple, tracked or written -/
def TupAt (K : PySem.W.Frag) (H : Hp) (a : Addr) (xs : List V) : Prop :=
  H a = some (.tup xs) ∨ ∃ (o : Obj) (its : Array Value) (n : Nat), K.lookup a = some o ∧ o.cls = .type "tuple" ∧ o.data = .seq its n ∧ its.size ≤ sizeLine ∧ Vals xs its.toList
theorem TupAt.sq {K : PySem.W.Frag} {H : Hp} {a : Addr} {xs : List V} (h : TupAt K H a xs) : SqT K H a xs := by
  rcases h with h | h
  · exact .inl (.inl h)
  · exact .inr h
/-- a list that is never written: frozen, or of the written part -/
def FzAt (K : PySem.W.Frag) (H : Hp) (a : Addr) (xs : List V) : Prop :=
  (∃ o, H a = some (.frz o (.lst xs))) ∨ ∃ (o : Obj) (its : Array Value) (n : Nat), K.lookup a = some o ∧ o.cls = .type "list" ∧ o.dict = none ∧ o.data = .seq its n ∧ its.size ≤ sizeLine ∧ Vals xs its.toList
theorem FzAt.sq {K : PySem.W.Frag} {H : Hp} {a : Addr} {xs : List V} (h : FzAt K H a xs) : SqL K H a xs := by
  rcases h with h | h
  · exact .inl (.inr h)
  · exact .inr h
section
variable (K : PySem.W.Frag)
mutual
/-- a value of the store's against one of the layer's -/
inductive RV (H : Hp) (as : List Addr) : Val → V → Prop
  | non : RV H as .non .non
  | bl (b : Bool) : RV H as (.bl b) (.bl b)
  | int (i : Int) : RV H as (.int i) (.int i)
  | str (x : Str) : RV H as (.str x) (.str x)
  | ty (n : String) : RV H as (.ty n) (.ty n)
  | ref {k : Nat} {a : Addr} : as[k]? = some a → RV H as (.ref k) (.ref a)
  | tup {vs : List Val} {a : Addr} {xs : List V} : TupAt K H a xs → RVs H as vs xs → RV H as (.tup vs) (.ref a)
  | fz {vs : List Val} {a : Addr} {xs : List V} : FzAt K H a xs → RVs H as vs xs → RV H as (.fz vs) (.ref a)
inductive RVs (H : Hp) (as : List Addr) : List Val → List V → Prop
  | nil : RVs H as [] []
  | cons {v : Val} {x : V} {vs : List Val} {xs : List V} : RV H as v x → RVs H as vs xs → RVs H as (v :: vs) (x :: xs)
end
/-- an object of the store's at its address -/
def RO (H : Hp) (as : List Addr) (a : Addr) : Ob → Prop
  | .lst vs => ∃ xs, H a = some (.lst xs) ∧ RVs K H as vs xs
structure RS (H : Hp) (as : List Addr) (S : Store) : Prop where
  len : as.length = S.length
  nd : as.Nodup
  at_ : ∀ (k : Nat) (a : Addr) (o : Ob), as[k]? = some a → S[k]? = some o → RO K H as a o
/-- tuples and frozen things stay -/
def Kp (H H' : Hp) : Prop := ∀ a o, H a = some o → (match o with
  | .tup _ => True
  | .frz _ _ => True
  | _ => False) → H' a = some o
def RR (H : Hp) (as : List Addr) : Rho → L2.St → Prop := fun r σ => r.length = σ.length ∧ ∀ (i : Nat) v, r[i]? = some (some v) → ∃ x, σ[i]? = some (some x) ∧ RV K H as v x
end
section
variable {K : PySem.W.Frag} {H H' H'' : Hp} {as bs cs : List Addr} {S S' : Store} {v w : Val} {x y : V} {vs : List Val} {xs : List V} {r : Rho} {σ : L2.St}
theorem Kp.refl : Kp H H := fun _ _ h _ => h
theorem Kp.trans (a : Kp H H') (b : Kp H' H'') : Kp H H'' := fun p o h t => b p o (a p o h t) t
theorem Kp.tupAt (k : Kp H H') {a : Addr} {xs : List V} (h : TupAt K H a xs) : TupAt K H' a xs := by
  rcases h with h | h
  · exact .inl (k _ _ h trivial)
  · exact .inr h
theorem Kp.fzAt (k : Kp H H') {a : Addr} {xs : List V} (h : FzAt K H a xs) : FzAt K H' a xs := by
  rcases h with ⟨o, h⟩ | h
  · exact .inl ⟨o, k _ _ h trivial⟩
  · exact .inr h
theorem pre_get (p : as <+: bs) {k : Nat} {a : Addr} (h : as[k]? = some a) : bs[k]? = some a := by
  obtain ⟨t, rfl⟩ := p
  obtain ⟨hk, _⟩ := List.getElem?_eq_some_iff.mp h
  rw [List.getElem?_append_left hk]
  exact h
mutual
theorem RV.mono (p : as <+: bs) (k : Kp H H') : ∀ {v : Val} {x : V}, RV K H as v x → RV K H' bs v x
  | _, _, .non => .non
  | _, _, .bl b => .bl b
  | _, _, .int i => .int i
  | _, _, .str z => .str z
  | _, _, .ty n => .ty n
  | _, _, .ref h => .ref (pre_get p h)
  | _, _, .tup h t => .tup (k.tupAt h) (RVs.mono p k t)
  | _, _, .fz h t => .fz (k.fzAt h) (RVs.mono p k t)
theorem RVs.mono (p : as <+: bs) (k : Kp H H') : ∀ {vs : List Val} {xs : List V}, RVs K H as vs xs → RVs K H' bs vs xs
  | _, _, .nil => .nil
  | _, _, .cons h t => .cons (RV.mono p k h) (RVs.mono p k t)
end
theorem RVs.length : ∀ {vs : List Val} {xs : List V}, RVs K H as vs xs → vs.length = xs.length
  | _, _, .nil => rfl
  | _, _, .cons _ t => congrArg Nat.succ (RVs.length t)
theorem RVs.get : ∀ {vs : List Val} {xs : List V}, RVs K H as vs xs → ∀ {i : Nat} {v : Val}, vs[i]? = some v → ∃ x, xs[i]? = some x ∧ RV K H as v x
  | _, _, .nil, i, v, h => by simp at h
  | _, _, .cons h _, 0, v, e => by
    simp at e
    subst e
    exact ⟨_, rfl, h⟩
  | _, _, .cons _ t, i + 1, v, e => by
    obtain ⟨x, h1, h2⟩ := RVs.get t (i := i) (v := v) (by simpa using e)
    exact ⟨x, by simpa using h1, h2⟩
theorem RVs.none_of (h : RVs K H as vs xs) {i : Nat} (e : vs[i]? = none) : xs[i]? = none := by
  have l := h.length
  rw [List.getElem?_eq_none_iff] at e ⊢
  omega
theorem RVs.append : ∀ {vs : List Val} {xs : List V}, RVs K H as vs xs → ∀ {ws : List Val} {ys : List V}, RVs K H as ws ys → RVs K H as (vs ++ ws) (xs ++ ys)
  | _, _, .nil, _, _, t => t
  | _, _, .cons h t, _, _, u => .cons h (RVs.append t u)
theorem RVs.take : ∀ {vs : List Val} {xs : List V} (n : Nat), RVs K H as vs xs → RVs K H as (vs.take n) (xs.take n)
  | _, _, 0, _ => .nil
  | _, _, _ + 1, .nil => .nil
  | _, _, n + 1, .cons h t => .cons h (RVs.take n t)
theorem RVs.drop : ∀ {vs : List Val} {xs : List V} (n : Nat), RVs K H as vs xs → RVs K H as (vs.drop n) (xs.drop n)
  | _, _, 0, h => h
  | _, _, _ + 1, .nil => .nil
  | _, _, n + 1, .cons h t => RVs.drop n t
theorem RVs.set (h : RV K H as v x) : ∀ {vs : List Val} {xs : List V} (i : Nat), RVs K H as vs xs → RVs K H as (vs.set i v) (xs.set i x)
  | _, _, _, .nil => .nil
  | _, _, 0, .cons _ t => .cons h t
  | _, _, i + 1, .cons q t => .cons q (RVs.set h i t)
theorem RVs.rep (h : RVs K H as vs xs) : ∀ n : Nat, RVs K H as (List.replicate n vs).flatten (List.replicate n xs).flatten
  | 0 => .nil
  | n + 1 => by
    rw [List.replicate_succ, List.replicate_succ, List.flatten_cons, List.flatten_cons]
    exact h.append (RVs.rep h n)
theorem RVs.ints : ∀ (ns : List Int), RVs K H as (ns.map .int) (ns.map .int)
  | [] => .nil
  | n :: ns => .cons (.int n) (RVs.ints ns)
theorem RO.mono (p : as <+: bs) (k : Kp H H') {a : Addr} (e : H' a = H a) : ∀ {o : Ob}, RO K H as a o → RO K H' bs a o
  | .lst _, ⟨xs, h, t⟩ => ⟨xs, e.trans h, t.mono p k⟩
theorem RO.some {a : Addr} : ∀ {o : Ob}, RO K H as a o → ∃ h, H a = some h
  | .lst _, ⟨_, h, _⟩ => ⟨_, h⟩
theorem RS.get (rs : RS K H as S) {k : Nat} {o : Ob} (h : S[k]? = Option.some o) : ∃ a, as[k]? = Option.some a ∧ RO K H as a o := by
  obtain ⟨hk, _⟩ := List.getElem?_eq_some_iff.mp h
  have hk2 : k < as.length := by rw [rs.len]; exact hk
  exact ⟨as[k], List.getElem?_eq_getElem hk2, rs.at_ k _ o (List.getElem?_eq_getElem hk2) h⟩
theorem RS.get' (rs : RS K H as S) {k : Nat} {a : Addr} (h : as[k]? = Option.some a) : ∃ o, S[k]? = Option.some o ∧ RO K H as a o := by
  obtain ⟨hk, _⟩ := List.getElem?_eq_some_iff.mp h
  have hk2 : k < S.length := by rw [← rs.len]; exact hk
  exact ⟨S[k], List.getElem?_eq_getElem hk2, rs.at_ k a _ h (List.getElem?_eq_getElem hk2)⟩
/-- nothing of the store lies at a free address -/
theorem RS.free (rs : RS K H as S) {p : Addr} (h : H p = none) : p ∉ as := fun hp => by
  obtain ⟨k, hk, e⟩ := List.getElem_of_mem hp
  obtain ⟨o, _, ro⟩ := rs.get' (k := k) (a := p) (by rw [← e]; exact List.getElem?_eq_getElem hk)
  obtain ⟨u, hu⟩ := ro.some
  rw [h] at hu
  cases hu
theorem Kp.write {p : Addr} {o : HO} (h : ∀ u, H p = some u → (match u with
  | .tup _ => False
  | .frz _ _ => False
  | _ => True)) : Kp H (upd H p o) := fun a u e t => by
  have n : a ≠ p := by
    rintro rfl
    have q := h u e
    cases u <;> first | exact absurd t id | exact absurd q id
  rw [upd_ne n]
  exact e
theorem Kp.new {p : Addr} {o : HO} (h : H p = none) : Kp H (upd H p o) := Kp.write fun u e => by rw [h] at e; cases e
/-- a new object -/
theorem RS.push (rs : RS K H as S) {p : Addr} {o : HO} {ob : Ob} (h : H p = none) (new : RO K (L2.upd H p o) (as ++ [p]) p ob) : RS K (L2.upd H p o) (as ++ [p]) (S ++ [ob]) := by
  have np := rs.free h
  refine ⟨by simp [rs.len], ?_, fun k a u hk hu => ?_⟩
  · rw [List.nodup_append]
    refine ⟨rs.nd, by simp, fun a ha b hb => ?_⟩
    rw [List.mem_singleton] at hb
    rintro rfl
    exact np (hb ▸ ha)
  · by_cases hlt : k < as.length
    · rw [List.getElem?_append_left hlt] at hk
      rw [List.getElem?_append_left (by rw [← rs.len]; exact hlt)] at hu
      have ro := rs.at_ k a u hk hu
      have hne : a ≠ p := fun e => np (e ▸ List.mem_of_getElem? hk)
      exact ro.mono (List.prefix_append _ _) (Kp.new h) (upd_ne hne)
    · have hle : as.length ≤ k := Nat.le_of_not_lt hlt
      rw [List.getElem?_append_right hle] at hk
      rw [List.getElem?_append_right (by rw [← rs.len]; exact hle)] at hu
      have e0 : k - as.length = 0 := by
        by_cases z : k - as.length = 0
        · exact z
        · obtain ⟨m, hm⟩ := Nat.exists_eq_succ_of_ne_zero z
          rw [hm] at hk
          simp at hk
      have e1 : k - S.length = 0 := by rw [← rs.len]; exact e0
      rw [e0] at hk
      rw [e1] at hu
      cases hk
      cases hu
      exact new
/-- a list is written -/
theorem RS.write (rs : RS K H as S) {k : Nat} {a : Addr} {zs : List V} (hk : as[k]? = Option.some a) {ys : List V} (hy : H a = Option.some (.lst ys)) {ws : List Val} (h : RVs K H as ws zs) : RS K (L2.upd H a (.lst zs)) as (S.set k (.lst ws)) := by
  have kp : Kp H (L2.upd H a (.lst zs)) := Kp.write fun u e => by rw [hy] at e; cases e; trivial
  refine ⟨by simp [rs.len], rs.nd, fun j b u hj hu => ?_⟩
  by_cases e : k = j
  · subst e
    rw [hk] at hj
    cases hj
    obtain ⟨hl, _⟩ := List.getElem?_eq_some_iff.mp hu
    rw [List.length_set] at hl
    rw [List.getElem?_set_self hl] at hu
    cases hu
    exact ⟨zs, upd_same, h.mono (List.prefix_refl _) kp⟩
  · rw [List.getElem?_set_ne e] at hu
    have ne : b ≠ a := by
      rintro rfl
      obtain ⟨h1, e1⟩ := List.getElem?_eq_some_iff.mp hk
      obtain ⟨h2, e2⟩ := List.getElem?_eq_some_iff.mp hj
      have pw := List.pairwise_iff_getElem.mp rs.nd
      rcases Nat.lt_trichotomy k j with q | q | q
      · exact pw k j h1 h2 q (e1.trans e2.symm)
      · exact e q
      · exact pw j k h2 h1 q (e2.trans e1.symm)
    exact (rs.at_ j b u hj hu).mono (List.prefix_refl _) kp (upd_ne ne)
theorem RR.mono (p : as <+: bs) (k : Kp H H') (h : RR K H as r σ) : RR K H' bs r σ := ⟨h.1, fun i v e => by
  obtain ⟨x, h1, h2⟩ := h.2 i v e
  exact ⟨x, h1, h2.mono p k⟩⟩
theorem RR.set (h : RR K H as r σ) (hv : RV K H as v x) (i : Nat) : RR K H as (r.set i (some v)) (σ.set i (some x)) := by
  refine ⟨by simp [h.1], fun j w e => ?_⟩
  by_cases q : i = j
  · subst q
    obtain ⟨hl, e2⟩ := List.getElem?_eq_some_iff.mp e
    rw [List.length_set] at hl
    rw [List.getElem?_set_self hl] at e
    cases e
    exact ⟨x, List.getElem?_set_self (by rw [← h.1]; exact hl), hv⟩
  · rw [List.getElem?_set_ne q] at e ⊢
    exact h.2 j w e
theorem RR.wipe (h : RR K H as r σ) : ∀ own : List Nat, RR K H as (Lv.wipe r own) (L2.wipe σ own)
  | [] => h
  | i :: own => by
    have q := RR.wipe h own
    show RR K H as ((Lv.wipe r own).set i none) ((L2.wipe σ own).set i none)
    refine ⟨by simp [q.1], fun j w e => ?_⟩
    by_cases z : i = j
    · subst z
      obtain ⟨hl, e2⟩ := List.getElem?_eq_some_iff.mp e
      rw [List.length_set] at hl
      rw [List.getElem?_set_self hl] at e
      cases e
    · rw [List.getElem?_set_ne z] at e ⊢
      exact q.2 j w e
end

/-! ### what an outcome promises -/
section
variable (K : PySem.W.Frag)
def Fin {α β : Type} (Rel : Hp → List Addr → α → β → Prop) (as : List Addr) (H : Hp) (o : Out α) (Q : β → Hp → Prop) : Prop := match o with
  | .ok a S' => ∀ bs H' b, as <+: bs → Kp H H' → RS K H' bs S' → Rel H' bs a b → Q b H'
  | .no => False
abbrev FinV := Fin K (RV K)
abbrev FinB := Fin K (fun _ _ (a b : Bool) => a = b)
abbrev FinA := Fin K (RVs K)
abbrev FinO := Fin K (fun _ _ (a b : Option Int) => a = b)
end
section
variable {K : PySem.W.Frag} {α β γ : Type} {Rel : Hp → List Addr → α → β → Prop} {as bs : List Addr} {H H' : Hp} {o : Out α} {Q : β → Hp → Prop} {S : Store}
theorem Fin.mono (p : as <+: bs) (k : Kp H H') (h : Fin K Rel as H o Q) : Fin K Rel bs H' o Q := by
  cases o with
  | ok a S' => exact fun cs H2 b p2 k2 rs r => h cs H2 b (p.trans p2) (k.trans k2) rs r
  | no => exact h
theorem Fin.ok {a : α} {b : β} (h : Fin K Rel as H (.ok a S) Q) (rs : RS K H as S) (r : Rel H as a b) : Q b H := h as H b (List.prefix_refl _) Kp.refl rs r
theorem Fin.imp {Q' : β → Hp → Prop} (h : Fin K Rel as H o Q) (hq : ∀ b H', Q b H' → Q' b H') : Fin K Rel as H o Q' := by
  cases o with
  | ok a S' => exact fun cs H2 b p2 k2 rs r => hq _ _ (h cs H2 b p2 k2 rs r)
  | no => exact h
/-- a new list -/
theorem fin_new {vs : List Val} {xs : List V} {Q : V → Hp → Prop} (h : FinV K as H (new S (.lst vs)) Q) (rs : RS K H as S) (r : RVs K H as vs xs) (p : Addr) (hp : H p = none) : Q (.ref p) (upd H p (.lst xs)) := by
  have kp : Kp H (upd H p (.lst xs)) := Kp.new hp
  refine h (as ++ [p]) _ (.ref p) (List.prefix_append _ _) kp (rs.push hp ⟨xs, upd_same, r.mono (List.prefix_append _ _) kp⟩) (.ref ?_)
  rw [← rs.len, List.getElem?_append_right (Nat.le_refl _), Nat.sub_self]
  rfl
/-- a new tuple -/
theorem fin_tup {vs : List Val} {xs : List V} {Q : V → Hp → Prop} (h : FinV K as H (.ok (.tup vs) S) Q) (rs : RS K H as S) (r : RVs K H as vs xs) (p : Addr) (hp : H p = none) : Q (.ref p) (upd H p (.tup xs)) := by
  have kp : Kp H (upd H p (.tup xs)) := Kp.new hp
  refine h as _ (.ref p) (List.prefix_refl _) kp ⟨rs.len, rs.nd, fun k a o hk ho => ?_⟩ (.tup (.inl upd_same) (r.mono (List.prefix_refl _) kp))
  have hne : a ≠ p := fun e => rs.free hp (e ▸ List.mem_of_getElem? hk)
  exact (rs.at_ k a o hk ho).mono (List.prefix_refl _) kp (upd_ne hne)
/-- a list of the store's -/
theorem RS.seq (rs : RS K H as S) {k : Nat} {a : Addr} {vs : List Val} (h : seqAt S k = some vs) (hk : as[k]? = some a) : ∃ xs, SqL K H a xs ∧ RVs K H as vs xs := by
  unfold seqAt at h
  cases e : S[k]? with
  | none =>
    rw [e] at h
    cases h
  | some o =>
    rw [e] at h
    have ro := rs.at_ k a o hk e
    cases o with
    | lst ws =>
      cases h
      obtain ⟨xs, h1, h2⟩ := ro
      exact ⟨xs, SqL.of h1, h2⟩
theorem RS.lst (rs : RS K H as S) {k : Nat} {a : Addr} {vs : List Val} (h : S[k]? = some (.lst vs)) (hk : as[k]? = some a) : ∃ xs, H a = some (.lst xs) ∧ RVs K H as vs xs := rs.at_ k a _ hk h
end

/-! ### data -/
section
variable {K : PySem.W.Frag} {as : List Addr} {H : Hp} {S : Store}
theorem mapO_length {α β : Type} {f : α → Option β} : ∀ {xs : List α} {ys : List β}, mapO f xs = some ys → ys.length = xs.length
  | [], ys, h => by cases h; rfl
  | x :: xs, ys, h => by
    unfold mapO at h
    cases e : f x with
    | none => rw [e] at h; cases h
    | some b =>
      rw [e] at h
      cases e2 : mapO f xs with
      | none => rw [e2] at h; cases h
      | some bs =>
        rw [e2] at h
        cases h
        exact congrArg Nat.succ (mapO_length e2)
theorem mapO_cons {α β : Type} {f : α → Option β} {x : α} {xs : List α} {ys : List β} (h : mapO f (x :: xs) = some ys) : ∃ b bs, ys = b :: bs ∧ f x = some b ∧ mapO f xs = some bs := by
  unfold mapO at h
  cases e : f x with
  | none => rw [e] at h; cases h
  | some b =>
    rw [e] at h
    cases e2 : mapO f xs with
    | none => rw [e2] at h; cases h
    | some bs =>
      rw [e2] at h
      cases h
      exact ⟨b, bs, rfl, rfl, rfl⟩
theorem scalD_dp {v : Val} {x : V} {d : PyData} (h : scalD v = some d) (r : RV K H as v x) : Dp K H x d ∧ d.canLay0 = true ∧ d.depth = 0 := by
  cases r with
  | non => cases h; exact ⟨.non, by simp [PyData.canLay0], by simp [PyData.depth]⟩
  | bl b => cases h; exact ⟨.bl b, by simp [PyData.canLay0], by simp [PyData.depth]⟩
  | int i => cases h; exact ⟨.int i, by simp [PyData.canLay0], by simp [PyData.depth]⟩
  | str z =>
    have h : (if PyData.strOk z = true then some (PyData.str z) else none) = some d := h
    by_cases hz : PyData.strOk z = true
    · rw [if_pos hz] at h
      cases h
      exact ⟨.str z, by simpa [PyData.canLay0] using hz, by simp [PyData.depth]⟩
    · rw [if_neg hz] at h
      cases h
  | ty n => cases h
  | ref e => cases h
  | tup a b => cases h
  | fz a b => cases h
theorem all_dp {f : Val → Option PyData} {n : Nat} (hf : ∀ {v : Val} {x : V} {d : PyData}, f v = some d → RV K H as v x → Dp K H x d ∧ d.canLay0 = true ∧ d.depth ≤ n) :
    ∀ {vs : List Val} {xs : List V} {ds : List PyData}, mapO f vs = some ds → RVs K H as vs xs → DpAll K H xs ds ∧ PyData.canLayAll0 ds = true ∧ PyData.depthAll ds ≤ n
  | _, _, ds, h, .nil => by
    cases h
    exact ⟨.nil, by simp [PyData.canLayAll0], by simp [PyData.depthAll]⟩
  | _, _, ds, h, .cons r t => by
    obtain ⟨b, bs, rfl, h1, h2⟩ := mapO_cons h
    obtain ⟨a1, a2, a3⟩ := hf h1 r
    obtain ⟨b1, b2, b3⟩ := all_dp hf h2 t
    exact ⟨.cons a1 b1, by simp [PyData.canLayAll0, a2, b2], by simp only [PyData.depthAll]; omega⟩
theorem toD_dp (rs : RS K H as S) : ∀ (n : Nat) {v : Val} {x : V} {d : PyData}, toD S n v = some d → RV K H as v x → Dp K H x d ∧ d.canLay0 = true ∧ d.depth ≤ n
  | 0, v, x, d, h, r => by
    obtain ⟨a, b, c⟩ := scalD_dp (show scalD v = some d from h) r
    exact ⟨a, b, Nat.le_of_eq c⟩
  | n + 1, v, x, d, h, r => by
    cases r with
    | tup hs ht =>
      rename_i vs a xs
      have h : (mapO (toD S n) vs).map PyData.tuple = some d := h
      cases e : mapO (toD S n) vs with
      | none => rw [e] at h; cases h
      | some ds =>
        rw [e] at h
        cases h
        obtain ⟨a1, a2, a3⟩ := all_dp (fun h r => toD_dp rs n h r) e ht
        exact ⟨.tup hs.sq a1, by simpa [PyData.canLay0] using a2, by simp only [PyData.depth]; omega⟩
    | ref hk =>
      rename_i k a
      have h : ((seqAt S k).bind fun vs => (mapO (toD S n) vs).map PyData.list) = some d := h
      cases e0 : seqAt S k with
      | none => rw [e0] at h; cases h
      | some vs =>
        rw [e0] at h
        have h : (mapO (toD S n) vs).map PyData.list = some d := h
        cases e : mapO (toD S n) vs with
        | none => rw [e] at h; cases h
        | some ds =>
          rw [e] at h
          cases h
          obtain ⟨xs, hs, ht⟩ := rs.seq e0 hk
          obtain ⟨a1, a2, a3⟩ := all_dp (fun h r => toD_dp rs n h r) e ht
          exact ⟨.lst hs a1, by simpa [PyData.canLay0] using a2, by simp only [PyData.depth]; omega⟩
    | non =>
      obtain ⟨a, b, c⟩ := scalD_dp (K := K) (H := H) (as := as) (v := Val.non) (show scalD Val.non = some d from h) .non
      exact ⟨a, b, by omega⟩
    | bl z =>
      obtain ⟨a, b, c⟩ := scalD_dp (K := K) (H := H) (as := as) (v := Val.bl z) (show scalD (Val.bl z) = some d from h) (.bl z)
      exact ⟨a, b, by omega⟩
    | int z =>
      obtain ⟨a, b, c⟩ := scalD_dp (K := K) (H := H) (as := as) (v := Val.int z) (show scalD (Val.int z) = some d from h) (.int z)
      exact ⟨a, b, by omega⟩
    | str z =>
      obtain ⟨a, b, c⟩ := scalD_dp (K := K) (H := H) (as := as) (v := Val.str z) (show scalD (Val.str z) = some d from h) (.str z)
      exact ⟨a, b, by omega⟩
    | ty z => cases h
    | fz a b => cases h
theorem datV_dp (rs : RS K H as S) {v : Val} {x : V} {d : PyData} (h : datV S v = some d) (r : RV K H as v x) : Dp K H x d ∧ SeqAt.shaped d = true := by
  obtain ⟨a, b, c⟩ := toD_dp rs 60 h r
  refine ⟨a, ?_⟩
  show (d.canLay0 && decide (d.depth ≤ 64)) = true
  rw [b, Bool.true_and]
  exact decide_eq_true (by omega)
end
end Lv

/-! LvC: each operation of the evaluator by the hand layer's rule. -/
namespace Lv
open PySem PySem.Spec PyProof.Rows L2

def opOf : Bop → Operator
  | .add => .Add | .sub => .Sub | .mul => .Mult | .fdiv => .FloorDiv | .mod => .Mod | .pow => .Pow
def copOf : Cop → CmpOp
  | .eq => .Eq | .ne => .NotEq | .lt => .Lt | .le => .LtE | .gt => .Gt | .ge => .GtE | .inn => .In | .nin => .NotIn | .is => .Is | .isn => .IsNot
section
variable (K : PySem.W.Frag)
def rBin (op : Bop) : R2 := fun x y H Q => ∃ as S v w, RS K H as S ∧ RV K H as v x ∧ RV K H as w y ∧ FinV K as H (binV S op v w) Q
def rCmp (op : Cop) : R2 := fun x y H Q => ∃ as S v w b, RS K H as S ∧ RV K H as v x ∧ RV K H as w y ∧ cmpV S op v w = some b ∧ Q (.bl b) H
def rIdx : R2 := fun x y H Q => ∃ as S v w, RS K H as S ∧ RV K H as v x ∧ RV K H as w y ∧ FinV K as H (ofO S (idxV S v w)) Q
def rSlc : V → Option Int → Option Int → Hp → VK → Prop := fun x lo hi H Q => ∃ as S v, RS K H as S ∧ RV K H as v x ∧ FinV K as H (slV S v lo hi) Q
def rBlt (b : String) : List V → Hp → VK → Prop := fun xs H Q => ∃ as S vs, RS K H as S ∧ RVs K H as vs xs ∧ FinV K as H (bltV S b vs) Q
def rMth (T m : String) : V → List V → Hp → VK → Prop := fun x xs H Q => ∃ as S v vs, RS K H as S ∧ RV K H as v x ∧ RVs K H as vs xs ∧ FinV K as H (mthV S T m v vs) Q
end
section
variable {X : Cx}
theorem op_bin {op : Bop} : OpR X (binaryOp (opOf op)) (rBin X.K op) := by
  intro pins s σ H x y v u Q I rx ry h
  obtain ⟨as, S, a, b, rs, ra, rb, fin⟩ := h
  unfold binV at fin
  split at fin
  · cases ra; cases rb
    exact op_add pins s σ H _ _ v u Q I rx ry ⟨_, _, rfl, rfl, fin.ok rs (.int _)⟩
  · cases ra; cases rb
    split at fin
    · rename_i hz
      exact op_add_str pins s σ H _ _ v u Q I rx ry ⟨_, _, rfl, rfl, sz_le hz, fin.ok rs (.str _)⟩
    · exact fin.elim
  · cases ra with
    | tup ha ta =>
      cases rb with
      | tup hb tb =>
        split at fin
        · rename_i hz
          have l1 := ta.length
          have l2 := tb.length
          refine op_catA pins s σ H _ _ v u Q I rx ry ⟨_, _, _, _, rfl, rfl, ha.sq, hb.sq, sz_le (by omega), fun e => ?_, fun e e2 => ?_, fun e e2 p hp => ?_⟩
          · subst e
            cases ta
            exact fin.ok rs (.tup hb tb)
          · subst e2
            cases tb
            rw [List.append_nil] at fin
            exact fin.ok rs (.tup ha ta)
          · exact fin_tup fin rs (ta.append tb) p hp
        · exact fin.elim
  · cases ra with
    | ref ha =>
      cases rb with
      | ref hb =>
        split at fin
        · rename_i e1 e2
          obtain ⟨xs, h1, t1⟩ := rs.lst e1 ha
          obtain ⟨ys, h2, t2⟩ := rs.lst e2 hb
          split at fin
          · rename_i hz
            have l1 := t1.length
            have l2 := t2.length
            exact op_cat pins s σ H _ _ v u Q I rx ry ⟨_, _, _, _, rfl, rfl, h1, h2, sz_le (by omega), fun p hp => fin_new fin rs (t1.append t2) p hp⟩
          · exact fin.elim
        · exact fin.elim
  · cases ra; cases rb
    exact op_sub pins s σ H _ _ v u Q I rx ry ⟨_, _, rfl, rfl, fin.ok rs (.int _)⟩
  · cases ra; cases rb
    split at fin
    · rename_i hz
      exact op_mul pins s σ H _ _ v u Q I rx ry ⟨_, _, rfl, rfl, hz, fin.ok rs (.int _)⟩
    · exact fin.elim
  · cases ra with
    | ref ha =>
      cases rb
      split at fin
      · rename_i e1
        obtain ⟨xs, h1, t1⟩ := rs.lst e1 ha
        split at fin
        · rename_i hz
          have l1 := t1.length
          exact op_rep pins s σ H _ _ v u Q I rx ry ⟨_, _, _, rfl, rfl, h1, hz.1, hz.2.1, sz_le (by rw [← l1]; exact hz.2.2), fun p hp => fin_new fin rs (t1.rep _) p hp⟩
        · exact fin.elim
      · exact fin.elim
  · cases ra with
    | tup ha ta =>
      cases rb
      split at fin
      · rename_i hz
        have l1 := ta.length
        refine op_repT pins s σ H _ _ v u Q I rx ry ⟨_, _, _, rfl, rfl, ha.sq, fun e => hz.1 ?_, hz.2.1, hz.2.2.1, by rw [← l1]; exact hz.2.2.2, fun p hp => fin_tup fin rs (ta.rep _) p hp⟩
        rw [e] at l1
        exact List.eq_nil_of_length_eq_zero l1
      · exact fin.elim
  · cases ra; cases rb
    split at fin
    · rename_i hz
      exact op_fdivW pins s σ H _ _ v u Q I rx ry ⟨_, _, rfl, rfl, hz, fin.ok rs (.int _)⟩
    · exact fin.elim
  · cases ra; cases rb
    split at fin
    · rename_i hz
      exact op_mod pins s σ H _ _ v u Q I rx ry ⟨_, _, rfl, rfl, hz, fin.ok rs (.int _)⟩
    · exact fin.elim
  · cases ra; cases rb
    split at fin
    · rename_i hz
      exact op_pow pins s σ H _ _ v u Q I rx ry ⟨_, _, rfl, rfl, hz, fin.ok rs (.int _)⟩
    · exact fin.elim
  · exact fin.elim

theorem sign_of {y : Str} {c : Nat} (h : signs y = [c]) : y = ⟨#[c]⟩ := by
  obtain ⟨a⟩ := y
  have e : a.toList = [c] := h
  have e2 : a = #[c] := by
    rw [← Array.toArray_toList (xs := a), e]
  rw [e2]
theorem scal_flat {K : PySem.W.Frag} {H : Hp} {as : List Addr} {v : Val} {x : V} {d : PyData} (h : scalD v = some d) (r : RV K H as v x) : flatV x = true := by
  cases r <;> first | rfl | cases h
theorem scal_eq {K : PySem.W.Frag} {H : Hp} {as : List Addr} {v w : Val} {x y : V} {d e : PyData} (h : scalD v = some d) (r : RV K H as v x) (h' : scalD w = some e) (r' : RV K H as w y) : eqV x y = PyData.eqv d e := by
  have st : ∀ {z : Str} {d : PyData}, (if PyData.strOk z = true then some (PyData.str z) else none) = some d → d = .str z := fun {z d} q => by
    by_cases hz : PyData.strOk z = true
    · rw [if_pos hz] at q
      cases q
      rfl
    · rw [if_neg hz] at q
      cases q
  cases r <;> cases r' <;> first
    | (cases h; cases h'; simp [eqV, PyData.eqv]; done)
    | (cases h; done)
    | (cases h'; done)
    | (have q := st h; subst q; cases h'; simp [eqV, PyData.eqv]; done)
    | (have q := st h'; subst q; cases h; simp [eqV, PyData.eqv]; done)
    | (have q := st h; have q' := st h'; subst q; subst q'; simp [eqV, PyData.eqv]; done)
theorem scals_flat {K : PySem.W.Frag} {H : Hp} {as : List Addr} : ∀ {vs : List Val} {xs : List V} {ds : List PyData}, mapO scalD vs = some ds → RVs K H as vs xs → xs.all flatV = true
  | _, _, ds, h, .nil => rfl
  | _, _, ds, h, .cons r t => by
    obtain ⟨b, bs, rfl, h1, h2⟩ := mapO_cons h
    rw [List.all_cons, scal_flat h1 r, scals_flat h2 t]
    rfl
theorem scals_in {K : PySem.W.Frag} {H : Hp} {as : List Addr} {v : Val} {x : V} {d : PyData} (h : scalD v = some d) (r : RV K H as v x) : ∀ {vs : List Val} {xs : List V} {ds : List PyData}, mapO scalD vs = some ds → RVs K H as vs xs →
    L2.inV x xs = ds.any fun z => PyData.eqv z d
  | _, _, ds, h', .nil => by cases h'; rfl
  | _, _, ds, h', .cons r' t => by
    obtain ⟨b, bs, rfl, h1, h2⟩ := mapO_cons h'
    have ih := scals_in h r h2 t
    unfold L2.inV at ih ⊢
    rw [List.any_cons, List.any_cons, ih, scal_eq h1 r' h r]
theorem op_in (hu : X.A.units + 65 < cLine) : OpR X (compareOp .In) (rCmp X.K .inn) := by
  intro pins s σ H x y v u Q I rx ry h
  obtain ⟨as, S, a, b, c, rs, ra, rb, e, q⟩ := h
  have e : Lv.inV S a b = some c := e
  unfold Lv.inV at e
  split at e
  · cases rb
    split at e
    · cases ra
      split at e
      · rename_i hc
        cases e
        exact op_in_sign pins s σ H _ _ v u Q I rx ry ⟨_, _, by rw [sign_of hc], rfl, q⟩
      · cases e
    · cases e
  · split at e
    · rename_i d ds h1 h2
      cases e
      obtain ⟨d1, s1⟩ := datV_dp rs h1 ra
      obtain ⟨d2, s2⟩ := datV_dp rs h2 rb
      exact op_inD hu pins s σ H _ _ v u Q I rx ry ⟨_, _, d1, d2, s1, s2, q⟩
    · cases e
  · split at e
    · rename_i d ds h1 h2
      cases e
      cases rb with
      | tup hb tb =>
        refine op_in_seq pins s σ H _ _ v u Q I rx ry ⟨_, _, rfl, .inr hb.sq, scal_flat h1 ra, scals_flat h2 tb, ?_⟩
        rw [if_neg Bool.false_ne_true, scals_in h1 ra h2 tb]
        exact q
    · cases e
  · cases e
theorem op_nin (hu : X.A.units + 65 < cLine) : OpR X (compareOp .NotIn) (rCmp X.K .nin) := by
  intro pins s σ H x y v u Q I rx ry h
  obtain ⟨as, S, a, b, c, rs, ra, rb, e, q⟩ := h
  replace e : (Lv.inV S a b).map (!·) = some c := e
  rw [Option.map_eq_some_iff] at e
  obtain ⟨c', e, ec⟩ := e
  subst ec
  unfold Lv.inV at e
  split at e
  · cases rb
    split at e
    · cases ra
      split at e
      · rename_i hc
        obtain rfl := Option.some.inj e
        exact op_notIn_sign pins s σ H _ _ v u Q I rx ry ⟨_, _, by rw [sign_of hc], rfl, q⟩
      · cases e
    · cases e
  · split at e
    · rename_i d ds h1 h2
      obtain rfl := Option.some.inj e
      obtain ⟨d1, s1⟩ := datV_dp rs h1 ra
      obtain ⟨d2, s2⟩ := datV_dp rs h2 rb
      exact op_notInD hu pins s σ H _ _ v u Q I rx ry ⟨_, _, d1, d2, s1, s2, q⟩
    · cases e
  · split at e
    · rename_i d ds h1 h2
      obtain rfl := Option.some.inj e
      cases rb with
      | tup hb tb =>
        refine op_notIn_seq pins s σ H _ _ v u Q I rx ry ⟨_, _, rfl, .inr hb.sq, scal_flat h1 ra, scals_flat h2 tb, ?_⟩
        rw [if_pos rfl, scals_in h1 ra h2 tb]
        exact q
    · cases e
  · cases e
theorem rv_non {K : PySem.W.Frag} {H : Hp} {as : List Addr} {v : Val} {x : V} (r : RV K H as v x) (h : v ≠ .non) : x ≠ .non := by
  cases r <;> first | exact absurd rfl h | (intro z; cases z)
theorem op_cmp (hu : X.A.units + 65 < cLine) {op : Cop} : OpR X (compareOp (copOf op)) (rCmp X.K op) := by
  cases op with
  | inn => exact op_in hu
  | nin => exact op_nin hu
  | eq =>
    intro pins s σ H x y v u Q I rx ry h
    obtain ⟨as, S, a, b, c, rs, ra, rb, e, q⟩ := h
    unfold cmpV at e
    simp only at e
    split at e
    · rename_i h1 h2
      cases e
      obtain ⟨d1, s1⟩ := datV_dp rs h1 ra
      obtain ⟨d2, s2⟩ := datV_dp rs h2 rb
      exact op_eqD (by omega) pins s σ H _ _ v u Q I rx ry ⟨_, _, d1, d2, s1, s2, q⟩
    · cases e
  | ne =>
    intro pins s σ H x y v u Q I rx ry h
    obtain ⟨as, S, a, b, c, rs, ra, rb, e, q⟩ := h
    unfold cmpV at e
    simp only at e
    split at e
    · rename_i h1 h2
      cases e
      obtain ⟨d1, s1⟩ := datV_dp rs h1 ra
      obtain ⟨d2, s2⟩ := datV_dp rs h2 rb
      exact op_neD (by omega) pins s σ H _ _ v u Q I rx ry ⟨_, _, d1, d2, s1, s2, q⟩
    · cases e
  | lt =>
    intro pins s σ H x y v u Q I rx ry h
    obtain ⟨as, S, a, b, c, rs, ra, rb, e, q⟩ := h
    cases ra <;> cases rb <;> first | (cases e; exact op_lt pins s σ H _ _ v u Q I rx ry ⟨_, _, rfl, rfl, q⟩) | cases e
  | le =>
    intro pins s σ H x y v u Q I rx ry h
    obtain ⟨as, S, a, b, c, rs, ra, rb, e, q⟩ := h
    cases ra <;> cases rb <;> first | (cases e; exact op_le pins s σ H _ _ v u Q I rx ry ⟨_, _, rfl, rfl, q⟩) | cases e
  | gt =>
    intro pins s σ H x y v u Q I rx ry h
    obtain ⟨as, S, a, b, c, rs, ra, rb, e, q⟩ := h
    cases ra <;> cases rb <;> first | (cases e; exact op_gt pins s σ H _ _ v u Q I rx ry ⟨_, _, rfl, rfl, q⟩) | cases e
  | ge =>
    intro pins s σ H x y v u Q I rx ry h
    obtain ⟨as, S, a, b, c, rs, ra, rb, e, q⟩ := h
    cases ra <;> cases rb <;> first | (cases e; exact op_ge pins s σ H _ _ v u Q I rx ry ⟨_, _, rfl, rfl, q⟩) | cases e
  | is =>
    intro pins s σ H x y v u Q I rx ry h
    obtain ⟨as, S, a, b, c, rs, ra, rb, e, q⟩ := h
    cases rb <;> first
      | (refine op_isN pins s σ H _ _ v u Q I rx ry ⟨rfl, ?_⟩
         cases ra <;> (cases e; first | exact q | (rw [decide_eq_false (by intro z; cases z)]; exact q)))
      | (cases ra <;> cases e)
  | isn =>
    intro pins s σ H x y v u Q I rx ry h
    obtain ⟨as, S, a, b, c, rs, ra, rb, e, q⟩ := h
    cases rb <;> first
      | (refine op_notN pins s σ H _ _ v u Q I rx ry ⟨rfl, ?_⟩
         cases ra <;> (cases e; first | exact q | (rw [decide_eq_false (by intro z; cases z)]; exact q)))
      | (cases ra <;> cases e)
end
end Lv

/-! LvD: truth, subscripts, slices, built-in functions, methods. -/
namespace Lv
open PySem PySem.Spec PyProof.Rows L2
section
variable {K : PySem.W.Frag} {as : List Addr} {H : Hp} {S : Store}
theorem isEmpty_rvs {vs : List Val} {xs : List V} (t : RVs K H as vs xs) : (!vs.isEmpty) = !xs.isEmpty := by
  cases t <;> rfl
theorem tru_ok' (rs : RS K H as S) {v : Val} {x : V} {b : Bool} (h : tru S v = some b) (r : RV K H as v x) : TruV K x H b := by
  cases r with
  | non => cases h; rfl
  | bl b => cases h; rfl
  | int i => cases h; rfl
  | str z =>
    have h : (if z.length ≤ SZ then some (z.length != 0) else none) = some b := h
    by_cases hz : z.length ≤ SZ
    · rw [if_pos hz] at h
      cases h
      refine ⟨sz_le hz, ?_⟩
      rw [Bool.eq_iff_iff]
      simp only [bne_iff_ne, ne_eq]
      omega
    · rw [if_neg hz] at h
      cases h
  | ty n => cases h
  | ref hk =>
    have h : (seqAt S _).map (fun vs => !vs.isEmpty) = some b := h
    rw [Option.map_eq_some_iff] at h
    obtain ⟨vs, e, eb⟩ := h
    subst eb
    obtain ⟨xs, hs, t⟩ := rs.seq e hk
    exact .inl ⟨xs, hs, isEmpty_rvs t⟩
  | tup hs t =>
    cases h
    exact .inr (.inl ⟨_, hs.sq, isEmpty_rvs t⟩)
  | fz a b => cases h
theorem atI_rvs {vs : List Val} {xs : List V} (t : RVs K H as vs xs) {i : Int} {v : Val} (h : atI vs i = some v) : ∃ x, atI xs i = some x ∧ RV K H as v x := by
  unfold atI at h ⊢
  have l := t.length
  rw [← l]
  cases e : ixN vs.length i with
  | none =>
    rw [e] at h
    cases h
  | some j =>
    rw [e] at h
    exact t.get h
end
section
variable {X : Cx}
theorem ix_ok : IxR X (rIdx X.K) := by
  intro value slice pins s σ H x y v u Q I rx ry h hs
  obtain ⟨as, S, a, b, rs, ra, rb, fin⟩ := h
  unfold idxV at fin
  split at fin
  · cases ra with
    | ref hk =>
      cases rb
      cases e : seqAt S _ with
      | none =>
        rw [e] at fin
        exact fin.elim
      | some vs =>
        rw [e] at fin
        have fin : FinV X.K as H (ofO S (atI vs _)) Q := fin
        cases e2 : atI vs _ with
        | none =>
          rw [e2] at fin
          exact fin.elim
        | some w =>
          rw [e2] at fin
          obtain ⟨xs, h1, t⟩ := rs.seq e hk
          obtain ⟨z, h2, r⟩ := atI_rvs t e2
          exact ix_seq value slice pins s σ H _ _ v u Q I rx ry (.inl ⟨_, _, _, _, rfl, rfl, h1, h2, fin.ok rs r⟩) hs
  · cases ra with
    | tup hk t =>
      cases rb
      cases e2 : atI _ _ with
      | none =>
        rw [e2] at fin
        exact fin.elim
      | some w =>
        rw [e2] at fin
        obtain ⟨z, h2, r⟩ := atI_rvs t e2
        exact ix_seq value slice pins s σ H _ _ v u Q I rx ry (.inr (.inl ⟨_, _, _, _, rfl, rfl, hk.sq, h2, fin.ok rs r⟩)) hs
  · cases ra
    cases rb
    split at fin
    · rename_i hz
      cases e2 : atI (signs _) _ with
      | none =>
        rw [e2] at fin
        exact fin.elim
      | some c =>
        rw [e2] at fin
        exact ix_seq value slice pins s σ H _ _ v u Q I rx ry (.inr (.inr ⟨_, _, c, rfl, rfl, sz_le hz, e2, fin.ok rs (.str _)⟩)) hs
    · exact fin.elim
  · exact fin.elim
theorem cut_rvs {K : PySem.W.Frag} {as : List Addr} {H : Hp} {vs : List Val} {xs : List V} (t : RVs K H as vs xs) (lo hi : Option Int) : RVs K H as (cut vs lo hi) (cutV xs lo hi) := by
  unfold cut cutV
  rw [t.length]
  exact (t.drop _).take _
theorem cut_all {α : Type} {xs : List α} {lo hi : Option Int} (h : HT.sIx xs.length 0 lo = 0 ∧ HT.sIx xs.length xs.length hi = xs.length) : cut xs lo hi = xs := by
  unfold cut
  rw [h.1, h.2, List.drop_zero, Nat.sub_zero, List.take_length]
theorem sl_ok : SlR X (rSlc X.K) := by
  intro pins s σ H x v vl vu lo hi sl Q I rx hs pl pu h
  obtain ⟨as, S, a, rs, ra, fin⟩ := h
  unfold slV at fin
  split at fin
  · cases ra with
    | ref hk =>
      split at fin
      · rename_i e
        obtain ⟨xs, h1, t⟩ := rs.seq e hk
        exact sl_list pins s σ H _ v vl vu lo hi sl Q I rx hs pl pu ⟨_, xs, rfl, h1, fun p hp => fin_new fin rs (cut_rvs t lo hi) p hp⟩
      · exact fin.elim
  · cases ra with
    | tup hk t =>
      have l := t.length
      refine sl_tupA pins s σ H _ v vl vu lo hi sl Q I rx hs pl pu ⟨_, _, rfl, hk.sq, fun e => ?_, fun e p hp => fin_tup fin rs (cut_rvs t lo hi) p hp⟩
      rw [← l] at e
      rw [cut_all e] at fin
      exact fin.ok rs (.tup hk t)
  · cases ra with
    | fz hk t => exact sl_list pins s σ H _ v vl vu lo hi sl Q I rx hs pl pu ⟨_, _, rfl, hk.sq, fun p hp => fin_new fin rs (cut_rvs t lo hi) p hp⟩
  · cases ra
    split at fin
    · rename_i hz
      exact sl_str pins s σ H _ v vl vu lo hi sl Q I rx hs pl pu ⟨_, rfl, sz_le hz, fin.ok rs (.str _)⟩
    · exact fin.elim
  · exact fin.elim
end

/-! ### built-in functions -/
/-- the value that a built-in name stands for -/
def bltF (b : String) : Value := if b = "list" then .type "list" else if b = "tuple" then .type "tuple" else if b = "int" then .type "int" else .builtin b
section
variable {K : PySem.W.Frag} {as : List Addr} {H : Hp} {S : Store}
theorem tyN_ok (rs : RS K H as S) {v : Val} {x : V} {t : String} (h : tyN S v = some t) (r : RV K H as v x) : TyX K H x (.type t) := by
  cases r with
  | non => cases h; exact .base .non
  | bl b => cases h; exact .base (.bl b)
  | int i => cases h; exact .base (.int i)
  | str z => cases h; exact .base (.str z)
  | ty n => cases h
  | @ref k a hk =>
    have h : (seqAt S k).map (fun _ => "list") = some t := h
    rw [Option.map_eq_some_iff] at h
    obtain ⟨vs, e, eb⟩ := h
    subst eb
    unfold seqAt at e
    cases e2 : S[k]? with
    | none =>
      rw [e2] at e
      cases e
    | some o =>
      have ro := rs.at_ _ _ o hk e2
      cases o with
      | lst ws =>
        obtain ⟨xs, h1, _⟩ := ro
        exact .base (.lst h1)
  | tup hs t =>
    cases h
    rcases hs with h | ⟨o, its, n, hk, hc, _⟩
    · exact .base (.tup h)
    · exact .kTuple hk hc
  | fz a b => cases h
theorem isIn_ok {t : String} : ∀ {cs : List Val} {xs : List V} {b : Bool}, isIn t cs = some b → RVs K H as cs xs → ∃ us, Paired ClsV xs us ∧ PySem.W.kitAny K (.type t) us = some b
  | _, _, b, h, .nil => by
    cases h
    exact ⟨[], .nil, rfl⟩
  | _, _, b, h, .cons r rest => by
    cases r with
    | ty n =>
      rename_i cs xs
      have h : (match kitB t n, isIn t cs with
        | some a, some b => some (a || b)
        | _, _ => none) = some b := h
      cases e : kitB t n with
      | none =>
        rw [e] at h
        cases h
      | some c =>
        rw [e] at h
        cases e2 : isIn t cs with
        | none =>
          rw [e2] at h
          cases h
        | some d =>
          rw [e2] at h
          cases h
          obtain ⟨us, p, k⟩ := isIn_ok e2 rest
          refine ⟨.type n :: us, .cons (.ty n) p, kitAny_cons (kit_ty e) (fun z => ?_) (fun z => ?_)⟩
          · rw [z, k]
            rfl
          · rw [z]
            rfl
    | non => cases h
    | bl _ => cases h
    | int _ => cases h
    | str _ => cases h
    | ref _ => cases h
    | tup _ _ => cases h
    | fz _ _ => cases h
theorem bls_of : ∀ {vs : List Val} {xs : List V} {bs : List Bool}, mapO blOf vs = some bs → RVs K H as vs xs → xs = bs.map V.bl
  | _, _, bs, h, .nil => by cases h; rfl
  | _, _, bs, h, .cons r t => by
    obtain ⟨b, bs, rfl, h1, h2⟩ := mapO_cons h
    rw [bls_of h2 t]
    cases r <;> first | (cases h1; rfl) | cases h1
theorem strs_of : ∀ {vs : List Val} {xs : List V} {bs : List Str}, mapO strOf vs = some bs → RVs K H as vs xs → xs = bs.map V.str
  | _, _, bs, h, .nil => by cases h; rfl
  | _, _, bs, h, .cons r t => by
    obtain ⟨b, bs, rfl, h1, h2⟩ := mapO_cons h
    rw [strs_of h2 t]
    cases r <;> first | (cases h1; rfl) | cases h1
theorem seqB {bs : List Bool} {k : Nat} {a : Addr} (rs : RS K H as S) (h : (seqAt S k).bind (mapO blOf) = some bs) (hk : as[k]? = some a) : SqL K H a (bs.map V.bl) := by
  cases e : seqAt S k with
  | none =>
    rw [e] at h
    cases h
  | some vs =>
    rw [e] at h
    obtain ⟨xs, h1, t⟩ := rs.seq e hk
    rw [bls_of h t] at h1
    exact h1
theorem seqS {bs : List Str} {k : Nat} {a : Addr} (rs : RS K H as S) (h : (seqAt S k).bind (mapO strOf) = some bs) (hk : as[k]? = some a) : SqL K H a (bs.map V.str) := by
  cases e : seqAt S k with
  | none =>
    rw [e] at h
    cases h
  | some vs =>
    rw [e] at h
    obtain ⟨xs, h1, t⟩ := rs.seq e hk
    rw [strs_of h t] at h1
    exact h1
end

section
variable {X : Cx}
theorem one_rv {K : PySem.W.Frag} {as : List Addr} {H : Hp} {v : Val} {xs : List V} (h : RVs K H as [v] xs) : ∃ x, xs = [x] ∧ RV K H as v x := by
  cases h with
  | cons r t =>
    cases t
    exact ⟨_, rfl, r⟩
theorem two_rv {K : PySem.W.Frag} {as : List Addr} {H : Hp} {v w : Val} {xs : List V} (h : RVs K H as [v, w] xs) : ∃ x y, xs = [x, y] ∧ RV K H as v x ∧ RV K H as w y := by
  cases h with
  | cons r t =>
    obtain ⟨y, rfl, q⟩ := one_rv t
    exact ⟨_, y, rfl, r, q⟩
theorem blt_len : CallR X (.builtin "len") (rBlt X.K "len") := by
  intro pins s σ H xs us Q I rx h
  obtain ⟨as, S, vs, rs, ra, fin⟩ := h
  simp only [bltV, ↓reduceIte] at fin
  split at fin
  · obtain ⟨x, rfl, r⟩ := one_rv ra
    cases r with
    | ref hk =>
      split at fin
      · rename_i e
        obtain ⟨ys, h1, t⟩ := rs.seq e hk
        have l := t.length
        rw [l] at fin
        exact call_len_seq pins s σ H _ us Q I rx ⟨_, ys, rfl, .inl h1, fin.ok rs (.int _)⟩
      · exact fin.elim
  · obtain ⟨x, rfl, r⟩ := one_rv ra
    cases r with
    | tup hk t =>
      have l := t.length
      rw [l] at fin
      exact call_len_seq pins s σ H _ us Q I rx ⟨_, _, rfl, .inr hk.sq, fin.ok rs (.int _)⟩
  · obtain ⟨x, rfl, r⟩ := one_rv ra
    cases r with
    | fz hk t =>
      have l := t.length
      rw [l] at fin
      exact call_len_seq pins s σ H _ us Q I rx ⟨_, _, rfl, .inl hk.sq, fin.ok rs (.int _)⟩
  · obtain ⟨x, rfl, r⟩ := one_rv ra
    cases r
    split at fin
    · rename_i hz
      exact call_len_str pins s σ H _ us Q I rx ⟨_, rfl, sz_le hz, fin.ok rs (.int _)⟩
    · exact fin.elim
  · exact fin.elim
theorem blt_list : CallR X (.type "list") (rBlt X.K "list") := by
  intro pins s σ H xs us Q I rx h
  obtain ⟨as, S, vs, rs, ra, fin⟩ := h
  simp only [bltV, String.reduceEq, ↓reduceIte] at fin
  split at fin
  · obtain ⟨x, rfl, r⟩ := one_rv ra
    cases r with
    | ref hk =>
      split at fin
      · rename_i e
        obtain ⟨ys, h1, t⟩ := rs.seq e hk
        exact call_list_of pins s σ H _ us Q I rx ⟨_, ys, rfl, .inl h1, fun p hp => fin_new fin rs t p hp⟩
      · exact fin.elim
  · obtain ⟨x, rfl, r⟩ := one_rv ra
    cases r with
    | tup hk t => exact call_list_of pins s σ H _ us Q I rx ⟨_, _, rfl, .inr hk.sq, fun p hp => fin_new fin rs t p hp⟩
  · exact fin.elim
theorem blt_tuple : CallR X (.type "tuple") (rBlt X.K "tuple") := by
  intro pins s σ H xs us Q I rx h
  obtain ⟨as, S, vs, rs, ra, fin⟩ := h
  simp only [bltV, String.reduceEq, ↓reduceIte] at fin
  split at fin
  · obtain ⟨x, rfl, r⟩ := one_rv ra
    cases r with
    | ref hk =>
      split at fin
      · rename_i e
        obtain ⟨ys, h1, t⟩ := rs.seq e hk
        exact call_tuple_of pins s σ H _ us Q I rx ⟨_, ys, rfl, .inl ⟨h1, fun p hp => fin_tup fin rs t p hp⟩⟩
      · exact fin.elim
  · obtain ⟨x, rfl, r⟩ := one_rv ra
    cases r with
    | tup hk t => exact call_tuple_of pins s σ H _ us Q I rx ⟨_, _, rfl, .inr ⟨hk.sq, fin.ok rs (.tup hk t)⟩⟩
  · exact fin.elim
theorem blt_int : CallR X (.type "int") (rBlt X.K "int") := by
  intro pins s σ H xs us Q I rx h
  obtain ⟨as, S, vs, rs, ra, fin⟩ := h
  simp only [bltV, String.reduceEq, ↓reduceIte] at fin
  split at fin
  · obtain ⟨x, rfl, r⟩ := one_rv ra
    cases r
    exact call_int1 pins s σ H _ us Q I rx (.inl ⟨_, rfl, fin.ok rs (.int _)⟩)
  · obtain ⟨x, rfl, r⟩ := one_rv ra
    cases r
    exact call_int1 pins s σ H _ us Q I rx (.inr ⟨_, rfl, fin.ok rs (.int _)⟩)
  · exact fin.elim
theorem blt_isinstance : CallR X (.builtin "isinstance") (rBlt X.K "isinstance") := by
  intro pins s σ H xs us Q I rx h
  obtain ⟨as, S, vs, rs, ra, fin⟩ := h
  simp only [bltV, String.reduceEq, ↓reduceIte] at fin
  split at fin
  · obtain ⟨x, y, rfl, r, q⟩ := two_rv ra
    cases q
    split at fin
    · rename_i e
      cases e2 : kitB _ _ with
      | none =>
        rw [e2] at fin
        exact fin.elim
      | some b =>
        rw [e2] at fin
        exact call_isi pins s σ H _ us Q I rx ⟨_, _, _, _, b, rfl, .ty _, tyN_ok rs e r, kit_ty e2, fin.ok rs (.bl b)⟩
    · exact fin.elim
  · obtain ⟨x, y, rfl, r, q⟩ := two_rv ra
    cases q with
    | tup hk t =>
      split at fin
      · rename_i e
        cases e2 : isIn _ _ with
        | none =>
          rw [e2] at fin
          exact fin.elim
        | some b =>
          rw [e2] at fin
          obtain ⟨ws, p, k⟩ := isIn_ok e2 t
          rcases hk with hk | ⟨o, its, n, lk, hc, hd, hz, hv⟩
          · exact call_isiT pins s σ H _ us Q I rx ⟨_, _, _, _, ws, b, rfl, hk, p, tyN_ok rs e r, k, fin.ok rs (.bl b)⟩
          · have e3 := ClsV.all p hv
            obtain ⟨oc, od, dt, sl⟩ := o
            simp only at hc hd
            subst hc
            subst hd
            have e4 : its = ws.toArray := by rw [← e3] <;> simp
            subst e4
            exact call_isiK pins s σ H _ us Q I rx ⟨_, _, _, ws, _, _, _, b, rfl, lk, tyN_ok rs e r, k, fin.ok rs (.bl b)⟩
      · exact fin.elim
  · exact fin.elim
theorem blt_all (hc : X.calm = true) : CallR X (.builtin "all") (rBlt X.K "all") := by
  intro pins s σ H xs us Q I rx h
  obtain ⟨as, S, vs, rs, ra, fin⟩ := h
  simp only [bltV, String.reduceEq, ↓reduceIte] at fin
  split at fin
  · obtain ⟨x, rfl, r⟩ := one_rv ra
    cases r with
    | ref hk =>
      split at fin
      · rename_i e
        exact cr_all hc pins s σ H _ us Q I rx ⟨_, _, rfl, seqB rs e hk, fin.ok rs (.bl _)⟩
      · exact fin.elim
  · exact fin.elim
theorem blt_any (hc : X.calm = true) : CallR X (.builtin "any") (rBlt X.K "any") := by
  intro pins s σ H xs us Q I rx h
  obtain ⟨as, S, vs, rs, ra, fin⟩ := h
  simp only [bltV, String.reduceEq, ↓reduceIte] at fin
  split at fin
  · obtain ⟨x, rfl, r⟩ := one_rv ra
    cases r with
    | ref hk =>
      split at fin
      · rename_i e
        exact cr_any hc pins s σ H _ us Q I rx ⟨_, _, rfl, seqB rs e hk, fin.ok rs (.bl _)⟩
      · exact fin.elim
  · exact fin.elim
/-! ### methods of built-in types -/
theorem nil_rv {K : PySem.W.Frag} {as : List Addr} {H : Hp} {xs : List V} (h : RVs K H as [] xs) : xs = [] := by
  cases h
  rfl
theorem m_append : MtR X "list.append" (rMth X.K "list" "append") := by
  intro pins s σ H x xs v us Q I rx rxs h
  obtain ⟨as, S, w, ws, rs, rw_, ra, fin⟩ := h
  simp only [mthV, mthL, mthS, String.reduceEq, ↓reduceIte] at fin
  split at fin
  · cases rw_ with
    | ref hk =>
      obtain ⟨y, rfl, r⟩ := one_rv ra
      split at fin
      · rename_i e
        obtain ⟨zs, h1, t⟩ := rs.lst e hk
        split at fin
        · rename_i hz
          have l := t.length
          refine mt_append pins s σ H _ _ v us Q I rx rxs ⟨_, zs, y, rfl, rfl, h1, sz_lt (by omega), ?_⟩
          have kp : Kp H (upd H _ (.lst (zs ++ [y]))) := Kp.write fun u e => by rw [h1] at e; cases e; trivial
          exact fin as _ .non (List.prefix_refl _) kp (rs.write hk h1 (t.append (.cons r .nil))) .non
        · exact fin.elim
      · exact fin.elim
  · exact fin.elim
theorem m_clear : MtR X "list.clear" (rMth X.K "list" "clear") := by
  intro pins s σ H x xs v us Q I rx rxs h
  obtain ⟨as, S, w, ws, rs, rw_, ra, fin⟩ := h
  simp only [mthV, mthL, mthS, String.reduceEq, ↓reduceIte] at fin
  split at fin
  · cases rw_ with
    | ref hk =>
      obtain rfl := nil_rv ra
      split at fin
      · rename_i e
        obtain ⟨zs, h1, t⟩ := rs.lst e hk
        refine mt_clear pins s σ H _ _ v us Q I rx rxs ⟨_, zs, rfl, rfl, h1, ?_⟩
        have kp : Kp H (upd H _ (.lst [])) := Kp.write fun u e => by rw [h1] at e; cases e; trivial
        exact fin as _ .non (List.prefix_refl _) kp (rs.write hk h1 .nil) .non
      · exact fin.elim
  · exact fin.elim
theorem m_index (hu : X.A.units + 65 < cLine) : MtR X "list.index" (rMth X.K "list" "index") := by
  intro pins s σ H x xs v us Q I rx rxs h
  obtain ⟨as, S, w, ws, rs, rw_, ra, fin⟩ := h
  simp only [mthV, mthL, mthS, String.reduceEq, ↓reduceIte] at fin
  split at fin
  · cases rw_ with
    | ref hk =>
      obtain ⟨y, rfl, r⟩ := one_rv ra
      split at fin
      · rename_i ds d e1 e2
        obtain ⟨d1, s1⟩ := datV_dp rs e1 (.ref hk)
        obtain ⟨d2, s2⟩ := datV_dp rs e2 r
        cases e3 : firstIx ds d with
        | none =>
          rw [e3] at fin
          exact fin.elim
        | some j =>
          rw [e3] at fin
          unfold firstIx at e3
          rw [List.findIdx?_eq_some_iff_getElem] at e3
          obtain ⟨hj, h1, h2⟩ := e3
          refine mt_indexD hu pins s σ H _ _ v us Q I rx rxs ⟨_, y, d, ds, j, ds[j], rfl, rfl, d1, d2, s1, s2, List.getElem?_eq_getElem hj, h1, fun m z hm hz => ?_, fin.ok rs (.int _)⟩
          obtain ⟨hm2, e4⟩ := List.getElem?_eq_some_iff.mp hz
          have h3 := h2 m hm
          rw [e4] at h3
          simpa using h3
      · exact fin.elim
  · exact fin.elim
theorem m_join : MtR X "str.join" (rMth X.K "str" "join") := by
  intro pins s σ H x xs v us Q I rx rxs h
  obtain ⟨as, S, w, ws, rs, rw_, ra, fin⟩ := h
  simp only [mthV, mthL, mthS, String.reduceEq, ↓reduceIte] at fin
  split at fin
  · cases rw_
    obtain ⟨y, rfl, r⟩ := one_rv ra
    cases r with
    | ref hk =>
      split at fin
      · rename_i e
        split at fin
        · rename_i hz
          exact mt_join pins s σ H _ _ v us Q I rx rxs ⟨_, _, _, rfl, rfl, .inl (seqS rs e hk), hz, fin.ok rs (.str _)⟩
        · exact fin.elim
      · exact fin.elim
  · exact fin.elim
theorem m_upper : MtR X "str.upper" (rMth X.K "str" "upper") := by
  intro pins s σ H x xs v us Q I rx rxs h
  obtain ⟨as, S, w, ws, rs, rw_, ra, fin⟩ := h
  simp only [mthV, mthL, mthS, String.reduceEq, ↓reduceIte] at fin
  split at fin
  · cases rw_
    obtain rfl := nil_rv ra
    split at fin
    · rename_i hz
      exact mt_upper pins s σ H _ _ v us Q I rx rxs ⟨_, rfl, rfl, hz, fin.ok rs (.str _)⟩
    · exact fin.elim
  · exact fin.elim
end
end Lv

/-! LvE: readings by the evaluator; expressions. -/
namespace Lv
open PySem PySem.Spec PyProof.Rows L2

section
variable {K : PySem.W.Frag} {α β γ δ : Type} {Rel : Hp → List Addr → α → β → Prop} {Rel2 : Hp → List Addr → γ → δ → Prop} {as bs : List Addr} {H H' : Hp} {Q : δ → Hp → Prop} {P : β → Hp → Prop} {S : Store}
theorem Fin.bind {o : Out α} {f : α → Store → Out γ} (h : Fin K Rel2 as H (o.bind f) Q)
    (k : ∀ a S' bs H' b, as <+: bs → Kp H H' → RS K H' bs S' → Rel H' bs a b → Fin K Rel2 bs H' (f a S') Q → P b H') : Fin K Rel as H o P := by
  cases o with
  | ok a S' => exact fun bs H' b p kp rs r => k a S' bs H' b p kp rs r (Fin.mono p kp h)
  | no => exact h
end
section
variable (K : PySem.W.Frag)
def tE (ev : Rho → Store → Out Val) : TE := fun σ H Q => ∃ as S r, RS K H as S ∧ RR K H as r σ ∧ FinV K as H (ev r S) Q
def tT (ev : Rho → Store → Out Bool) : TT := fun σ H Q => ∃ as S r, RS K H as S ∧ RR K H as r σ ∧ FinB K as H (ev r S) Q
def tA (ev : Rho → Store → Out (List Val)) : TA := fun σ H Q => ∃ as S r, RS K H as S ∧ RR K H as r σ ∧ FinA K as H (ev r S) Q
def tOp (ev : Rho → Store → Out (Option Int)) : TO := fun σ H Q => ∃ as S r, RS K H as S ∧ RR K H as r σ ∧ FinO K as H (ev r S) Q
/-- a walk of the evaluator's against one of the layer's -/
def ItOk (H0 : Hp) (as0 : List Addr) (j : Lv.Itr) (J : It) : Prop := ∀ bs H S i, as0 <+: bs → Kp H0 H → RS K H bs S →
  (j.at_ S i = some none → J.stop i H) ∧ ∀ v, j.at_ S i = some (some v) → J.go i H ∧ ∀ x H', J.yld i H x H' → Kp H H' ∧ RS K H' bs S ∧ RV K H' bs v x
def tI (ev : Rho → Store → Out Lv.Itr) : TI := fun σ H R => ∃ as S r, RS K H as S ∧ RR K H as r σ ∧ Fin K (ItOk K) as H (ev r S) R
def sets (σ : L2.St) (us : List (Nat × V)) : L2.St := us.foldl (fun s u => s.set u.1 (some u.2)) σ
def FinG (sl : List Nat) (σ : L2.St) (as : List Addr) (H : Hp) (o : Out Rho) (Q : L2.St → Hp → Prop) : Prop := match o with
  | .ok r S => ∀ bs H' us, as <+: bs → Kp H H' → RS K H' bs S → (∀ u ∈ us, u.1 ∈ sl) → RR K H' bs r (sets σ us) → Q (sets σ us) H'
  | .no => False
def tG (ev : Val → Rho → Store → Out Rho) (sl : List Nat) : TG := fun x σ H Q => ∃ as S r v, RS K H as S ∧ RR K H as r σ ∧ RV K H as v x ∧ FinG K sl σ as H (ev v r S) Q
def tGs (ev : List Val → Rho → Store → Out Rho) (sl : List Nat) : TGs := fun xs σ H Q => ∃ as S r vs, RS K H as S ∧ RR K H as r σ ∧ RVs K H as vs xs ∧ FinG K sl σ as H (ev vs r S) Q
def FinS (as : List Addr) (H : Hp) (o : SO) (D : Ends) : Prop := match o with
  | .nx r S => ∀ bs H' σ', as <+: bs → Kp H H' → RS K H' bs S → RR K H' bs r σ' → D.nx σ' H'
  | .rt v S => ∀ bs H' x, as <+: bs → Kp H H' → RS K H' bs S → RV K H' bs v x → D.rt x H'
  | .bk r S => ∀ bs H' σ', as <+: bs → Kp H H' → RS K H' bs S → RR K H' bs r σ' → D.bk σ' H'
  | .ct r S => ∀ bs H' σ', as <+: bs → Kp H H' → RS K H' bs S → RR K H' bs r σ' → D.ct σ' H'
  | .no => False
def tS (ev : Rho → Store → SO) : TS := fun D σ H => ∃ as S r, RS K H as S ∧ RR K H as r σ ∧ FinS K as H (ev r S) D
end
section
variable {X : Cx} {e a b c : Expr} {pos : Pos}
theorem _root_.L2.PE.imp7 {t t' : TE} (h : PE X e t) (k : ∀ σ H Q, t' σ H Q → t σ H Q) : PE X e t' := ⟨fun pins s σ H Q I hw => h.run pins s σ H Q I (k σ H Q hw)⟩
theorem _root_.L2.PT.imp7 {t t' : TT} (h : PT X e t) (k : ∀ σ H Q, t' σ H Q → t σ H Q) : PT X e t' := ⟨fun pins s σ H Q I hw => h.run pins s σ H Q I (k σ H Q hw)⟩
theorem _root_.L2.PW.imp7 {t t' : TT} (h : PW X e t) (k : ∀ σ H Q, t' σ H Q → t σ H Q) : PW X e t' := ⟨fun wh pins s σ H Q I hw => h.run wh pins s σ H Q I (k σ H Q hw)⟩
theorem _root_.L2.PA.imp7 {es : List Expr} {t t' : TA} (h : PA X es t) (k : ∀ σ H Q, t' σ H Q → t σ H Q) : PA X es t' := ⟨fun pos pins s σ H Q I hw => h.run pos pins s σ H Q I (k σ H Q hw)⟩
theorem _root_.L2.PK.imp7 {ks : List Keyword} {t t' : TA} (h : PK X ks t) (k : ∀ σ H Q, t' σ H Q → t σ H Q) : PK X ks t' := ⟨fun pos pins s σ H Q I hw => h.run pos pins s σ H Q I (k σ H Q hw)⟩
theorem _root_.L2.PO.imp7 {o : Option Expr} {t t' : TO} (h : PO X o t) (k : ∀ σ H Q, t' σ H Q → t σ H Q) : PO X o t' := ⟨fun pins s σ H Q I hw => h.run pins s σ H Q I (k σ H Q hw)⟩
theorem _root_.L2.PG.imp7 {t t' : TG} (h : PG X e t) (k : ∀ x σ H Q, t' x σ H Q → t x σ H Q) : PG X e t' := ⟨fun pins s σ H v u Q I r hw => h.run pins s σ H v u Q I r (k v σ H Q hw)⟩
theorem _root_.L2.PGs.imp7 {es : List Expr} {t t' : TGs} (h : PGs X es t) (k : ∀ x σ H Q, t' x σ H Q → t x σ H Q) : PGs X es t' := ⟨fun pins s σ H v u Q I r hw => h.run pins s σ H v u Q I r (k v σ H Q hw)⟩
theorem _root_.L2.PI.imp7 {tg it : Expr} {t t' : TI} (h : PI X tg it t) (k : ∀ σ H R, t' σ H R → t σ H R) : PI X tg it t' := ⟨fun pins s σ H R I hw => h.run pins s σ H R I (k σ H R hw)⟩
theorem _root_.L2.PS.imp7 {st : Stmt} {t t' : TS} (h : PS X st t) (k : ∀ D σ H, t' D σ H → t D σ H) : PS X st t' := ⟨fun pins s σ H D I hw => h.run pins s σ H D I (k D σ H hw)⟩
theorem _root_.L2.PSs.imp7 {st : List Stmt} {t t' : TS} (h : PSs X st t) (k : ∀ D σ H, t' D σ H → t D σ H) : PSs X st t' := ⟨fun pins s σ H D I hw => h.run pins s σ H D I (k D σ H hw)⟩
theorem _root_.L2.PI.or7 {tg it : Expr} {t t' : TI} (h : PI X tg it t) (h' : PI X tg it t') : PI X tg it (fun σ H R => t σ H R ∨ t' σ H R) := ⟨fun pins s σ H R I hw => by
  rcases hw with hw | hw
  · exact h.run pins s σ H R I hw
  · exact h'.run pins s σ H R I hw⟩

variable {g : Cfg} {ca cb cc : C} {op op' : Cop}
abbrev SE (X : Cx) (g : Cfg) (e : Expr) (c : C) : Prop := PE X e (tE X.K (evE g c))
abbrev ST (X : Cx) (g : Cfg) (e : Expr) (c : C) : Prop := PT X e (tT X.K (evT g c))
theorem s_var {i : Nat} {x : Str} (hN : X.N[i]? = some x) (hv : Vis X.env.scope x) (hd : (x == ("__debug__" : Str)) = false) (hcd : (x == ("__classdict__" : Str)) = false) : SE X g (.Name x pos) (.var i) :=
  (pe_var hN hv hd hcd).imp7 fun σ H Q ⟨as, S, r, rs, rr, fin⟩ => by
    rw [evE] at fin
    split at fin
    · rename_i v e
      obtain ⟨y, h1, h2⟩ := rr.2 i v e
      exact ⟨y, h1, fin.ok rs h2⟩
    · exact fin.elim
theorem s_int {i : Int} {j : Nat} : SE X g (.Constant (.int i) j pos) (.kint i) := pe_int.imp7 fun σ H Q ⟨as, S, r, rs, rr, fin⟩ => by
  rw [evE] at fin
  exact fin.ok rs (.int i)
theorem s_str {i : Str} {j : Nat} : SE X g (.Constant (.str i) j pos) (.kstr i) := pe_str.imp7 fun σ H Q ⟨as, S, r, rs, rr, fin⟩ => by
  rw [evE] at fin
  exact fin.ok rs (.str i)
theorem s_bl {i : Bool} {j : Nat} : SE X g (.Constant (.bool i) j pos) (.kbl i) := pe_bl.imp7 fun σ H Q ⟨as, S, r, rs, rr, fin⟩ => by
  rw [evE] at fin
  exact fin.ok rs (.bl i)
theorem s_non {j : Nat} : SE X g (.Constant .none j pos) .knon := pe_non.imp7 fun σ H Q ⟨as, S, r, rs, rr, fin⟩ => by
  rw [evE] at fin
  exact fin.ok rs .non
theorem s_kty {n : String} {x : Str} (hg : Gl X x) (hm : X.mg x = none) (hv : bootBuiltins x = some (.type n)) (hn : x ≠ "__name__") (hd : (x == ("__debug__" : Str)) = false) : SE X g (.Name x pos) (.kty n) :=
  (pe_bltn (v := .ty n) hg hm hv rfl hn hd).imp7 fun σ H Q ⟨as, S, r, rs, rr, fin⟩ => by
    rw [evE] at fin
    exact fin.ok rs (.ty n)
theorem s_kval {x : Str} {v : Val} {y : V} {u : Value} (hv : g.kv x = some v) (hg : Gl X x) (hm : X.mg x = some u) (ru : RelV y u) (hr : ∀ H as, RV X.K H as v y) (hd : (x == ("__debug__" : Str)) = false) : SE X g (.Name x pos) (.kval x) :=
  (pe_glob hg hm ru hd).imp7 fun σ H Q ⟨as, S, r, rs, rr, fin⟩ => by
    rw [evE, hv] at fin
    exact fin.ok rs (hr H as)
theorem s_tup {es : List Expr} {k : Nat} {cs : C} (h : PA X es (tA X.K (evEs g cs))) : SE X g (.Tuple es k pos) (.tup cs) := (pe_tup h).imp7 fun σ H Q ⟨as, S, r, rs, rr, fin⟩ => by
  rw [evE] at fin
  refine ⟨as, S, r, rs, rr, fin.bind fun vs S1 bs H1 xs p kp rs1 rv f1 => ?_⟩
  split at f1
  · rename_i hz
    exact ⟨by rw [← rv.length]; exact sz_le hz, fun p hp => fin_tup f1 rs1 rv p hp⟩
  · exact f1.elim
theorem s_lst {es : List Expr} {cs : C} (h : PA X es (tA X.K (evEs g cs))) : SE X g (.List es pos) (.lst cs) := (pe_lst h).imp7 fun σ H Q ⟨as, S, r, rs, rr, fin⟩ => by
  rw [evE] at fin
  refine ⟨as, S, r, rs, rr, fin.bind fun vs S1 bs H1 xs p kp rs1 rv f1 => ?_⟩
  unfold newL at f1
  split at f1
  · rename_i hz
    exact ⟨by rw [← rv.length]; exact sz_le hz, fun p hp => fin_new f1 rs1 rv p hp⟩
  · exact f1.elim
theorem s_bin {o : Bop} (ha : SE X g a ca) (hb : SE X g b cb) : SE X g (.BinOp a (opOf o) b pos) (.bin o ca cb) := (pe_op op_bin ha hb).imp7 fun σ H Q ⟨as, S, r, rs, rr, fin⟩ => by
  rw [evE] at fin
  exact ⟨as, S, r, rs, rr, fin.bind fun v S1 bs H1 x p kp rs1 rv f1 => ⟨bs, S1, r, rs1, rr.mono p kp, f1.bind fun w S2 cs H2 y p2 kp2 rs2 rw_ f2 => ⟨cs, S2, v, w, rs2, rv.mono p2 kp2, rw_, f2⟩⟩⟩
theorem s_neg (ha : SE X g a ca) : SE X g (.UnaryOp .USub a pos) (.neg ca) := (pe_un un_neg ha).imp7 fun σ H Q ⟨as, S, r, rs, rr, fin⟩ => by
  rw [evE] at fin
  refine ⟨as, S, r, rs, rr, fin.bind fun v S1 bs H1 x p kp rs1 rv f1 => ?_⟩
  split at f1
  · cases rv
    exact ⟨_, rfl, f1.ok rs1 (.int _)⟩
  · exact f1.elim
/-- how a comparison of two values ends -/
theorem cmp_fin {K : PySem.W.Frag} {as : List Addr} {H : Hp} {S : Store} {v w : Val} {x y : V} {Q : VK} (rs : RS K H as S) (rv : RV K H as v x) (rw_ : RV K H as w y) (fin : FinV K as H (ofO S ((cmpV S op v w).map .bl)) Q) : rCmp K op x y H Q := by
  cases e : cmpV S op v w with
  | none =>
    rw [e] at fin
    exact fin.elim
  | some b =>
    rw [e] at fin
    exact ⟨as, S, v, w, b, rs, rv, rw_, e, fin.ok rs (.bl b)⟩
theorem s_cmp (hu : X.A.units + 65 < cLine) (ha : SE X g a ca) (hb : SE X g b cb) (hm : behindInMarks (copOf op) b = false) : SE X g (.Compare a [copOf op] [b] pos) (.cmp op ca cb) := (pe_cmpR (op_cmp hu) ha hb hm).imp7 fun σ H Q ⟨as, S, r, rs, rr, fin⟩ => by
  rw [evE] at fin
  exact ⟨as, S, r, rs, rr, fin.bind fun v S1 bs H1 x p kp rs1 rv f1 => ⟨bs, S1, r, rs1, rr.mono p kp, f1.bind fun w S2 cs H2 y p2 kp2 rs2 rw_ f2 => cmp_fin rs2 (rv.mono p2 kp2) rw_ f2⟩⟩
theorem t_cmp (hu : X.A.units + 65 < cLine) (ha : SE X g a ca) (hb : SE X g b cb) (hm : behindInMarks (copOf op) b = false) : ST X g (.Compare a [copOf op] [b] pos) (.cmp op ca cb) := (pt_cmpR (op_cmp hu) ha hb hm).imp7 fun σ H Q ⟨as, S, r, rs, rr, fin⟩ => by
  have e0 : evT g (.cmp op ca cb) r S = (evE g (.cmp op ca cb) r S).bind fun v S1 => ofO S1 (tru S1 v) := by rw [evT] <;> intros <;> contradiction
  rw [e0, evE] at fin
  refine ⟨as, S, r, rs, rr, ?_⟩
  cases ea : evE g ca r S with
  | no =>
    rw [ea] at fin
    exact fin.elim
  | ok v S1 =>
    rw [ea] at fin
    intro bs H1 x p kp rs1 rv
    refine ⟨bs, S1, r, rs1, rr.mono p kp, ?_⟩
    have fin : FinB X.K as H (((evE g cb r S1).bind fun w S2 => ofO S2 ((cmpV S2 op v w).map .bl)).bind fun v S1 => ofO S1 (tru S1 v)) Q := fin
    cases eb : evE g cb r S1 with
    | no =>
      rw [eb] at fin
      exact fin.elim
    | ok w S2 =>
      rw [eb] at fin
      intro cs H2 y p2 kp2 rs2 rw_
      have fin : FinB X.K as H ((ofO S2 ((cmpV S2 op v w).map .bl)).bind fun v S1 => ofO S1 (tru S1 v)) Q := fin
      cases ec : cmpV S2 op v w with
      | none =>
        rw [ec] at fin
        exact fin.elim
      | some k =>
        rw [ec] at fin
        exact ⟨cs, S2, v, w, k, rs2, rv.mono p2 kp2, rw_, ec, k, rfl, (Fin.mono (p.trans p2) (kp.trans kp2) fin).ok rs2 rfl⟩
theorem s_not (ha : SE X g a ca) : SE X g (.UnaryOp .Not a pos) (.not_ ca) := (pe_notT ha).imp7 fun σ H Q ⟨as, S, r, rs, rr, fin⟩ => by
  rw [evE] at fin
  refine ⟨as, S, r, rs, rr, fin.bind fun v S1 bs H1 x p kp rs1 rv f1 => ?_⟩
  cases e : tru S1 v with
  | none =>
    rw [e] at f1
    exact f1.elim
  | some b =>
    rw [e] at f1
    exact ⟨b, tru_ok' rs1 e rv, f1.ok rs1 (.bl _)⟩
theorem t_not (ha : ST X g a ca) : ST X g (.UnaryOp .Not a pos) (.not_ ca) := (pt_not ha).imp7 fun σ H Q ⟨as, S, r, rs, rr, fin⟩ => by
  rw [evT] at fin
  refine ⟨as, S, r, rs, rr, fin.bind fun v S1 bs H1 x p kp rs1 rv f1 => ?_⟩
  subst rv
  exact f1.ok rs1 rfl
theorem s_and {rest : List Expr} (ha : SE X g a ca) (hb : SE X g (.BoolOp .And (b :: rest) pos) cb) : SE X g (.BoolOp .And (a :: b :: rest) pos) (.and_ ca cb) := (pe_andT ha hb).imp7 fun σ H Q ⟨as, S, r, rs, rr, fin⟩ => by
  rw [evE] at fin
  refine ⟨as, S, r, rs, rr, fin.bind fun v S1 bs H1 x p kp rs1 rv f1 => ?_⟩
  split at f1
  · rename_i e
    exact ⟨true, tru_ok' rs1 e rv, by rw [if_pos rfl]; exact ⟨bs, S1, r, rs1, rr.mono p kp, f1⟩⟩
  · rename_i e
    exact ⟨false, tru_ok' rs1 e rv, by rw [if_neg Bool.false_ne_true]; exact f1.ok rs1 rv⟩
  · exact f1.elim
theorem s_or {rest : List Expr} (ha : SE X g a ca) (hb : SE X g (.BoolOp .Or (b :: rest) pos) cb) : SE X g (.BoolOp .Or (a :: b :: rest) pos) (.or_ ca cb) := (pe_orT ha hb).imp7 fun σ H Q ⟨as, S, r, rs, rr, fin⟩ => by
  rw [evE] at fin
  refine ⟨as, S, r, rs, rr, fin.bind fun v S1 bs H1 x p kp rs1 rv f1 => ?_⟩
  split at f1
  · rename_i e
    exact ⟨true, tru_ok' rs1 e rv, by rw [if_pos rfl]; exact f1.ok rs1 rv⟩
  · rename_i e
    exact ⟨false, tru_ok' rs1 e rv, by rw [if_neg Bool.false_ne_true]; exact ⟨bs, S1, r, rs1, rr.mono p kp, f1⟩⟩
  · exact f1.elim
theorem w_and {rest : List Expr} (ha : ST X g a ca) (hb : PW X (.BoolOp .And (b :: rest) pos) (tT X.K (evT g cb))) : PW X (.BoolOp .And (a :: b :: rest) pos) (tT X.K (evT g (.and_ ca cb))) := (pw_and ha hb).imp7 fun σ H Q ⟨as, S, r, rs, rr, fin⟩ => by
  rw [evT] at fin
  refine ⟨as, S, r, rs, rr, fin.bind fun v S1 bs H1 x p kp rs1 rv f1 => ?_⟩
  subst rv
  cases v with
  | true => rw [if_pos rfl]; exact ⟨bs, S1, r, rs1, rr.mono p kp, f1⟩
  | false => rw [if_neg Bool.false_ne_true]; exact f1.ok rs1 rfl
theorem w_or {rest : List Expr} (ha : ST X g a ca) (hb : PW X (.BoolOp .Or (b :: rest) pos) (tT X.K (evT g cb))) : PW X (.BoolOp .Or (a :: b :: rest) pos) (tT X.K (evT g (.or_ ca cb))) := (pw_or ha hb).imp7 fun σ H Q ⟨as, S, r, rs, rr, fin⟩ => by
  rw [evT] at fin
  refine ⟨as, S, r, rs, rr, fin.bind fun v S1 bs H1 x p kp rs1 rv f1 => ?_⟩
  subst rv
  cases v with
  | true => rw [if_pos rfl]; exact f1.ok rs1 rfl
  | false => rw [if_neg Bool.false_ne_true]; exact ⟨bs, S1, r, rs1, rr.mono p kp, f1⟩
theorem s_ife (ht : ST X g c cc) (ha : SE X g a ca) (hb : SE X g b cb) : SE X g (.IfExp c a b pos) (.ife cc ca cb) := (pe_ifExp ht ha hb).imp7 fun σ H Q ⟨as, S, r, rs, rr, fin⟩ => by
  rw [evE] at fin
  refine ⟨as, S, r, rs, rr, fin.bind fun v S1 bs H1 x p kp rs1 rv f1 => ?_⟩
  subst rv
  cases v with
  | true => rw [if_pos rfl]; exact ⟨bs, S1, r, rs1, rr.mono p kp, f1⟩
  | false => rw [if_neg Bool.false_ne_true]; exact ⟨bs, S1, r, rs1, rr.mono p kp, f1⟩
theorem s_idx (ha : SE X g a ca) (hb : SE X g b cb) (hs : PlainIx b) : SE X g (.Subscript a b pos) (.idx ca cb) := (pe_ix ix_ok ha hb hs).imp7 fun σ H Q ⟨as, S, r, rs, rr, fin⟩ => by
  rw [evE] at fin
  exact ⟨as, S, r, rs, rr, fin.bind fun v S1 bs H1 x p kp rs1 rv f1 => ⟨bs, S1, r, rs1, rr.mono p kp, f1.bind fun w S2 cs H2 y p2 kp2 rs2 rw_ f2 => ⟨cs, S2, v, w, rs2, rv.mono p2 kp2, rw_, f2⟩⟩⟩
theorem o_none : PO X none (tOp X.K (evO g .nil)) := po_none.imp7 fun σ H Q ⟨as, S, r, rs, rr, fin⟩ => by
  rw [evO] at fin
  exact fin.ok rs rfl
theorem o_some (hn : ca ≠ .nil) (ha : SE X g a ca) : PO X (some a) (tOp X.K (evO g ca)) := (po_some ha).imp7 fun σ H Q ⟨as, S, r, rs, rr, fin⟩ => by
  rw [evO] at fin
  · refine ⟨as, S, r, rs, rr, fin.bind fun v S1 bs H1 x p kp rs1 rv f1 => ?_⟩
    split at f1
    · cases rv
      exact ⟨_, rfl, f1.ok rs1 rfl⟩
    · exact f1.elim
  · exact hn
theorem s_sl {lo hi : Option Expr} {cl ch : C} {p2 : Pos} (ha : SE X g a ca) (hl : PO X lo (tOp X.K (evO g cl))) (hh : PO X hi (tOp X.K (evO g ch))) : SE X g (.Subscript a (.Slice lo hi none p2) pos) (.sl ca cl ch) := (pe_slice sl_ok ha hl hh).imp7 fun σ H Q ⟨as, S, r, rs, rr, fin⟩ => by
  rw [evE] at fin
  refine ⟨as, S, r, rs, rr, fin.bind fun v S1 bs H1 x p kp rs1 rv f1 => ⟨bs, S1, r, rs1, rr.mono p kp, f1.bind fun l S2 cs H2 l' p2 kp2 rs2 rl f2 => ⟨cs, S2, r, rs2, (rr.mono p kp).mono p2 kp2, f2.bind fun h S3 ds H3 h' p3 kp3 rs3 rh f3 => ?_⟩⟩⟩
  subst rl rh
  exact ⟨ds, S3, v, rs3, (rv.mono p2 kp2).mono p3 kp3, f3⟩
end
end Lv

/-! LvF: lists of arguments, calls, walks, comprehensions, targets. -/
namespace Lv
open PySem PySem.Spec PyProof.Rows L2

section
variable {X : Cx} {e a b c : Expr} {es : List Expr} {pos : Pos} {g : Cfg} {ca cb cc cs : C}
def notStar : Expr → Bool
  | .Starred _ _ => false
  | _ => true
theorem starEach_plain {env : Env} (h : notStar e = true) : starEach (e :: es) env = (false, eval e env) :: starEach es env := by
  cases e <;> first | rfl | cases h
theorem stars_plain {env : Env} {pos : Pos} : ∀ {es : List Expr}, es.all notStar = true → (backTo pos (starEach es env)).any (·.1) = false
  | [], _ => rfl
  | e :: es, h => by
    rw [List.all_cons, Bool.and_eq_true] at h
    rw [starEach_plain h.1]
    show (false || (backTo pos (starEach es env)).any (·.1)) = false
    rw [stars_plain h.2]
    rfl
abbrev SA (X : Cx) (g : Cfg) (es : List Expr) (c : C) : Prop := PA X es (tA X.K (evEs g c))
theorem a_nil : SA X g [] .nil := pa_nil.imp7 fun σ H Q ⟨as, S, r, rs, rr, fin⟩ => by
  rw [evEs] at fin
  exact fin.ok rs .nil
def noStarC : C → Bool
  | .star _ => false
  | _ => true
theorem a_cons (hn : notStar e = true) (hc : noStarC ca = true) (h : SE X g e ca) (t : SA X g es cs) : SA X g (e :: es) (.cons ca cs) := (pa_cons h t (starEach_plain hn)).imp7 fun σ H Q ⟨as, S, r, rs, rr, fin⟩ => by
  rw [evEs] at fin
  · refine ⟨as, S, r, rs, rr, fin.bind fun v S1 bs H1 x p kp rs1 rv f1 => ⟨bs, S1, r, rs1, rr.mono p kp, f1.bind fun vs S2 ds H2 xs p2 kp2 rs2 rvs f2 => ?_⟩⟩
    exact f2.ok rs2 (.cons (rv.mono p2 kp2) rvs)
  · rintro e rfl
    cases hc
theorem a_star {p : Pos} (h : SE X g e ca) (t : SA X g es cs) : SA X g (.Starred e p :: es) (.cons (.star ca) cs) := (StX.pa_star h t rfl).imp7 fun σ H Q ⟨as, S, r, rs, rr, fin⟩ => by
  rw [evEs] at fin
  refine ⟨as, S, r, rs, rr, fin.bind fun v S1 bs H1 x p kp rs1 rv f1 => ?_⟩
  cases rv with
  | ref hk =>
    rename_i k ad
    cases e1 : seqAt S1 k with
    | none =>
      simp only [e1] at f1
      exact f1.elim
    | some vs =>
      simp only [e1] at f1
      obtain ⟨xs, h1, t1⟩ := rs1.seq e1 hk
      refine ⟨_, xs, rfl, .inr h1, bs, S1, r, rs1, rr.mono p kp, f1.bind fun ws S2 ds H2 ys p2 kp2 rs2 rvs f2 => ?_⟩
      exact f2.ok rs2 ((t1.mono p2 kp2).append rvs)
  | tup hk t1 =>
    rename_i vs ad xs
    simp only at f1
    refine ⟨_, xs, rfl, .inl hk.sq, bs, S1, r, rs1, rr.mono p kp, f1.bind fun ws S2 ds H2 ys p2 kp2 rs2 rvs f2 => ?_⟩
    exact f2.ok rs2 ((t1.mono p2 kp2).append rvs)
  | non => exact f1.elim
  | bl _ => exact f1.elim
  | int _ => exact f1.elim
  | str _ => exact f1.elim
  | ty _ => exact f1.elim
  | fz _ _ => exact f1.elim
/-- the values of keywords -/
theorem k_nil : PK X [] (tA X.K (evEs g .nil)) := pk_nil.imp7 fun σ H Q ⟨as, S, r, rs, rr, fin⟩ => by
  rw [evEs] at fin
  exact fin.ok rs .nil
theorem k_cons {nm : Option Str} {kpos : Pos} {kws : List Keyword} (hc : noStarC ca = true) (h : SE X g e ca) (t : PK X kws (tA X.K (evEs g cs))) : PK X (⟨nm, e, kpos⟩ :: kws) (tA X.K (evEs g (.cons ca cs))) := (pk_cons h t).imp7 fun σ H Q ⟨as, S, r, rs, rr, fin⟩ => by
  rw [evEs] at fin
  · refine ⟨as, S, r, rs, rr, fin.bind fun v S1 bs H1 x p kp rs1 rv f1 => ⟨bs, S1, r, rs1, rr.mono p kp, f1.bind fun vs S2 ds H2 xs p2 kp2 rs2 rvs f2 => ?_⟩⟩
    exact f2.ok rs2 (.cons (rv.mono p2 kp2) rvs)
  · rintro e rfl
    cases hc

/-! ### calls of defs -/
/-- a def's promise by its run -/
def spF (K : PySem.W.Frag) (m : Nat) (R : List Val → Store → Out Val) : Sp := fun vs H Q _ => vs.length = m ∧ ∃ as S ws, RS K H as S ∧ RVs K H as ws vs ∧ FinV K as H (R ws S) Q
variable {x : Str} {p : Pos} {f : Nat} {fa : Addr} {fd : FuncData} {ps : List Str} {k m : Nat}
theorem s_call (F : FnOk X.prog X.w X.K X.mg X.base CX0 k fa fd ps (spF X.K m (g.R f))) (hr : Room k X.A) (hg : Gl X x) (hm : X.mg x = some (.ref fa)) (hk : PySem.W.keepIn X.K (.ref fa) = true) (hb : Binds X.K fd ps [])
    (hn : (e :: es).all notStar = true) (hL : ∀ ws S, ws.length ≠ m → g.R f ws S = .no) (ha : SA X g (e :: es) cs) (hdb : (x == ("__debug__" : Str)) = false) : SE X g (.Call (.Name x p) (e :: es) [] pos) (.call f cs) := by
  rw [List.all_cons, Bool.and_eq_true] at hn
  refine (pe_call F hr hg hm hk hb .nil pass0 ha hdb (starEach_plain hn.1) (stars_plain hn.2)).imp7 fun σ H Q ⟨as, S, r, rs, rr, fin⟩ => ?_
  rw [evE] at fin
  refine ⟨as, S, r, rs, rr, fin.bind fun vs S1 bs H1 xs p1 kp1 rs1 rv f1 => ?_⟩
  rw [List.append_nil]
  refine ⟨?_, bs, S1, vs, rs1, rv, f1⟩
  rw [← rv.length]
  by_cases hq : vs.length = m
  · exact hq
  · rw [hL vs S1 hq] at f1
    exact f1.elim
theorem s_call0 (F : FnOk X.prog X.w X.K X.mg X.base CX0 k fa fd ps (spF X.K 0 (g.R f))) (hr : Room k X.A) (hg : Gl X x) (hm : X.mg x = some (.ref fa)) (hk : PySem.W.keepIn X.K (.ref fa) = true) (hb : Binds X.K fd ps [])
    (hdb : (x == ("__debug__" : Str)) = false) : SE X g (.Call (.Name x p) [] [] pos) (.call f .nil) := by
  refine (pe_call0 F hr hg hm hk hb .nil pass0 hdb).imp7 fun σ H Q ⟨as, S, r, rs, rr, fin⟩ => ?_
  rw [evE, evEs] at fin
  exact ⟨rfl, as, S, [], rs, .nil, fin⟩
theorem s_calld {ds : List Val} {us : List Value} {dvs : List V} (F : FnOk X.prog X.w X.K X.mg X.base CX0 k fa fd ps (spF X.K m (g.R f))) (hr : Room k X.A) (hg : Gl X x) (hm : X.mg x = some (.ref fa)) (hk : PySem.W.keepIn X.K (.ref fa) = true) (hb : Binds X.K fd ps us)
    (hd : Vals dvs us) (hds : ∀ H as, RVs X.K H as ds dvs) (hn : (e :: es).all notStar = true) (hL : ∀ ws S, ws.length ≠ m → g.R f ws S = .no) (ha : SA X g (e :: es) cs) (hdb : (x == ("__debug__" : Str)) = false) : SE X g (.Call (.Name x p) (e :: es) [] pos) (.calld f cs ds) := by
  rw [List.all_cons, Bool.and_eq_true] at hn
  refine (pe_call F hr hg hm hk hb hd pass0 ha hdb (starEach_plain hn.1) (stars_plain hn.2)).imp7 fun σ H Q ⟨as, S, r, rs, rr, fin⟩ => ?_
  rw [evE] at fin
  refine ⟨as, S, r, rs, rr, fin.bind fun vs S1 bs H1 xs p1 kp1 rs1 rv f1 => ?_⟩
  have rv2 := rv.append (hds H1 bs)
  refine ⟨?_, bs, S1, vs ++ ds, rs1, rv2, f1⟩
  rw [← rv2.length]
  by_cases hq : (vs ++ ds).length = m
  · exact hq
  · rw [hL _ S1 hq] at f1
    exact f1.elim
theorem s_calld0 {ds : List Val} {us : List Value} {dvs : List V} (F : FnOk X.prog X.w X.K X.mg X.base CX0 k fa fd ps (spF X.K m (g.R f))) (hr : Room k X.A) (hg : Gl X x) (hm : X.mg x = some (.ref fa)) (hk : PySem.W.keepIn X.K (.ref fa) = true) (hb : Binds X.K fd ps us)
    (hd : Vals dvs us) (hds : ∀ H as, RVs X.K H as ds dvs) (hL : ∀ ws S, ws.length ≠ m → g.R f ws S = .no) (hdb : (x == ("__debug__" : Str)) = false) : SE X g (.Call (.Name x p) [] [] pos) (.calld f .nil ds) := by
  refine (pe_call0 F hr hg hm hk hb hd pass0 hdb).imp7 fun σ H Q ⟨as, S, r, rs, rr, fin⟩ => ?_
  rw [evE, evEs] at fin
  have fin : FinV X.K as H (g.R f ds S) Q := fin
  refine ⟨?_, as, S, ds, rs, hds H as, fin⟩
  show ([] ++ dvs).length = m
  rw [List.nil_append, ← (hds H as).length]
  by_cases hq : ds.length = m
  · exact hq
  · rw [hL _ S hq] at fin
    exact fin.elim
theorem kws_plain {env : Env} {pos : Pos} {kws : List Keyword} (h : kws.all (fun k => k.arg.isSome) = true) : (backToKw pos (keywordEach kws env)).all (·.1.isSome) = true ∧ (backToKw pos (keywordEach kws env)).any (·.1.isNone) = false ∧ (backToKw pos (keywordEach kws env)).filterMap (·.1) = kws.filterMap (·.arg) := by
  induction kws with
  | nil => exact ⟨rfl, rfl, rfl⟩
  | cons q kws ih =>
    obtain ⟨n, v, p⟩ := q
    rw [List.all_cons, Bool.and_eq_true] at h
    obtain ⟨i1, i2, i3⟩ := ih h.2
    cases n with
    | none => cases h.1
    | some n =>
      refine ⟨?_, ?_, ?_⟩
      · show (true && (backToKw pos (keywordEach kws env)).all (·.1.isSome)) = true
        rw [i1]
        rfl
      · show (false || (backToKw pos (keywordEach kws env)).any (·.1.isNone)) = false
        rw [i2]
        rfl
      · show n :: (backToKw pos (keywordEach kws env)).filterMap (·.1) = n :: kws.filterMap (·.arg)
        rw [i3]
theorem s_callk {kws : List Keyword} {ks : List Str} {cw : C} {src : List Src} {n : Nat} {gg : List Value → List Value → List Value} {gV : List V → List V → List V} (F : FnOk X.prog X.w X.K X.mg X.base CX0 k fa fd ps (spF X.K m (g.R f))) (hr : Room k X.A) (hg : Gl X x) (hm : X.mg x = some (.ref fa))
    (hk : PySem.W.keepIn X.K (.ref fa) = true) (hb : KBn X.K fd ps n ks gg gV) (hgv : ∀ H as vs xs ws zs us, vs.length = n → ws.length = ks.length → mapO (Src.get vs ws) src = some us → RVs X.K H as vs xs → RVs X.K H as ws zs → RVs X.K H as us (gV xs zs))
    (hn : (e :: es).all notStar = true) (hkw : kws.all (fun k => k.arg.isSome) = true) (hks : kws.filterMap (·.arg) = ks) (hL : ∀ ws S, ws.length ≠ m → g.R f ws S = .no)
    (hl1 : ∀ r S vs S', evEs g cs r S = .ok vs S' → vs.length = n) (hl2 : ∀ r S vs S', evEs g cw r S = .ok vs S' → vs.length = ks.length)
    (ha : SA X g (e :: es) cs) (hw : PK X kws (tA X.K (evEs g cw))) (hdb : (x == ("__debug__" : Str)) = false) : SE X g (.Call (.Name x p) (e :: es) kws pos) (.callk f cs src cw) := by
  rw [List.all_cons, Bool.and_eq_true] at hn
  obtain ⟨k1, k2, k3⟩ := kws_plain (env := X.env) (pos := pos) hkw
  have hpl : ((backTo pos (starEach (e :: es) X.env)).any (·.1) || (backToKw pos (keywordEach kws X.env)).any (·.1.isNone)) = false := by
    rw [k2, stars_plain (by rw [List.all_cons, hn.1, hn.2]; rfl)]
    rfl
  refine (pe_callN F hr hg hm hk hb pass0 ha hw k1 (k3.trans hks) hdb (starEach_plain hn.1) hpl).imp7 fun σ H Q ⟨as, S, r, rs, rr, fin⟩ => ?_
  rw [evE] at fin
  refine ⟨as, S, r, rs, rr, ?_⟩
  cases ev : evEs g cs r S with
  | no =>
    rw [ev] at fin
    exact fin.elim
  | ok vs S1 =>
    rw [ev] at fin
    intro bs H1 xs p1 kp1 rs1 rv
    refine ⟨bs, S1, r, rs1, rr.mono p1 kp1, ?_⟩
    have fin : FinV X.K as H ((evEs g cw r S1).bind fun us S2 => match mapO (Src.get vs us) src with
      | some as => g.R f as S2
      | none => .no) Q := fin
    cases ew : evEs g cw r S1 with
    | no =>
      rw [ew] at fin
      exact fin.elim
    | ok ws S2 =>
      rw [ew] at fin
      intro ds H2 zs p2 kp2 rs2 rw_
      have l1 := hl1 _ _ _ _ ev
      have l2 := hl2 _ _ _ _ ew
      have fin : FinV X.K as H (match mapO (Src.get vs ws) src with
        | some as => g.R f as S2
        | none => .no) Q := fin
      cases em : mapO (Src.get vs ws) src with
      | none =>
        rw [em] at fin
        exact fin.elim
      | some us =>
        rw [em] at fin
        have fin : FinV X.K as H (g.R f us S2) Q := fin
        have ru := hgv H2 ds vs xs ws zs us l1 l2 em (rv.mono p2 kp2) rw_
        refine ⟨by rw [← rv.length]; exact l1, by rw [← rw_.length]; exact l2, ?_, ds, S2, us, rs2, ru, Fin.mono (p1.trans p2) (kp1.trans kp2) fin⟩
        rw [← ru.length]
        by_cases hq : us.length = m
        · exact hq
        · rw [hL _ S2 hq] at fin
          exact fin.elim

/-! ### built-in functions, methods -/
theorem s_bltB {b : String} (hc : CallR X (.builtin b) (rBlt X.K b)) (hg : Gl X x) (hm : X.mg x = none) (hv : bootBuiltins x = some (.builtin b)) (hn : (e :: es).all notStar = true) (ha : SA X g (e :: es) cs) (hnm : x ≠ "__name__") (hdb : (x == ("__debug__" : Str)) = false) : SE X g (.Call (.Name x p) (e :: es) [] pos) (.blt b cs) := by
  rw [List.all_cons, Bool.and_eq_true] at hn
  refine (pe_callB hc hg hm hv ha hnm hdb (starEach_plain hn.1) (stars_plain hn.2)).imp7 fun σ H Q ⟨as, S, r, rs, rr, fin⟩ => ?_
  rw [evE] at fin
  exact ⟨as, S, r, rs, rr, fin.bind fun vs S1 bs H1 xs p1 kp1 rs1 rv f1 => ⟨bs, S1, vs, rs1, rv, f1⟩⟩
theorem s_bltT {b : String} (hc : CallR X (.type b) (rBlt X.K b)) (hg : Gl X x) (hm : X.mg x = none) (hv : bootBuiltins x = some (.type b)) (hn : (e :: es).all notStar = true) (ha : SA X g (e :: es) cs) (hnm : x ≠ "__name__") (hdb : (x == ("__debug__" : Str)) = false) : SE X g (.Call (.Name x p) (e :: es) [] pos) (.blt b cs) := by
  rw [List.all_cons, Bool.and_eq_true] at hn
  refine (pe_callTy hc hg hm hv ha hnm hdb (starEach_plain hn.1) (stars_plain hn.2)).imp7 fun σ H Q ⟨as, S, r, rs, rr, fin⟩ => ?_
  rw [evE] at fin
  exact ⟨as, S, r, rs, rr, fin.bind fun vs S1 bs H1 xs p1 kp1 rs1 rv f1 => ⟨bs, S1, vs, rs1, rv, f1⟩⟩
def superOk (o : Expr) : Bool := match o with
  | .Call (.Name id _) [] [] _ => decide (id ≠ "super")
  | _ => true
theorem notSuper {o : Expr} {nm : Str} {env : Env} (h : superOk o = true) : attributeBase o nm env (eval o env) = eval o env := by
  unfold superOk at h
  unfold attributeBase
  split
  · have h : decide (_ ≠ _) = true := h
    have h := of_decide_eq_true h
    simp [h]
  · rfl
/-- a value's type -/
theorem tyN_tyV {K : PySem.W.Frag} {as : List Addr} {H : Hp} {S : Store} (rs : RS K H as S) {v : Val} {x : V} {T : String} (h : tyN S v = some T) (r : RV K H as v x) (hT : T = "list" ∨ T = "str") : tyV K T x H := by
  cases r with
  | ref hk =>
    rename_i k a
    have h : (seqAt S k).map (fun _ => "list") = some T := h
    rw [Option.map_eq_some_iff] at h
    obtain ⟨vs, e, eb⟩ := h
    obtain ⟨xs, hs, t⟩ := rs.seq e hk
    exact .inl ⟨eb.symm, xs, hs⟩
  | str z =>
    cases h
    rfl
  | non =>
    cases h
    rcases hT with z | z <;> exact absurd z (by decide)
  | bl _ =>
    cases h
    rcases hT with z | z <;> exact absurd z (by decide)
  | int _ =>
    cases h
    rcases hT with z | z <;> exact absurd z (by decide)
  | ty _ => cases h
  | tup _ _ =>
    cases h
    rcases hT with z | z <;> exact absurd z (by decide)
  | fz _ _ => cases h
/-- a built-in type's method: its rule -/
structure MthOk (X : Cx) (T : String) (name : Str) (m : String) : Prop where
  pa : PlainAttrs T
  ex : ∃ id, Slot T name id ∧ typeOf (.builtin id) = pure (.type "method_descriptor") ∧ MtR X id (rMth X.K T m)
def lineOk (a b : Pos) : Bool := a.endLine == b.line
variable {o : Expr} {co : C} {name : Str} {m : String} {apos : Pos}
/-- by the two types together -/
theorem pe_or {X : Cx} {e : Expr} {t t' : TE} (h : PE X e t) (h' : PE X e t') : PE X e (fun σ H Q => t σ H Q ∨ t' σ H Q) := ⟨fun pins s σ H Q I hw => by
  rcases hw with hw | hw
  · exact h.run pins s σ H Q I hw
  · exact h'.run pins s σ H Q I hw⟩
/-- the reading of a method's call, the receiver's type T -/
def tMth (K : PySem.W.Frag) (g : Cfg) (T m : String) (co cs : C) : TE := fun σ H Q => ∃ as S r, RS K H as S ∧ RR K H as r σ ∧ (∀ v S1, evE g co r S = .ok v S1 → tyN S1 v = some T) ∧ FinV K as H (evE g (.mth m co cs) r S) Q
theorem s_mthT {T : String} (hT : T = "list" ∨ T = "str") (M : MthOk X T name m) (ho : SE X g o co) (hn : (e :: es).all notStar = true) (hlen : (e :: es).length < 30) (ha : SA X g (e :: es) cs) (hsup : superOk o = true) (hl : lineOk apos pos = true) : PE X (.Call (.Attribute o name apos) (e :: es) [] pos) (tMth X.K g T m co cs) := by
  rw [List.all_cons, Bool.and_eq_true] at hn
  obtain ⟨pa, id, sl, ty, hm⟩ := M
  have hfew : ((backTo pos (starEach (e :: es) X.env)).all (fun x => !x.1) && (backToKw pos (keywordEach [] X.env)).all (fun x => x.1.isSome)
      && decide ((e :: es).length + ([] : List Keyword).length + (if ([] : List Keyword).isEmpty then 0 else 1) < 30)) = true := by
    have h1 := stars_plain (env := X.env) (pos := pos) (es := e :: es) (by rw [List.all_cons, hn.1, hn.2]; rfl)
    rw [Bool.and_eq_true, Bool.and_eq_true]
    refine ⟨⟨?_, rfl⟩, decide_eq_true (by simpa using hlen)⟩
    rw [List.all_eq_true]
    intro y hy
    have h2 := List.any_eq_false.mp h1 y hy
    cases hy1 : y.1
    · rfl
    · exact absurd hy1 h2
  refine (pe_bm pa sl ty hm ho ha (notSuper hsup) hfew hl (starEach_plain hn.1) (stars_plain hn.2)).imp7 fun σ H Q ⟨as, S, r, rs, rr, hty, fin⟩ => ?_
  rw [evE] at fin
  refine ⟨as, S, r, rs, rr, ?_⟩
  cases ev : evE g co r S with
  | no =>
    rw [ev] at fin
    exact fin.elim
  | ok v S1 =>
    rw [ev] at fin
    intro bs H1 x p1 kp1 rs1 rv
    have tv := hty v S1 ev
    refine ⟨tyN_tyV rs1 tv rv hT, bs, S1, r, rs1, rr.mono p1 kp1, ?_⟩
    have fin : FinV X.K as H ((evEs g cs r S1).bind fun vs S2 => match tyN S1 v with
      | some T => mthV S2 T m v vs
      | none => .no) Q := fin
    rw [tv] at fin
    exact (Fin.mono p1 kp1 fin).bind fun vs S2 ds H2 xs p2 kp2 rs2 rvs f2 => ⟨ds, S2, v, vs, rs2, rv.mono p2 kp2, rvs, f2⟩
theorem s_mthT0 {T : String} (hT : T = "list" ∨ T = "str") (M : MthOk X T name m) (ho : SE X g o co) (hsup : superOk o = true) (hl : lineOk apos pos = true) : PE X (.Call (.Attribute o name apos) [] [] pos) (tMth X.K g T m co .nil) := by
  obtain ⟨pa, id, sl, ty, hm⟩ := M
  refine (pe_bm0 pa sl ty hm ho (notSuper hsup) hl).imp7 fun σ H Q ⟨as, S, r, rs, rr, hty, fin⟩ => ?_
  rw [evE] at fin
  refine ⟨as, S, r, rs, rr, ?_⟩
  cases ev : evE g co r S with
  | no =>
    rw [ev] at fin
    exact fin.elim
  | ok v S1 =>
    rw [ev] at fin
    intro bs H1 x p1 kp1 rs1 rv
    have tv := hty v S1 ev
    refine ⟨tyN_tyV rs1 tv rv hT, ?_⟩
    have fin : FinV X.K as H ((evEs g .nil r S1).bind fun vs S2 => match tyN S1 v with
      | some T => mthV S2 T m v vs
      | none => .no) Q := fin
    rw [tv, evEs] at fin
    exact ⟨bs, S1, v, [], rs1, rv, .nil, Fin.mono p1 kp1 fin⟩
/-- whatever the receiver: by each type that has the method -/
theorem s_mth {L : List String} (h : ∀ T ∈ L, PE X e (tMth X.K g T m co cs)) (hL : ∀ T S v vs, mthV S T m v vs ≠ .no → T ∈ L) : SE X g e (.mth m co cs) := ⟨fun pins s σ H Q I ⟨as, S, r, rs, rr, fin⟩ => by
  have fin0 := fin
  rw [evE] at fin
  cases ev : evE g co r S with
  | no =>
    rw [ev] at fin
    exact fin.elim
  | ok v S1 =>
    rw [ev] at fin
    have fin : FinV X.K as H ((evEs g cs r S1).bind fun vs S2 => match tyN S1 v with
      | some T => mthV S2 T m v vs
      | none => .no) Q := fin
    cases tv : tyN S1 v with
    | none =>
      rw [tv] at fin
      cases es1 : evEs g cs r S1 with
      | no =>
        rw [es1] at fin
        exact fin.elim
      | ok vs S2 =>
        rw [es1] at fin
        exact fin.elim
    | some T =>
      rw [tv] at fin
      have hm : T ∈ L := by
        cases es1 : evEs g cs r S1 with
        | no =>
          rw [es1] at fin
          exact fin.elim
        | ok vs S2 =>
          rw [es1] at fin
          refine hL T S2 v vs fun z => ?_
          have fin : FinV X.K as H (mthV S2 T m v vs) Q := fin
          rw [z] at fin
          exact fin.elim
      refine (h T hm).run pins s σ H Q I ⟨as, S, r, rs, rr, fun v' S' e' => ?_, fin0⟩
      rw [ev] at e'
      cases e'
      exact tv⟩
end
end Lv

/-! LvG: walks, targets, comprehensions. -/
namespace Lv
open PySem PySem.Spec PyProof.Rows L2

section
variable {K : PySem.W.Frag} {as : List Addr} {H : Hp} {S : Store}
theorem RS.seqL (rs : RS K H as S) {k : Nat} {a : Addr} (hk : as[k]? = some a) : ∃ xs, SqL K H a xs := by
  obtain ⟨o, ho, ro⟩ := rs.get' hk
  cases o with
  | lst vs =>
    obtain ⟨xs, q, _⟩ := ro
    exact ⟨xs, SqL.of q⟩
theorem rs_tup (rs : RS K H as S) {T : Addr} {xs : List V} (hT : H T = none) : Kp H (upd H T (.tup xs)) ∧ RS K (upd H T (.tup xs)) as S := by
  have kp : Kp H (upd H T (.tup xs)) := Kp.new hT
  refine ⟨kp, rs.len, rs.nd, fun k a o hk ho => ?_⟩
  have hne : a ≠ T := fun e => rs.free hT (e ▸ List.mem_of_getElem? hk)
  exact (rs.at_ k a o hk ho).mono (List.prefix_refl _) kp (upd_ne hne)
theorem it_live {k : Nat} {a : Addr} (hk : as[k]? = some a) : ItOk K H as (.live k) (Itl K a) := by
  intro bs H1 S1 i p kp rs
  have hk1 := pre_get p hk
  have main : ∀ r, (seqAt S1 k).map (fun vs => vs[i]?) = some r → ∃ vs xs, SqL K H1 a xs ∧ RVs K H1 bs vs xs ∧ r = vs[i]? := fun r e => by
    rw [Option.map_eq_some_iff] at e
    obtain ⟨vs, e1, e2⟩ := e
    obtain ⟨xs, h1, t⟩ := rs.seq e1 hk1
    exact ⟨vs, xs, h1, t, e2.symm⟩
  refine ⟨fun e => ?_, fun v e => ?_⟩
  · obtain ⟨vs, xs, h1, t, e2⟩ := main _ e
    exact ⟨xs, h1, List.getElem?_eq_none_iff.mp (t.none_of e2.symm)⟩
  · obtain ⟨vs, xs, h1, t, e2⟩ := main _ e
    obtain ⟨x, h2, r⟩ := t.get e2.symm
    refine ⟨⟨xs, x, h1, h2⟩, fun y H' hy => ?_⟩
    obtain ⟨e3, e4⟩ := hy
    subst e3
    have e5 := e4 xs h1
    rw [h2] at e5
    cases e5
    exact ⟨Kp.refl, rs, r⟩
theorem it_tup {vs : List Val} {xs : List V} {a : Addr} (h : TupAt K H a xs) (t : RVs K H as vs xs) : ItOk K H as (.its vs) (Itt K a) := by
  intro bs H1 S1 i p kp rs
  have h1 := (kp.tupAt h).sq
  have t1 := t.mono p kp
  refine ⟨fun e => ?_, fun v e => ?_⟩
  · have e : vs[i]? = none := Option.some.inj e
    exact ⟨xs, h1, List.getElem?_eq_none_iff.mp (t1.none_of e)⟩
  · have e : vs[i]? = some v := Option.some.inj e
    obtain ⟨x, h2, r⟩ := t1.get e
    refine ⟨⟨xs, x, h1, h2⟩, fun y H' hy => ?_⟩
    obtain ⟨e3, e4⟩ := hy
    subst e3
    have e5 := e4 xs h1
    rw [h2] at e5
    cases e5
    exact ⟨Kp.refl, rs, r⟩
theorem it_str {x : Str} : ItOk K H as (.its ((signs x).map fun c => .str (sign c))) (Its x) := by
  intro bs H1 S1 i p kp rs
  have hl : (signs x)[i]? = x.cps[i]? := by
    unfold signs
    rw [Array.getElem?_toList]
  refine ⟨fun e => ?_, fun v e => ?_⟩
  · have e : ((signs x).map fun c => Val.str (sign c))[i]? = none := Option.some.inj e
    rw [List.getElem?_map, hl] at e
    show x.cps.size ≤ i
    cases q : x.cps[i]? with
    | none => exact Array.getElem?_eq_none_iff.mp q
    | some c =>
      rw [q] at e
      cases e
  · have e : ((signs x).map fun c => Val.str (sign c))[i]? = some v := Option.some.inj e
    rw [List.getElem?_map, hl] at e
    cases q : x.cps[i]? with
    | none =>
      rw [q] at e
      cases e
    | some c =>
      rw [q] at e
      cases e
      refine ⟨?_, fun y H' hy => ?_⟩
      · show i < x.cps.size
        obtain ⟨h, _⟩ := Array.getElem?_eq_some_iff.mp q
        exact h
      · obtain ⟨e3, d, e4, e5⟩ := hy
        subst e3
        subst e5
        rw [q] at e4
        cases e4
        exact ⟨Kp.refl, rs, .str _⟩
theorem it_rng {lo : Int} {n : Nat} {f : Nat → Val} (hf : ∀ i, f i = .int (lo + i)) : ItOk K H as (.its ((List.range n).map f)) (L2.Itr lo n) := by
  intro bs H1 S1 i p kp rs
  refine ⟨fun e => ?_, fun v e => ?_⟩
  · have e : ((List.range n).map f)[i]? = none := Option.some.inj e
    rw [List.getElem?_eq_none_iff, List.length_map, List.length_range] at e
    exact e
  · have e : ((List.range n).map f)[i]? = some v := Option.some.inj e
    obtain ⟨hl, e2⟩ := List.getElem?_eq_some_iff.mp e
    rw [List.length_map, List.length_range] at hl
    rw [List.getElem_map, List.getElem_range, hf] at e2
    subst e2
    refine ⟨hl, fun y H' hy => ?_⟩
    obtain ⟨e3, e4⟩ := hy
    subst e3
    subst e4
    exact ⟨Kp.refl, rs, .int _⟩
theorem it_enm {k : Nat} {a : Addr} (hk : as[k]? = some a) : ItOk K H as (.enm k) (Ite K a) := by
  intro bs H1 S1 i p kp rs
  have hk1 := pre_get p hk
  have main : ∀ r, (seqAt S1 k).map (fun vs => vs[i]?.map fun v => Val.tup [.int (i : Nat), v]) = some r → ∃ vs xs, SqL K H1 a xs ∧ RVs K H1 bs vs xs ∧ r = vs[i]?.map fun v => Val.tup [.int (i : Nat), v] := fun r e => by
    rw [Option.map_eq_some_iff] at e
    obtain ⟨vs, e1, e2⟩ := e
    obtain ⟨xs, h1, t⟩ := rs.seq e1 hk1
    exact ⟨vs, xs, h1, t, e2.symm⟩
  refine ⟨fun e => ?_, fun v e => ?_⟩
  · obtain ⟨vs, xs, h1, t, e2⟩ := main _ e
    have e2 := e2.symm
    rw [Option.map_eq_none_iff] at e2
    exact ⟨xs, h1, List.getElem?_eq_none_iff.mp (t.none_of e2)⟩
  · obtain ⟨vs, xs, h1, t, e2⟩ := main _ e
    have e2 := e2.symm
    rw [Option.map_eq_some_iff] at e2
    obtain ⟨w, e3, e4⟩ := e2
    subst e4
    obtain ⟨x, h2, r⟩ := t.get e3
    refine ⟨⟨xs, x, h1, h2⟩, fun y H' hy => ?_⟩
    obtain ⟨T, z, e5, hT, e6, e7⟩ := hy
    subst e5
    subst e6
    have e8 := e7 xs h1
    rw [h2] at e8
    cases e8
    obtain ⟨k1, r1⟩ := rs_tup (xs := [.int (i : Nat), x]) rs hT
    exact ⟨k1, r1, .tup (.inl upd_same) ((RVs.cons (.int _) (.cons r .nil)).mono (List.prefix_refl _) k1)⟩
theorem it_zip {k l : Nat} {a b : Addr} (hk : as[k]? = some a) (hl : as[l]? = some b) : ItOk K H as (.zip k l) (Itz K a b) := by
  intro bs H1 S1 i p kp rs
  have hk1 := pre_get p hk
  have hl1 := pre_get p hl
  have main : ∀ r, (Lv.Itr.zip k l).at_ S1 i = some r → ∃ vs xs ws ys, SqL K H1 a xs ∧ RVs K H1 bs vs xs ∧ SqL K H1 b ys ∧ RVs K H1 bs ws ys ∧ r = (match vs[i]?, ws[i]? with
      | some x, some y => some (.tup [x, y])
      | _, _ => none) := fun r e => by
    have e : (match seqAt S1 k, seqAt S1 l with
      | some xs, some ys => some (match xs[i]?, ys[i]? with
        | some x, some y => some (Val.tup [x, y])
        | _, _ => none)
      | _, _ => none) = some r := e
    split at e
    · rename_i vs ws e1 e2
      obtain ⟨xs, h1, t1⟩ := rs.seq e1 hk1
      obtain ⟨ys, h2, t2⟩ := rs.seq e2 hl1
      exact ⟨vs, xs, ws, ys, h1, t1, h2, t2, (Option.some.inj e).symm⟩
    · cases e
  refine ⟨fun e => ?_, fun v e => ?_⟩
  · obtain ⟨vs, xs, ws, ys, h1, t1, h2, t2, e2⟩ := main _ e
    refine ⟨xs, ys, h1, h2, ?_⟩
    split at e2
    · cases e2
    · rename_i hno
      cases q : vs[i]? with
      | none => exact .inl (List.getElem?_eq_none_iff.mp (t1.none_of q))
      | some x =>
        cases q2 : ws[i]? with
        | none => exact .inr (List.getElem?_eq_none_iff.mp (t2.none_of q2))
        | some y => exact (hno x y q q2).elim
  · obtain ⟨vs, xs, ws, ys, h1, t1, h2, t2, e2⟩ := main _ e
    split at e2
    · rename_i x y q1 q2
      cases e2
      obtain ⟨x', g1, r1⟩ := t1.get q1
      obtain ⟨y', g2, r2⟩ := t2.get q2
      refine ⟨⟨xs, ys, x', y', h1, h2, g1, g2⟩, fun z H' hz => ?_⟩
      obtain ⟨T, z1, z2, e5, hT, e6, e7, e8⟩ := hz
      subst e5
      subst e6
      have f1 := e7 xs h1
      have f2 := e8 ys h2
      rw [g1] at f1
      rw [g2] at f2
      cases f1
      cases f2
      obtain ⟨k1, r3⟩ := rs_tup (xs := [x', y']) rs hT
      exact ⟨k1, r3, .tup (.inl upd_same) ((RVs.cons r1 (.cons r2 .nil)).mono (List.prefix_refl _) k1)⟩
    · cases e2
theorem it_zipT {vs ws : List Val} {xs ys : List V} {a b : Addr} (ha : TupAt K H a xs) (ta : RVs K H as vs xs) (hb : TupAt K H b ys) (tb : RVs K H as ws ys) : ItOk K H as (.its (List.zipWith (fun x y => .tup [x, y]) vs ws)) (RZ.ItzT K a b) := by
  intro bs H1 S1 i p kp rs
  have h1 := (kp.tupAt ha).sq
  have h2 := (kp.tupAt hb).sq
  have t1 := ta.mono p kp
  have t2 := tb.mono p kp
  refine ⟨fun e => ?_, fun v e => ?_⟩
  · have e : (List.zipWith (fun x y => Val.tup [x, y]) vs ws)[i]? = none := Option.some.inj e
    rw [List.getElem?_eq_none_iff, List.length_zipWith] at e
    have l1 := t1.length
    have l2 := t2.length
    exact ⟨xs, ys, h1, h2, by omega⟩
  · have e : (List.zipWith (fun x y => Val.tup [x, y]) vs ws)[i]? = some v := Option.some.inj e
    rw [List.getElem?_zipWith] at e
    split at e
    · rename_i x y q1 q2
      cases e
      obtain ⟨x', g1, r1⟩ := t1.get q1
      obtain ⟨y', g2, r2⟩ := t2.get q2
      refine ⟨⟨xs, ys, x', y', h1, h2, g1, g2⟩, fun z H' hz => ?_⟩
      obtain ⟨T, z1, z2, e5, hT, e6, e7, e8⟩ := hz
      subst e5
      subst e6
      have f1 := e7 xs h1
      have f2 := e8 ys h2
      rw [g1] at f1
      rw [g2] at f2
      cases f1
      cases f2
      obtain ⟨k1, r3⟩ := rs_tup (xs := [x', y']) rs hT
      exact ⟨k1, r3, .tup (.inl upd_same) ((RVs.cons r1 (.cons r2 .nil)).mono (List.prefix_refl _) k1)⟩
    · cases e
end
section
variable {X : Cx} {g : Cfg} {tg e a b : Expr} {es : List Expr} {c ce cs : C} {p pos tpos : Pos}
abbrev SI (X : Cx) (g : Cfg) (tg e : Expr) (c : C) : Prop := PI X tg e (tI X.K (evI g c))
def plainI : C → Bool
  | .irng _ => false
  | .irng2 _ _ => false
  | .ienum _ => false
  | .izip _ _ => false
  | _ => true
theorem evI_plain (h : plainI c = true) (r : Rho) (S : Store) : evI g c r S = (evE g c r S).bind fun v S1 => match v with
    | .ref k => .ok (.live k) S1
    | .tup vs => .ok (.its vs) S1
    | .str x => .ok (.its ((signs x).map fun c => .str (sign c))) S1
    | _ => .no := by
  cases c <;> first | (exact absurd h (by decide)) | (rw [evI] <;> first | rfl | (intros; contradiction))
theorem i_any (hp : plainI c = true) (h : SE X g e c) : SI X g tg e c := ((pi_list h).or7 ((pi_tup h).or7 (pi_str h))).imp7 fun σ H R ⟨as, S, r, rs, rr, fin⟩ => by
  rw [evI_plain hp] at fin
  cases ev : evE g c r S with
  | no =>
    rw [ev] at fin
    exact fin.elim
  | ok v S1 =>
    rw [ev] at fin
    cases v with
    | ref k =>
      refine .inl ⟨as, S, r, rs, rr, ?_⟩
      rw [ev]
      intro bs H1 x p kp rs1 rv
      cases rv with
      | ref hk =>
        exact ⟨_, rfl, rs1.seqL hk, fin bs H1 _ p kp rs1 (it_live hk)⟩
    | tup vs =>
      refine .inr (.inl ⟨as, S, r, rs, rr, ?_⟩)
      rw [ev]
      intro bs H1 x p kp rs1 rv
      cases rv with
      | tup hk t => exact ⟨_, rfl, ⟨_, hk.sq⟩, fin bs H1 _ p kp rs1 (it_tup hk t)⟩
    | str x =>
      refine .inr (.inr ⟨as, S, r, rs, rr, ?_⟩)
      rw [ev]
      intro bs H1 y p kp rs1 rv
      cases rv
      exact ⟨_, rfl, fin bs H1 _ p kp rs1 it_str⟩
    | non => exact fin.elim
    | bl _ => exact fin.elim
    | int _ => exact fin.elim
    | ty _ => exact fin.elim
    | fz _ => exact fin.elim
theorem i_rng1 {ca : C} (hg : Gl X "range") (hm : X.mg "range" = none) (hn : notStar a = true) (ha : SE X g a ca) : SI X g tg (.Call (.Name "range" p) [a] [] pos) (.irng ca) := (pi_range1 hg hm (pa_cons ha pa_nil (starEach_plain hn)) (starEach_plain hn)).imp7 fun σ H R ⟨as, S, r, rs, rr, fin⟩ => by
  rw [evI] at fin
  refine ⟨as, S, r, rs, rr, fin.bind fun v S1 bs H1 x p kp rs1 rv f1 => ?_⟩
  split at f1
  · cases rv
    split at f1
    · rename_i hb
      exact ⟨_, rfl, hb.1, hb.2, f1 bs H1 _ (List.prefix_refl _) Kp.refl rs1 (it_rng fun i => by rw [Int.zero_add])⟩
    · exact f1.elim
  · exact f1.elim
theorem i_rng2 {ca cb : C} (hg : Gl X "range") (hm : X.mg "range" = none) (hn : notStar a = true) (hn2 : notStar b = true) (ha : SE X g a ca) (hb : SE X g b cb) : SI X g tg (.Call (.Name "range" p) [a, b] [] pos) (.irng2 ca cb) :=
  (pi_range2 hg hm (pa_cons ha (pa_cons hb pa_nil (starEach_plain hn2)) (starEach_plain hn)) (by rw [starEach_plain hn, starEach_plain hn2]; rfl) (by rw [starEach_plain hn2]; rfl)).imp7 fun σ H R ⟨as, S, r, rs, rr, fin⟩ => by
  rw [evI] at fin
  refine ⟨as, S, r, rs, rr, fin.bind fun v S1 bs H1 x p kp rs1 rv f1 => ⟨bs, S1, r, rs1, rr.mono p kp, f1.bind fun w S2 ds H2 y p2 kp2 rs2 rw_ f2 => ?_⟩⟩
  split at f2
  · cases rv
    cases rw_
    split at f2
    · rename_i hb
      exact ⟨_, _, rfl, hb, f2 ds H2 _ (List.prefix_refl _) Kp.refl rs2 (it_rng fun i => rfl)⟩
    · exact f2.elim
  · exact f2.elim
theorem i_enum {elts : List Expr} {kk : Nat} {ce : C} (hg : Gl X "enumerate") (hm : X.mg "enumerate" = none) (hn : notStar e = true) (h : SE X g e ce) : SI X g (.Tuple elts kk tpos) (.Call (.Name "enumerate" p) [e] [] pos) (.ienum ce) := (pi_enum hg hm (pa_cons h pa_nil (starEach_plain hn)) (starEach_plain hn)).imp7 fun σ H R ⟨as, S, r, rs, rr, fin⟩ => by
  rw [evI] at fin
  refine ⟨as, S, r, rs, rr, fin.bind fun v S1 bs H1 x p kp rs1 rv f1 => ?_⟩
  split at f1
  · cases rv with
    | ref hk =>
      obtain ⟨xs, hs⟩ := rs1.seqL hk
      exact ⟨_, xs, rfl, hs, f1 bs H1 _ (List.prefix_refl _) Kp.refl rs1 (it_enm hk)⟩
  · exact f1.elim
theorem i_zip {elts : List Expr} {kk : Nat} {ca cb : C} (hg : Gl X "zip") (hm : X.mg "zip" = none) (hn : notStar a = true) (hn2 : notStar b = true) (ha : SE X g a ca) (hb : SE X g b cb) : SI X g (.Tuple elts kk tpos) (.Call (.Name "zip" p) [a, b] [] pos) (.izip ca cb) :=
  (RZ.pi_zipA hg hm (pa_cons ha (pa_cons hb pa_nil (starEach_plain hn2)) (starEach_plain hn)) (starEach_plain hn) (by rw [starEach_plain hn2]; rfl)).imp7 fun σ H R ⟨as, S, r, rs, rr, fin⟩ => by
  rw [evI] at fin
  refine ⟨as, S, r, rs, rr, fin.bind fun v S1 bs H1 x p kp rs1 rv f1 => ⟨bs, S1, r, rs1, rr.mono p kp, f1.bind fun w S2 ds H2 y p2 kp2 rs2 rw_ f2 => ?_⟩⟩
  have rv := rv.mono p2 kp2
  split at f2
  · cases rv with
    | ref hk =>
      cases rw_ with
      | ref hl =>
        obtain ⟨xs, hx⟩ := rs2.seqL hk
        obtain ⟨ys, hy⟩ := rs2.seqL hl
        exact ⟨_, _, xs, ys, rfl, .inl ⟨hx, hy, f2 ds H2 _ (List.prefix_refl _) Kp.refl rs2 (it_zip hk hl)⟩⟩
  · cases rv with
    | tup hk t =>
      cases rw_ with
      | tup hl u => exact ⟨_, _, _, _, rfl, .inr ⟨hk.sq, hl.sq, f2 ds H2 _ (List.prefix_refl _) Kp.refl rs2 (it_zipT hk t hl u)⟩⟩
  · exact f2.elim
end
end Lv

/-! LvH: targets, comprehensions, statements. -/
namespace Lv
open PySem PySem.Spec PyProof.Rows L2

def slotsC : C → List Nat
  | .tn i => [i]
  | .tt ts => slotsC ts
  | .cons a b => slotsC a ++ slotsC b
  | _ => []
def lenC : C → Nat
  | .cons _ b => lenC b + 1
  | _ => 0
theorem sets_append {σ : L2.St} {us ws : List (Nat × V)} : sets (sets σ us) ws = sets σ (us ++ ws) := by
  unfold sets
  rw [List.foldl_append]
theorem wipe_wipe (σ : L2.St) (vs : List Nat) (us : List (Nat × V)) (h : ∀ u ∈ us, u.1 ∈ vs) : L2.wipe (sets (L2.wipe σ vs) us) vs = L2.wipe σ vs := by
  have hz : ∀ (τ : L2.St) (ws : List Nat) (i : Nat), i < τ.length → (L2.wipe τ ws)[i]? = if i ∈ ws then some none else τ[i]? := by
    intro τ ws
    induction ws with
    | nil =>
      intro i hi
      rfl
    | cons w ws ih =>
      intro i hi
      show ((L2.wipe τ ws).set w none)[i]? = _
      by_cases q : w = i
      · subst q
        rw [List.getElem?_set_self (by rw [L2.wipe_length]; exact hi), if_pos (by simp)]
      · rw [List.getElem?_set_ne q, ih i hi]
        by_cases z : i ∈ ws
        · rw [if_pos z, if_pos (List.mem_cons_of_mem _ z)]
        · rw [if_neg z, if_neg (by rw [List.mem_cons, not_or]; exact ⟨fun e => q e.symm, z⟩)]
  have sl : ∀ (us : List (Nat × V)) (τ : L2.St), (sets τ us).length = τ.length := by
    intro us
    induction us with
    | nil => intro τ; rfl
    | cons u us ih =>
      intro τ
      show (sets (τ.set u.1 (some u.2)) us).length = _
      rw [ih, List.length_set]
  have so : ∀ (us : List (Nat × V)) (τ : L2.St) (i : Nat), (∀ u ∈ us, u.1 ∈ vs) → i ∉ vs → (sets τ us)[i]? = τ[i]? := by
    intro us
    induction us with
    | nil => intro τ i _ _; rfl
    | cons u us ih =>
      intro τ i hu hi
      show (sets (τ.set u.1 (some u.2)) us)[i]? = _
      rw [ih _ i (fun w hw => hu w (List.mem_cons_of_mem _ hw)) hi]
      have hne : u.1 ≠ i := fun e => hi (e ▸ hu u List.mem_cons_self)
      rw [List.getElem?_set_ne hne]
  apply List.ext_getElem?
  intro i
  by_cases hi : i < σ.length
  · rw [hz _ vs i (by rw [sl, L2.wipe_length]; exact hi), hz σ vs i hi]
    by_cases z : i ∈ vs
    · rw [if_pos z, if_pos z]
    · rw [if_neg z, if_neg z, so us _ i h z, hz σ vs i hi, if_neg z]
  · rw [List.getElem?_eq_none (by rw [L2.wipe_length, sl, L2.wipe_length]; omega), List.getElem?_eq_none (by rw [L2.wipe_length]; omega)]
section
variable {X : Cx} {g : Cfg} {e o i : Expr} {es : List Expr} {c ct cs co ci : C} {pos : Pos} {x : Str} {n : Nat}
abbrev SG (X : Cx) (g : Cfg) (e : Expr) (c : C) : Prop := PG X e (tG X.K (evG g c) (slotsC c))
abbrev SGs (X : Cx) (g : Cfg) (es : List Expr) (c : C) : Prop := PGs X es (tGs X.K (evGs g c) (slotsC c))
theorem g_name (hN : X.N.Nodup) (hi : X.N[n]? = some x) (hx : Loc X.env.scope x) (hf : X.fn x = true ∨ X.env.scope.names.lookup x = some .local) : SG X g (.Name x pos) (.tn n) := (pg_name hN hi hx hf).imp7 fun y σ H Q ⟨as, S, r, v, rs, rr, rv, fin⟩ => by
  rw [evG] at fin
  exact fin as H [(n, y)] (List.prefix_refl _) Kp.refl rs (by simp [slotsC]) (rr.set rv n)
theorem gs_nil : SGs X g [] .nil := pgs_nil.imp7 fun y σ H Q ⟨as, S, r, vs, rs, rr, rv, fin⟩ => by
  cases rv with
  | nil =>
    rw [evGs] at fin
    exact ⟨rfl, fin as H [] (List.prefix_refl _) Kp.refl rs (by simp) rr⟩
  | cons a b =>
    rw [evGs] at fin
    · exact fin.elim
    all_goals (intros; contradiction)
theorem assign_plain {env : Env} (h : notStar e = true) : (assignEach (e :: es) env).map (·.2) = assign e env :: (assignEach es env).map (·.2) := by
  cases e <;> first | rfl | cases h
theorem gs_cons (hn : notStar e = true) (h : SG X g e ct) (t : SGs X g es cs) : SGs X g (e :: es) (.cons ct cs) := (pgs_cons h t (assign_plain hn)).imp7 fun ys σ H Q ⟨as, S, r, vs, rs, rr, rv, fin⟩ => by
  cases rv with
  | nil =>
    rw [evGs] at fin
    · exact fin.elim
    all_goals (intros; contradiction)
  | @cons v y vs ys r1 t1 =>
    rw [evGs] at fin
    refine ⟨y, ys, rfl, as, S, r, v, rs, rr, r1, ?_⟩
    cases ev : evG g ct v r S with
    | no =>
      rw [ev] at fin
      exact fin.elim
    | ok r2 S2 =>
      rw [ev] at fin
      intro bs H2 us p kp rs2 hus rr2
      refine ⟨bs, S2, r2, vs, rs2, rr2, t1.mono p kp, ?_⟩
      have fin : FinG X.K (slotsC (.cons ct cs)) σ as H (evGs g cs vs r2 S2) Q := fin
      cases ew : evGs g cs vs r2 S2 with
      | no =>
        rw [ew] at fin
        exact fin.elim
      | ok r3 S3 =>
        rw [ew] at fin
        intro ds H3 ws p3 kp3 rs3 hws rr3
        rw [sets_append] at rr3 ⊢
        refine fin ds H3 (us ++ ws) (p.trans p3) (kp.trans kp3) rs3 (fun u hu => ?_) rr3
        show u.1 ∈ slotsC ct ++ slotsC cs
        rw [List.mem_append] at hu ⊢
        rcases hu with hu | hu
        · exact .inl (hus u hu)
        · exact .inr (hws u hu)
theorem len_gs : ∀ (ts : C) (vs : List Val) (r : Rho) (S : Store), evGs g ts vs r S ≠ .no → vs.length = lenC ts := by
  intro ts
  induction ts with
  | nil =>
    intro vs r S h
    cases vs with
    | nil => rfl
    | cons a b => exact absurd (by rw [evGs] <;> (intros; contradiction)) h
  | cons a b _ ih =>
    intro vs r S h
    cases vs with
    | nil => exact absurd (by rw [evGs] <;> (intros; contradiction)) h
    | cons v vs =>
      rw [evGs] at h
      cases ev : evG g a v r S with
      | no =>
        rw [ev] at h
        exact absurd rfl h
      | ok r1 S1 =>
        rw [ev] at h
        exact congrArg Nat.succ (ih vs r1 S1 h)
  | _ =>
    intro vs r S h
    exact absurd (by rw [evGs] <;> (intros; contradiction)) h
theorem assign_len {env : Env} : ∀ es : List Expr, (assignEach es env).length = es.length
  | [] => rfl
  | e :: es => by
    have ih := assign_len (env := env) es
    cases e <;> exact congrArg Nat.succ ih
theorem assign_star {env : Env} : ∀ es : List Expr, es.all notStar = true → (assignEach es env).findIdx? (·.1) = none
  | [], _ => rfl
  | e :: es, h => by
    rw [List.all_cons, Bool.and_eq_true] at h
    have ih := assign_star (env := env) es h.2
    rw [List.findIdx?_eq_none_iff] at ih ⊢
    have e1 : assignEach (e :: es) env = (false, assign e env) :: assignEach es env := by
      have h1 := h.1
      cases e <;> first | rfl | cases h1
    rw [e1]
    intro y hy
    rcases List.mem_cons.mp hy with hy | hy
    · rw [hy]
    · exact ih y hy
theorem g_tup {k : Nat} (hc : X.calm = true) (hn : es.all notStar = true) (hl : es.length = lenC cs) (h : SGs X g es cs) : SG X g (.Tuple es k pos) (.tt cs) := (pg_tup (n := es.length) hc h (assign_len es) (assign_star es hn)).imp7 fun y σ H Q ⟨as, S, r, v, rs, rr, rv, fin⟩ => by
  cases rv with
  | @tup vs a xs hk t =>
    simp only [evG] at fin
    refine ⟨a, xs, rfl, hk.sq, ?_, as, S, r, vs, rs, rr, t, fin⟩
    rw [hl, ← t.length]
    refine len_gs (g := g) cs vs r S fun z => ?_
    rw [z] at fin
    exact fin.elim
  | _ =>
    simp only [evG] at fin
    exact fin.elim
def notSlice : Expr → Bool
  | .Slice _ _ _ _ => false
  | _ => true
theorem g_sub (hs : notSlice i = true) (ho : SE X g o co) (hi : SE X g i ci) : SG X g (.Subscript o i pos) (.tsub co ci) := (pg_sub ho hi set_list (by intro v; cases i <;> first | rfl | cases hs)).imp7 fun y σ H Q ⟨as, S, r, v, rs, rr, rv, fin⟩ => by
  simp only [evG] at fin
  refine ⟨as, S, r, rs, rr, ?_⟩
  cases ev : evE g co r S with
  | no =>
    rw [ev] at fin
    exact fin.elim
  | ok w S1 =>
    rw [ev] at fin
    intro bs H1 z p kp rs1 rz
    refine ⟨bs, S1, r, rs1, rr.mono p kp, ?_⟩
    simp only [Out.bind_ok] at fin
    cases ew : evE g ci r S1 with
    | no =>
      rw [ew] at fin
      exact fin.elim
    | ok j S2 =>
      rw [ew] at fin
      intro ds H2 jv p2 kp2 rs2 rj
      have rz2 := rz.mono p2 kp2
      cases w with
      | ref k =>
        cases j with
        | int n =>
          simp only [Out.bind_ok] at fin
          cases rz2 with
          | ref hk =>
            rename_i a
            cases rj
            split at fin
            · rename_i xs e1
              obtain ⟨zs, h1, t⟩ := rs2.lst e1 hk
              split at fin
              · rename_i m e2
                have l := t.length
                rw [l] at e2
                refine ⟨a, zs, n, m, rfl, rfl, h1, e2, ?_⟩
                have k3 : Kp H2 (upd H2 a (.lst (zs.set m y))) := Kp.write fun u e => by rw [h1] at e; cases e; trivial
                have kpa := (kp.trans kp2).trans k3
                exact fin ds _ [] (p.trans p2) kpa (rs2.write hk h1 (RVs.set ((rv.mono p kp).mono p2 kp2) m t)) (by simp) (rr.mono (p.trans p2) kpa)
              · exact fin.elim
            · exact fin.elim
        | _ => exact fin.elim
      | _ => exact fin.elim

/-! ### comprehensions -/
theorem f_nil : PTs X [] (tT X.K (evF g .nil)) := ⟨fun pins s σ H Q I ⟨as, S, r, rs, rr, fin⟩ => by
  rw [evF] at fin
  exact pts_nil.run pins s σ H Q I (fin.ok rs rfl)⟩
theorem f_one {t : Expr} (h : ST X g t ct) : PTs X [t] (tT X.K (evF g (.cons ct .nil))) := ⟨fun pins s σ H Q I ⟨as, S, r, rs, rr, fin⟩ => by
  rw [evF] at fin
  exact (pts_one h).run pins s σ H Q I ⟨as, S, r, rs, rr, fin⟩⟩
/-- a comprehension's reading by the evaluator's loop -/
theorem lc_read {K : PySem.W.Frag} {elt it ifs : C} {own : List Nat} (hsl : ∀ i ∈ slotsC ct, i ∈ own) {σ : L2.St} {H : Hp} {Q : VK} (h : tE K (evE g (.lc elt ct it ifs own)) σ H Q) :
    tLc (tI K (evI g it)) (tG K (evG g ct) (slotsC ct)) (tT K (evF g ifs)) (tE K (evE g elt)) own σ H Q := by
  obtain ⟨as, S, r, rs, rr, fin⟩ := h
  rw [evE] at fin
  refine ⟨as, S, r, rs, rr, fin.bind fun j S1 bs H1 J p kp rs1 hJ f1 => ?_⟩
  intro D hD
  have kd : Kp H1 (upd H1 D (.lst [])) := Kp.new hD
  have rs2 : RS K (upd H1 D (.lst [])) (bs ++ [D]) (S1 ++ [.lst []]) := rs1.push hD ⟨[], upd_same, .nil⟩
  have hDk : (bs ++ [D])[S1.length]? = some D := by
    rw [← rs1.len, List.getElem?_append_right (Nat.le_refl _), Nat.sub_self]
    rfl
  generalize hb : (fun (v : Val) (S2 : Store) => (evG g ct v (Lv.wipe r own) S2).bind fun r1 S3 => (evF g ifs r1 S3).bind fun b S4 => match b with
    | true => (evE g elt r1 S4).bind fun y S5 => (.ok (some y) S5 : Out (Option Val))
    | false => .ok none S4) = body at f1
  refine ⟨fun i m H' => ∃ ds S', (bs ++ [D]) <+: ds ∧ Kp (upd H1 D (.lst [])) H' ∧ RS K H' ds S' ∧ FinV K ds H' (lcN j S1.length body m i S') Q, ⟨TURNS, bs ++ [D], S1 ++ [.lst []], List.prefix_refl _, Kp.refl, rs2, Fin.mono (List.prefix_append _ _) kd f1⟩, ?_⟩
  rintro i m H' ⟨ds, S', pd, kd2, rs3, f3⟩
  have pb : bs <+: ds := (List.prefix_append _ _).trans pd
  have kb : Kp H1 H' := kd.trans kd2
  have hJ3 := hJ ds H' S' i pb kb rs3
  cases m with
  | zero => exact f3.elim
  | succ m =>
    unfold lcN at f3
    cases ea : j.at_ S' i with
    | none =>
      rw [ea] at f3
      exact f3.elim
    | some w =>
      rw [ea] at f3
      rw [ea] at hJ3
      cases w with
      | none => exact .inl ⟨hJ3.1 rfl, f3.ok rs3 (.ref (pre_get pd hDk))⟩
      | some v =>
        obtain ⟨go, hy⟩ := hJ3.2 v rfl
        simp only at f3
        refine .inr ⟨go, fun H'' => ∃ es S'', (bs ++ [D]) <+: es ∧ Kp (upd H1 D (.lst [])) H'' ∧ RS K H'' es S'' ∧ FinV K es H'' (lcN j S1.length body m (i + 1) S'') Q, fun H'' z => ⟨m, Nat.lt_succ_self m, z⟩, fun x H4 yl => ?_⟩
        obtain ⟨k4, rs4, rv⟩ := hy x H4 yl
        have kb4 := kb.trans k4
        refine ⟨ds, S', Lv.wipe r own, v, rs4, ((rr.mono p kp).mono pb kb4).wipe own, rv, ?_⟩
        subst hb
        simp only at f3
        cases eg : evG g ct v (Lv.wipe r own) S' with
        | no =>
          rw [eg] at f3
          exact f3.elim
        | ok r1 S3 =>
          rw [eg] at f3
          simp only [Out.bind_ok] at f3
          intro es H5 us p5 k5 rs5 hus rr5
          refine ⟨wipe_wipe σ own us fun u hu => hsl _ (hus u hu), es, S3, r1, rs5, rr5, ?_⟩
          cases ef : evF g ifs r1 S3 with
          | no =>
            rw [ef] at f3
            exact f3.elim
          | ok b S4 =>
            rw [ef] at f3
            simp only [Out.bind_ok] at f3
            intro es2 H6 b' p6 k6 rs6 eb
            subst eb
            cases b with
            | false =>
              rw [if_neg Bool.false_ne_true]
              exact ⟨es2, S4, pd.trans (p5.trans p6), kd2.trans (k4.trans (k5.trans k6)), rs6, Fin.mono (p5.trans p6) (k4.trans (k5.trans k6)) f3⟩
            | true =>
              rw [if_pos rfl]
              refine ⟨es2, S4, r1, rs6, rr5.mono p6 k6, ?_⟩
              cases ee : evE g elt r1 S4 with
              | no =>
                rw [ee] at f3
                exact f3.elim
              | ok y S5 =>
                rw [ee] at f3
                simp only [Out.bind_ok] at f3
                intro es3 H7 y' p7 k7 rs7 ry
                have pall : (bs ++ [D]) <+: es3 := pd.trans (p5.trans (p6.trans p7))
                have hk := pre_get pall hDk
                split at f3
                · rename_i acc ed
                  obtain ⟨xs, h1, t⟩ := rs7.lst ed hk
                  split at f3
                  · rename_i hz
                    have l := t.length
                    refine ⟨xs, h1, sz_lt (by omega), es3, _, pall, ?_, rs7.write hk h1 (t.append (.cons ry .nil)), ?_⟩
                    · exact (kd2.trans (k4.trans (k5.trans (k6.trans k7)))).trans (Kp.write fun u e => by rw [h1] at e; cases e; trivial)
                    · refine Fin.mono (p5.trans (p6.trans p7)) ?_ f3
                      exact (k4.trans (k5.trans (k6.trans k7))).trans (Kp.write fun u e => by rw [h1] at e; cases e; trivial)
                  · exact f3.elim
                · exact f3.elim
end
end Lv

/-! LvI: statements, defs. -/
namespace Lv
open PySem PySem.Spec PyProof.Rows L2
section
variable {K : PySem.W.Frag} {α β : Type} {Rel : Hp → List Addr → α → β → Prop} {as bs : List Addr} {H H' : Hp} {P : β → Hp → Prop} {D : Ends}
theorem FinS.mono (p : as <+: bs) (k : Kp H H') {o : SO} (h : FinS K as H o D) : FinS K bs H' o D := by
  cases o with
  | nx r S => exact fun cs H2 b p2 k2 rs r => h cs H2 b (p.trans p2) (k.trans k2) rs r
  | rt r S => exact fun cs H2 b p2 k2 rs r => h cs H2 b (p.trans p2) (k.trans k2) rs r
  | bk r S => exact fun cs H2 b p2 k2 rs r => h cs H2 b (p.trans p2) (k.trans k2) rs r
  | ct r S => exact fun cs H2 b p2 k2 rs r => h cs H2 b (p.trans p2) (k.trans k2) rs r
  | no => exact h
theorem FinS.lift {o : Out α} {f : α → Store → SO} (h : FinS K as H (lift o f) D) (k : ∀ a S' bs H' b, as <+: bs → Kp H H' → RS K H' bs S' → Rel H' bs a b → FinS K bs H' (f a S') D → P b H') : Fin K Rel as H o P := by
  cases o with
  | ok a S' => exact fun bs H' b p kp rs r => k a S' bs H' b p kp rs r (FinS.mono p kp h)
  | no => exact h
theorem FinS.liftG {sl : List Nat} {σ : L2.St} {o : Out Rho} {f : Rho → Store → SO} {P : L2.St → Hp → Prop} (h : FinS K as H (Lv.lift o f) D)
    (k : ∀ r S' bs H' us, as <+: bs → Kp H H' → RS K H' bs S' → RR K H' bs r (sets σ us) → FinS K bs H' (f r S') D → P (sets σ us) H') : FinG K sl σ as H o P := by
  cases o with
  | ok a S' => exact fun bs H' us p kp rs _ rr => k a S' bs H' us p kp rs rr (FinS.mono p kp h)
  | no => exact h
theorem FinS.seq {o : SO} {f : Rho → Store → SO} (h : FinS K as H (o.bind f) D) : FinS K as H o { D with nx := fun σ H' => ∃ bs S r, RS K H' bs S ∧ RR K H' bs r σ ∧ FinS K bs H' (f r S) D } := by
  cases o with
  | nx r S => exact fun cs H2 σ p2 k2 rs rr => ⟨cs, S, r, rs, rr, FinS.mono p2 k2 h⟩
  | rt r S => exact h
  | bk r S => exact h
  | ct r S => exact h
  | no => exact h
end
section
variable {X : Cx} {g : Cfg} {e it tg tst : Expr} {es : List Expr} {c ct ce ci cs cb cc : C} {pos pos' : Pos} {x : Str} {n : Nat} {st : Stmt} {sts body orelse : List Stmt}
abbrev SS (X : Cx) (g : Cfg) (s : Stmt) (c : C) : Prop := PS X s (tS X.K (evS g c))
abbrev SSs (X : Cx) (g : Cfg) (s : List Stmt) (c : C) : Prop := PSs X s (tS X.K (evSs g c))
theorem ss_nil : SSs X g [] .nil := pss_nil.imp7 fun D σ H ⟨as, S, r, rs, rr, fin⟩ => by
  rw [evSs] at fin
  exact fin as H σ (List.prefix_refl _) Kp.refl rs rr
theorem ss_cons (h : SS X g st c) (t : SSs X g sts cs) : SSs X g (st :: sts) (.cons c cs) := (pss_cons h t).imp7 fun D σ H ⟨as, S, r, rs, rr, fin⟩ => by
  rw [evSs] at fin
  exact ⟨as, S, r, rs, rr, fin.seq⟩
theorem st_pass : SS X g (.Pass pos) .pass := ps_pass.imp7 fun D σ H ⟨as, S, r, rs, rr, fin⟩ => by
  rw [evS] at fin
  exact fin as H σ (List.prefix_refl _) Kp.refl rs rr
theorem st_brk : SS X g (.Break pos) .brk := ps_break.imp7 fun D σ H ⟨as, S, r, rs, rr, fin⟩ => by
  rw [evS] at fin
  exact fin as H σ (List.prefix_refl _) Kp.refl rs rr
theorem st_cont : SS X g (.Continue pos) .cont := ps_continue.imp7 fun D σ H ⟨as, S, r, rs, rr, fin⟩ => by
  rw [evS] at fin
  exact fin as H σ (List.prefix_refl _) Kp.refl rs rr
theorem st_retn : SS X g (.Return none pos) .retn := ps_retN.imp7 fun D σ H ⟨as, S, r, rs, rr, fin⟩ => by
  rw [evS] at fin
  exact fin as H .non (List.prefix_refl _) Kp.refl rs .non
theorem st_ret (h : SE X g e ce) : SS X g (.Return (some e) pos) (.ret ce) := (ps_ret h).imp7 fun D σ H ⟨as, S, r, rs, rr, fin⟩ => by
  rw [evS] at fin
  exact ⟨as, S, r, rs, rr, fin.lift fun v S1 bs H1 y p kp rs1 rv f1 => f1 bs H1 y (List.prefix_refl _) Kp.refl rs1 rv⟩
theorem st_expr (h : SE X g e ce) (hs : swapsWith e none pos.line X.env = pure false) : SS X g (.Expr e pos) (.expr ce) := (ps_expr h hs).imp7 fun D σ H ⟨as, S, r, rs, rr, fin⟩ => by
  rw [evS] at fin
  exact ⟨as, S, r, rs, rr, fin.lift (Rel := RV X.K) fun v S1 bs H1 y p kp rs1 rv f1 => f1 bs H1 σ (List.prefix_refl _) Kp.refl rs1 (rr.mono p kp)⟩
/-- a store by a target's reading -/
theorem asg_read {t : TE} {K : PySem.W.Frag} {D : Ends} {σ : L2.St} {H : Hp} (ht : ∀ σ H Q, tE K (evE g ce) σ H Q → t σ H Q) (h : tS K (evS g (.asg ct ce)) D σ H) : tAsg t (tG K (evG g ct) (slotsC ct)) D σ H := by
  obtain ⟨as, S, r, rs, rr, fin⟩ := h
  rw [evS] at fin
  refine ht _ _ _ ⟨as, S, r, rs, rr, fin.lift fun v S1 bs H1 y p kp rs1 rv f1 => ⟨bs, S1, r, v, rs1, rr.mono p kp, rv, f1.liftG fun r2 S2 ds H2 us p2 kp2 rs2 rr2 f2 => ?_⟩⟩
  exact f2 ds H2 _ (List.prefix_refl _) Kp.refl rs2 rr2
/-- x = .. by the slot's own rule -/
theorem name_read {t : TE} {K : PySem.W.Frag} {D : Ends} {σ : L2.St} {H : Hp} (ht : ∀ σ H Q, tE K (evE g ce) σ H Q → t σ H Q) (h : tS K (evS g (.asg (.tn n) ce)) D σ H) : tAsg t (gName n) D σ H := by
  obtain ⟨as, S, r, rs, rr, fin⟩ := h
  rw [evS] at fin
  refine ht _ _ _ ⟨as, S, r, rs, rr, fin.lift fun v S1 bs H1 y p kp rs1 rv f1 => ?_⟩
  simp only [evG, lift_ok] at f1
  exact f1 bs H1 _ (List.prefix_refl _) Kp.refl rs1 ((rr.mono p kp).set rv n)
theorem st_set (hN : X.N.Nodup) (hi : X.N[n]? = some x) (hx : Loc X.env.scope x) (hf : X.fn x = true ∨ X.env.scope.names.lookup x = some .local) (h : SE X g e ce) (hs : swapsWith e (some (.Name x pos')) pos.line X.env = pure false) :
    SS X g (.Assign [.Name x pos'] e pos) (.asg (.tn n) ce) := (ps_set hN hi hx h hs hf).imp7 fun D σ H z => name_read (fun _ _ _ q => q) z
theorem st_asg (hg : SG X g tg ct) (h : SE X g e ce) (hn : notStar tg = true) (hs : swapsWithSole [tg] e pos.line X.env = pure false) (hw : swappedStores [tg] e X.env = pure none) : SS X g (.Assign [tg] e pos) (.asg ct ce) :=
  (ps_asg h hg hs hw (by rw [assign_plain hn]; rfl)).imp7 fun D σ H z => asg_read (fun _ _ _ q => q) z
theorem st_if (hc : ST X g tst cc) (ha : SSs X g body cb) (hb : SSs X g orelse cs) : SS X g (.If tst body orelse pos) (.iff cc cb cs) := (ps_if hc ha hb).imp7 fun D σ H ⟨as, S, r, rs, rr, fin⟩ => by
  rw [evS] at fin
  refine ⟨as, S, r, rs, rr, fin.lift fun v S1 bs H1 y p kp rs1 rv f1 => ?_⟩
  subst rv
  cases v with
  | true =>
    rw [if_pos rfl]
    exact ⟨bs, S1, r, rs1, rr.mono p kp, f1⟩
  | false =>
    rw [if_neg Bool.false_ne_true]
    exact ⟨bs, S1, r, rs1, rr.mono p kp, f1⟩
theorem st_for (hp : PassesOwn (model X.prog X.w) X.A X.env X.xe) (hc : X.calm = true) (hi : SI X g tg it ci) (hg : SG X g tg ct) (hb : SSs X g body cb) (hs : ∀ x, foldedSetIterable it X.env x = pure x) : SS X g (.For tg it body [] pos) (.forr ct ci cb) := (ps_for hp hc hi hg hb hs).imp7 fun D σ H ⟨as, S, r, rs, rr, fin⟩ => by
  rw [evS] at fin
  refine ⟨as, S, r, rs, rr, fin.lift fun j S1 bs H1 J p kp rs1 hJ f1 => ?_⟩
  generalize hb : (fun (v : Val) (r : Rho) (S : Store) => lift (evG g ct v r S) fun r1 S1 => evSs g cb r1 S1) = body at f1
  refine ⟨fun i m σ' H' => ∃ ds S' r', bs <+: ds ∧ Kp H1 H' ∧ RS X.K H' ds S' ∧ RR X.K H' ds r' σ' ∧ FinS X.K ds H' (forN j body m i r' S') D, ⟨TURNS, bs, S1, r, List.prefix_refl _, Kp.refl, rs1, rr.mono p kp, f1⟩, ?_⟩
  rintro i m σ' H' ⟨ds, S', r', pd, kd, rs3, rr3, f3⟩
  have hJ3 := hJ ds H' S' i pd kd rs3
  cases m with
  | zero => exact f3.elim
  | succ m =>
    unfold forN at f3
    cases ea : j.at_ S' i with
    | none =>
      rw [ea] at f3
      exact f3.elim
    | some w =>
      rw [ea] at f3
      rw [ea] at hJ3
      cases w with
      | none => exact .inl ⟨hJ3.1 rfl, f3 ds H' σ' (List.prefix_refl _) Kp.refl rs3 rr3⟩
      | some v =>
        obtain ⟨go, hy⟩ := hJ3.2 v rfl
        simp only at f3
        refine .inr ⟨go, fun σ'' H'' => ∃ es S'' r'', bs <+: es ∧ Kp H1 H'' ∧ RS X.K H'' es S'' ∧ RR X.K H'' es r'' σ'' ∧ FinS X.K es H'' (forN j body m (i + 1) r'' S'') D, fun σ'' H'' z => ⟨m, Nat.lt_succ_self m, z⟩, fun x H4 yl => ?_⟩
        obtain ⟨k4, rs4, rv⟩ := hy x H4 yl
        refine ⟨ds, S', r', v, rs4, rr3.mono (List.prefix_refl _) k4, rv, ?_⟩
        have f4 : FinS X.K ds H4 (body v r' S') { D with nx := fun σ'' H'' => ∃ es S'' r'', bs <+: es ∧ Kp H1 H'' ∧ RS X.K H'' es S'' ∧ RR X.K H'' es r'' σ'' ∧ FinS X.K es H'' (forN j body m (i + 1) r'' S'') D, ct := fun σ'' H'' => ∃ es S'' r'', bs <+: es ∧ Kp H1 H'' ∧ RS X.K H'' es S'' ∧ RR X.K H'' es r'' σ'' ∧ FinS X.K es H'' (forN j body m (i + 1) r'' S'') D, bk := D.nx } := by
          cases eb : body v r' S' with
          | no =>
            rw [eb] at f3
            exact f3.elim
          | nx r2 S2 =>
            rw [eb] at f3
            exact fun cs H5 σ5 p5 k5 rs5 rr5 => ⟨cs, S2, r2, pd.trans p5, kd.trans (k4.trans k5), rs5, rr5, FinS.mono p5 (k4.trans k5) f3⟩
          | ct r2 S2 =>
            rw [eb] at f3
            exact fun cs H5 σ5 p5 k5 rs5 rr5 => ⟨cs, S2, r2, pd.trans p5, kd.trans (k4.trans k5), rs5, rr5, FinS.mono p5 (k4.trans k5) f3⟩
          | bk r2 S2 =>
            rw [eb] at f3
            exact fun cs H5 σ5 p5 k5 rs5 rr5 => f3 cs H5 σ5 p5 (k4.trans k5) rs5 rr5
          | rt r2 S2 =>
            rw [eb] at f3
            exact fun cs H5 σ5 p5 k5 rs5 rr5 => f3 cs H5 σ5 p5 (k4.trans k5) rs5 rr5
        subst hb
        exact f4.liftG fun r2 S2 ds2 H5 us p5 k5 rs5 rr5 f5 => ⟨ds2, S2, r2, rs5, rr5, f5⟩
theorem st_while (hp : PassesOwn (model X.prog X.w) X.A X.env X.xe) (hc : ST X g tst cc) (hb : SSs X g body cb) : SS X g (.While tst body [] pos) (.whl cc cb) := (ps_while hp hc hb).imp7 fun D σ H ⟨as, S, r, rs, rr, fin⟩ => by
  rw [evS] at fin
  refine ⟨fun m σ' H' => ∃ ds S' r', RS X.K H' ds S' ∧ RR X.K H' ds r' σ' ∧ FinS X.K ds H' (whlN (evT g cc) (evSs g cb) m r' S') D, ⟨TURNS, as, S, r, rs, rr, fin⟩, ?_⟩
  rintro m σ' H' ⟨ds, S', r', rs3, rr3, f3⟩
  cases m with
  | zero => exact f3.elim
  | succ m =>
    unfold whlN at f3
    refine ⟨ds, S', r', rs3, rr3, ?_⟩
    cases et : evT g cc r' S' with
    | no =>
      rw [et] at f3
      exact f3.elim
    | ok b S2 =>
      rw [et] at f3
      intro ds2 H2 b' p2 k2 rs4 eb
      subst eb
      cases b with
      | false =>
        rw [if_neg Bool.false_ne_true]
        exact f3 ds2 H2 σ' p2 k2 rs4 (rr3.mono p2 k2)
      | true =>
        rw [if_pos rfl]
        simp only at f3
        refine ⟨fun σ'' H'' => ∃ es S'' r'', RS X.K H'' es S'' ∧ RR X.K H'' es r'' σ'' ∧ FinS X.K es H'' (whlN (evT g cc) (evSs g cb) m r'' S'') D, fun σ'' H'' z => ⟨m, Nat.lt_succ_self m, z⟩, ds2, S2, r', rs4, rr3.mono p2 k2, ?_⟩
        cases eb : evSs g cb r' S2 with
        | no =>
          rw [eb] at f3
          exact f3.elim
        | nx r2 S3 =>
          rw [eb] at f3
          exact fun cs H5 σ5 p5 k5 rs5 rr5 => ⟨cs, S3, r2, rs5, rr5, FinS.mono (p2.trans p5) (k2.trans k5) f3⟩
        | ct r2 S3 =>
          rw [eb] at f3
          exact fun cs H5 σ5 p5 k5 rs5 rr5 => ⟨cs, S3, r2, rs5, rr5, FinS.mono (p2.trans p5) (k2.trans k5) f3⟩
        | bk r2 S3 =>
          rw [eb] at f3
          exact fun cs H5 σ5 p5 k5 rs5 rr5 => f3 cs H5 σ5 (p2.trans p5) (k2.trans k5) rs5 rr5
        | rt r2 S3 =>
          rw [eb] at f3
          exact fun cs H5 σ5 p5 k5 rs5 rr5 => f3 cs H5 σ5 (p2.trans p5) (k2.trans k5) rs5 rr5
end
end Lv

/-! LvJ: from the text to codes, and that the codes say the text. -/
namespace Lv
open PySem PySem.Spec PyProof.Rows L2

/-- the defs of the text by name (index, number of parameters), their defaults and keyword calls, the module's constants -/
structure GT where
  ex : Nat → Bool
  fns : Str → Option (Nat × Nat)
  dcs : Nat → Nat → Option (List Val)
  kcs : Nat → Nat → List Str → Option (List Src)
  kvs : Str → Bool
def slot (N : List Str) (x : Str) : Option Nat := N.findIdx? (fun y => decide (y = x))
def visB (sc : Scope) (x : Str) : Bool := match sc.names.lookup x with
  | some .local => true
  | some .cell => true
  | some .free => true
  | _ => false
def locB (sc : Scope) (x : Str) : Bool := match sc.names.lookup x with
  | some .local => true
  | some .cell => true
  | _ => false
def glB (sc : Scope) (x : Str) : Bool := match sc.names.lookup x with
  | some .globalImplicit => true
  | _ => false
def plainN (x : Str) : Bool := decide (x ≠ "__debug__") && decide (x ≠ "__classdict__") && decide (x ≠ "__name__")
/-- the built-in functions, the built-in types that are called -/
def bltNames : List (Str × String) := [("len", "len"), ("isinstance", "isinstance"), ("all", "all"), ("any", "any")]
def tyNames : List (Str × String) := [("list", "list"), ("tuple", "tuple"), ("int", "int")]
def tyVals : List (Str × String) := [("list", "list"), ("tuple", "tuple"), ("int", "int"), ("bool", "bool"), ("str", "str")]
def freeNames : List Str := ["len", "isinstance", "all", "any", "list", "tuple", "int", "bool", "str", "range", "enumerate", "zip"]
def mthNames : List (Str × String) := [("append", "append"), ("clear", "clear"), ("index", "index"), ("join", "join"), ("upper", "upper")]
def gd {α : Type} (b : Bool) (o : Option α) : Option α := match b with
  | true => o
  | false => none
def opBy : Operator → Option Bop
  | .Add => some .add
  | .Sub => some .sub
  | .Mult => some .mul
  | .FloorDiv => some .fdiv
  | .Mod => some .mod
  | .Pow => some .pow
  | _ => none
def copBy : CmpOp → Cop
  | .Eq => .eq | .NotEq => .ne | .Lt => .lt | .LtE => .le | .Gt => .gt | .GtE => .ge | .In => .inn | .NotIn => .nin | .Is => .is | .IsNot => .isn
def notNil : C → Bool
  | .nil => false
  | _ => true
def notSet : Expr → Bool
  | .Set _ _ _ => false
  | _ => true
def compL (f : Expr → Option C) : List Expr → Option C
  | [] => some .nil
  | .Starred e _ :: es => (f e).bind fun c => (compL f es).bind fun cs => some (.cons (.star c) cs)
  | e :: es => (f e).bind fun c => (compL f es).bind fun cs => gd (noStarC c) (some (.cons c cs))
def compK (f : Expr → Option C) : List Keyword → Option C
  | [] => some .nil
  | ⟨_, e, _⟩ :: es => (f e).bind fun c => (compK f es).bind fun cs => gd (noStarC c) (some (.cons c cs))
def compB (op : C → C → C) (f : Expr → Option C) : List Expr → Option C
  | [] => none
  | [a] => f a
  | a :: b :: es => (f a).bind fun c => (compB op f (b :: es)).bind fun cs => some (op c cs)
def compO (f : Expr → Option C) : Option Expr → Option C
  | none => some .nil
  | some e => (f e).bind fun c => gd (notNil c) (some c)
def isTupE : Expr → Bool
  | .Tuple _ _ _ => true
  | _ => false
/-- what is walked -/
def compI (f : Expr → Option C) (sc : Scope) (tg it : Expr) : Option C := match it with
  | .Call (.Name x _) [a] [] _ =>
    if x = "range" then gd (glB sc "range" && notStar a) ((f a).bind fun c => some (.irng c))
    else if x = "enumerate" then gd (glB sc "enumerate" && notStar a && isTupE tg) ((f a).bind fun c => some (.ienum c))
    else (f it).bind fun c => gd (plainI c) (some c)
  | .Call (.Name x _) [a, b] [] _ =>
    if x = "range" then gd (glB sc "range" && notStar a && notStar b) ((f a).bind fun c => (f b).bind fun d => some (.irng2 c d))
    else if x = "zip" then gd (glB sc "zip" && notStar a && notStar b && isTupE tg) ((f a).bind fun c => (f b).bind fun d => some (.izip c d))
    else (f it).bind fun c => gd (plainI c) (some c)
  | _ => gd (notSet it) ((f it).bind fun c => gd (plainI c) (some c))
def compGs (f : Expr → Option C) : List Expr → Option C
  | [] => some .nil
  | e :: es => (f e).bind fun c => (compGs f es).bind fun cs => gd (notStar e) (some (.cons c cs))
/-- a target; f: expressions; T: the names that may be stored here -/
def compG (f : Expr → Option C) (N : List Str) (sc : Scope) (T : Str → Bool) : Nat → Expr → Option C
  | 0, _ => none
  | n + 1, e => match e with
    | .Name x _ => gd (locB sc x && T x) ((slot N x).bind fun i => some (.tn i))
    | .Tuple es _ _ => gd (es.all notStar) ((compGs (compG f N sc T n) es).bind fun cs => gd (decide (es.length = lenC cs)) (some (.tt cs)))
    | .Subscript o i _ => gd (notSlice i) ((f o).bind fun c => (f i).bind fun d => some (.tsub c d))
    | _ => none
def compF (f : Expr → Option C) : List Expr → Option C
  | [] => some .nil
  | [t] => (f t).bind fun c => some (.cons c .nil)
  | _ => none
def ownOf (N : List Str) (scp : Scope) : List (Str × Nat) := scp.names.filterMap fun y => match y.2 with
  | .local => (slot N y.1).map fun i => (y.1, i)
  | .cell => (slot N y.1).map fun i => (y.1, i)
  | _ => none
def blkT (scp : Scope) (x : Str) : Bool := locB scp x
def kwNames (kws : List Keyword) : List Str := kws.filterMap (·.arg)
def compC (f : Expr → Option C) (G : GT) (sc : Scope) (x : Str) (args : List Expr) (kws : List Keyword) : Option C :=
  gd (glB sc x && plainN x && args.all notStar && kws.all (fun k => k.arg.isSome)) (match kws with
    | [] => match G.fns x with
      | some (i, m) => (compL f args).bind fun cs => if args.length = m ∧ G.ex i = true then some (.call i cs) else (G.dcs i args.length).bind fun ds => some (.calld i cs ds)
      | none => match args with
        | [] => none
        | _ => match bltNames.lookup x with
          | some b => (compL f args).bind fun cs => some (.blt b cs)
          | none => (tyNames.lookup x).bind fun b => (compL f args).bind fun cs => some (.blt b cs)
    | _ => (G.fns x).bind fun q => (G.kcs q.1 args.length (kwNames kws)).bind fun src => (compL f args).bind fun cs => (compK f kws).bind fun cw => some (.callk q.1 cs src cw))
def compCmp (f : Expr → Option C) (a : Expr) (ops : List CmpOp) (bs : List Expr) : Option C := match ops, bs with
  | [op], [b] => gd (!behindInMarks op b) ((f a).bind fun c => (f b).bind fun d => some (.cmp (copBy op) c d))
  | [op, op'], [b, b'] => gd (!lastMarks [op, op'] [b, b']) ((f a).bind fun c => (f b).bind fun d => (f b').bind fun h => some (.chain (copBy op) (copBy op') c d h))
  | _, _ => none
def compE (G : GT) (N : List Str) : Nat → Scope → (Str → Bool) → Expr → Option C
  | 0, _, _, _ => none
  | n + 1, sc, T, e => match e with
    | .Name x _ => gd (plainN x) (if visB sc x then (slot N x).bind fun i => some (.var i) else gd (glB sc x) (if G.kvs x then some (.kval x) else (tyVals.lookup x).bind fun t => some (.kty t)))
    | .Constant k _ _ => match k with
      | .none => some .knon
      | .bool b => some (.kbl b)
      | .int i => some (.kint i)
      | .str x => some (.kstr x)
      | _ => none
    | .Tuple es _ _ => (compL (compE G N n sc T) es).bind fun cs => some (.tup cs)
    | .List es _ => (compL (compE G N n sc T) es).bind fun cs => some (.lst cs)
    | .BinOp a op b _ => (opBy op).bind fun o => (compE G N n sc T a).bind fun c => (compE G N n sc T b).bind fun d => some (.bin o c d)
    | .UnaryOp op a _ => match op with
      | .USub => (compE G N n sc T a).bind fun c => some (.neg c)
      | .Not => (compE G N n sc T a).bind fun c => some (.not_ c)
      | _ => none
    | .BoolOp op es _ => match op with
      | .And => compB .and_ (compE G N n sc T) es
      | .Or => compB .or_ (compE G N n sc T) es
    | .IfExp t a b _ => (compE G N n sc T t).bind fun c => (compE G N n sc T a).bind fun d => (compE G N n sc T b).bind fun h => some (.ife c d h)
    | .Compare a ops bs _ => compCmp (compE G N n sc T) a ops bs
    | .Subscript a s _ => match s with
      | .Slice lo hi st _ => match st with
        | none => (compE G N n sc T a).bind fun c => (compO (compE G N n sc T) lo).bind fun l => (compO (compE G N n sc T) hi).bind fun h => some (.sl c l h)
        | some _ => none
      | _ => (compE G N n sc T a).bind fun c => (compE G N n sc T s).bind fun d => some (.idx c d)
    | .Call f args kws p => match f with
      | .Name x _ => compC (compE G N n sc T) G sc x args kws
      | .Attribute o m ap => match kws with
        | [] => gd (superOk o && lineOk ap p && args.all notStar && decide (args.length < 30)) ((mthNames.lookup m).bind fun w => (compE G N n sc T o).bind fun c => (compL (compE G N n sc T) args).bind fun cs => some (.mth w c cs))
        | _ => none
      | _ => none
    | .ListComp elt gens scp _ => match gens with
      | [⟨tg, it, ifs, z⟩] => gd (decide (z = 0) && blkC N sc scp (ownOf N scp) && notSet it && decide (sc.kind = .function)) ((compI (compE G N n sc T) sc tg it).bind fun ci =>
          (compG (compE G N n (relS scp sc) (blkT scp)) N (relS scp sc) (blkT scp) n tg).bind fun ct =>
          (compF (compE G N n (relS scp sc) (blkT scp)) ifs).bind fun cf => (compE G N n (relS scp sc) (blkT scp) elt).bind fun ce =>
          gd ((slotsC ct).all fun i => (ownOf N scp).any fun p => decide (p.2 = i)) (some (.lc ce ct ci cf ((ownOf N scp).map (·.2)))))
      | _ => none
    | _ => none

/-! ### what the context says of the text -/
structure FnHave (G : GT) (g : Cfg) (n : Nat) (X : Cx) (x : Str) (f m : Nat) : Prop where
  ex : ∃ (fa : Addr) (fd : FuncData) (ps : List Str), X.mg x = some (.ref fa) ∧ PySem.W.keepIn X.K (.ref fa) = true ∧ FnOk X.prog X.w X.K X.mg X.base CX0 n fa fd ps (spF X.K m (g.R f)) ∧
    (G.ex f = true → Binds X.K fd ps []) ∧ (∀ k ds, G.dcs f k = some ds → ∃ us dvs, Vals dvs us ∧ (∀ H as, RVs X.K H as ds dvs) ∧ Binds X.K fd ps us) ∧
    (∀ k ks src, G.kcs f k ks = some src → ∃ gg gV, KBn X.K fd ps k ks gg gV ∧ ∀ H as vs xs ws zs us, vs.length = k → ws.length = ks.length → mapO (Src.get vs ws) src = some us → RVs X.K H as vs xs → RVs X.K H as ws zs → RVs X.K H as us (gV xs zs))
  ar : ∀ ws S, ws.length ≠ m → g.R f ws S = .no
structure OK (G : GT) (g : Cfg) (n : Nat) (X : Cx) (N : List Str) (sc : Scope) (T : Str → Bool) : Prop where
  hN : X.N = N
  hsc : X.env.scope = sc
  nd : N.Nodup
  calm : X.calm = true
  room : Room n X.A
  pown : PassesOwn (model X.prog X.w) X.A X.env X.xe
  free : ∀ x ∈ freeNames, X.mg x = none
  kv : ∀ x, G.kvs x = true → ∃ v y u, g.kv x = some v ∧ X.mg x = some u ∧ RelV y u ∧ ∀ H as, RV X.K H as v y
  fn : ∀ x f m, G.fns x = some (f, m) → FnHave G g n X x f m
  tg : ∀ x, T x = true → locB sc x = true → X.fn x = true ∨ X.env.scope.names.lookup x = some .local
section
variable {G : GT} {g : Cfg} {lv : Nat} {X : Cx} {N : List Str} {sc : Scope} {T : Str → Bool} {e : Expr} {c : C}
theorem gd_some {α : Type} {b : Bool} {o : Option α} {a : α} (h : gd b o = some a) : b = true ∧ o = some a := by
  cases b with
  | true => exact ⟨rfl, h⟩
  | false => cases h
theorem bd {α β : Type} {o : Option α} {f : α → Option β} {b : β} (h : o.bind f = some b) : ∃ a, o = some a ∧ f a = some b := Option.bind_eq_some_iff.mp h
theorem slot_ok {x : Str} {i : Nat} (h : slot N x = some i) : N[i]? = some x := by
  unfold slot at h
  rw [List.findIdx?_eq_some_iff_getElem] at h
  obtain ⟨h1, h2, _⟩ := h
  rw [List.getElem?_eq_getElem h1]
  rw [of_decide_eq_true h2]
theorem vis_ok (ok : OK G g lv X N sc T) {x : Str} (h : visB sc x = true) : Vis X.env.scope x := by
  rw [ok.hsc]
  unfold visB at h
  unfold Vis
  split at h
  · exact .inl (by assumption)
  · exact .inr (.inl (by assumption))
  · exact .inr (.inr (by assumption))
  · cases h
theorem loc_ok (ok : OK G g lv X N sc T) {x : Str} (h : locB sc x = true) : L2.Loc X.env.scope x := by
  rw [ok.hsc]
  unfold locB at h
  unfold L2.Loc
  split at h
  · exact .inl (by assumption)
  · exact .inr (by assumption)
  · cases h
theorem gl_ok (ok : OK G g lv X N sc T) {x : Str} (h : glB sc x = true) : Gl X x := by
  show X.env.scope.names.lookup x = some .globalImplicit
  rw [ok.hsc]
  unfold glB at h
  split at h
  · assumption
  · cases h
theorem plain_n {x : Str} (h : plainN x = true) : (x == ("__debug__" : Str)) = false ∧ (x == ("__classdict__" : Str)) = false ∧ x ≠ "__name__" := by
  unfold plainN at h
  simp only [Bool.and_eq_true, decide_eq_true_eq] at h
  exact ⟨by simpa using h.1.1, by simpa using h.1.2, h.2⟩
theorem OK.units (ok : OK G g lv X N sc T) : X.A.units + 65 < cLine := by
  have := ok.room.un
  omega
theorem copBy_ok (op : CmpOp) : copOf (copBy op) = op := by cases op <;> rfl
theorem opBy_ok {op : Operator} {o : Bop} (h : opBy op = some o) : opOf o = op := by cases op <;> first | (cases h; rfl) | cases h
/-- what the recursion knows -/
def Good (X : Cx) (g : Cfg) (f : Expr → Option C) : Prop := ∀ e c, f e = some c → SE X g e c ∧ ST X g e c
theorem l_ok {f : Expr → Option C} (hf : Good X g f) : ∀ {es : List Expr} {cs : C}, compL f es = some cs → SA X g es cs
  | [], cs, h => by
    cases h
    exact a_nil
  | e :: es, cs, h => by
    by_cases hs : notStar e = true
    · have h : ((f e).bind fun c => (compL f es).bind fun cs => gd (noStarC c) (some (.cons c cs))) = some cs := by
        cases e <;> first | exact h | cases hs
      obtain ⟨c, h1, h⟩ := bd h
      obtain ⟨d, h2, h⟩ := bd h
      obtain ⟨h3, h⟩ := gd_some h
      cases h
      exact a_cons hs h3 (hf e c h1).1 (l_ok hf h2)
    · cases e with
      | Starred a p =>
        have h : ((f a).bind fun c => (compL f es).bind fun cs => some (.cons (.star c) cs)) = some cs := h
        obtain ⟨c, h1, h⟩ := bd h
        obtain ⟨d, h2, h⟩ := bd h
        cases h
        exact a_star (hf a c h1).1 (l_ok hf h2)
      | _ => exact absurd rfl hs
theorem k_ok {f : Expr → Option C} (hf : Good X g f) : ∀ {es : List Keyword} {cs : C}, compK f es = some cs → PK X es (tA X.K (evEs g cs))
  | [], cs, h => by
    cases h
    exact k_nil
  | ⟨nm, e, p⟩ :: es, cs, h => by
    have h : ((f e).bind fun c => (compK f es).bind fun cs => gd (noStarC c) (some (.cons c cs))) = some cs := h
    obtain ⟨c, h1, h⟩ := bd h
    obtain ⟨d, h2, h⟩ := bd h
    obtain ⟨h3, h⟩ := gd_some h
    cases h
    exact k_cons h3 (hf e c h1).1 (k_ok hf h2)
theorem l_len {f : Expr → Option C} : ∀ {es : List Expr} {cs : C}, compL f es = some cs → es.all notStar = true → ∀ r S vs S', evEs g cs r S = .ok vs S' → vs.length = es.length
  | [], cs, h, _, r, S, vs, S', he => by
    cases h
    rw [evEs] at he
    cases he
    rfl
  | e :: es, cs, h, hn, r, S, vs, S', he => by
    rw [List.all_cons, Bool.and_eq_true] at hn
    have h : ((f e).bind fun c => (compL f es).bind fun cs => gd (noStarC c) (some (.cons c cs))) = some cs := by
      have hs := hn.1
      cases e <;> first | exact h | cases hs
    obtain ⟨c, h1, h⟩ := bd h
    obtain ⟨d, h2, h⟩ := bd h
    obtain ⟨h3, h⟩ := gd_some h
    cases h
    rw [evEs] at he
    · cases ea : evE g c r S with
      | no =>
        rw [ea] at he
        cases he
      | ok v S1 =>
        rw [ea] at he
        simp only [Out.bind_ok] at he
        cases eb : evEs g d r S1 with
        | no =>
          rw [eb] at he
          cases he
        | ok ws S2 =>
          rw [eb] at he
          cases he
          exact congrArg Nat.succ (l_len h2 hn.2 _ _ _ _ eb)
    · rintro e rfl
      cases h3
theorem k_len {f : Expr → Option C} : ∀ {es : List Keyword} {cs : C}, compK f es = some cs → ∀ r S vs S', evEs g cs r S = .ok vs S' → vs.length = es.length
  | [], cs, h, r, S, vs, S', he => by
    cases h
    rw [evEs] at he
    cases he
    rfl
  | ⟨nm, e, p⟩ :: es, cs, h, r, S, vs, S', he => by
    have h : ((f e).bind fun c => (compK f es).bind fun cs => gd (noStarC c) (some (.cons c cs))) = some cs := h
    obtain ⟨c, h1, h⟩ := bd h
    obtain ⟨d, h2, h⟩ := bd h
    obtain ⟨h3, h⟩ := gd_some h
    cases h
    rw [evEs] at he
    · cases ea : evE g c r S with
      | no =>
        rw [ea] at he
        cases he
      | ok v S1 =>
        rw [ea] at he
        simp only [Out.bind_ok] at he
        cases eb : evEs g d r S1 with
        | no =>
          rw [eb] at he
          cases he
        | ok ws S2 =>
          rw [eb] at he
          cases he
          exact congrArg Nat.succ (k_len h2 _ _ _ _ eb)
    · rintro e rfl
      cases h3
/-- the test of an expression that is no not, and, or, if, comparison -/
def plainT : C → Bool
  | .not_ _ => false
  | .and_ _ _ => false
  | .or_ _ _ => false
  | .ife _ _ _ => false
  | _ => true
theorem evT_plain {c : C} (h : plainT c = true) (r : Rho) (S : Store) : evT g c r S = (evE g c r S).bind fun v S1 => ofO S1 (tru S1 v) := by
  cases c <;> first | (exact absurd h (by decide)) | (rw [evT] <;> first | rfl | (intros; contradiction))
theorem t_plain (hc : plainT c = true) (h : SE X g e c) (he : ∀ whole, isTrue e X.env whole = (do let v ← whole; standAt e.pos; holding [v] (truthy v))) : ST X g e c := (pt_truth h he).imp7 fun σ H Q ⟨as, S, r, rs, rr, fin⟩ => by
  rw [evT_plain hc] at fin
  refine ⟨as, S, r, rs, rr, fin.bind fun v S1 bs H1 x p kp rs1 rv f1 => ?_⟩
  cases et : tru S1 v with
  | none =>
    rw [et] at f1
    exact f1.elim
  | some b =>
    rw [et] at f1
    exact ⟨b, tru_ok' rs1 et rv, f1.ok rs1 rfl⟩
end
end Lv

/-! LvK: the codes of expressions say the text. -/
namespace Lv
open PySem PySem.Spec PyProof.Rows L2
section
variable {G : GT} {g : Cfg} {lv : Nat} {X : Cx} {N : List Str} {sc : Scope} {T : Str → Bool} {e a b c d : Expr} {ca cb cc : C} {pos : Pos} {op op' : Cop}
theorem b_and {f : Expr → Option C} (hf : Good X g f) : ∀ {es : List Expr} {c : C}, compB .and_ f es = some c → SE X g (.BoolOp .And es pos) c ∧ PW X (.BoolOp .And es pos) (tT X.K (evT g c))
  | [], c, h => by cases h
  | [a], c, h => ⟨pe_one (hf a c h).1, pw_and1 (hf a c h).2⟩
  | a :: b :: es, c, h => by
    have h : ((f a).bind fun c => (compB .and_ f (b :: es)).bind fun cs => some (.and_ c cs)) = some c := h
    obtain ⟨c1, h1, h⟩ := bd h
    obtain ⟨c2, h2, h⟩ := bd h
    cases h
    obtain ⟨i1, i2⟩ := b_and hf h2
    exact ⟨s_and (hf a c1 h1).1 i1, w_and (hf a c1 h1).2 i2⟩
theorem b_or {f : Expr → Option C} (hf : Good X g f) : ∀ {es : List Expr} {c : C}, compB .or_ f es = some c → SE X g (.BoolOp .Or es pos) c ∧ PW X (.BoolOp .Or es pos) (tT X.K (evT g c))
  | [], c, h => by cases h
  | [a], c, h => ⟨pe_one (hf a c h).1, pw_or1 (hf a c h).2⟩
  | a :: b :: es, c, h => by
    have h : ((f a).bind fun c => (compB .or_ f (b :: es)).bind fun cs => some (.or_ c cs)) = some c := h
    obtain ⟨c1, h1, h⟩ := bd h
    obtain ⟨c2, h2, h⟩ := bd h
    cases h
    obtain ⟨i1, i2⟩ := b_or hf h2
    exact ⟨s_or (hf a c1 h1).1 i1, w_or (hf a c1 h1).2 i2⟩
theorem chain_read {K : PySem.W.Frag} {σ : L2.St} {H : Hp} {Q : VK} (h : tE K (evE g (.chain op op' ca cb cc)) σ H Q) : tChain (rCmp K op) (rCmp K op') (tE K (evE g ca)) (tE K (evE g cb)) (tE K (evE g cc)) σ H Q := by
  obtain ⟨as, S, r, rs, rr, fin⟩ := h
  rw [evE] at fin
  refine ⟨as, S, r, rs, rr, fin.bind fun v S1 bs H1 x p kp rs1 rv f1 => ⟨bs, S1, r, rs1, rr.mono p kp, f1.bind fun w S2 ds H2 y p2 kp2 rs2 rw_ f2 => ?_⟩⟩
  cases e : cmpV S2 op v w with
  | none =>
    rw [e] at f2
    exact f2.elim
  | some k =>
    rw [e] at f2
    refine ⟨ds, S2, v, w, k, rs2, rv.mono p2 kp2, rw_, e, k, rfl, ?_⟩
    cases k with
    | true =>
      rw [if_pos rfl]
      exact ⟨ds, S2, r, rs2, (rr.mono p kp).mono p2 kp2, f2.bind fun u S3 es H3 z p3 kp3 rs3 ru f3 => cmp_fin rs3 (rw_.mono p3 kp3) ru f3⟩
    | false =>
      rw [if_neg Bool.false_ne_true]
      exact f2.ok rs2 (.bl false)
theorem chain_bl {r : Rho} {S S1 : Store} {v : Val} (h : evE g (.chain op op' ca cb cc) r S = .ok v S1) : ∃ k, v = .bl k := by
  rw [evE] at h
  cases e1 : evE g ca r S with
  | no =>
    rw [e1] at h
    cases h
  | ok x S2 =>
    rw [e1] at h
    simp only [Out.bind_ok] at h
    cases e2 : evE g cb r S2 with
    | no =>
      rw [e2] at h
      cases h
    | ok y S3 =>
      rw [e2] at h
      simp only [Out.bind_ok] at h
      split at h
      · cases e3 : evE g cc r S3 with
        | no =>
          rw [e3] at h
          cases h
        | ok z S4 =>
          rw [e3] at h
          simp only [Out.bind_ok] at h
          cases e4 : cmpV S4 op' y z with
          | none =>
            rw [e4] at h
            cases h
          | some k =>
            rw [e4] at h
            cases h
            exact ⟨k, rfl⟩
      · cases h
        exact ⟨_, rfl⟩
      · cases h
theorem s_chain (hu : X.A.units + 65 < cLine) (ha : SE X g a ca) (hb : SE X g b cb) (hc : SE X g c cc) (hm : lastMarks [copOf op, copOf op'] [b, c] = false) : SE X g (.Compare a [copOf op, copOf op'] [b, c] pos) (.chain op op' ca cb cc) :=
  (pe_chain (op_cmp hu) (op_cmp hu) ha hb hc hm).imp7 fun σ H Q z => chain_read z
theorem t_chain (hu : X.A.units + 65 < cLine) (ha : SE X g a ca) (hb : SE X g b cb) (hc : SE X g c cc) (hm : lastMarks [copOf op, copOf op'] [b, c] = false) : ST X g (.Compare a [copOf op, copOf op'] [b, c] pos) (.chain op op' ca cb cc) :=
  (pt_chain (op_cmp hu) (op_cmp hu) ha hb hc hm).imp7 fun σ H Q ⟨as, S, r, rs, rr, fin⟩ => by
    rw [evT_plain rfl] at fin
    cases ev : evE g (.chain op op' ca cb cc) r S with
    | no =>
      rw [ev] at fin
      exact fin.elim
    | ok v S1 =>
      obtain ⟨k, rfl⟩ := chain_bl ev
      rw [ev] at fin
      refine chain_read ⟨as, S, r, rs, rr, ?_⟩
      rw [ev]
      intro bs H1 x p kp rs1 rv
      cases rv
      exact ⟨k, rfl, (Fin.mono p kp fin).ok rs1 rfl⟩

/-! ### calls -/
theorem boot_by {x : Str} {b : String} (h : bltNames.lookup x = some b) : x ∈ freeNames ∧ bootBuiltins x = some (.builtin b) ∧ (b = "len" ∨ b = "isinstance" ∨ b = "all" ∨ b = "any") := by
  have hm := PySem.mem_of_lookup h
  simp only [bltNames, List.mem_cons, Prod.mk.injEq, List.not_mem_nil, or_false] at hm
  rcases hm with ⟨rfl, rfl⟩ | ⟨rfl, rfl⟩ | ⟨rfl, rfl⟩ | ⟨rfl, rfl⟩
  · exact ⟨by simp [freeNames], boot_len, by simp⟩
  · exact ⟨by simp [freeNames], boot_isinstance, by simp⟩
  · exact ⟨by simp [freeNames], boot_all, by simp⟩
  · exact ⟨by simp [freeNames], boot_any, by simp⟩
theorem ty_by {x : Str} {b : String} (h : tyNames.lookup x = some b) : x ∈ freeNames ∧ bootBuiltins x = some (.type b) ∧ (b = "list" ∨ b = "tuple" ∨ b = "int") := by
  have hm := PySem.mem_of_lookup h
  simp only [tyNames, List.mem_cons, Prod.mk.injEq, List.not_mem_nil, or_false] at hm
  rcases hm with ⟨rfl, rfl⟩ | ⟨rfl, rfl⟩ | ⟨rfl, rfl⟩
  · exact ⟨by simp [freeNames], PyProof.Rows.boot_list, by simp⟩
  · exact ⟨by simp [freeNames], PyProof.Rows.boot_tuple, by simp⟩
  · exact ⟨by simp [freeNames], PyProof.Rows.boot_int, by simp⟩
theorem tyv_by {x : Str} {b : String} (h : tyVals.lookup x = some b) : x ∈ freeNames ∧ bootBuiltins x = some (.type b) := by
  have hm := PySem.mem_of_lookup h
  simp only [tyVals, List.mem_cons, Prod.mk.injEq, List.not_mem_nil, or_false] at hm
  rcases hm with ⟨rfl, rfl⟩ | ⟨rfl, rfl⟩ | ⟨rfl, rfl⟩ | ⟨rfl, rfl⟩ | ⟨rfl, rfl⟩
  · exact ⟨by simp [freeNames], PyProof.Rows.boot_list⟩
  · exact ⟨by simp [freeNames], PyProof.Rows.boot_tuple⟩
  · exact ⟨by simp [freeNames], PyProof.Rows.boot_int⟩
  · exact ⟨by simp [freeNames], PyProof.Rows.boot_bool⟩
  · exact ⟨by simp [freeNames], PyProof.Rows.boot_str⟩
theorem pe_callN0 {CX : CXT} {k : Nat} {f : Addr} {fd : FuncData} {ps ks : List Str} {sp : Sp} {E : XK} {x : Str} {p pos : Pos} {kws : List Keyword} {tk : TA} {gg : List Value → List Value → List Value} {gV : List V → List V → List V} (F : FnOk X.prog X.w X.K X.mg X.base CX k f fd ps sp) (hr : Room k X.A) (hg : Gl X x) (hm : X.mg x = some (.ref f)) (hk : PySem.W.keepIn X.K (.ref f) = true)
    (hb : KBn X.K fd ps 0 ks gg gV) (hx : Passes CX X E) (hkw : PK X kws tk) (hall : (backToKw pos (keywordEach kws X.env)).all (·.1.isSome) = true) (hks : (backToKw pos (keywordEach kws X.env)).filterMap (·.1) = ks)
    (hdb : (x == ("__debug__" : Str)) = false) (hpl : ((backTo pos (starEach [] X.env)).any (·.1) || (backToKw pos (keywordEach kws X.env)).any (·.1.isNone)) = false) :
    PE X (.Call (.Name x p) [] kws pos) (tCallN 0 ks.length sp gV E tNil tk) := by
  refine ⟨fun pins s σ H Q I h => ?_⟩
  refine wpAny_Call_Name_kw (ld_glob I hg hm ?_ hdb)
  refine PySem.W.callWith_KW0 (h₀ := X.base) I.ok.mod.kin hk hall ?_ hpl
  refine thn (hkw.run pos pins s σ H _ I h) fun ws s2 ⟨zs, H2, I2, rz, l1, l2, q2⟩ => ⟨I2.kIn, ?_⟩
  rw [hks]
  exact run_fnN (us := []) (vs := []) F hr hb hx I2 .nil rz rfl l2 q2
theorem s_callk0 {x : Str} {p : Pos} {f k m : Nat} {fa : Addr} {fd : FuncData} {ps : List Str} {kws : List Keyword} {ks : List Str} {cw : C} {src : List Src} {gg : List Value → List Value → List Value} {gV : List V → List V → List V} (F : FnOk X.prog X.w X.K X.mg X.base CX0 k fa fd ps (spF X.K m (g.R f))) (hr : Room k X.A) (hg : Gl X x) (hm : X.mg x = some (.ref fa))
    (hk : PySem.W.keepIn X.K (.ref fa) = true) (hb : KBn X.K fd ps 0 ks gg gV) (hgv : ∀ H as vs xs ws zs us, vs.length = 0 → ws.length = ks.length → mapO (Src.get vs ws) src = some us → RVs X.K H as vs xs → RVs X.K H as ws zs → RVs X.K H as us (gV xs zs))
    (hkw : kws.all (fun k => k.arg.isSome) = true) (hks : kws.filterMap (·.arg) = ks) (hL : ∀ ws S, ws.length ≠ m → g.R f ws S = .no)
    (hl2 : ∀ r S vs S', evEs g cw r S = .ok vs S' → vs.length = ks.length)
    (hw : PK X kws (tA X.K (evEs g cw))) (hdb : (x == ("__debug__" : Str)) = false) : SE X g (.Call (.Name x p) [] kws pos) (.callk f .nil src cw) := by
  obtain ⟨k1, k2, k3⟩ := kws_plain (env := X.env) (pos := pos) hkw
  have hpl : ((backTo pos (starEach [] X.env)).any (·.1) || (backToKw pos (keywordEach kws X.env)).any (·.1.isNone)) = false := by
    rw [k2]
    rfl
  refine (pe_callN0 F hr hg hm hk hb pass0 hw k1 (k3.trans hks) hdb hpl).imp7 fun σ H Q ⟨as, S, r, rs, rr, fin⟩ => ?_
  rw [evE, evEs] at fin
  simp only [Out.bind_ok] at fin
  refine ⟨as, S, r, rs, rr, ?_⟩
  cases ew : evEs g cw r S with
  | no =>
    rw [ew] at fin
    exact fin.elim
  | ok ws S2 =>
    rw [ew] at fin
    simp only [Out.bind_ok] at fin
    intro ds H2 zs p2 kp2 rs2 rw_
    have l2 := hl2 _ _ _ _ ew
    cases em : mapO (Src.get [] ws) src with
    | none =>
      rw [em] at fin
      exact fin.elim
    | some us =>
      rw [em] at fin
      have fin : FinV X.K as H (g.R f us S2) Q := fin
      have ru := hgv H2 ds [] [] ws zs us rfl l2 em .nil rw_
      refine ⟨rfl, by rw [← rw_.length]; exact l2, ?_, ds, S2, us, rs2, ru, Fin.mono p2 kp2 fin⟩
      rw [← ru.length]
      by_cases hq : us.length = m
      · exact hq
      · rw [hL _ S2 hq] at fin
        exact fin.elim
theorem call_ok (ok : OK G g lv X N sc T) {f : Expr → Option C} (hf : Good X g f) {x : Str} {p : Pos} {args : List Expr} {kws : List Keyword} {c : C} (h : compC f G sc x args kws = some c) : SE X g (.Call (.Name x p) args kws pos) c ∧ plainT c = true := by
  unfold compC at h
  obtain ⟨h0, h⟩ := gd_some h
  simp only [Bool.and_eq_true] at h0
  obtain ⟨⟨⟨hgl, hpn⟩, hst⟩, hkw⟩ := h0
  obtain ⟨n1, n2, n3⟩ := plain_n hpn
  have gl := gl_ok ok hgl
  split at h
  · split at h
    · rename_i i m e1
      obtain ⟨cs, h1, h⟩ := bd h
      obtain ⟨⟨fa, fd, ps, hmg, hkp, F, hex, hdc, hkc⟩, har⟩ := ok.fn x i m e1
      split at h
      · rename_i hc
        cases h
        refine ⟨?_, rfl⟩
        cases args with
        | nil =>
          cases h1
          obtain ⟨hc1, hc2⟩ := hc
          have hm0 : m = 0 := hc1.symm
          subst hm0
          exact s_call0 F ok.room gl hmg hkp (hex hc2) n1
        | cons a as => exact s_call F ok.room gl hmg hkp (hex hc.2) hst har (l_ok hf h1) n1
      · obtain ⟨ds, h2, h⟩ := bd h
        cases h
        obtain ⟨us, dvs, hv, hr, hb⟩ := hdc _ ds h2
        refine ⟨?_, rfl⟩
        cases args with
        | nil =>
          cases h1
          exact s_calld0 F ok.room gl hmg hkp hb hv hr har n1
        | cons a as => exact s_calld F ok.room gl hmg hkp hb hv hr hst har (l_ok hf h1) n1
    · split at h
      · cases h
      · rename_i hne
        cases args with
        | nil => exact absurd rfl hne
        | cons a as =>
          split at h
          · rename_i b e1
            obtain ⟨cs, h1, h⟩ := bd h
            cases h
            obtain ⟨m1, m2, m3⟩ := boot_by e1
            refine ⟨?_, rfl⟩
            have hcr : CallR X (.builtin b) (rBlt X.K b) := by
              rcases m3 with rfl | rfl | rfl | rfl
              · exact blt_len
              · exact blt_isinstance
              · exact blt_all ok.calm
              · exact blt_any ok.calm
            exact s_bltB hcr gl (ok.free x m1) m2 hst (l_ok hf h1) n3 n1
          · obtain ⟨b, e1, h⟩ := bd h
            obtain ⟨cs, h1, h⟩ := bd h
            cases h
            obtain ⟨m1, m2, m3⟩ := ty_by e1
            refine ⟨?_, rfl⟩
            have hcr : CallR X (.type b) (rBlt X.K b) := by
              rcases m3 with rfl | rfl | rfl
              · exact blt_list
              · exact blt_tuple
              · exact blt_int
            exact s_bltT hcr gl (ok.free x m1) m2 hst (l_ok hf h1) n3 n1
  · obtain ⟨⟨i, m⟩, e1, h⟩ := bd h
    obtain ⟨src, e2, h⟩ := bd h
    obtain ⟨cs, h1, h⟩ := bd h
    obtain ⟨cw, h2, h⟩ := bd h
    cases h
    obtain ⟨⟨fa, fd, ps, hmg, hkp, F, hex, hdc, hkc⟩, har⟩ := ok.fn x i m e1
    obtain ⟨gg, gV, hb, hgv⟩ := hkc _ _ src e2
    have hlk : (kwNames kws).length = kws.length := by
      have : ∀ l : List Keyword, l.all (fun k => k.arg.isSome) = true → (kwNames l).length = l.length := by
        intro l
        induction l with
        | nil => intro _; rfl
        | cons q l ih =>
          intro hq
          rw [List.all_cons, Bool.and_eq_true] at hq
          obtain ⟨n, v, p⟩ := q
          cases n with
          | none => cases hq.1
          | some n => exact congrArg Nat.succ (ih hq.2)
      exact this kws hkw
    refine ⟨?_, rfl⟩
    cases args with
    | nil =>
      cases h1
      exact s_callk0 F ok.room gl hmg hkp hb hgv hkw rfl har (fun r S vs S' he => by rw [hlk]; exact k_len h2 r S vs S' he) (k_ok hf h2) n1
    | cons a as =>
      exact s_callk F ok.room gl hmg hkp hb hgv hst hkw rfl har (fun r S vs S' he => l_len h1 hst r S vs S' he) (fun r S vs S' he => by rw [hlk]; exact k_len h2 r S vs S' he) (l_ok hf h1) (k_ok hf h2) n1
end
end Lv

/-! LvM: the codes of expressions say the text: the whole. -/
namespace Lv
open PySem PySem.Spec PyProof.Rows L2
section
variable {G : GT} {g : Cfg} {lv : Nat} {X : Cx} {N : List Str} {sc : Scope} {T : Str → Bool} {e a b d : Expr} {c ca cb cc : C} {pos : Pos}
theorem mth_by {x : Str} {m : String} (h : mthNames.lookup x = some m) : (x = "append" ∧ m = "append") ∨ (x = "clear" ∧ m = "clear") ∨ (x = "index" ∧ m = "index") ∨ (x = "join" ∧ m = "join") ∨ (x = "upper" ∧ m = "upper") := by
  have hm := PySem.mem_of_lookup h
  simpa only [mthNames, List.mem_cons, Prod.mk.injEq, List.not_mem_nil, or_false] using hm
theorem mthV_ty {T m : String} {S : Store} {v : Val} {vs : List Val} (h : mthV S T m v vs ≠ .no) : T ∈ ["list", "str"] := by
  unfold mthV at h
  split at h
  · rename_i q
    simp [q]
  · split at h
    · rename_i q
      simp [q]
    · exact absurd rfl h
theorem mthV_in {T m : String} {S : Store} {v : Val} {vs : List Val} (h : mthV S T m v vs ≠ .no) : (T = "list" ∧ (m = "append" ∨ m = "clear" ∨ m = "index")) ∨ (T = "str" ∧ (m = "join" ∨ m = "upper")) := by
  unfold mthV at h
  split at h
  · rename_i q
    refine .inl ⟨q, ?_⟩
    unfold mthL at h
    repeat' split at h
    all_goals first | (simp_all; done) | exact absurd rfl h
  · split at h
    · rename_i q
      refine .inr ⟨q, ?_⟩
      unfold mthS at h
      repeat' split at h
      all_goals first | (simp_all; done) | exact absurd rfl h
    · exact absurd rfl h
theorem mok_append : MthOk X "list" "append" "append" := ⟨PySem.F.plainAttrs_list, _, PySem.F.slot_list_append, PySem.F.type_list_append, m_append⟩
theorem mok_clear : MthOk X "list" "clear" "clear" := ⟨PySem.F.plainAttrs_list, _, PySem.F.slot_list_clear, PySem.F.type_list_clear, m_clear⟩
theorem mok_index (hu : X.A.units + 65 < cLine) : MthOk X "list" "index" "index" := ⟨PySem.F.plainAttrs_list, _, PySem.F.slot_list_index, PySem.F.type_list_index, m_index hu⟩
theorem mok_join : MthOk X "str" "join" "join" := ⟨PySem.F.plainAttrs_str, _, PySem.F.slot_str_join, PySem.F.type_str_join, m_join⟩
theorem mok_upper : MthOk X "str" "upper" "upper" := ⟨PySem.F.plainAttrs_str, _, PySem.F.slot_str_upper, PySem.F.type_str_upper, m_upper⟩
/-- the types that have a method of this name, with its rule -/
theorem mth_rule (hu : X.A.units + 65 < cLine) {x : Str} {m : String} (h : mthNames.lookup x = some m) : ∃ L : List String, (∀ T ∈ L, (T = "list" ∨ T = "str") ∧ MthOk X T x m) ∧ ∀ T S v vs, mthV S T m v vs ≠ .no → T ∈ L := by
  rcases mth_by h with ⟨rfl, rfl⟩ | ⟨rfl, rfl⟩ | ⟨rfl, rfl⟩ | ⟨rfl, rfl⟩ | ⟨rfl, rfl⟩
  · refine ⟨["list"], fun T hT => ?_, fun T S v vs hn => ?_⟩
    · simp only [List.mem_singleton] at hT
      subst hT
      exact ⟨.inl rfl, mok_append⟩
    · rcases mthV_in hn with ⟨q, _⟩ | ⟨_, q | q⟩
      · simp [q]
      · exact absurd q (by decide)
      · exact absurd q (by decide)
  · refine ⟨["list"], fun T hT => ?_, fun T S v vs hn => ?_⟩
    · simp only [List.mem_singleton] at hT
      subst hT
      exact ⟨.inl rfl, mok_clear⟩
    · rcases mthV_in hn with ⟨q, _⟩ | ⟨_, q | q⟩
      · simp [q]
      · exact absurd q (by decide)
      · exact absurd q (by decide)
  · refine ⟨["list"], fun T hT => ?_, fun T S v vs hn => ?_⟩
    · simp only [List.mem_singleton] at hT
      subst hT
      exact ⟨.inl rfl, mok_index hu⟩
    · rcases mthV_in hn with ⟨q, _⟩ | ⟨_, q | q⟩
      · simp [q]
      · exact absurd q (by decide)
      · exact absurd q (by decide)
  · refine ⟨["str"], fun T hT => ?_, fun T S v vs hn => ?_⟩
    · simp only [List.mem_singleton] at hT
      subst hT
      exact ⟨.inr rfl, mok_join⟩
    · rcases mthV_in hn with ⟨_, q | q | q⟩ | ⟨q, _⟩
      · exact absurd q (by decide)
      · exact absurd q (by decide)
      · exact absurd q (by decide)
      · simp [q]
  · refine ⟨["str"], fun T hT => ?_, fun T S v vs hn => ?_⟩
    · simp only [List.mem_singleton] at hT
      subst hT
      exact ⟨.inr rfl, mok_upper⟩
    · rcases mthV_in hn with ⟨_, q | q | q⟩ | ⟨q, _⟩
      · exact absurd q (by decide)
      · exact absurd q (by decide)
      · exact absurd q (by decide)
      · simp [q]
theorem mth_ok (ok : OK G g lv X N sc T) {f : Expr → Option C} (hf : Good X g f) {o : Expr} {nm : Str} {ap : Pos} {args : List Expr} {w : String} {co cs : C} (h0 : superOk o = true) (h1 : lineOk ap pos = true) (h2 : args.all notStar = true) (h3 : args.length < 30)
    (hw : mthNames.lookup nm = some w) (ho : f o = some co) (ha : compL f args = some cs) : SE X g (.Call (.Attribute o nm ap) args [] pos) (.mth w co cs) := by
  obtain ⟨L, hL, hin⟩ := mth_rule ok.units hw
  refine s_mth (L := L) (fun T hT => ?_) hin
  obtain ⟨ht, hm⟩ := hL T hT
  cases args with
  | nil =>
    cases ha
    exact s_mthT0 ht hm (hf o co ho).1 h0 h1
  | cons a as => exact s_mthT ht hm (hf o co ho).1 h2 h3 (l_ok hf ha) h0 h1
theorem o_ok {f : Expr → Option C} (hf : Good X g f) {o : Option Expr} {c : C} (h : compO f o = some c) : PO X o (tOp X.K (evO g c)) := by
  cases o with
  | none =>
    cases h
    exact o_none
  | some e =>
    have h : ((f e).bind fun c => gd (notNil c) (some c)) = some c := h
    obtain ⟨c1, h1, h⟩ := bd h
    obtain ⟨h2, h⟩ := gd_some h
    cases h
    exact o_some (by rintro rfl; cases h2) (hf e c h1).1
theorem g_ok (ok : OK G g lv X N sc T) {f : Expr → Option C} (hf : Good X g f) : ∀ (n : Nat) {e : Expr} {c : C}, compG f N sc T n e = some c → SG X g e c
  | 0, e, c, h => by cases h
  | n + 1, e, c, h => by
    cases e with
    | Name x p =>
      have h : gd (locB sc x && T x) ((slot N x).bind fun i => some (.tn i)) = some c := h
      obtain ⟨h0, h⟩ := gd_some h
      rw [Bool.and_eq_true] at h0
      obtain ⟨i, h1, h⟩ := bd h
      cases h
      exact g_name (by rw [ok.hN]; exact ok.nd) (by rw [ok.hN]; exact slot_ok h1) (loc_ok ok h0.1) (ok.tg x h0.2 h0.1)
    | Tuple es k p =>
      have h : gd (es.all notStar) ((compGs (compG f N sc T n) es).bind fun cs => gd (decide (es.length = lenC cs)) (some (.tt cs))) = some c := h
      obtain ⟨h0, h⟩ := gd_some h
      obtain ⟨cs, h1, h⟩ := bd h
      obtain ⟨h2, h⟩ := gd_some h
      cases h
      have all : ∀ {es : List Expr} {cs : C}, compGs (compG f N sc T n) es = some cs → SGs X g es cs := by
        intro es
        induction es with
        | nil =>
          intro cs h
          cases h
          exact gs_nil
        | cons a es ih =>
          intro cs h
          have h : ((compG f N sc T n a).bind fun c => (compGs (compG f N sc T n) es).bind fun cs => gd (notStar a) (some (.cons c cs))) = some cs := h
          obtain ⟨c1, h1, h⟩ := bd h
          obtain ⟨c2, h2, h⟩ := bd h
          obtain ⟨h3, h⟩ := gd_some h
          cases h
          exact gs_cons h3 (g_ok ok hf n h1) (ih h2)
      exact g_tup ok.calm h0 (of_decide_eq_true h2) (all h1)
    | Subscript o i p =>
      have h : gd (notSlice i) ((f o).bind fun c => (f i).bind fun d => some (.tsub c d)) = some c := h
      obtain ⟨h0, h⟩ := gd_some h
      obtain ⟨c1, h1, h⟩ := bd h
      obtain ⟨c2, h2, h⟩ := bd h
      cases h
      exact g_sub h0 (hf _ _ h1).1 (hf _ _ h2).1
    | _ => cases h
theorem free_ok (ok : OK G g lv X N sc T) {x : Str} (h : x ∈ freeNames) : X.mg x = none := ok.free x h
theorem i_ok (ok : OK G g lv X N sc T) {f : Expr → Option C} (hf : Good X g f) {tg it : Expr} {c : C} (h : compI f sc tg it = some c) : SI X g tg it c := by
  have gen : ∀ {it c}, ((f it).bind fun c => gd (plainI c) (some c)) = some c → SI X g tg it c := fun {it c} h => by
    obtain ⟨c1, h1, h⟩ := bd h
    obtain ⟨h2, h⟩ := gd_some h
    cases h
    exact i_any h2 (hf _ _ h1).1
  unfold compI at h
  split at h
  · split at h
    · rename_i hx
      subst hx
      obtain ⟨h0, h⟩ := gd_some h
      rw [Bool.and_eq_true] at h0
      obtain ⟨c1, h1, h⟩ := bd h
      cases h
      exact i_rng1 (gl_ok ok h0.1) (ok.free _ (by simp [freeNames])) h0.2 (hf _ _ h1).1
    · split at h
      · rename_i hx
        subst hx
        obtain ⟨h0, h⟩ := gd_some h
        rw [Bool.and_eq_true, Bool.and_eq_true] at h0
        obtain ⟨c1, h1, h⟩ := bd h
        cases h
        have ht := h0.2
        cases tg with
        | Tuple es k p => exact i_enum (gl_ok ok h0.1.1) (ok.free _ (by simp [freeNames])) h0.1.2 (hf _ _ h1).1
        | _ => cases ht
      · exact gen h
  · split at h
    · rename_i hx
      subst hx
      obtain ⟨h0, h⟩ := gd_some h
      rw [Bool.and_eq_true, Bool.and_eq_true] at h0
      obtain ⟨c1, h1, h⟩ := bd h
      obtain ⟨c2, h2, h⟩ := bd h
      cases h
      exact i_rng2 (gl_ok ok h0.1.1) (ok.free _ (by simp [freeNames])) h0.1.2 h0.2 (hf _ _ h1).1 (hf _ _ h2).1
    · split at h
      · rename_i hx
        subst hx
        obtain ⟨h0, h⟩ := gd_some h
        rw [Bool.and_eq_true, Bool.and_eq_true, Bool.and_eq_true] at h0
        obtain ⟨c1, h1, h⟩ := bd h
        obtain ⟨c2, h2, h⟩ := bd h
        cases h
        have ht := h0.2
        cases tg with
        | Tuple es k p => exact i_zip (gl_ok ok h0.1.1.1) (ok.free _ (by simp [freeNames])) h0.1.1.2 h0.1.2 (hf _ _ h1).1 (hf _ _ h2).1
        | _ => cases ht
      · exact gen h
  · obtain ⟨h0, h⟩ := gd_some h
    exact gen h
theorem notSet_fold {it : Expr} {env : Env} (h : notSet it = true) : ∀ x, foldedSetIterable it env x = pure x := fun x => by
  cases it <;> first | rfl | cases h
theorem compI_set {f : Expr → Option C} {tg it : Expr} {c : C} (h : compI f sc tg it = some c) : notSet it = true := by
  unfold compI at h
  split at h
  · rfl
  · rfl
  · exact (gd_some h).1
theorem f_ok {f : Expr → Option C} (hf : Good X g f) {ifs : List Expr} {c : C} (h : compF f ifs = some c) : PTs X ifs (tT X.K (evF g c)) := by
  unfold compF at h
  split at h
  · cases h
    exact f_nil
  · obtain ⟨c1, h1, h⟩ := bd h
    cases h
    exact f_one (hf _ _ h1).2
  · cases h
theorem relabel_eq {scp : Scope} {cl : List (Str × Addr)} {Ca : Addr} (ok : OK G g lv X N sc T) : (compEnvC scp cl Ca X.env).scope = relS scp sc := by
  rw [← ok.hsc]
  rfl
/-- the context of a comprehension's block -/
theorem blk_ok (ok : OK G g lv X N sc T) {scp : Scope} (s : Shared) (H : Hp) (Ca : Addr) (cl : List (Str × Addr)) (fp : List Addr) : OK G g lv (X.blk s H scp (compEnvC scp cl Ca X.env) fp) N (relS scp sc) (blkT scp) where
  hN := ok.hN
  hsc := relabel_eq ok
  nd := ok.nd
  calm := ok.calm
  room := ok.room
  pown := PassesOwn.never
  free := ok.free
  kv := ok.kv
  fn := fun x f m h => ⟨(ok.fn x f m h).ex, (ok.fn x f m h).ar⟩
  tg := fun x hx _ => by
    have hx : locB scp x = true := hx
    unfold locB at hx
    split at hx
    · rename_i q
      exact .inr (by
        show (relabel scp X.env).names.lookup x = some .local
        exact PySem.lookup_relabel_local q)
    · rename_i q
      exact .inl (by
        show (scp.names.lookup x == some .cell) = true
        rw [q]
        rfl)
    · cases hx
end
end Lv

/-! LvN: soundness of the codes of expressions; statements. -/
namespace Lv
open PySem PySem.Spec PyProof.Rows L2
theorem plainIx_of {s : Expr} (h : notSlice s = true) : PlainIx s := by
  intro o i
  cases s <;> first | rfl | cases h
theorem own_sub {N : List Str} {scp : Scope} {ct : C} (h : ((slotsC ct).all fun i => (ownOf N scp).any fun p => decide (p.2 = i)) = true) : ∀ i ∈ slotsC ct, i ∈ (ownOf N scp).map (·.2) := fun i hi => by
  have h1 := List.all_eq_true.mp h i hi
  obtain ⟨p, hp, he⟩ := List.any_eq_true.mp h1
  exact List.mem_map.mpr ⟨p, hp, of_decide_eq_true he⟩
/-- a comprehension's parts -/
structure LcParts (G : GT) (g : Cfg) (lv : Nat) (X : Cx) (N : List Str) (sc : Scope) (T : Str → Bool) (scp : Scope) (tg it elt : Expr) (ifs : List Expr) (ct ci cf ce : C) : Prop where
  i : SI X g tg it ci
  blk : BlkOk X.N X.env.scope scp (ownOf N scp)
  gt : ∀ (s : Shared) (H : Hp) (Ca : Addr) (cl : List (Str × Addr)) (fp : List Addr), PG (X.blk s H scp (compEnvC scp cl Ca X.env) fp) tg (tG X.K (evG g ct) (slotsC ct))
  f : ∀ (s : Shared) (H : Hp) (Ca : Addr) (cl : List (Str × Addr)) (fp : List Addr), PTs (X.blk s H scp (compEnvC scp cl Ca X.env) fp) ifs (tT X.K (evF g cf))
  e : ∀ (s : Shared) (H : Hp) (Ca : Addr) (cl : List (Str × Addr)) (fp : List Addr), PE (X.blk s H scp (compEnvC scp cl Ca X.env) fp) elt (tE X.K (evE g ce))
  s : ∀ x, foldedSetIterable it X.env x = pure x
  sl : ∀ i ∈ slotsC ct, i ∈ (ownOf N scp).map (·.2)
section
variable {G : GT} {g : Cfg} {lv : Nat} {N : List Str}
theorem t_ife {X : Cx} {a b t : Expr} {ca cb ct : C} {pos : Pos} (ht : ST X g t ct) (ha : ST X g a ca) (hb : ST X g b cb) : ST X g (.IfExp t a b pos) (.ife ct ca cb) := ⟨fun pins s σ H Q I ⟨as, S, r, rs, rr, fin⟩ => by
  rw [evT] at fin
  refine isTrue_IfExp (thn (ht.run pins s σ H (fun d H1 => ∃ bs S1, RS X.K H1 bs S1 ∧ RR X.K H1 bs r σ ∧ FinB X.K bs H1 (match d with
    | true => evT g ca r S1
    | false => evT g cb r S1) Q) I ⟨as, S, r, rs, rr, fin.bind fun v S1 bs H1 x p kp rs1 rv f1 => ?_⟩) fun d s1 ⟨H1, I1, bs, S1, rs1, rr1, f1⟩ => ?_)
  · subst rv
    exact ⟨bs, S1, rs1, rr.mono p kp, f1⟩
  · cases d with
    | true => exact ha.run pins s1 σ H1 Q I1 ⟨bs, S1, r, rs1, rr1, f1⟩
    | false => exact hb.run pins s1 σ H1 Q I1 ⟨bs, S1, r, rs1, rr1, f1⟩⟩
/-- the recursion's hypothesis -/
def Sound (G : GT) (g : Cfg) (lv : Nat) (N : List Str) (n : Nat) : Prop := ∀ (X : Cx) (sc : Scope) (T : Str → Bool), OK G g lv X N sc T → Good X g (compE G N n sc T)
theorem lc_parts {X : Cx} {sc : Scope} {T : Str → Bool} {n : Nat} (ih : Sound G g lv N n) (ok : OK G g lv X N sc T) {elt tg it : Expr} {ifs : List Expr} {z : Int} {scp : Scope} {c : C} {pos : Pos}
    (h : compE G N (n + 1) sc T (.ListComp elt [⟨tg, it, ifs, z⟩] scp pos) = some c) : ∃ ct ci cf ce, z = 0 ∧ c = .lc ce ct ci cf ((ownOf N scp).map (·.2)) ∧ LcParts G g lv X N sc T scp tg it elt ifs ct ci cf ce := by
  have h : gd (decide (z = 0) && blkC N sc scp (ownOf N scp) && notSet it && decide (sc.kind = .function)) ((compI (compE G N n sc T) sc tg it).bind fun ci =>
          (compG (compE G N n (relS scp sc) (blkT scp)) N (relS scp sc) (blkT scp) n tg).bind fun ct =>
          (compF (compE G N n (relS scp sc) (blkT scp)) ifs).bind fun cf => (compE G N n (relS scp sc) (blkT scp) elt).bind fun ce =>
          gd ((slotsC ct).all fun i => (ownOf N scp).any fun p => decide (p.2 = i)) (some (.lc ce ct ci cf ((ownOf N scp).map (·.2))))) = some c := h
  obtain ⟨h0, h⟩ := gd_some h
  simp only [Bool.and_eq_true, decide_eq_true_eq] at h0
  obtain ⟨⟨⟨hz, hb⟩, hs⟩, hk⟩ := h0
  obtain ⟨ci, h1, h⟩ := bd h
  obtain ⟨ct, h2, h⟩ := bd h
  obtain ⟨cf, h3, h⟩ := bd h
  obtain ⟨ce, h4, h⟩ := bd h
  obtain ⟨h5, h⟩ := gd_some h
  cases h
  refine ⟨ct, ci, cf, ce, hz, rfl, ⟨i_ok ok (ih X sc T ok) h1, ?_, fun s H Ca cl fp => ?_, fun s H Ca cl fp => ?_, fun s H Ca cl fp => ?_, notSet_fold hs, own_sub h5⟩⟩
  · rw [ok.hN, ok.hsc]
    exact blkOk_by hb
  · exact g_ok (blk_ok ok s H Ca cl fp) (ih _ _ _ (blk_ok ok s H Ca cl fp)) n h2
  · exact f_ok (ih _ _ _ (blk_ok ok s H Ca cl fp)) h3
  · exact (ih _ _ _ (blk_ok ok s H Ca cl fp) elt ce h4).1
theorem soundE : ∀ n, Sound G g lv N n
  | 0, X, sc, T, ok, e, c, h => by cases h
  | n + 1, X, sc, T, ok, e, c, h => by
    have ih := soundE n
    have hf := ih X sc T ok
    cases e with
    | Name x p =>
      have h : gd (plainN x) (if visB sc x then (slot N x).bind fun i => some (.var i) else gd (glB sc x) (if G.kvs x then some (.kval x) else (tyVals.lookup x).bind fun t => some (.kty t))) = some c := h
      obtain ⟨h0, h⟩ := gd_some h
      obtain ⟨n1, n2, n3⟩ := plain_n h0
      split at h
      · rename_i hv
        obtain ⟨i, h1, h⟩ := bd h
        cases h
        have s := s_var (g := g) (pos := p) (by rw [ok.hN]; exact slot_ok h1) (vis_ok ok hv) n1 n2
        exact ⟨s, t_plain rfl s fun _ => rfl⟩
      · obtain ⟨hg, h⟩ := gd_some h
        split at h
        · rename_i hk
          cases h
          obtain ⟨v, y, u, k1, k2, k3, k4⟩ := ok.kv x hk
          have s := s_kval (pos := p) k1 (gl_ok ok hg) k2 k3 k4 n1
          exact ⟨s, t_plain rfl s fun _ => rfl⟩
        · obtain ⟨t, h1, h⟩ := bd h
          cases h
          obtain ⟨m1, m2⟩ := tyv_by h1
          have s := s_kty (g := g) (pos := p) (gl_ok ok hg) (ok.free x m1) m2 n3 n1
          exact ⟨s, t_plain rfl s fun _ => rfl⟩
    | Constant k j p =>
      cases k with
      | none =>
        cases h
        exact ⟨s_non, t_plain rfl s_non fun _ => rfl⟩
      | bool b =>
        cases h
        exact ⟨s_bl, t_plain rfl s_bl fun _ => rfl⟩
      | int i =>
        cases h
        exact ⟨s_int, t_plain rfl s_int fun _ => rfl⟩
      | str x =>
        cases h
        exact ⟨s_str, t_plain rfl s_str fun _ => rfl⟩
      | _ => cases h
    | Tuple es k p =>
      have h : ((compL (compE G N n sc T) es).bind fun cs => some (.tup cs)) = some c := h
      obtain ⟨cs, h1, h⟩ := bd h
      cases h
      have s := s_tup (k := k) (pos := p) (l_ok hf h1)
      exact ⟨s, t_plain rfl s fun _ => rfl⟩
    | List es p =>
      have h : ((compL (compE G N n sc T) es).bind fun cs => some (.lst cs)) = some c := h
      obtain ⟨cs, h1, h⟩ := bd h
      cases h
      have s := s_lst (pos := p) (l_ok hf h1)
      exact ⟨s, t_plain rfl s fun _ => rfl⟩
    | BinOp a op b p =>
      have h : ((opBy op).bind fun o => (compE G N n sc T a).bind fun c => (compE G N n sc T b).bind fun d => some (.bin o c d)) = some c := h
      obtain ⟨o, h0, h⟩ := bd h
      obtain ⟨c1, h1, h⟩ := bd h
      obtain ⟨c2, h2, h⟩ := bd h
      cases h
      have s := s_bin (o := o) (pos := p) (hf _ _ h1).1 (hf _ _ h2).1
      rw [opBy_ok h0] at s
      exact ⟨s, t_plain rfl s fun _ => rfl⟩
    | UnaryOp op a p =>
      cases op with
      | USub =>
        have h : ((compE G N n sc T a).bind fun c => some (.neg c)) = some c := h
        obtain ⟨c1, h1, h⟩ := bd h
        cases h
        have s := s_neg (pos := p) (hf _ _ h1).1
        exact ⟨s, t_plain rfl s fun _ => rfl⟩
      | Not =>
        have h : ((compE G N n sc T a).bind fun c => some (.not_ c)) = some c := h
        obtain ⟨c1, h1, h⟩ := bd h
        cases h
        exact ⟨s_not (hf _ _ h1).1, t_not (hf _ _ h1).2⟩
      | _ => cases h
    | BoolOp op es p =>
      cases op with
      | And =>
        obtain ⟨s, t⟩ := b_and (pos := p) hf (show compB .and_ (compE G N n sc T) es = some c from h)
        exact ⟨s, t.pt⟩
      | Or =>
        obtain ⟨s, t⟩ := b_or (pos := p) hf (show compB .or_ (compE G N n sc T) es = some c from h)
        exact ⟨s, t.pt⟩
    | IfExp t a b p =>
      have h : ((compE G N n sc T t).bind fun c => (compE G N n sc T a).bind fun d => (compE G N n sc T b).bind fun h => some (.ife c d h)) = some c := h
      obtain ⟨c1, h1, h⟩ := bd h
      obtain ⟨c2, h2, h⟩ := bd h
      obtain ⟨c3, h3, h⟩ := bd h
      cases h
      have s := s_ife (pos := p) (hf _ _ h1).2 (hf _ _ h2).1 (hf _ _ h3).1
      exact ⟨s, t_ife (hf _ _ h1).2 (hf _ _ h2).2 (hf _ _ h3).2⟩
    | Compare a ops bs p =>
      replace h : compCmp (compE G N n sc T) a ops bs = some c := h
      unfold compCmp at h
      split at h
      · rename_i op b
        obtain ⟨h0, h⟩ := gd_some h
        obtain ⟨c1, h1, h⟩ := bd h
        obtain ⟨c2, h2, h⟩ := bd h
        cases h
        have hm : behindInMarks (copOf (copBy op)) b = false := by rw [copBy_ok]; simpa using h0
        have s := s_cmp (pos := p) ok.units (hf _ _ h1).1 (hf _ _ h2).1 hm
        have t := t_cmp (pos := p) ok.units (hf _ _ h1).1 (hf _ _ h2).1 hm
        rw [copBy_ok] at s t
        exact ⟨s, t⟩
      · rename_i op op' b b'
        obtain ⟨h0, h⟩ := gd_some h
        obtain ⟨c1, h1, h⟩ := bd h
        obtain ⟨c2, h2, h⟩ := bd h
        obtain ⟨c3, h3, h⟩ := bd h
        cases h
        have hm : lastMarks [copOf (copBy op), copOf (copBy op')] [b, b'] = false := by rw [copBy_ok, copBy_ok]; simpa using h0
        have s := s_chain (pos := p) ok.units (hf _ _ h1).1 (hf _ _ h2).1 (hf _ _ h3).1 hm
        have t := t_chain (pos := p) ok.units (hf _ _ h1).1 (hf _ _ h2).1 (hf _ _ h3).1 hm
        rw [copBy_ok, copBy_ok] at s t
        exact ⟨s, t⟩
      · cases h
    | Subscript a s p =>
      by_cases hs : notSlice s = true
      · have h : ((compE G N n sc T a).bind fun c => (compE G N n sc T s).bind fun d => some (.idx c d)) = some c := by
          cases s <;> first | exact h | cases hs
        obtain ⟨c1, h1, h⟩ := bd h
        obtain ⟨c2, h2, h⟩ := bd h
        cases h
        have s := s_idx (pos := p) (hf _ _ h1).1 (hf _ _ h2).1 (plainIx_of hs)
        exact ⟨s, t_plain rfl s fun _ => rfl⟩
      · cases s with
        | Slice lo hi st p2 =>
          cases st with
          | none =>
            have h : ((compE G N n sc T a).bind fun c => (compO (compE G N n sc T) lo).bind fun l => (compO (compE G N n sc T) hi).bind fun h => some (.sl c l h)) = some c := h
            obtain ⟨c1, h1, h⟩ := bd h
            obtain ⟨c2, h2, h⟩ := bd h
            obtain ⟨c3, h3, h⟩ := bd h
            cases h
            have s := s_sl (pos := p) (p2 := p2) (hf _ _ h1).1 (o_ok hf h2) (o_ok hf h3)
            exact ⟨s, t_plain rfl s fun _ => rfl⟩
          | some _ => cases h
        | _ => exact absurd rfl hs
    | Call f args kws p =>
      cases f with
      | Name x px =>
        obtain ⟨s, hp⟩ := call_ok ok hf (pos := p) (p := px) (show compC (compE G N n sc T) G sc x args kws = some c from h)
        exact ⟨s, t_plain hp s fun _ => rfl⟩
      | Attribute o m ap =>
        cases kws with
        | nil =>
          have h : gd (superOk o && lineOk ap p && args.all notStar && decide (args.length < 30)) ((mthNames.lookup m).bind fun w => (compE G N n sc T o).bind fun c => (compL (compE G N n sc T) args).bind fun cs => some (.mth w c cs)) = some c := h
          obtain ⟨h0, h⟩ := gd_some h
          simp only [Bool.and_eq_true, decide_eq_true_eq] at h0
          obtain ⟨w, hw, h⟩ := bd h
          obtain ⟨c1, h1, h⟩ := bd h
          obtain ⟨c2, h2, h⟩ := bd h
          cases h
          have s := mth_ok ok hf h0.1.1.1 h0.1.1.2 h0.1.2 h0.2 hw h1 h2
          exact ⟨s, t_plain rfl s fun _ => rfl⟩
        | cons _ _ => cases h
      | _ => cases h
    | ListComp elt gens scp p =>
      have hg : ∃ q, gens = [q] := by
        cases gens with
        | nil => cases h
        | cons q r =>
          obtain ⟨q1, q2, q3, q4⟩ := q
          cases r with
          | nil => exact ⟨_, rfl⟩
          | cons _ _ => cases h
      obtain ⟨⟨tg, it, ifs, z⟩, rfl⟩ := hg
      obtain ⟨ct, ci, cf, ce, rfl, rfl, P⟩ := lc_parts ih ok h
      have s : SE X g (.ListComp elt [⟨tg, it, ifs, 0⟩] scp p) (.lc ce ct ci cf ((ownOf N scp).map (·.2))) := (pe_lc ok.calm (by rw [ok.hN]; exact ok.nd) P.i P.blk P.gt P.f P.e P.s).imp7 fun σ H Q z => lc_read P.sl z
      exact ⟨s, t_plain rfl s fun _ => rfl⟩
    | _ => cases h
end
end Lv

/-! LvO: statements from the text. -/
namespace Lv
open PySem PySem.Spec PyProof.Rows L2
/-- the names that an exchange of a tuple's stores takes: none none: the model does not say -/
def swapC (sc : Scope) (ts vs : List Expr) : Option (Option (List Str)) :=
  if (!(ts.length == 2 || ts.length == 3) || vs.length != ts.length) = true then some none
  else if (vs.any fun | .Starred .. => true | _ => false) = true then some none
  else
    let line := (ts.head?.map (·.pos.line)).getD 0
    let names := ts.filterMap fun
      | .Name id pos => if sc.names.lookup id == some .local && pos.line == line then some id else none
      | _ => none
    if (names.length != ts.length || names.eraseDups.length != names.length) = true then some none
    else if vs.all (foldedForSure 8) = true then some none
    else if vs.all (constantsAlone 8) = true then none
    else some (some names)
theorem swap_ok {env : Env} {sc : Scope} (hs : env.scope = sc) (hk : sc.kind = .function) {ts vs : List Expr} {k k2 : Nat} {p p2 : Pos} {r : Option (List Str)} (h : swapC sc ts vs = some r) : swappedStores [.Tuple ts k p] (.Tuple vs k2 p2) env = pure r := by
  subst hs
  have hb : (env.blockKind != .function) = false := by
    unfold Env.blockKind
    rw [hk]
    rfl
  unfold swapC at h
  unfold swappedStores
  unfold Env.kindOf
  simp only [hb, Bool.or_false] at h ⊢
  split at h
  · rename_i h1
    cases h
    exact if_pos h1
  · rename_i h1
    refine (if_neg h1).trans ?_
    split at h
    · rename_i h2
      cases h
      exact if_pos h2
    · rename_i h2
      refine (if_neg h2).trans ?_
      split at h
      · rename_i h3
        cases h
        exact if_pos h3
      · rename_i h3
        refine (if_neg h3).trans ?_
        split at h
        · rename_i h4
          cases h
          exact if_pos h4
        · rename_i h4
          refine (if_neg h4).trans ?_
          split at h
          · cases h
          · rename_i h5
            cases h
            exact if_neg h5
theorem swap_none {env : Env} {tg e : Expr} (h : (match tg, e with
    | .Tuple _ _ _, .Tuple _ _ _ => false
    | .List _ _, .Tuple _ _ _ => false
    | _, _ => true) = true) : swappedStores [tg] e env = pure none := by
  cases tg <;> first | rfl | (cases e <;> first | rfl | cases h)

def notComp : Expr → Bool
  | .ListComp _ _ _ _ => false
  | .SetComp _ _ _ _ => false
  | .DictComp _ _ _ _ _ => false
  | _ => true
theorem sw_none {e : Expr} (h : notComp e = true) (l : Nat) (env : Env) (t : Option Expr) : swapsWith e t l env = pure false := by
  cases e <;> first | rfl | cases h
theorem sw_sole {tg e : Expr} (h : notComp e = true) (l : Nat) (env : Env) : swapsWithSole [tg] e l env = pure false := sw_none h l env _
def notTup : Expr → Bool
  | .Tuple _ _ _ => false
  | .List _ _ => false
  | _ => true
/-- an exchange of two or three names -/
def compPar (f : Expr → Option C) (N : List Str) (sc : Scope) (ts vs : List Expr) (names : List Str) : Option C := match ts, vs with
  | [.Name x _, .Name y _], [_, _] => gd (decide (names = [x, y]) && decide (sc.names.lookup x = some .local) && decide (sc.names.lookup y = some .local)) ((slot N x).bind fun i => (slot N y).bind fun j => (compL f vs).bind fun cs => gd (decide (i ≠ j)) (some (.par [i, j] cs)))
  | [.Name x _, .Name y _, .Name z _], [_, _, _] => gd (decide (names = [x, y, z]) && decide (sc.names.lookup x = some .local) && decide (sc.names.lookup y = some .local) && decide (sc.names.lookup z = some .local))
      ((slot N x).bind fun i => (slot N y).bind fun j => (slot N z).bind fun k => (compL f vs).bind fun cs => gd (decide (i ≠ j) && decide (i ≠ k) && decide (j ≠ k)) (some (.par [i, j, k] cs)))
  | _, _ => none
def compAs (f fg : Expr → Option C) (N : List Str) (sc : Scope) (T : Str → Bool) (tg e : Expr) : Option C := match tg with
  | .Name x _ => gd (locB sc x && T x && (notComp e || (match e with
      | .ListComp _ _ _ _ => true
      | _ => false))) ((slot N x).bind fun i => (f e).bind fun c => some (.asg (.tn i) c))
  | .Tuple ts _ _ => match e with
    | .Tuple vs _ _ => (swapC sc ts vs).bind fun r => match r with
      | none => (fg tg).bind fun ct => (f e).bind fun ce => some (.asg ct ce)
      | some names => compPar f N sc ts vs names
    | _ => gd (notComp e) ((fg tg).bind fun ct => (f e).bind fun ce => some (.asg ct ce))
  | _ => gd (notComp e && notTup tg && notStar tg) ((fg tg).bind fun ct => (f e).bind fun ce => some (.asg ct ce))
def compSs (f : Stmt → Option C) : List Stmt → Option C
  | [] => some .nil
  | s :: ss => (f s).bind fun c => (compSs f ss).bind fun cs => some (.cons c cs)
/-- m: the depth of expressions -/
def compS (G : GT) (N : List Str) (m : Nat) (sc : Scope) (T : Str → Bool) : Nat → Stmt → Option C
  | 0, _ => none
  | n + 1, s => match s with
    | .Pass _ => some .pass
    | .Break _ => some .brk
    | .Continue _ => some .cont
    | .Return o _ => match o with
      | none => some .retn
      | some e => (compE G N m sc T e).bind fun c => some (.ret c)
    | .Expr e _ => gd (notComp e) ((compE G N m sc T e).bind fun c => some (.expr c))
    | .Assign tgs e _ => match tgs with
      | [tg] => compAs (compE G N m sc T) (compG (compE G N m sc T) N sc T m) N sc T tg e
      | _ => none
    | .If t a b _ => (compE G N m sc T t).bind fun c => (compSs (compS G N m sc T n) a).bind fun d => (compSs (compS G N m sc T n) b).bind fun h => some (.iff c d h)
    | .For tg it body orelse _ => match orelse with
      | [] => (compI (compE G N m sc T) sc tg it).bind fun ci => (compG (compE G N m sc T) N sc T m tg).bind fun ct => (compSs (compS G N m sc T n) body).bind fun cb => some (.forr ct ci cb)
      | _ => none
    | .While t body orelse _ => match orelse with
      | [] => (compE G N m sc T t).bind fun c => (compSs (compS G N m sc T n) body).bind fun cb => some (.whl c cb)
      | _ => none
    | _ => none
section
variable {G : GT} {g : Cfg} {lv : Nat} {X : Cx} {N : List Str} {sc : Scope} {T : Str → Bool} {c : C} {pos : Pos}
theorem par_read {K : PySem.W.Frag} {D : Ends} {σ : L2.St} {H : Hp} {i j : Nat} {cs : C} (h : tS K (evS g (.par [i, j] cs)) D σ H) : tPar i j (tA K (evEs g cs)) D σ H := by
  obtain ⟨as, S, r, rs, rr, fin⟩ := h
  rw [evS] at fin
  refine ⟨as, S, r, rs, rr, fin.lift fun vs S1 bs H1 xs p kp rs1 rv f1 => ?_⟩
  split at f1
  · rename_i hl
    cases rv with
    | nil => cases hl
    | cons r1 t1 =>
      cases t1 with
      | nil => cases hl
      | cons r2 t2 =>
        cases t2 with
        | nil => exact ⟨_, _, rfl, f1 bs H1 _ (List.prefix_refl _) Kp.refl rs1 (((rr.mono p kp).set r1 i).set r2 j)⟩
        | cons _ _ => exact absurd hl (by simp)
  · exact f1.elim
theorem par_read3 {K : PySem.W.Frag} {D : Ends} {σ : L2.St} {H : Hp} {i j k : Nat} {cs : C} (h : tS K (evS g (.par [i, j, k] cs)) D σ H) : tPar3 i j k (tA K (evEs g cs)) D σ H := by
  obtain ⟨as, S, r, rs, rr, fin⟩ := h
  rw [evS] at fin
  refine ⟨as, S, r, rs, rr, fin.lift fun vs S1 bs H1 xs p kp rs1 rv f1 => ?_⟩
  split at f1
  · rename_i hl
    cases rv with
    | nil => cases hl
    | cons r1 t1 =>
      cases t1 with
      | nil => cases hl
      | cons r2 t2 =>
        cases t2 with
        | nil => cases hl
        | cons r3 t3 =>
          cases t3 with
          | nil => exact ⟨_, _, _, rfl, f1 bs H1 _ (List.prefix_refl _) Kp.refl rs1 ((((rr.mono p kp).set r1 i).set r2 j).set r3 k)⟩
          | cons _ _ => exact absurd hl (by simp)
  · exact f1.elim
theorem kind_ok (ok : OK G g lv X N sc T) (hk : sc.kind = .function) : X.env.scope.kind = .function := by rw [ok.hsc]; exact hk
theorem as_ok (ok : OK G g lv X N sc T) (hk : sc.kind = .function) (n : Nat) {fg : Expr → Option C} (hG : ∀ e c, fg e = some c → SG X g e c) {tg e : Expr} {c : C} (h : compAs (compE G N n sc T) fg N sc T tg e = some c) : SS X g (.Assign [tg] e pos) c := by
  have hf : Good X g (compE G N n sc T) := soundE n X sc T ok
  have hnd : X.N.Nodup := by rw [ok.hN]; exact ok.nd
  unfold compAs at h
  split at h
  · rename_i x px
    obtain ⟨h0, h⟩ := gd_some h
    rw [Bool.and_eq_true, Bool.and_eq_true] at h0
    obtain ⟨i, h1, h⟩ := bd h
    obtain ⟨ce, h2, h⟩ := bd h
    cases h
    have hi : X.N[i]? = some x := by rw [ok.hN]; exact slot_ok h1
    by_cases hc : notComp e = true
    · exact st_set hnd hi (loc_ok ok h0.1.1) (ok.tg x h0.1.2 h0.1.1) (hf _ _ h2).1 (sw_none hc _ _ _)
    · cases e with
      | ListComp elt gens scp pe =>
        cases hsw : (X.env.blockKind == .function && X.env.kindOf x == some .local && px.line == pe.line && !(scp.names.any fun (n, k) => n == x && (k == .local || k == .cell))) with
        | false =>
          refine st_set hnd hi (loc_ok ok h0.1.1) (ok.tg x h0.1.2 h0.1.1) (hf _ _ h2).1 ?_
          show (pure (X.env.blockKind == .function && X.env.kindOf x == some .local && px.line == pe.line && !(scp.names.any fun (n, k) => n == x && (k == .local || k == .cell))) : Sem Bool) = pure false
          rw [hsw]
        | true =>
          have hsw2 : swapsWith (.ListComp elt gens scp pe) (some (.Name x px)) pos.line X.env = pure true := by
            show (pure (X.env.blockKind == .function && X.env.kindOf x == some .local && px.line == pe.line && !(scp.names.any fun (n, k) => n == x && (k == .local || k == .cell))) : Sem Bool) = pure true
            rw [hsw]
          rw [Bool.and_eq_true, Bool.and_eq_true, Bool.and_eq_true] at hsw
          have hloc : X.env.scope.names.lookup x = some .local := by
            have q := hsw.1.1.2
            exact eq_of_beq q
          have hg : ∃ q, gens = [q] := by
            cases n with
            | zero => cases h2
            | succ n =>
              cases gens with
              | nil => cases h2
              | cons q r =>
                obtain ⟨q1, q2, q3, q4⟩ := q
                cases r with
                | nil => exact ⟨_, rfl⟩
                | cons _ _ => cases h2
          obtain ⟨⟨tg, it, ifs, z⟩, rfl⟩ := hg
          cases n with
          | zero => cases h2
          | succ n =>
            obtain ⟨ct, ci, cf, ce, rfl, rfl, P⟩ := lc_parts (soundE n) ok h2
            exact (ps_setLc ok.calm hnd hi hloc hsw2 P.i P.blk P.gt P.f P.e P.s).imp7 fun D σ H z => name_read (fun _ _ _ q => lc_read P.sl q) z
      | _ =>
        have h3 := h0.2
        first
          | exact absurd rfl hc
          | (simp [notComp] at h3)
  · rename_i ts k pt
    split at h
    · rename_i vs k2 p2
      obtain ⟨r, h0, h⟩ := bd h
      have hw := swap_ok (k := k) (k2 := k2) (p := pt) (p2 := p2) ok.hsc hk h0
      cases r with
      | none =>
        obtain ⟨ct, h1, h⟩ := bd h
        obtain ⟨ce, h2, h⟩ := bd h
        cases h
        exact st_asg (hG _ _ h1) (hf _ _ h2).1 rfl rfl hw
      | some names =>
        have h : compPar (compE G N n sc T) N sc ts vs names = some c := h
        unfold compPar at h
        split at h
        · obtain ⟨h3, h⟩ := gd_some h
          simp only [Bool.and_eq_true, decide_eq_true_eq] at h3
          obtain ⟨i, h4, h⟩ := bd h
          obtain ⟨j, h5, h⟩ := bd h
          obtain ⟨cs, h6, h⟩ := bd h
          obtain ⟨h7, h⟩ := gd_some h
          cases h
          rw [h3.1.1] at hw
          exact (ps_par ok.calm hnd (by rw [ok.hN]; exact slot_ok h4) (by rw [ok.hN]; exact slot_ok h5) (of_decide_eq_true h7) (by rw [ok.hsc]; exact h3.1.2) (by rw [ok.hsc]; exact h3.2) (l_ok hf h6) hw rfl).imp7 fun D σ H z => par_read z
        · obtain ⟨h3, h⟩ := gd_some h
          simp only [Bool.and_eq_true, decide_eq_true_eq] at h3
          obtain ⟨i, h4, h⟩ := bd h
          obtain ⟨j, h5, h⟩ := bd h
          obtain ⟨k, h5', h⟩ := bd h
          obtain ⟨cs, h6, h⟩ := bd h
          obtain ⟨h7, h⟩ := gd_some h
          simp only [Bool.and_eq_true, decide_eq_true_eq] at h7
          cases h
          rw [h3.1.1.1] at hw
          exact (ps_par3 ok.calm hnd (by rw [ok.hN]; exact slot_ok h4) (by rw [ok.hN]; exact slot_ok h5) (by rw [ok.hN]; exact slot_ok h5') h7.1.1 h7.1.2 h7.2 (by rw [ok.hsc]; exact h3.1.1.2) (by rw [ok.hsc]; exact h3.1.2) (by rw [ok.hsc]; exact h3.2) (l_ok hf h6) hw rfl).imp7 fun D σ H z => par_read3 z
        · cases h
    · rename_i hne
      obtain ⟨h0, h⟩ := gd_some h
      obtain ⟨ct, h1, h⟩ := bd h
      obtain ⟨ce, h2, h⟩ := bd h
      cases h
      refine st_asg (hG _ _ h1) (hf _ _ h2).1 rfl (sw_sole h0 _ _) (swap_none ?_)
      split
      · exact absurd rfl (hne _ _ _)
      · contradiction
      · rfl
  · obtain ⟨h0, h⟩ := gd_some h
    rw [Bool.and_eq_true, Bool.and_eq_true] at h0
    obtain ⟨ct, h1, h⟩ := bd h
    obtain ⟨ce, h2, h⟩ := bd h
    cases h
    refine st_asg (hG _ _ h1) (hf _ _ h2).1 h0.2 (sw_sole h0.1.1 _ _) (swap_none ?_)
    have h3 := h0.1.2
    split <;> first | rfl | cases h3
theorem soundS (ok : OK G g lv X N sc T) (hk : sc.kind = .function) (m : Nat) : ∀ (n : Nat) {s : Stmt} {c : C}, compS G N m sc T n s = some c → SS X g s c
  | 0, s, c, h => by cases h
  | n + 1, s, c, h => by
    have hf : Good X g (compE G N m sc T) := soundE m X sc T ok
    have all : ∀ {ss : List Stmt} {cs : C}, compSs (compS G N m sc T n) ss = some cs → SSs X g ss cs := by
      intro ss
      induction ss with
      | nil =>
        intro cs h
        cases h
        exact ss_nil
      | cons a ss ih =>
        intro cs h
        have h : ((compS G N m sc T n a).bind fun c => (compSs (compS G N m sc T n) ss).bind fun cs => some (.cons c cs)) = some cs := h
        obtain ⟨c1, h1, h⟩ := bd h
        obtain ⟨c2, h2, h⟩ := bd h
        cases h
        exact ss_cons (soundS ok hk m n h1) (ih h2)
    cases s with
    | Pass p =>
      cases h
      exact st_pass
    | Break p =>
      cases h
      exact st_brk
    | Continue p =>
      cases h
      exact st_cont
    | Return o p =>
      cases o with
      | none =>
        cases h
        exact st_retn
      | some e =>
        have h : ((compE G N m sc T e).bind fun c => some (.ret c)) = some c := h
        obtain ⟨c1, h1, h⟩ := bd h
        cases h
        exact st_ret (hf _ _ h1).1
    | Expr e p =>
      have h : gd (notComp e) ((compE G N m sc T e).bind fun c => some (.expr c)) = some c := h
      obtain ⟨h0, h⟩ := gd_some h
      obtain ⟨c1, h1, h⟩ := bd h
      cases h
      exact st_expr (hf _ _ h1).1 (sw_none h0 _ _ _)
    | Assign tgs e p =>
      cases tgs with
      | nil => cases h
      | cons tg r =>
        cases r with
        | nil => exact as_ok ok hk m (fun e c q => g_ok ok hf m q) (show compAs (compE G N m sc T) (compG (compE G N m sc T) N sc T m) N sc T tg e = some c from h)
        | cons _ _ => cases h
    | If t a b p =>
      have h : ((compE G N m sc T t).bind fun c => (compSs (compS G N m sc T n) a).bind fun d => (compSs (compS G N m sc T n) b).bind fun h => some (.iff c d h)) = some c := h
      obtain ⟨c1, h1, h⟩ := bd h
      obtain ⟨c2, h2, h⟩ := bd h
      obtain ⟨c3, h3, h⟩ := bd h
      cases h
      exact st_if (hf _ _ h1).2 (all h2) (all h3)
    | For tg it body orelse p =>
      cases orelse with
      | nil =>
        have h : ((compI (compE G N m sc T) sc tg it).bind fun ci => (compG (compE G N m sc T) N sc T m tg).bind fun ct => (compSs (compS G N m sc T n) body).bind fun cb => some (.forr ct ci cb)) = some c := h
        obtain ⟨c1, h1, h⟩ := bd h
        obtain ⟨c2, h2, h⟩ := bd h
        obtain ⟨c3, h3, h⟩ := bd h
        cases h
        exact st_for ok.pown ok.calm (i_ok ok hf h1) (g_ok ok hf m h2) (all h3) (notSet_fold (compI_set h1))
      | cons _ _ => cases h
    | While t body orelse p =>
      cases orelse with
      | nil =>
        have h : ((compE G N m sc T t).bind fun c => (compSs (compS G N m sc T n) body).bind fun cb => some (.whl c cb)) = some c := h
        obtain ⟨c1, h1, h⟩ := bd h
        obtain ⟨c3, h3, h⟩ := bd h
        cases h
        exact st_while ok.pown (hf _ _ h1).2 (all h3)
      | cons _ _ => cases h
    | _ => cases h
end
end Lv

/-! LvP: the defs of a text, by their runs. -/
namespace Lv
open PySem PySem.Spec PyProof.Rows L2
/-- what the head says of a def and its code -/
structure DefHas (G : GT) (T : Tab) (D : Nat) (K : PySem.W.Frag) (mg : Str → Option Value) (x : Str) (f m : Nat) : Prop where
  ex : ∃ (fa : Addr) (fd : FuncData) (ps N : List Str) (nm qual : Str) (params : Arguments) (body : List Stmt) (scope : Scope) (dvs : List V) (kws : List (Str × V)) (cd : Fn),
    mg x = some (.ref fa) ∧ FunD K nm qual params body scope dvs kws fa fd ∧ FnScope N ps scope ∧ T.fn f = some cd ∧ cd.ar = m ∧ ps.length = m ∧ cd.slots = N.length ∧
    compSs (compS G N D scope (fun _ => true) D) body = some cd.body ∧
    (G.ex f = true → Binds K fd ps []) ∧ (∀ k ds, G.dcs f k = some ds → ∃ us dvs, Vals dvs us ∧ (∀ H as, RVs K H as ds dvs) ∧ Binds K fd ps us) ∧
    (∀ k ks src, G.kcs f k ks = some src → ∃ gg gV, KBn K fd ps k ks gg gV ∧ ∀ H as vs xs ws zs us, vs.length = k → ws.length = ks.length → mapO (Src.get vs ws) src = some us → RVs K H as vs xs → RVs K H as ws zs → RVs K H as us (gV xs zs))
section
variable {G : GT} {T : Tab} {D : Nat} {P : Program} {w : World} {K : PySem.W.Frag} {mg : Str → Option Value} {base : Heap}
theorem rr_start {H : Hp} {as : List Addr} {ws : List Val} {vs : List V} {N : List Str} (h : RVs K H as ws vs) (n : Nat) (hn : n = N.length) : RR K H as (startR n ws) (L2.start N vs) := by
  subst hn
  have l := h.length
  refine ⟨by simp [startR, L2.start, l], fun i v e => ?_⟩
  unfold startR at e
  by_cases hi : i < ws.length
  · rw [List.getElem?_append_left (by simpa using hi), List.getElem?_map] at e
    cases q : ws[i]? with
    | none =>
      rw [q] at e
      cases e
    | some u =>
      rw [q] at e
      cases e
      obtain ⟨x, h1, h2⟩ := h.get q
      refine ⟨x, ?_, h2⟩
      unfold L2.start
      rw [List.getElem?_append_left (by rw [List.length_map, ← l]; exact hi), List.getElem?_map, h1]
      rfl
  · rw [List.getElem?_append_right (by simpa using hi), List.getElem?_replicate] at e
    split at e <;> cases e
theorem end_fin {H : Hp} {as : List Addr} {o : SO} {Q : VK} (h : FinV K as H (endR o) Q) : FinS K as H o { nx := fun _ H' => Q .non H', rt := Q } := by
  cases o with
  | nx r S => exact fun bs H' σ' p k rs rr => h bs H' .non p k rs .non
  | rt v S => exact fun bs H' x p k rs rv => h bs H' x p k rs rv
  | bk r S => exact h.elim
  | ct r S => exact h.elim
  | no => exact h.elim
/-- the kernel of it: every def at every level -/
theorem tab_ok (hfree : ∀ x ∈ freeNames, mg x = none) (hkv : ∀ x, G.kvs x = true → ∃ v y u, T.kv x = some v ∧ mg x = some u ∧ RelV y u ∧ ∀ H as, RV K H as v y)
    (hdef : ∀ x f m, G.fns x = some (f, m) → DefHas G T D K mg x f m) : ∀ (n : Nat) (x : Str) (f m : Nat), G.fns x = some (f, m) → ∃ (fa : Addr) (fd : FuncData) (ps : List Str), mg x = some (.ref fa) ∧ PySem.W.keepIn K (.ref fa) = true ∧ FnOk P w K mg base CX0 n fa fd ps (spF K m (T.run n f)) ∧
    (G.ex f = true → Binds K fd ps []) ∧ (∀ k ds, G.dcs f k = some ds → ∃ us dvs, Vals dvs us ∧ (∀ H as, RVs K H as ds dvs) ∧ Binds K fd ps us) ∧
    (∀ k ks src, G.kcs f k ks = some src → ∃ gg gV, KBn K fd ps k ks gg gV ∧ ∀ H as vs xs ws zs us, vs.length = k → ws.length = ks.length → mapO (Src.get vs ws) src = some us → RVs K H as vs xs → RVs K H as ws zs → RVs K H as us (gV xs zs))
  | 0, x, f, m, h => by
    obtain ⟨fa, fd, ps, N, nm, qual, params, body, scope, dvs, kws, cd, h1, F, S, hc, har, hps, hsl, hcomp, e1, e2, e3⟩ := (hdef x f m h).ex
    refine ⟨fa, fd, ps, h1, F.kp, ⟨fun vs H Q E ⟨hl, _⟩ => by rw [hl, hps], fun A outer s H args us vs Q E _ _ _ _ ⟨_, as, S, ws, _, _, fin⟩ => fin.elim⟩, e1, e2, e3⟩
  | n + 1, x, f, m, h => by
    obtain ⟨fa, fd, ps, N, nm, qual, params, body, scope, dvs, kws, cd, h1, F, S, hc, har, hps, hsl, hcomp, e1, e2, e3⟩ := (hdef x f m h).ex
    refine ⟨fa, fd, ps, h1, F.kp, ?_, e1, e2, e3⟩
    refine F.ok S (fun vs H Q E ⟨hl, _⟩ => by rw [hl, hps]) (fun cdv A outer s H vs Q E hr hsp => ?_)
    obtain ⟨hl, as, S0, ws, rs, rv, fin⟩ := hsp
    have ok : OK G ⟨T.run n, T.kv⟩ n (cxOf CX0 P w K mg base N qual scope fa cdv A outer s H E).nox N scope (fun _ => true) :=
      { hN := rfl
        hsc := rfl
        nd := S.nd
        calm := rfl
        room := hr
        pown := PassesOwn.never
        free := hfree
        kv := hkv
        fn := fun x f m hx => ⟨tab_ok hfree hkv hdef n x f m hx, fun ws S hw => by
          cases n with
          | zero => rfl
          | succ n =>
            obtain ⟨_, _, _, _, _, _, _, _, _, _, _, cd2, _, _, _, hc2, har2, _⟩ := (hdef x f m hx).ex
            show (match T.fn f with
              | some d => if ws.length = d.ar then endR (evSs ⟨T.run n, T.kv⟩ d.body (startR d.slots ws) S) else .no
              | none => .no) = .no
            rw [hc2]
            exact if_neg (by rw [har2]; exact hw)⟩
        tg := fun _ _ _ => .inl rfl }
    have all : ∀ {ss : List Stmt} {cs : C}, compSs (compS G N D scope (fun _ => true) D) ss = some cs → SSs (cxOf CX0 P w K mg base N qual scope fa cdv A outer s H E).nox ⟨T.run n, T.kv⟩ ss cs := by
      intro ss
      induction ss with
      | nil =>
        intro cs h
        cases h
        exact ss_nil
      | cons a ss ih =>
        intro cs h
        have h : ((compS G N D scope (fun _ => true) D a).bind fun c => (compSs (compS G N D scope (fun _ => true) D) ss).bind fun cs => some (.cons c cs)) = some cs := h
        obtain ⟨c1, h1, h⟩ := bd h
        obtain ⟨c2, h2, h⟩ := bd h
        cases h
        exact ss_cons (soundS ok S.kind D D h1) (ih h2)
    refine ⟨_, (all hcomp).nox, as, S0, startR cd.slots ws, rs, rr_start rv _ hsl, ?_⟩
    apply end_fin
    have fin : FinV K as H (match T.fn f with
      | some d => if ws.length = d.ar then endR (evSs ⟨T.run n, T.kv⟩ d.body (startR d.slots ws) S0) else .no
      | none => .no) Q := fin
    rw [hc] at fin
    have fin : FinV K as H (if ws.length = cd.ar then endR (evSs ⟨T.run n, T.kv⟩ cd.body (startR cd.slots ws) S0) else .no) Q := fin
    rw [if_pos (by rw [har, rv.length, hl])] at fin
    exact fin
/-- the law's promise from the evaluator's run -/
theorem law_sp {n : Nat} {f : Nat} {ns : List Int} (hrun : ∃ S', T.run n f [.fz (ns.map .int)] [] = .ok (.bl true) S') {H : Hp} {a : Addr} (hO : Only H) (hS : SqL K H a (ns.map V.int)) : spF K 1 (T.run n f) [.ref a] H (fun v _ => v = .bl true) fun _ _ _ => False := by
  obtain ⟨S', hr⟩ := hrun
  refine ⟨rfl, [], [], [.fz (ns.map .int)], ⟨rfl, List.nodup_nil, fun k a o hk => by simp at hk⟩, .cons (.fz ?_ (RVs.ints ns)) .nil, ?_⟩
  · rcases hS with (h | h) | h
    · rcases hO a with q | ⟨o, xs, q⟩
      · rw [h] at q
        cases q
      · rw [h] at q
        cases q
    · exact .inl h
    · exact .inr h
  · rw [hr]
    intro bs H' b p k rs rv
    cases rv
    rfl
end
end Lv

/-! LvQ: what a def binds, from lists; the law's promise. -/
namespace Lv
open PySem PySem.Spec PyProof.Rows L2
/-- from where a parameter's value comes: a positional value, a keyword's value, the n-th filled one -/
inductive Sr where | p (i : Nat) | k (i : Nat) | m (i : Nat)
def Sr.get {α : Type} (us ms ws : List α) : Sr → Option α
  | .p i => us[i]?
  | .k i => ws[i]?
  | .m i => ms[i]?
def sel {α : Type} (src : List Sr) (us ms ws : List α) : List α := src.filterMap (Sr.get us ms ws)
def srOf : Nat → List Src → List Sr
  | _, [] => []
  | n, .p i :: l => .p i :: srOf n l
  | n, .k i :: l => .k i :: srOf n l
  | n, .d _ :: l => .m n :: srOf (n + 1) l
def dsOf : List Src → List Val
  | [] => []
  | .p _ :: l => dsOf l
  | .k _ :: l => dsOf l
  | .d v :: l => v :: dsOf l
theorem sel_cons {α : Type} (z : Sr) (src : List Sr) (us ms ws : List α) : sel (z :: src) us ms ws = (match z.get us ms ws with | some a => a :: sel src us ms ws | none => sel src us ms ws) := by
  unfold sel
  rw [List.filterMap_cons]
  cases z.get us ms ws <;> rfl
theorem mapO_sel {vs ws : List Val} : ∀ (src : List Src) (n : Nat) (pre : List Val) (us : List Val), pre.length = n → mapO (Src.get vs ws) src = some us → us = sel (srOf n src) vs (pre ++ dsOf src) ws
  | [], n, pre, us, _, e => by
    cases e
    rfl
  | z :: l, n, pre, us, hp, e => by
    rw [mapO] at e
    cases h1 : Src.get vs ws z with
    | none =>
      rw [h1] at e
      cases e
    | some b =>
      rw [h1] at e
      cases h2 : mapO (Src.get vs ws) l with
      | none =>
        rw [h2] at e
        cases e
      | some bs =>
        rw [h2] at e
        cases e
        cases z with
        | p i =>
          have h1 : vs[i]? = some b := h1
          show b :: bs = sel (.p i :: srOf n l) vs (pre ++ dsOf l) ws
          rw [sel_cons]
          simp only [Sr.get, h1]
          rw [mapO_sel l n pre bs hp h2]
        | k i =>
          have h1 : ws[i]? = some b := h1
          show b :: bs = sel (.k i :: srOf n l) vs (pre ++ dsOf l) ws
          rw [sel_cons]
          simp only [Sr.get, h1]
          rw [mapO_sel l n pre bs hp h2]
        | d v =>
          cases h1
          show b :: bs = sel (.m n :: srOf (n + 1) l) vs (pre ++ b :: dsOf l) ws
          rw [sel_cons]
          have h3 : (pre ++ b :: dsOf l)[n]? = some b := by
            rw [List.getElem?_append_right (by omega), hp, Nat.sub_self]
            rfl
          simp only [Sr.get, h3]
          rw [mapO_sel l (n + 1) (pre ++ [b]) bs (by simp [hp]) h2]
          simp
def AtR {α β : Type} (R : α → β → Prop) : Option α → Option β → Prop
  | some a, some b => R a b
  | none, none => True
  | _, _ => False
theorem paired_sel {α β : Type} {R : α → β → Prop} {P : List α → List β → Prop} (nil : P [] []) (cons : ∀ a b as bs, R a b → P as bs → P (a :: as) (b :: bs))
    {us ms ws : List α} {us' ms' ws' : List β} (hu : ∀ i : Nat, AtR R (us[i]?) (us'[i]?))
    (hm : ∀ i : Nat, AtR R (ms[i]?) (ms'[i]?)) (hw : ∀ i : Nat, AtR R (ws[i]?) (ws'[i]?)) :
    ∀ src : List Sr, P (sel src us ms ws) (sel src us' ms' ws')
  | [] => nil
  | z :: src => by
    have ih := paired_sel (R := R) nil cons hu hm hw src
    rw [sel_cons, sel_cons]
    have key : AtR R (z.get us ms ws) (z.get us' ms' ws') := by
      cases z with
      | p i => exact hu i
      | k i => exact hw i
      | m i => exact hm i
    revert key
    generalize z.get us ms ws = A
    generalize z.get us' ms' ws' = B
    intro key
    cases A with
    | none => cases B with
      | none => exact ih
      | some b => exact key.elim
    | some a => cases B with
      | none => exact key.elim
      | some b => exact cons _ _ _ _ key ih
theorem vals_at {xs : List V} {us : List Value} (h : Vals xs us) (i : Nat) : AtR RelV xs[i]? us[i]? := by
  cases e : xs[i]? with
  | none =>
    have l : xs.length = us.length := h.length
    rw [List.getElem?_eq_none (by rw [← l]; exact List.getElem?_eq_none_iff.mp e)]
    trivial
  | some x =>
    obtain ⟨u, h1, h2⟩ := h.get e
    rw [h1]
    exact h2
theorem rvs_at {K : PySem.W.Frag} {H : Hp} {as : List Addr} {ws : List Val} {xs : List V} (h : RVs K H as ws xs) (i : Nat) : AtR (RV K H as) ws[i]? xs[i]? := by
  cases e : ws[i]? with
  | none =>
    have l := h.length
    rw [List.getElem?_eq_none (by have := List.getElem?_eq_none_iff.mp e; omega)]
    trivial
  | some x =>
    obtain ⟨u, h1, h2⟩ := h.get e
    rw [h1]
    exact h2
theorem sel_vals {src : List Sr} {vs mz zs : List V} {us mv ws : List Value} (h1 : Vals vs us) (h2 : Vals mz mv) (h3 : Vals zs ws) : Vals (sel src vs mz zs) (sel src us mv ws) :=
  paired_sel (P := Vals) .nil (fun _ _ _ _ => .cons) (vals_at h1) (vals_at h2) (vals_at h3) src
theorem sel_rvs {K : PySem.W.Frag} {H : Hp} {as : List Addr} {src : List Sr} {vs mz zs : List Val} {us mv ws : List V} (h1 : RVs K H as vs us) (h2 : RVs K H as mz mv) (h3 : RVs K H as zs ws) : RVs K H as (sel src vs mz zs) (sel src us mv ws) :=
  paired_sel (P := RVs K H as) .nil (fun _ _ _ _ => .cons) (rvs_at h1) (rvs_at h2) (rvs_at h3) src
/-- the keyword entry of DefHas from a selection -/
theorem kc_rel {K : PySem.W.Frag} {src : List Src} {mz : List V} (hd : ∀ H as, RVs K H as (dsOf src) mz) :
    ∀ (H : Hp) (as : List Addr) (vs : List Val) (xs : List V) (ws : List Val) (zs : List V) (us : List Val), mapO (Src.get vs ws) src = some us → RVs K H as vs xs → RVs K H as ws zs → RVs K H as us (sel (srOf 0 src) xs mz zs) := by
  intro H as vs xs ws zs us e h1 h2
  rw [mapO_sel src 0 [] us rfl e]
  exact sel_rvs h1 (hd H as) h2
section
variable {K : PySem.W.Frag} {x qual : Str} {params : Arguments} {body : List Stmt} {scope : Scope} {dvs : List V} {kws : List (Str × V)} {f : Addr} {fd : FuncData} {ps : List Str}
/-- a call with keywords of a def without defaults -/
theorem kbindsN (F : FunD K x qual params body scope [] kws f fd) (n : Nat) (ks : List Str) (src : List Sr)
    (h : ∀ (kV doc pm : Value) (an : Option Addr) (cdv ct : Value) (us ws : List Value), us.length = n → ws.length = ks.length → bindArgs (PySem.W.fnOf x qual params body scope .none kV doc pm an cdv ct) ⟨us, ks.zip ws⟩ = pure (ps.zip (sel src us [] ws))) :
    KBn K fd ps n ks (fun us ws => sel src us [] ws) (fun vs zs => sel src vs [] zs) := by
  obtain ⟨oc, od, dV, kV, doc, pm, an, cdv, ct, osl, rfl, lk, hcd, hD, hK⟩ := F.ex
  rcases hD with ⟨_, rfl⟩ | ⟨e, _⟩
  · exact ⟨fun s us ws X l1 l2 => .of_eq (h kV doc pm an cdv ct us ws l1 l2), fun r1 r2 => sel_vals r1 .nil r2⟩
  · exact absurd rfl e
/-- the entry of a keyword call -/
def KcE (K : PySem.W.Frag) (fd : FuncData) (ps : List Str) (k : Nat) (ks : List Str) (src : List Src) : Prop :=
  ∃ gg gV, KBn K fd ps k ks gg gV ∧ ∀ H as vs xs ws zs us, vs.length = k → ws.length = ks.length → mapO (Src.get vs ws) src = some us → RVs K H as vs xs → RVs K H as ws zs → RVs K H as us (gV xs zs)
theorem kcN (F : FunD K x qual params body scope [] kws f fd) {n : Nat} {ks : List Str} {src : List Src} (hd : dsOf src = [])
    (h : ∀ (kV doc pm : Value) (an : Option Addr) (cdv ct : Value) (us ws : List Value), us.length = n → ws.length = ks.length → bindArgs (PySem.W.fnOf x qual params body scope .none kV doc pm an cdv ct) ⟨us, ks.zip ws⟩ = pure (ps.zip (sel (srOf 0 src) us [] ws))) : KcE K fd ps n ks src :=
  ⟨_, _, kbindsN F n ks (srOf 0 src) h, fun H as vs xs ws zs us _ _ e h1 h2 => kc_rel (mz := []) (fun _ _ => by rw [hd]; exact .nil) H as vs xs ws zs us e h1 h2⟩
/-- of a def with keyword-only defaults alone; ms: the ones that lack -/
theorem kc0 (F : FunD K x qual params body scope [] kws f fd) {n : Nat} {ks : List Str} {src : List Src} (ms : List (Str × V)) (hk : kws ≠ []) (hms : ∀ q ∈ ms, q ∈ kws) (hd : ∀ H as, RVs K H as (dsOf src) (ms.map (·.2)))
    (h : ∀ (D : Addr) (doc pm : Value) (an : Option Addr) (cdv ct : Value) (us mv ws : List Value), us.length = n → mv.length = ms.length → ws.length = ks.length →
      KwChain D ((ms.map (·.1)).zip mv) (bindArgs (PySem.W.fnOf x qual params body scope .none (.ref D) doc pm an cdv ct) ⟨us, ks.zip ws⟩) (ps.zip (sel (srOf 0 src) us mv ws))) : KcE K fd ps n ks src := by
  obtain ⟨mv, hb⟩ := F.kbinds0 n ks ms (fun us mv ws => sel (srOf 0 src) us mv ws) hk hms (fun h1 h2 h3 => sel_vals h1 h2 h3) h
  exact ⟨_, _, hb, fun H as vs xs ws zs us _ _ e h1 h2 => kc_rel hd H as vs xs ws zs us e h1 h2⟩
/-- of a def with positional defaults, no keyword-only ones -/
theorem kcD (F : FunD K x qual params body scope dvs kws f fd) {n : Nat} {ks : List Str} {src : List Src} {sr : List Sr} {dd : List Val} (hd : dvs ≠ []) (hr : ∀ H as, RVs K H as dd dvs)
    (hs : ∀ vs ws us, mapO (Src.get vs ws) src = some us → us = sel sr vs dd ws)
    (h : ∀ (T : Addr) (kV doc pm : Value) (an : Option Addr) (cdv ct : Value) (us its ws : List Value), us.length = n → its.length = dvs.length → ws.length = ks.length →
      ∃ k, bindArgs (PySem.W.fnOf x qual params body scope (.ref T) kV doc pm an cdv ct) ⟨us, ks.zip ws⟩ = seqItems? (.ref T) >>= k ∧ k (some its.toArray) = pure (ps.zip (sel sr us its ws))) : KcE K fd ps n ks src := by
  obtain ⟨its, hb⟩ := F.kbindsD n ks (fun us mv ws => sel sr us mv ws) hd (fun h1 h2 h3 => sel_vals h1 h2 h3) h
  exact ⟨_, _, hb, fun H as vs xs ws zs us _ _ e h1 h2 => by rw [hs vs ws us e]; exact sel_rvs h1 (hr H as) h2⟩
def DcE (K : PySem.W.Frag) (fd : FuncData) (ps : List Str) (ds : List Val) : Prop := ∃ us dvs, Vals dvs us ∧ (∀ H as, RVs K H as ds dvs) ∧ Binds K fd ps us
theorem dc0 {ds : List Val} {zs : List V} (r : ∀ H as, RVs K H as ds zs) (h : ∃ us, Vals zs us ∧ Binds K fd ps us) : DcE K fd ps ds := by
  obtain ⟨us, h1, h2⟩ := h
  exact ⟨us, zs, h1, r, h2⟩
end
theorem mem_look {κ β : Type} [BEq κ] [LawfulBEq κ] {k : κ} {v : β} : ∀ {l : List (κ × β)}, l.lookup k = some v → (k, v) ∈ l
  | [], h => by cases h
  | (k', v') :: l, h => by
    rw [List.lookup_cons] at h
    cases e : k == k' with
    | true =>
      rw [e] at h
      cases h
      rw [eq_of_beq e]
      exact List.mem_cons_self ..
    | false =>
      rw [e] at h
      exact List.mem_cons_of_mem _ (mem_look h)
theorem dcs_of {l m : List ((Nat × Nat) × List Val)} {f : Nat} {R : Nat → List Val → Prop} (hm : l.filter (fun e => e.1.1 == f) = m) (h : ∀ e ∈ m, R e.1.2 e.2) : ∀ k ds, l.lookup (f, k) = some ds → R k ds := fun k ds e => by
  have h1 := mem_look e
  exact h _ (hm ▸ List.mem_filter.mpr ⟨h1, by simp⟩)
theorem kcs_of {l m : List ((Nat × Nat × List Str) × List Src)} {f : Nat} {R : Nat → List Str → List Src → Prop} (hm : l.filter (fun e => e.1.1 == f) = m) (h : ∀ e ∈ m, R e.1.2.1 e.1.2.2 e.2) : ∀ k ks src, l.lookup (f, k, ks) = some src → R k ks src := fun k ks src e => by
  have h1 := mem_look e
  exact h _ (hm ▸ List.mem_filter.mpr ⟨h1, by simp⟩)
theorem fns_of {l : List (Str × (Nat × Nat))} {R : Str → Nat → Nat → Prop} (h : ∀ e ∈ l, R e.1 e.2.1 e.2.2) : ∀ x f m, l.lookup x = some (f, m) → R x f m := fun x f m e => h _ (mem_look e)
theorem kvs_of {l : List (Str × Val)} {R : Str → Val → Prop} (h : ∀ e ∈ l, R e.1 e.2) : ∀ x, (l.lookup x).isSome = true → ∃ v, l.lookup x = some v ∧ R x v := fun x e => by
  cases q : l.lookup x with
  | none =>
    rw [q] at e
    cases e
  | some v => exact ⟨v, rfl, h _ (mem_look q)⟩
section
variable {G : GT} {T : Tab} {D : Nat} {P : Program} {w : World} {K : PySem.W.Frag} {mg : Str → Option Value} {base : Heap}
/-- one def at a level -/
theorem def_ok (hfree : ∀ x ∈ freeNames, mg x = none) (hkv : ∀ x, G.kvs x = true → ∃ v y u, T.kv x = some v ∧ mg x = some u ∧ RelV y u ∧ ∀ H as, RV K H as v y)
    (hdef : ∀ x f m, G.fns x = some (f, m) → DefHas G T D K mg x f m) (n : Nat) {f m : Nat} {fa : Addr} {fd : FuncData} {ps N : List Str} {nm qual : Str} {params : Arguments} {body : List Stmt} {scope : Scope} {dvs : List V} {kws : List (Str × V)} {cd : Fn}
    (F : FunD K nm qual params body scope dvs kws fa fd) (S : FnScope N ps scope) (hc : T.fn f = some cd) (har : cd.ar = m) (hps : ps.length = m) (hsl : cd.slots = N.length)
    (hcomp : compSs (compS G N D scope (fun _ => true) D) body = some cd.body) : FnOk P w K mg base CX0 (n + 1) fa fd ps (spF K m (T.run (n + 1) f)) := by
  refine F.ok S (fun vs H Q E ⟨hl, _⟩ => by rw [hl, hps]) (fun cdv A outer s H vs Q E hr hsp => ?_)
  obtain ⟨hl, as, S0, ws, rs, rv, fin⟩ := hsp
  have ok : OK G ⟨T.run n, T.kv⟩ n (cxOf CX0 P w K mg base N qual scope fa cdv A outer s H E).nox N scope (fun _ => true) :=
    { hN := rfl
      hsc := rfl
      nd := S.nd
      calm := rfl
      room := hr
      pown := PassesOwn.never
      free := hfree
      kv := hkv
      fn := fun x f m hx => ⟨tab_ok hfree hkv hdef n x f m hx, fun ws S hw => by
        cases n with
        | zero => rfl
        | succ n =>
          obtain ⟨_, _, _, _, _, _, _, _, _, _, _, cd2, _, _, _, hc2, har2, _⟩ := (hdef x f m hx).ex
          show (match T.fn f with
            | some d => if ws.length = d.ar then endR (evSs ⟨T.run n, T.kv⟩ d.body (startR d.slots ws) S) else .no
            | none => .no) = .no
          rw [hc2]
          exact if_neg (by rw [har2]; exact hw)⟩
      tg := fun _ _ _ => .inl rfl }
  have all : ∀ {ss : List Stmt} {cs : C}, compSs (compS G N D scope (fun _ => true) D) ss = some cs → SSs (cxOf CX0 P w K mg base N qual scope fa cdv A outer s H E).nox ⟨T.run n, T.kv⟩ ss cs := by
    intro ss
    induction ss with
    | nil =>
      intro cs h
      cases h
      exact ss_nil
    | cons a ss ih =>
      intro cs h
      have h : ((compS G N D scope (fun _ => true) D a).bind fun c => (compSs (compS G N D scope (fun _ => true) D) ss).bind fun cs => some (.cons c cs)) = some cs := h
      obtain ⟨c1, h1, h⟩ := bd h
      obtain ⟨c2, h2, h⟩ := bd h
      cases h
      exact ss_cons (soundS ok S.kind D D h1) (ih h2)
  refine ⟨_, (all hcomp).nox, as, S0, startR cd.slots ws, rs, rr_start rv _ hsl, ?_⟩
  apply end_fin
  have fin : FinV K as H (match T.fn f with
    | some d => if ws.length = d.ar then endR (evSs ⟨T.run n, T.kv⟩ d.body (startR d.slots ws) S0) else .no
    | none => .no) Q := fin
  rw [hc] at fin
  have fin : FinV K as H (if ws.length = cd.ar then endR (evSs ⟨T.run n, T.kv⟩ cd.body (startR cd.slots ws) S0) else .no) Q := fin
  rw [if_pos (by rw [har, rv.length, hl])] at fin
  exact fin
end
end Lv

/-! LwA: what a run answers; frames; contents. -/
namespace Lv
open PySem (Str PyData)
def Out.Ok {α : Type} (o : Out α) (Q : α → Store → Prop) : Prop := match o with
  | .ok a S => Q a S
  | .no => False
def SO.Ok (o : SO) (Q : SO → Prop) : Prop := match o with
  | .no => False
  | o => Q o
namespace Out
theorem Ok_ok {α : Type} (a : α) (S : Store) (Q : α → Store → Prop) : (Out.ok a S).Ok Q = Q a S := rfl
theorem Ok_bind {α β : Type} (o : Out α) (f : α → Store → Out β) (Q : β → Store → Prop) : (o.bind f).Ok Q = o.Ok fun a S => (f a S).Ok Q := by cases o <;> rfl
theorem Ok_lift {α : Type} (o : Out α) (f : α → Store → SO) (Q : SO → Prop) : (lift o f).Ok Q = o.Ok fun a S => (f a S).Ok Q := by cases o <;> rfl
theorem Ok.imp {α : Type} {o : Out α} {P Q : α → Store → Prop} (h : o.Ok P) (f : ∀ a S, P a S → Q a S) : o.Ok Q := by
  cases o with
  | ok a S => exact f _ _ h
  | no => exact h.elim
theorem Ok.get {α : Type} {o : Out α} {P : α → Store → Prop} (h : o.Ok P) : ∃ a S, o = .ok a S ∧ P a S := by
  cases o with
  | ok a S => exact ⟨a, S, rfl, h⟩
  | no => exact h.elim
theorem Ok_if {α : Type} {p : Prop} [Decidable p] (a b : Out α) (Q : α → Store → Prop) : (if p then a else b).Ok Q = if p then a.Ok Q else b.Ok Q := by split <;> rfl
end Out
namespace SO
theorem Ok_nx (r : Rho) (S : Store) (Q : SO → Prop) : (SO.nx r S).Ok Q = Q (.nx r S) := rfl
theorem Ok_rt (v : Val) (S : Store) (Q : SO → Prop) : (SO.rt v S).Ok Q = Q (.rt v S) := rfl
theorem Ok_bk (r : Rho) (S : Store) (Q : SO → Prop) : (SO.bk r S).Ok Q = Q (.bk r S) := rfl
theorem Ok_ct (r : Rho) (S : Store) (Q : SO → Prop) : (SO.ct r S).Ok Q = Q (.ct r S) := rfl
theorem Ok.imp {o : SO} {P Q : SO → Prop} (h : o.Ok P) (f : ∀ a, P a → Q a) : o.Ok Q := by
  cases o <;> first | exact f _ h | exact h.elim
end SO
/-- behind a statement: what follows, or the end itself -/
def thn (f : Rho → Store → SO) (Q : SO → Prop) : SO → Prop
  | .nx r S => (f r S).Ok Q
  | o => Q o
theorem thn_nx (f : Rho → Store → SO) (Q : SO → Prop) (r : Rho) (S : Store) : thn f Q (.nx r S) = (f r S).Ok Q := rfl
theorem thn_rt (f : Rho → Store → SO) (Q : SO → Prop) (r : Val) (S : Store) : thn f Q (.rt r S) = Q (.rt r S) := rfl
theorem thn_bk (f : Rho → Store → SO) (Q : SO → Prop) (r : Rho) (S : Store) : thn f Q (.bk r S) = Q (.bk r S) := rfl
theorem thn_ct (f : Rho → Store → SO) (Q : SO → Prop) (r : Rho) (S : Store) : thn f Q (.ct r S) = Q (.ct r S) := rfl
theorem ok_cons {g : Cfg} {s ss : C} {r : Rho} {S : Store} {Q : SO → Prop} (h : (evS g s r S).Ok (thn (evSs g ss) Q)) : (evSs g (.cons s ss) r S).Ok Q := by
  rw [evSs]
  cases e : evS g s r S with
  | no =>
    rw [e] at h
    exact h.elim
  | _ =>
    rw [e] at h
    exact h
theorem ok_nil {g : Cfg} {r : Rho} {S : Store} {Q : SO → Prop} (h : Q (.nx r S)) : (evSs g .nil r S).Ok Q := by
  rw [evSs]
  exact h
theorem Ok_ss (g : Cfg) (s ss : C) (r : Rho) (S : Store) (Q : SO → Prop) : (evSs g (.cons s ss) r S).Ok Q = (evS g s r S).Ok (thn (evSs g ss) Q) := by
  rw [evSs]
  cases evS g s r S <;> rfl
theorem Ok_ss0 (g : Cfg) (r : Rho) (S : Store) (Q : SO → Prop) : (evSs g .nil r S).Ok Q = Q (.nx r S) := by
  rw [evSs]
  rfl
def endQ (Q : Val → Store → Prop) : SO → Prop
  | .nx _ S => Q .non S
  | .rt v S => Q v S
  | _ => False
theorem endQ_nx (Q : Val → Store → Prop) (r : Rho) (S : Store) : endQ Q (.nx r S) = Q .non S := rfl
theorem endQ_rt (Q : Val → Store → Prop) (v : Val) (S : Store) : endQ Q (.rt v S) = Q v S := rfl
theorem ok_end {o : SO} {Q : Val → Store → Prop} (h : o.Ok (endQ Q)) : (endR o).Ok Q := by
  cases o <;> first | exact h | exact h.elim
/-- a run's body -/
theorem ok_run {T : Tab} {n f ar sl : Nat} {c : C} {vs : List Val} {S : Store} {Q : Val → Store → Prop} (hf : T.fn f = some ⟨ar, sl, c⟩) (hl : vs.length = ar)
    (h : (evSs ⟨T.run n, T.kv⟩ c (startR sl vs) S).Ok (endQ Q)) : (T.run (n + 1) f vs S).Ok Q := by
  have e : T.run (n + 1) f vs S = endR (evSs ⟨T.run n, T.kv⟩ c (startR sl vs) S) := by
    show (match T.fn f with
      | some d => if vs.length = d.ar then endR (evSs ⟨T.run n, T.kv⟩ d.body (startR d.slots vs) S) else .no
      | none => .no) = _
    rw [hf]
    exact if_pos hl
  rw [e]
  exact ok_end h

/-! ### frames -/
/-- the cells outside M stay -/
structure Fr (M : List Nat) (S S' : Store) : Prop where
  len : S.length ≤ S'.length
  at_ : ∀ k, k < S.length → k ∉ M → S'[k]? = S[k]?
namespace Fr
theorem rfl' {M : List Nat} (S : Store) : Fr M S S := ⟨Nat.le_refl _, fun _ _ _ => rfl⟩
theorem trans {M : List Nat} {S S1 S2 : Store} (h : Fr M S S1) (h' : Fr M S1 S2) : Fr M S S2 :=
  ⟨Nat.le_trans h.len h'.len, fun k hk hm => (h'.at_ k (Nat.lt_of_lt_of_le hk h.len) hm).trans (h.at_ k hk hm)⟩
theorem app {M : List Nat} (S : Store) (os : List Ob) : Fr M S (S ++ os) := ⟨by simp, fun k hk _ => List.getElem?_append_left hk⟩
theorem set {M : List Nat} (S : Store) {k : Nat} (o : Ob) (h : k ∈ M) : Fr M S (S.set k o) := ⟨by simp, fun i hi hm => List.getElem?_set_ne (fun e => hm (by rw [← e]; exact h))⟩
theorem mono {M M' : List Nat} {S S' : Store} (h : Fr M S S') (hs : ∀ k ∈ M, k ∈ M') : Fr M' S S' := ⟨h.len, fun k hk hm => h.at_ k hk fun z => hm (hs k z)⟩
/-- cells that are new at S may have changed -/
theorem new {M M' : List Nat} {S S' : Store} (h : Fr M' S S') (hs : ∀ k ∈ M', k ∈ M ∨ S.length ≤ k) : Fr M S S' := ⟨h.len, fun k hk hm => h.at_ k hk fun z => (hs k z).elim hm (fun q => absurd hk (Nat.not_lt.mpr q))⟩
theorem get {M : List Nat} {S S' : Store} (h : Fr M S S') {k : Nat} {o : Ob} (e : S[k]? = some o) (hm : k ∉ M) : S'[k]? = some o := by
  have hk : k < S.length := (List.getElem?_eq_some_iff.mp e).1
  rw [h.at_ k hk hm]
  exact e
end Fr
theorem lt_of_at {S : Store} {k : Nat} {o : Ob} (e : S[k]? = some o) : k < S.length := (List.getElem?_eq_some_iff.mp e).1

/-! ### contents -/
inductive D where
  | non | bl (b : Bool) | int (i : Int) | str (s : Str) | tup (ds : List D) | lst (ds : List D)
instance : Inhabited D := ⟨.non⟩
mutual
inductive Con (M : List Nat) (S : Store) : Val → D → Prop
  | non : Con M S .non .non
  | bl (b : Bool) : Con M S (.bl b) (.bl b)
  | int (i : Int) : Con M S (.int i) (.int i)
  | str (x : Str) : Con M S (.str x) (.str x)
  | tup {vs : List Val} {ds : List D} : Cons M S vs ds → Con M S (.tup vs) (.tup ds)
  | lst {k : Nat} {vs : List Val} {ds : List D} : S[k]? = some (.lst vs) → k ∉ M → Cons M S vs ds → Con M S (.ref k) (.lst ds)
inductive Cons (M : List Nat) (S : Store) : List Val → List D → Prop
  | nil : Cons M S [] []
  | cons {v : Val} {d : D} {vs : List Val} {ds : List D} : Con M S v d → Cons M S vs ds → Cons M S (v :: vs) (d :: ds)
end
namespace Cons
theorem length {M : List Nat} {S : Store} : ∀ {vs : List Val} {ds : List D}, Cons M S vs ds → vs.length = ds.length
  | [], _, h => by
    cases h
    rfl
  | v :: vs, _, h => by
    cases h with
    | cons h1 h2 => exact congrArg (· + 1) (length h2)
theorem get {M : List Nat} {S : Store} : ∀ {vs : List Val} {ds : List D} {i : Nat} {v : Val}, Cons M S vs ds → vs[i]? = some v → ∃ d, ds[i]? = some d ∧ Con M S v d
  | _, _, i, v, .nil, h => by simp at h
  | _, _, 0, v, .cons h1 h2, h => by
    cases h
    exact ⟨_, rfl, h1⟩
  | _ :: _, _ :: _, i + 1, v, .cons h1 h2, h => get (i := i) h2 (by rw [List.getElem?_cons_succ] at h; exact h)
theorem get' {M : List Nat} {S : Store} : ∀ {vs : List Val} {ds : List D} {i : Nat} {d : D}, Cons M S vs ds → ds[i]? = some d → ∃ v, vs[i]? = some v ∧ Con M S v d
  | _, _, i, v, .nil, h => by simp at h
  | _, _, 0, v, .cons h1 h2, h => by
    cases h
    exact ⟨_, rfl, h1⟩
  | _ :: _, _ :: _, i + 1, v, .cons h1 h2, h => get' (i := i) h2 (by rw [List.getElem?_cons_succ] at h; exact h)
theorem append {M : List Nat} {S : Store} : ∀ {vs ws : List Val} {ds es : List D}, Cons M S vs ds → Cons M S ws es → Cons M S (vs ++ ws) (ds ++ es)
  | _, _, _, _, .nil, h => h
  | _, _, _, _, .cons h1 h2, h => .cons h1 (append h2 h)
end Cons
mutual
theorem Con.to {M M' : List Nat} {S S' : Store} (f : ∀ k o, k ∉ M → S[k]? = some o → k ∉ M' ∧ S'[k]? = some o) {v : Val} {d : D} : Con M S v d → Con M' S' v d
  | .non => .non
  | .bl b => .bl b
  | .int i => .int i
  | .str x => .str x
  | .tup h => .tup (Cons.to f h)
  | .lst h1 h2 h3 => .lst (f _ _ h2 h1).2 (f _ _ h2 h1).1 (Cons.to f h3)
theorem Cons.to {M M' : List Nat} {S S' : Store} (f : ∀ k o, k ∉ M → S[k]? = some o → k ∉ M' ∧ S'[k]? = some o) {vs : List Val} {ds : List D} : Cons M S vs ds → Cons M' S' vs ds
  | .nil => .nil
  | .cons h1 h2 => .cons (Con.to f h1) (Cons.to f h2)
end
theorem Con.fr {M : List Nat} {S S' : Store} {v : Val} {d : D} (h : Con M S v d) (f : Fr M S S') : Con M S' v d := h.to fun k o hm e => ⟨hm, f.get e hm⟩
theorem Cons.fr {M : List Nat} {S S' : Store} {v : List Val} {d : List D} (h : Cons M S v d) (f : Fr M S S') : Cons M S' v d := h.to fun k o hm e => ⟨hm, f.get e hm⟩
/-- a new cell is not among them -/
theorem Con.ex {M : List Nat} {S : Store} {v : Val} {d : D} (h : Con M S v d) {m : Nat} (hm : S.length ≤ m) : Con (m :: M) S v d := h.to fun k o hk e => ⟨fun z => by
  rcases List.mem_cons.mp z with rfl | z
  · exact absurd (lt_of_at e) (Nat.not_lt.mpr hm)
  · exact hk z, e⟩
theorem Cons.ex {M : List Nat} {S : Store} {v : List Val} {d : List D} (h : Cons M S v d) {m : Nat} (hm : S.length ≤ m) : Cons (m :: M) S v d := h.to fun k o hk e => ⟨fun z => by
  rcases List.mem_cons.mp z with rfl | z
  · exact absurd (lt_of_at e) (Nat.not_lt.mpr hm)
  · exact hk z, e⟩
theorem Con.le {M M' : List Nat} {S : Store} {v : Val} {d : D} (h : Con M S v d) (hs : ∀ k ∈ M', k ∈ M) : Con M' S v d := h.to fun k o hk e => ⟨fun z => hk (hs k z), e⟩
theorem Cons.le {M M' : List Nat} {S : Store} {v : List Val} {d : List D} (h : Cons M S v d) (hs : ∀ k ∈ M', k ∈ M) : Cons M' S v d := h.to fun k o hk e => ⟨fun z => hk (hs k z), e⟩

/-! ### loops -/
theorem lcN_ok {it : Itr} {D : Nat} {body : Val → Store → Out (Option Val)} {vs : List Val} (I : Nat → List Val → Store → Prop) (hit : ∀ i acc S, I i acc S → it.at_ S i = some vs[i]?)
    (hb : ∀ i acc S v, vs[i]? = some v → I i acc S → (body v S).Ok fun y S' => match y with
      | none => I (i + 1) acc S'
      | some y => S'[D]? = some (.lst acc) ∧ acc.length < SZ ∧ I (i + 1) (acc ++ [y]) (S'.set D (.lst (acc ++ [y])))) :
    ∀ (n i : Nat) (acc : List Val) (S : Store), vs.length < n + i → i ≤ vs.length → I i acc S → (lcN it D body n i S).Ok fun v S' => v = .ref D ∧ ∃ acc, I vs.length acc S'
  | 0, i, acc, S, h1, h2, _ => by omega
  | n + 1, i, acc, S, h1, h2, hI => by
    rw [lcN, hit i acc S hI]
    cases e : vs[i]? with
    | none =>
      have : i = vs.length := by
        have := List.getElem?_eq_none_iff.mp e
        omega
      exact ⟨rfl, acc, this ▸ hI⟩
    | some v =>
      have hi : i < vs.length := (List.getElem?_eq_some_iff.mp e).1
      have q := hb i acc S v e hI
      show Out.Ok (match body v S with
        | .ok none S' => lcN it D body n (i + 1) S'
        | .ok (some y) S' => match S'[D]? with
          | some (.lst acc) => if acc.length < SZ then lcN it D body n (i + 1) (S'.set D (.lst (acc ++ [y]))) else .no
          | _ => .no
        | .no => .no) _
      cases hq : body v S with
      | no =>
        rw [hq] at q
        exact q.elim
      | ok y S' =>
        rw [hq] at q
        cases y with
        | none => exact lcN_ok I hit hb n (i + 1) acc S' (by omega) hi q
        | some y =>
          obtain ⟨q1, q2, q3⟩ := q
          show Out.Ok (match S'[D]? with
            | some (.lst acc) => if acc.length < SZ then lcN it D body n (i + 1) (S'.set D (.lst (acc ++ [y]))) else .no
            | _ => .no) _
          rw [q1]
          show Out.Ok (if acc.length < SZ then lcN it D body n (i + 1) (S'.set D (.lst (acc ++ [y]))) else .no) _
          rw [if_pos q2]
          exact lcN_ok I hit hb n (i + 1) (acc ++ [y]) _ (by omega) hi q3
theorem forN_ok {it : Itr} {body : Val → Rho → Store → SO} {vs : List Val} {Q : SO → Prop} (I : Nat → Rho → Store → Prop) (hit : ∀ i r S, I i r S → it.at_ S i = some vs[i]?)
    (hb : ∀ i r S v, vs[i]? = some v → I i r S → (body v r S).Ok fun o => match o with
      | .nx r' S' => I (i + 1) r' S'
      | .ct r' S' => I (i + 1) r' S'
      | .bk r' S' => Q (.nx r' S')
      | .rt w S' => Q (.rt w S')
      | .no => False)
    (hend : ∀ r S, I vs.length r S → Q (.nx r S)) : ∀ (n i : Nat) (r : Rho) (S : Store), vs.length < n + i → i ≤ vs.length → I i r S → (forN it body n i r S).Ok Q
  | 0, i, r, S, h1, h2, _ => by omega
  | n + 1, i, r, S, h1, h2, hI => by
    rw [forN, hit i r S hI]
    cases e : vs[i]? with
    | none =>
      have : i = vs.length := by
        have := List.getElem?_eq_none_iff.mp e
        omega
      exact hend r S (this ▸ hI)
    | some v =>
      have hi : i < vs.length := (List.getElem?_eq_some_iff.mp e).1
      have q := hb i r S v e hI
      show SO.Ok (match body v r S with
        | .nx r' S' => forN it body n (i + 1) r' S'
        | .ct r' S' => forN it body n (i + 1) r' S'
        | .bk r' S' => .nx r' S'
        | .rt w S' => .rt w S'
        | .no => .no) _
      cases hq : body v r S with
      | no =>
        rw [hq] at q
        exact q.elim
      | nx r' S' =>
        rw [hq] at q
        exact forN_ok I hit hb hend n (i + 1) r' S' (by omega) hi q
      | ct r' S' =>
        rw [hq] at q
        exact forN_ok I hit hb hend n (i + 1) r' S' (by omega) hi q
      | bk r' S' =>
        rw [hq] at q
        exact q
      | rt w S' =>
        rw [hq] at q
        exact q
end Lv

/-! LwB: the script's bag. -/
namespace Lv
open PySem (Str PyData)
theorem cmp_eq_int (S : Store) (i j : Int) : cmpV S .eq (.int i) (.int j) = some (decide (i = j)) := by
  show some (PyData.eqv (.int i) (.int j)) = _
  rw [PyData.eqv]
  rfl
theorem cmp_ne_int (S : Store) (i j : Int) : cmpV S .ne (.int i) (.int j) = some (!decide (i = j)) := by
  show some (!PyData.eqv (.int i) (.int j)) = _
  rw [PyData.eqv]
  rfl
theorem cmp_lt_int (S : Store) (i j : Int) : cmpV S .lt (.int i) (.int j) = some (decide (i < j)) := rfl
theorem cmp_le_int (S : Store) (i j : Int) : cmpV S .le (.int i) (.int j) = some (decide (i ≤ j)) := rfl
theorem cmp_gt_int (S : Store) (i j : Int) : cmpV S .gt (.int i) (.int j) = some (decide (j < i)) := rfl
theorem cmp_ge_int (S : Store) (i j : Int) : cmpV S .ge (.int i) (.int j) = some (decide (j ≤ i)) := rfl
theorem cmp_in (S : Store) (v w : Val) : cmpV S .inn v w = inV S v w := by cases v <;> cases w <;> rfl
theorem tru_bl (S : Store) (b : Bool) : tru S (.bl b) = some b := rfl
theorem add_int (S : Store) (i j : Int) : binV S .add (.int i) (.int j) = .ok (.int (i + j)) S := rfl
theorem sub_int (S : Store) (i j : Int) : binV S .sub (.int i) (.int j) = .ok (.int (i - j)) S := rfl
theorem mul_intR (S : Store) (i j : Int) (h1 : -18446744073709551616 < j) (h2 : j < 18446744073709551616) : binV S .mul (.int i) (.int j) = .ok (.int (i * j)) S := if_pos (.inr ⟨h1, h2⟩)
theorem mod_int (S : Store) (i j : Int) (h : 0 < j) : binV S .mod (.int i) (.int j) = .ok (.int (i % j)) S := if_pos h
theorem fdiv_int (S : Store) (i j : Int) (h : 0 < j) (h2 : j.natAbs.log2 < 9000) : binV S .fdiv (.int i) (.int j) = .ok (.int (i / j)) S := if_pos ⟨h, h2⟩
theorem log_small {j : Int} (h0 : 0 < j) (h : j < 18446744073709551616) : j.natAbs.log2 < 9000 := by
  have : j.natAbs < 2 ^ 64 := by omega
  exact Nat.lt_trans ((Nat.log2_lt (by omega)).mpr this) (by decide)
theorem pow10_18 (S : Store) : binV S .pow (.int 10) (.int 18) = .ok (.int 1000000000000000000) S := by
  show (if 0 ≤ (18 : Int) ∧ (18 : Int) ≤ 1000000 ∧ (10 : Int).natAbs < 2 ^ 64 then Out.ok (Val.int ((10 : Int) ^ (18 : Int).toNat)) S else .no) = _
  rw [if_pos (by decide)]
  rfl
theorem sq_set (S : Store) (b : Nat) (vs : List Val) (h : b < S.length) : seqAt (S.set b (.lst vs)) b = some vs := by
  unfold seqAt
  rw [List.getElem?_set_self h]
theorem sq_ne (S : Store) (b j : Nat) (o : Ob) (h : b ≠ j) : seqAt (S.set b o) j = seqAt S j := by
  unfold seqAt
  rw [List.getElem?_set_ne h]
theorem sq_of {S : Store} {k : Nat} {vs : List Val} (h : S[k]? = some (.lst vs)) : seqAt S k = some vs := by
  unfold seqAt
  rw [h]
theorem sq_get {S : Store} {k : Nat} {vs : List Val} (h : seqAt S k = some vs) : S[k]? = some (.lst vs) := by
  unfold seqAt at h
  split at h
  · next e =>
    cases h
    exact e
  · cases h
theorem int_int (S : Store) (i : Int) : bltV S "int" [.int i] = .ok (.int i) S := by simp [bltV]
theorem int_bl (S : Store) (b : Bool) : bltV S "int" [.bl b] = .ok (.int (if b then 1 else 0)) S := by simp [bltV]
theorem len_ref (S : Store) (k : Nat) : bltV S "len" [.ref k] = match seqAt S k with
  | some xs => .ok (.int xs.length) S
  | none => .no := rfl
theorem len_tup (S : Store) (xs : List Val) : bltV S "len" [.tup xs] = .ok (.int xs.length) S := by simp [bltV]
theorem len_fz (S : Store) (xs : List Val) : bltV S "len" [.fz xs] = .ok (.int xs.length) S := by simp [bltV]
theorem len_str (S : Store) (x : Str) (h : x.length ≤ SZ) : bltV S "len" [.str x] = .ok (.int x.length) S := by simp [bltV, h]
theorem idx_ref (S : Store) (k : Nat) (i : Int) : idxV S (.ref k) (.int i) = (seqAt S k).bind fun vs => L2.atI vs i := rfl
theorem idx_tup (S : Store) (vs : List Val) (i : Int) : idxV S (.tup vs) (.int i) = L2.atI vs i := rfl
section
variable {α : Type} (a b c d e : α) (l : List α)
theorem at_nat (l : List α) (n : Nat) (i : Int) (hi : i = n) (h : n < l.length) : L2.atI l i = l[n]? := by
  subst hi
  unfold L2.atI L2.ixN
  rw [if_pos (by omega), if_pos (by omega)]
  rfl
theorem at0 : L2.atI (a :: l) 0 = some a := at_nat _ 0 0 rfl (by simp)
theorem at1 : L2.atI (a :: b :: l) 1 = some b := at_nat _ 1 1 rfl (by simp)
theorem at2 : L2.atI (a :: b :: c :: l) 2 = some c := at_nat _ 2 2 rfl (by simp)
theorem at3 : L2.atI (a :: b :: c :: d :: l) 3 = some d := at_nat _ 3 3 rfl (by simp)
theorem at4 : L2.atI (a :: b :: c :: d :: e :: l) 4 = some e := at_nat _ 4 4 rfl (by simp)
theorem ix_nat (n m : Nat) (i : Int) (hi : i = m) (h : m < n) : L2.ixN n i = some m := by
  subst hi
  unfold L2.ixN
  rw [if_pos (by omega), if_pos (by omega)]
  rfl
end
theorem ix51 : L2.ixN 5 1 = some 1 := rfl
theorem ix52 : L2.ixN 5 2 = some 2 := rfl
theorem ix53 : L2.ixN 5 3 = some 3 := rfl
theorem ix54 : L2.ixN 5 4 = some 4 := rfl
local macro_rules | `(tactic| walk_at "ev") => `(tactic| try simp only [evS, evT, evE, evEs, evO, evG, evGs, evF, Out.bind_ok, Out.bind_no, lift_ok, Out.Ok_ok, Out.Ok_bind, Out.Ok_lift, SO.Ok_nx, SO.Ok_rt, SO.Ok_bk, SO.Ok_ct, thn_nx, thn_rt, thn_bk, thn_ct, endQ_nx, endQ_rt, Ok_ss0, ofO_some, List.getElem?_cons_zero, List.getElem?_cons_succ, List.set_cons_zero, List.set_cons_succ, Option.map_some, Option.bind_some, List.length_cons, List.length_nil, ix51, ix52, ix53, ix54, Nat.zero_add, Nat.reduceAdd, cmp_eq_int, cmp_ne_int, cmp_lt_int, cmp_le_int, cmp_gt_int, cmp_ge_int, tru_bl, add_int, sub_int, mul_intR, mod_int, fdiv_int, pow10_18, int_int, int_bl, len_ref, len_tup, len_fz, idx_ref, idx_tup, at0, at1, at2, at3, at4, Int.reduceNeg, Int.reduceLT, Int.reduceLE, decide_true, decide_false, eq_self, sq_set, sq_ne, List.set_set, *])
local macro_rules | `(tactic| walk_at "st") => `(tactic| ((try rw [Ok_ss]); walk_at "ev"))
def cPull2 : C :=
  (.cons (.iff (.cmp .gt (.idx (.var 0) (.kint 2)) (.kint 0)) (.cons (.asg (.tn 4) (.bin .mod (.blt "int" (.cons (.idx (.var 0) (.kint 2)) .nil)) (.var 1))) (.cons (.asg (.tsub (.var 0) (.kint 2)) (.bin .fdiv (.idx (.var 0) (.kint 2)) (.var 1))) (.cons (.ret (.var 4)) .nil))) .nil) (.cons (.asg (.tsub (.var 0) (.kint 4)) (.bin .add (.idx (.var 0) (.kint 4)) (.kint 1))) (.cons (.asg (.tn 2) (.idx (.var 0) (.kint 3))) (.cons (.asg (.tsub (.var 0) (.kint 3)) (.bin .mod (.blt "int" (.cons (.bin .add (.bin .add (.bin .add (.bin .mul (.var 2) (.var 2)) (.bin .mul (.var 2) (.kint 31081))) (.bin .mul (.idx (.var 0) (.kint 4)) (.kint 1299833))) (.kint 70001)) .nil)) (.kint 2147483549))) (.cons (.ret (.bin .mod (.blt "int" (.cons (.bin .add (.bin .fdiv (.idx (.var 0) (.kint 3)) (.kint 59)) (.bin .mul (.bin .mod (.blt "int" (.cons (.idx (.var 0) (.kint 3)) .nil)) (.kint 8053)) (.kint 47))) .nil)) (.var 1))) .nil)))))
def cPull : C :=
  (.cons (.iff (.and_ (.cmp .eq (.idx (.var 0) (.kint 2)) (.kint 0)) (.cmp .lt (.idx (.var 0) (.kint 1)) (.blt "len" (.cons (.idx (.var 0) (.kint 0)) .nil)))) (.cons (.asg (.tn 3) (.idx (.idx (.var 0) (.kint 0)) (.idx (.var 0) (.kint 1)))) (.cons (.asg (.tsub (.var 0) (.kint 1)) (.bin .add (.idx (.var 0) (.kint 1)) (.kint 1))) (.cons (.iff (.cmp .ge (.var 3) (.bin .pow (.kint 10) (.kint 18))) (.cons (.asg (.tsub (.var 0) (.kint 2)) (.var 3)) .nil) (.cons (.asg (.tsub (.var 0) (.kint 3)) (.bin .mod (.blt "int" (.cons (.bin .add (.bin .add (.bin .mul (.idx (.var 0) (.kint 3)) (.kint 43051)) (.bin .mul (.bin .mod (.blt "int" (.cons (.var 3) .nil)) (.kint 2147483423)) (.kint 7411))) (.kint 37)) .nil)) (.kint 2147483579))) .nil)) .nil))) .nil) cPull2)
structure Bg (M : List Nat) (b : Nat) (S : Store) : Prop where
  ex : ∃ (j : Nat) (ns : List Int) (a c d e : Int), S[b]? = some (.lst [.ref j, .int a, .int c, .int d, .int e]) ∧ S[j]? = some (.lst (ns.map .int)) ∧ j ∉ M ∧ 0 ≤ a ∧ 0 ≤ c ∧ 0 ≤ d ∧ d < 2 ^ 32
  mem : b ∈ M
def BgL (j : Nat) (o : Ob) : Prop := ∃ a c d e : Int, o = .lst [.ref j, .int a, .int c, .int d, .int e] ∧ 0 ≤ a ∧ 0 ≤ c ∧ 0 ≤ d ∧ d < 2 ^ 32
theorem pull2 {g : Cfg} {b j : Nat} {size a c d e : Int} {S : Store} {x3 : Option Val} (h1 : S[b]? = some (.lst [.ref j, .int a, .int c, .int d, .int e])) (ha : 0 ≤ a) (hc : 0 ≤ c) (hd : 0 ≤ d) (hd2 : d < 2 ^ 32) (hs : 0 < size) (hs2 : size.natAbs.log2 < 9000) :
    (evSs g cPull2 [some (.ref b), some (.int size), none, x3, none] S).Ok (endQ fun v S' => ∃ r o, v = .int r ∧ 0 ≤ r ∧ r < size ∧ S' = S.set b o ∧ BgL j o) := by
  have hb := lt_of_at h1
  have s1 := sq_of h1
  have g1 := fun o : Ob => List.getElem?_set_self (a := o) hb
  unfold cPull2
  walk_at "st"
  by_cases q : 0 < c
  · walk_at "ev"
    walk_at "st"
    walk_at "st"
    walk_at "st"
    exact ⟨_, _, rfl, Int.emod_nonneg _ (by omega), Int.emod_lt_of_pos _ hs, rfl, _, _, _, _, rfl, ha, Int.ediv_nonneg hc (by omega), hd, hd2⟩
  · walk_at "ev"
    walk_at "st"
    walk_at "st"
    have m1 : -18446744073709551616 < d := by omega
    have m2 : d < 18446744073709551616 := by omega
    have l59 : (59 : Int).natAbs.log2 < 9000 := log_small (by omega) (by omega)
    have p59 : (0 : Int) < 59 := by omega
    walk_at "st"
    walk_at "st"
    refine ⟨_, _, rfl, Int.emod_nonneg _ (by omega), Int.emod_lt_of_pos _ hs, rfl, _, _, _, _, rfl, ha, hc, Int.emod_nonneg _ (by omega), ?_⟩
    exact Int.lt_trans (Int.emod_lt_of_pos _ (by omega)) (by omega)
theorem pull_ok {T : Tab} {n f b : Nat} {size : Int} {S : Store} {M : List Nat} (hf : T.fn f = some ⟨2, 5, cPull⟩) (hb : Bg M b S) (hs : 0 < size) (hs2 : size.natAbs.log2 < 9000) :
    (T.run (n + 1) f [.ref b, .int size] S).Ok fun v S' => ∃ r o, v = .int r ∧ 0 ≤ r ∧ r < size ∧ S' = S.set b o ∧ Bg M b S' := by
  obtain ⟨⟨j, ns, a, c, d, e, h1, h2, h3, ha, hc, hd, hd2⟩, hm⟩ := hb
  have s1 : seqAt S b = some [.ref j, .int a, .int c, .int d, .int e] := by unfold seqAt; rw [h1]
  have s2 : seqAt S j = some (ns.map .int) := by unfold seqAt; rw [h2]
  have hb := lt_of_at h1
  have g1 := fun o : Ob => List.getElem?_set_self (a := o) hb
  have hbj : b ≠ j := fun e => h3 (e ▸ hm)
  -- what the second part asks
  have fin : ∀ (a c d : Int) (o : Ob) (x3 : Option Val) (S1 : Store), o = .lst [.ref j, .int a, .int c, .int d, .int e] → (S1 = S ∨ S1 = S.set b o) → S1[b]? = some o → 0 ≤ a → 0 ≤ c → 0 ≤ d → d < 2 ^ 32 →
      (evSs ⟨T.run n, T.kv⟩ cPull2 [some (.ref b), some (.int size), none, x3, none] S1).Ok (endQ fun v S' => ∃ r o, v = .int r ∧ 0 ≤ r ∧ r < size ∧ S' = S.set b o ∧ Bg M b S') := by
    intro a c d o x3 S1 ho hS1 hg ha hc hd hd2
    subst ho
    refine (pull2 hg ha hc hd hd2 hs hs2).imp fun z h => ?_
    cases z with
    | nx r S2 =>
      obtain ⟨_, _, h, _⟩ := h
      cases h
    | bk r S2 => exact h.elim
    | ct r S2 => exact h.elim
    | no => exact h.elim
    | rt v S2 =>
      obtain ⟨r, o, q1, q2, q3, q4, a', c', d', e', rfl, q5, q6, q7, q8⟩ := h
      have q9 : S2 = S.set b (.lst [.ref j, .int a', .int c', .int d', .int e']) := by
        rcases hS1 with rfl | rfl
        · exact q4
        · rw [q4, List.set_set]
      refine ⟨r, _, q1, q2, q3, q9, ⟨j, ns, a', c', d', e', ?_, ?_, h3, q5, q6, q7, q8⟩, hm⟩
      · rw [q9]
        exact g1 _
      · rw [q9, List.getElem?_set_ne hbj]
        exact h2
  apply ok_run hf rfl
  show (evSs _ cPull [some (.ref b), some (.int size), none, none, none] S).Ok _
  unfold cPull
  walk_at "st"
  by_cases q : c = 0
  · subst q
    walk_at "ev"
    by_cases q2 : a < ((ns.map Val.int).length : Nat)
    · walk_at "ev"
      walk_at "st"
      have ea : L2.atI (ns.map Val.int) a = some (.int (ns[a.toNat]'(by simp at q2; omega))) := by
        rw [at_nat _ a.toNat a (by omega) (by simp at q2 ⊢; omega)]
        simp
      generalize ns[a.toNat]'(by simp at q2; omega) = x at ea
      walk_at "st"
      walk_at "st"
      by_cases q3 : 1000000000000000000 ≤ x
      · walk_at "st"
        walk_at "st"
        exact fin (a + 1) x d _ _ _ rfl (.inr rfl) (g1 _) (by omega) (Int.le_trans (by decide) q3) hd hd2
      · walk_at "st"
        walk_at "st"
        exact fin (a + 1) 0 _ _ _ _ rfl (.inr rfl) (g1 _) (by omega) (by omega) (Int.emod_nonneg _ (by omega)) (Int.lt_trans (Int.emod_lt_of_pos _ (by omega)) (by omega))
    · walk_at "ev"
      exact fin a 0 d _ none S rfl (.inl rfl) h1 ha hc hd hd2
  · walk_at "ev"
    exact fin a c d _ none S rfl (.inl rfl) h1 ha hc hd hd2
theorem Bg.fr {M : List Nat} {b : Nat} {S S' : Store} (h : Bg M b S) (f : Fr [] S S') : Bg M b S' := by
  obtain ⟨⟨j, ns, a, c, d, e, h1, h2, h3, h4⟩, hm⟩ := h
  exact ⟨⟨j, ns, a, c, d, e, f.get h1 (by simp), f.get h2 (by simp), h3, h4⟩, hm⟩
theorem Bg.le {M M' : List Nat} {b : Nat} {S : Store} (h : Bg M b S) (hs : ∀ k ∈ M', k ∈ M) (hb : b ∈ M') : Bg M' b S := by
  obtain ⟨⟨j, ns, a, c, d, e, h1, h2, h3, h4⟩, hm⟩ := h
  exact ⟨⟨j, ns, a, c, d, e, h1, h2, fun z => h3 (hs j z), h4⟩, hb⟩
theorem Bg.add_new {M : List Nat} {b : Nat} {S : Store} (h : Bg M b S) {m : Nat} (hm : S.length ≤ m) : Bg (m :: M) b S := by
  obtain ⟨⟨j, ns, a, c, d, e, h1, h2, h3, h4⟩, hb⟩ := h
  exact ⟨⟨j, ns, a, c, d, e, h1, h2, fun z => (List.mem_cons.mp z).elim (fun q => absurd (lt_of_at h2) (Nat.not_lt.mpr (q ▸ hm))) h3, h4⟩, List.mem_cons_of_mem _ hb⟩
/-- a cell of M that is neither the bag nor its list changes -/
theorem Bg.set {M : List Nat} {b : Nat} {S : Store} (h : Bg M b S) {m : Nat} (o : Ob) (hm : m ∈ M) (hb : m ≠ b) : Bg M b (S.set m o) := by
  obtain ⟨⟨j, ns, a, c, d, e, h1, h2, h3, h4⟩, hb'⟩ := h
  refine ⟨⟨j, ns, a, c, d, e, ?_, ?_, h3, h4⟩, hb'⟩
  · rw [List.getElem?_set_ne hb]
    exact h1
  · rw [List.getElem?_set_ne (fun z => h3 (by rw [← z]; exact hm))]
    exact h2
theorem Bg.lt {M : List Nat} {b : Nat} {S : Store} (h : Bg M b S) : b < S.length := by
  obtain ⟨⟨j, ns, a, c, d, e, h1, _⟩, _⟩ := h
  exact lt_of_at h1
theorem pull_fr {T : Tab} {n f b : Nat} {size : Int} {S : Store} {M : List Nat} (hf : T.fn f = some ⟨2, 5, cPull⟩) (hb : Bg M b S) (hs : 0 < size) (hs2 : size < 18446744073709551616) :
    (T.run (n + 1) f [.ref b, .int size] S).Ok fun v S' => ∃ r, v = .int r ∧ 0 ≤ r ∧ r < size ∧ Fr [b] S S' ∧ Bg M b S' := by
  refine (pull_ok hf hb hs (log_small hs hs2)).imp fun v S' ⟨r, o, h1, h2, h3, h4, h5⟩ => ⟨r, h1, h2, h3, ?_, h5⟩
  rw [h4]
  exact .set S o (List.mem_singleton.mpr rfl)
/-! ### the pick -/
def cPick (f : Nat) : C := (.cons (.ret (.idx (.var 1) (.call f (.cons (.var 0) (.cons (.blt "len" (.cons (.var 1) .nil)) .nil))))) .nil)
theorem pick_at {T : Tab} {n f fp b : Nat} {S : Store} {M : List Nat} {v : Val} {len : Nat} {g : Int → Val} (hf : T.fn fp = some ⟨2, 5, cPull⟩) (hk : T.fn f = some ⟨2, 2, cPick fp⟩) (hb : Bg M b S)
    (hl : bltV S "len" [v] = .ok (.int len) S) (h0 : 0 < len) (h1 : len < 18446744073709551616) (hg : ∀ (r : Int) S', 0 ≤ r → r < len → Fr [b] S S' → idxV S' v (.int r) = some (g r)) :
    (T.run (n + 2) f [.ref b, v] S).Ok fun w S' => ∃ r : Int, 0 ≤ r ∧ r < len ∧ w = g r ∧ Fr [b] S S' ∧ Bg M b S' := by
  apply ok_run hk rfl
  show (evSs _ (cPick fp) [some (.ref b), some v] S).Ok _
  unfold cPick
  walk_at "st"
  refine (pull_fr (n := n) hf hb (size := len) (by omega) (by omega)).imp fun w S' ⟨r, e, h2, h3, h4, h5⟩ => ?_
  subst e
  have := hg r S' h2 h3 h4
  walk_at "ev"
  exact ⟨r, h2, h3, rfl, trivial, trivial⟩
/-- out of a list -/
theorem pick_lst {T : Tab} {n f fp b k : Nat} {S : Store} {M : List Nat} {vs : List Val} (hf : T.fn fp = some ⟨2, 5, cPull⟩) (hk : T.fn f = some ⟨2, 2, cPick fp⟩) (hb : Bg M b S)
    (hS : S[k]? = some (.lst vs)) (hkb : k ≠ b) (h0 : vs ≠ []) (h1 : vs.length < 18446744073709551616) :
    (T.run (n + 2) f [.ref b, .ref k] S).Ok fun w S' => w ∈ vs ∧ Fr [b] S S' ∧ Bg M b S' := by
  have hp : 0 < vs.length := List.length_pos_iff.mpr h0
  refine (pick_at (n := n) (len := vs.length) (g := fun r => vs[r.toNat]?.getD .non) hf hk hb ?_ hp h1 fun r S' h2 h3 h4 => ?_).imp fun w S' ⟨r, h2, h3, e, h4⟩ => ?_
  · rw [len_ref, sq_of hS]
  · rw [idx_ref, sq_of (h4.get hS (by simpa using hkb))]
    show L2.atI vs r = _
    rw [at_nat vs r.toNat r (by omega) (by omega), List.getElem?_eq_getElem (by omega)]
    rfl
  · subst e
    refine ⟨?_, h4⟩
    show vs[r.toNat]?.getD .non ∈ vs
    rw [List.getElem?_eq_getElem (by omega)]
    exact List.getElem_mem _
theorem sgn_len (x : Str) : (signs x).length = x.length := by
  show x.cps.toList.length = x.cps.size
  simp
/-- out of a text -/
theorem pick_str {T : Tab} {n f fp b : Nat} {S : Store} {M : List Nat} {x : Str} (hf : T.fn fp = some ⟨2, 5, cPull⟩) (hk : T.fn f = some ⟨2, 2, cPick fp⟩) (hb : Bg M b S) (h0 : 0 < x.length) (h1 : x.length ≤ SZ) :
    (T.run (n + 2) f [.ref b, .str x] S).Ok fun w S' => (∃ c ∈ signs x, w = .str (sign c)) ∧ Fr [b] S S' ∧ Bg M b S' := by
  have hz : SZ = 16777216 := rfl
  refine (pick_at (n := n) (len := x.length) (g := fun r => .str (sign ((signs x)[r.toNat]?.getD 0))) hf hk hb ?_ h0 (by omega) fun r S' h2 h3 h4 => ?_).imp fun w S' ⟨r, h2, h3, e, h4⟩ => ?_
  · rw [len_str _ _ h1]
  · show (if x.length ≤ SZ then (L2.atI (signs x) r).map fun c => Val.str (sign c) else none) = _
    rw [if_pos h1, at_nat (signs x) r.toNat r (by omega) (by rw [sgn_len]; omega), List.getElem?_eq_getElem (by rw [sgn_len]; omega)]
    rfl
  · subst e
    refine ⟨⟨_, ?_, rfl⟩, h4⟩
    rw [List.getElem?_eq_getElem (by rw [sgn_len]; omega)]
    exact List.getElem_mem _
end Lv

/-! LwC: kinds, sameness. -/
namespace Lv
open PySem (Str PyData)
theorem ki_NoneType_bool : L2.kitB "NoneType" "bool" = some false := by decide +kernel
theorem ki_NoneType_int : L2.kitB "NoneType" "int" = some false := by decide +kernel
theorem ki_NoneType_str : L2.kitB "NoneType" "str" = some false := by decide +kernel
theorem ki_NoneType_list : L2.kitB "NoneType" "list" = some false := by decide +kernel
theorem ki_NoneType_tuple : L2.kitB "NoneType" "tuple" = some false := by decide +kernel
theorem ki_bool_bool : L2.kitB "bool" "bool" = some true := by decide +kernel
theorem ki_bool_int : L2.kitB "bool" "int" = some true := by decide +kernel
theorem ki_bool_str : L2.kitB "bool" "str" = some false := by decide +kernel
theorem ki_bool_list : L2.kitB "bool" "list" = some false := by decide +kernel
theorem ki_bool_tuple : L2.kitB "bool" "tuple" = some false := by decide +kernel
theorem ki_int_bool : L2.kitB "int" "bool" = some false := by decide +kernel
theorem ki_int_int : L2.kitB "int" "int" = some true := by decide +kernel
theorem ki_int_str : L2.kitB "int" "str" = some false := by decide +kernel
theorem ki_int_list : L2.kitB "int" "list" = some false := by decide +kernel
theorem ki_int_tuple : L2.kitB "int" "tuple" = some false := by decide +kernel
theorem ki_str_bool : L2.kitB "str" "bool" = some false := by decide +kernel
theorem ki_str_int : L2.kitB "str" "int" = some false := by decide +kernel
theorem ki_str_str : L2.kitB "str" "str" = some true := by decide +kernel
theorem ki_str_list : L2.kitB "str" "list" = some false := by decide +kernel
theorem ki_str_tuple : L2.kitB "str" "tuple" = some false := by decide +kernel
theorem ki_list_bool : L2.kitB "list" "bool" = some false := by decide +kernel
theorem ki_list_int : L2.kitB "list" "int" = some false := by decide +kernel
theorem ki_list_str : L2.kitB "list" "str" = some false := by decide +kernel
theorem ki_list_list : L2.kitB "list" "list" = some true := by decide +kernel
theorem ki_list_tuple : L2.kitB "list" "tuple" = some false := by decide +kernel
theorem ki_tuple_bool : L2.kitB "tuple" "bool" = some false := by decide +kernel
theorem ki_tuple_int : L2.kitB "tuple" "int" = some false := by decide +kernel
theorem ki_tuple_str : L2.kitB "tuple" "str" = some false := by decide +kernel
theorem ki_tuple_list : L2.kitB "tuple" "list" = some false := by decide +kernel
theorem ki_tuple_tuple : L2.kitB "tuple" "tuple" = some true := by decide +kernel
theorem isin (S : Store) (v : Val) (n : String) : bltV S "isinstance" [v, .ty n] = match tyN S v with
  | some t => ofO S ((L2.kitB t n).map .bl)
  | none => .no := rfl
theorem tyN_non (S : Store) : tyN S .non = some "NoneType" := rfl
theorem tyN_bl (S : Store) (b : Bool) : tyN S (.bl b) = some "bool" := rfl
theorem tyN_int (S : Store) (b : Int) : tyN S (.int b) = some "int" := rfl
theorem tyN_str (S : Store) (b : Str) : tyN S (.str b) = some "str" := rfl
theorem tyN_tup (S : Store) (b : List Val) : tyN S (.tup b) = some "tuple" := rfl
theorem tyN_ref (S : Store) (k : Nat) : tyN S (.ref k) = (seqAt S k).map fun _ => "list" := rfl
theorem tyN_fz (S : Store) (b : List Val) : tyN S (.fz b) = none := rfl
theorem is_non (S : Store) (v : Val) : cmpV S .is v .non = some (match v with | .non => true | _ => false) := by cases v <;> rfl
theorem newL_ok {S : Store} {vs : List Val} {Q : Val → Store → Prop} (hl : vs.length ≤ SZ) (h : ∀ (k : Nat) (S' : Store), S'[k]? = some (.lst vs) → seqAt S' k = some vs → Fr [] S S' → S.length ≤ k → k < S'.length → Q (.ref k) S') : (newL S vs).Ok Q := by
  unfold newL
  rw [if_pos hl]
  have e : (S ++ [Ob.lst vs])[S.length]? = some (.lst vs) := by simp
  exact h S.length _ e (sq_of e) (.app S _) (Nat.le_refl _) (by simp)
theorem new_ok {S : Store} {vs : List Val} {Q : Val → Store → Prop} (h : ∀ (k : Nat) (S' : Store), S'[k]? = some (.lst vs) → seqAt S' k = some vs → Fr [] S S' → S.length ≤ k → k < S'.length → Q (.ref k) S') : (new S (.lst vs)).Ok Q := by
  have e : (S ++ [Ob.lst vs])[S.length]? = some (.lst vs) := by simp
  exact h S.length _ e (sq_of e) (.app S _) (Nat.le_refl _) (by simp)
theorem sq_fr {S S' : Store} {k : Nat} {vs : List Val} (h : seqAt S k = some vs) (f : Fr [] S S') : seqAt S' k = some vs := sq_of (f.get (sq_get h) (by simp))
theorem addl_ref {S : Store} {k l : Nat} {xs ys : List Val} (h1 : S[k]? = some (.lst xs)) (h2 : S[l]? = some (.lst ys)) (h : xs.length + ys.length ≤ SZ) : binV S .add (.ref k) (.ref l) = new S (.lst (xs ++ ys)) := by
  show (match S[k]?, S[l]? with
    | some (.lst xs), some (.lst ys) => if xs.length + ys.length ≤ SZ then new S (.lst (xs ++ ys)) else .no
    | _, _ => .no) = _
  rw [h1, h2]
  exact if_pos h
theorem toD_bl (S : Store) (n : Nat) (b : Bool) : toD S n (.bl b) = some (.bool b) := by cases n <;> rfl
theorem toD_int (S : Store) (n : Nat) (b : Int) : toD S n (.int b) = some (.int b) := by cases n <;> rfl
theorem toD_non (S : Store) (n : Nat) : toD S n .non = some .none := by cases n <;> rfl
theorem toD_str (S : Store) (n : Nat) (x : Str) (h : PyData.strOk x = true) : toD S n (.str x) = some (.str x) := by
  have : scalD (.str x) = some (.str x) := if_pos h
  cases n <;> exact this
/-- the place of True in a list of booleans -/
theorem index_bl {S : Store} {k : Nat} {bs : List Bool} {j : Nat} (hS : seqAt S k = some (bs.map .bl)) (hj : bs.findIdx? (fun b => b) = some j) : mthV S "list" "index" (.ref k) [.bl true] = .ok (.int j) S := by
  have e1 : datV S (.ref k) = some (.list (bs.map .bool)) := by
    show ((seqAt S k).bind fun vs => (mapO (toD S 59) vs).map PyData.list) = _
    rw [hS]
    have : ∀ bs : List Bool, mapO (toD S 59) (bs.map .bl) = some (bs.map .bool) := by
      intro bs
      induction bs with
      | nil => rfl
      | cons b bs ih =>
        rw [List.map_cons, mapO, toD_bl, ih]
        rfl
    show (mapO (toD S 59) (bs.map .bl)).map PyData.list = _
    rw [this]
    rfl
  have e2 : datV S (.bl true) = some (.bool true) := toD_bl S 60 true
  have e3 : mthV S "list" "index" (.ref k) [.bl true] = match datV S (.ref k), datV S (.bl true) with
      | some (.list ds), some d => ofO S ((firstIx ds d).map fun j => .int (j : Nat))
      | _, _ => .no := rfl
  rw [e3, e1, e2]
  show ofO S ((firstIx (bs.map .bool) (.bool true)).map fun j => Val.int (j : Nat)) = _
  have e4 : firstIx (bs.map .bool) (.bool true) = some j := by
    unfold firstIx
    rw [List.findIdx?_map, ← hj]
    congr 1
    funext b
    show PyData.eqv (.bool b) (.bool true) = b
    rw [PyData.eqv]
    cases b <;> rfl
  rw [e4]
  rfl
local macro_rules | `(tactic| walk_at "ev") => `(tactic| try simp only [evS, evT, evE, evEs, evO, evG, evGs, evF, Out.bind_ok, Out.bind_no, lift_ok, Out.Ok_ok, Out.Ok_bind, Out.Ok_lift, SO.Ok_nx, SO.Ok_rt, SO.Ok_bk, SO.Ok_ct, thn_nx, thn_rt, thn_bk, thn_ct, endQ_nx, endQ_rt, Ok_ss0, ofO_some, List.getElem?_cons_zero, List.getElem?_cons_succ, List.set_cons_zero, List.set_cons_succ, Option.map_some, Option.bind_some, List.length_cons, List.length_nil, ix51, ix52, ix53, ix54, Nat.zero_add, Nat.reduceAdd, cmp_eq_int, cmp_ne_int, cmp_lt_int, cmp_le_int, cmp_gt_int, cmp_ge_int, tru_bl, add_int, sub_int, mul_intR, mod_int, fdiv_int, pow10_18, int_int, int_bl, len_ref, len_tup, len_fz, idx_ref, idx_tup, at0, at1, at2, at3, at4, Int.reduceNeg, Int.reduceLT, Int.reduceLE, decide_true, decide_false, eq_self, sq_set, sq_ne, List.set_set, isin, tyN_non, tyN_bl, tyN_int, tyN_str, tyN_tup, tyN_ref, tyN_fz, ki_NoneType_bool, ki_NoneType_int, ki_NoneType_str, ki_NoneType_list, ki_NoneType_tuple, ki_bool_bool, ki_bool_int, ki_bool_str, ki_bool_list, ki_bool_tuple, ki_int_bool, ki_int_int, ki_int_str, ki_int_list, ki_int_tuple, ki_str_bool, ki_str_int, ki_str_str, ki_str_list, ki_str_tuple, ki_list_bool, ki_list_int, ki_list_str, ki_list_list, ki_list_tuple, ki_tuple_bool, ki_tuple_int, ki_tuple_str, ki_tuple_list, ki_tuple_tuple, *])
local macro_rules | `(tactic| walk_at "st") => `(tactic| ((try rw [Ok_ss]); walk_at "ev"))
def D.kind : D → Nat
  | .non => 0 | .bl _ => 1 | .int _ => 2 | .str _ => 3 | .lst _ => 4 | .tup _ => 5
def cKind : C :=
  (.cons (.asg (.tn 1) (.lst (.cons (.cmp .is (.var 0) .knon) (.cons (.blt "isinstance" (.cons (.var 0) (.cons (.kty "bool") .nil))) (.cons (.blt "isinstance" (.cons (.var 0) (.cons (.kty "int") .nil))) (.cons (.blt "isinstance" (.cons (.var 0) (.cons (.kty "str") .nil))) .nil)))))) (.cons (.asg (.tn 1) (.bin .add (.var 1) (.lst (.cons (.blt "isinstance" (.cons (.var 0) (.cons (.kty "list") .nil))) (.cons (.blt "isinstance" (.cons (.var 0) (.cons (.kty "tuple") .nil))) (.cons (.kbl true) .nil)))))) (.cons (.ret (.mth "index" (.var 1) (.cons (.kbl true) .nil))) .nil)))
theorem kind_ok_w {T : Tab} {n f : Nat} {S : Store} {M : List Nat} {v : Val} {d : D} (hf : T.fn f = some ⟨1, 2, cKind⟩) (h : Con M S v d) :
    (T.run (n + 1) f [v] S).Ok fun w S' => w = .int d.kind ∧ Fr [] S S' := by
  have key : ∀ (t : String) (b0 b1 b2 b3 b4 b5 : Bool) (j : Nat), [b0, b1, b2, b3, b4, b5, true].findIdx? (fun b => b) = some j → (∀ S, cmpV S .is v .non = some b0) → (∀ S', Fr [] S S' → tyN S' v = some t) →
      L2.kitB t "bool" = some b1 → L2.kitB t "int" = some b2 → L2.kitB t "str" = some b3 → L2.kitB t "list" = some b4 → L2.kitB t "tuple" = some b5 →
      (T.run (n + 1) f [v] S).Ok fun w S' => w = .int j ∧ Fr [] S S' := by
    intro t b0 b1 b2 b3 b4 b5 j hj h0 hh e1 e2 e3 e4 e5
    clear h
    apply ok_run hf rfl
    show (evSs _ cKind [some v, none] S).Ok _
    unfold cKind
    have t0 := hh S (.rfl' S)
    walk_at "st"
    refine newL_ok (show 4 ≤ SZ by decide) fun k S1 g1 g2 g3 g4 g5 => ?_
    have t1 := hh S1 g3
    clear t0
    walk_at "ev"
    walk_at "st"
    refine newL_ok (show 3 ≤ SZ by decide) fun k2 S2 i1 i2 i3 i4 i5 => ?_
    have t2 := hh S2 (g3.trans i3)
    have g1' := i3.get g1 (by simp)
    rw [addl_ref g1' i1 (show 4 + 3 ≤ SZ by decide)]
    refine new_ok fun k3 S3 j1 j2 j3 j4 j5 => ?_
    have q := index_bl (S := S3) (k := k3) (bs := [b0, b1, b2, b3, b4, b5, true]) (j := j) j2 hj
    clear t1 t2 h0 hh
    walk_at "ev"
    walk_at "st"
    exact ⟨trivial, (g3.trans i3).trans j3⟩
  cases h with
  | non => exact key "NoneType" true false false false false false 0 rfl (fun _ => rfl) (fun _ _ => rfl) ki_NoneType_bool ki_NoneType_int ki_NoneType_str ki_NoneType_list ki_NoneType_tuple
  | bl b => exact key "bool" false true true false false false 1 rfl (fun _ => rfl) (fun _ _ => rfl) ki_bool_bool ki_bool_int ki_bool_str ki_bool_list ki_bool_tuple
  | int b => exact key "int" false false true false false false 2 rfl (fun _ => rfl) (fun _ _ => rfl) ki_int_bool ki_int_int ki_int_str ki_int_list ki_int_tuple
  | str b => exact key "str" false false false true false false 3 rfl (fun _ => rfl) (fun _ _ => rfl) ki_str_bool ki_str_int ki_str_str ki_str_list ki_str_tuple
  | tup b => exact key "tuple" false false false false false true 5 rfl (fun _ => rfl) (fun _ _ => rfl) ki_tuple_bool ki_tuple_int ki_tuple_str ki_tuple_list ki_tuple_tuple
  | lst h1 h2 h3 => exact key "list" false false false false true false 4 rfl (fun _ => rfl) (fun S' f => by rw [tyN_ref, sq_fr (sq_of h1) f]; rfl) ki_list_bool ki_list_int ki_list_str ki_list_list ki_list_tuple
def D.fits : Nat → D → Prop
  | _, .non => True
  | _, .bl _ => True
  | _, .int _ => True
  | _, .str x => PyData.strOk x = true
  | 0, .tup _ => False
  | 0, .lst _ => False
  | n + 1, .tup ds => ds.length < SZ ∧ ∀ d ∈ ds, D.fits n d
  | n + 1, .lst ds => ds.length < SZ ∧ ∀ d ∈ ds, D.fits n d
def cSame (fk fs : Nat) : C :=
  (.cons (.iff (.cmp .ne (.call fk (.cons (.var 0) .nil)) (.call fk (.cons (.var 1) .nil))) (.cons (.ret (.kbl false)) .nil) .nil) (.cons (.iff (.cmp .inn (.call fk (.cons (.var 1) .nil)) (.tup (.cons (.kint 4) (.cons (.kint 5) .nil)))) (.cons (.ret (.and_ (.cmp .eq (.blt "len" (.cons (.var 0) .nil)) (.blt "len" (.cons (.var 1) .nil))) (.blt "all" (.cons (.lc (.call fs (.cons (.var 2) (.cons (.var 3) .nil))) (.tt (.cons (.tn 2) (.cons (.tn 3) .nil))) (.izip (.var 0) (.var 1)) .nil [2, 3]) .nil)))) .nil) .nil) (.cons (.ret (.cmp .eq (.var 0) (.var 1))) .nil)))
theorem szw_le (n : Nat) (h : n ≤ 1000) : (n ≤ SZ) = True := eq_true (Nat.le_trans h (by decide))
theorem in45 (S : Store) (i : Int) : inV S (.int i) (.tup [.int 4, .int 5]) = some (decide (i = 4 ∨ i = 5)) := by
  show some ([PyData.int 4, .int 5].any fun z => PyData.eqv z (.int i)) = _
  simp only [List.any_cons, List.any_nil, PyData.eqv, Bool.or_false]
  congr 1
  by_cases h1 : i = 4
  · subst h1
    rfl
  · by_cases h2 : i = 5
    · subst h2
      rfl
    · have e1 : ((4 : Int) == i) = false := beq_eq_false_iff_ne.mpr (fun z => h1 z.symm)
      have e2 : ((5 : Int) == i) = false := beq_eq_false_iff_ne.mpr (fun z => h2 z.symm)
      rw [e1, e2]
      simp [h1, h2]
theorem all_rep (S : Store) (k n : Nat) (h : seqAt S k = some (List.replicate n (.bl true))) : bltV S "all" [.ref k] = .ok (.bl true) S := by
  have e : ∀ n : Nat, mapO blOf (List.replicate n (Val.bl true)) = some (List.replicate n true) := by
    intro n
    induction n with
    | zero => rfl
    | succ n ih => rw [List.replicate_succ, mapO, ih]; rfl
  show (match (seqAt S k).bind (mapO blOf) with
      | some bs => Out.ok (Val.bl (bs.all id)) S
      | none => .no) = _
  rw [h]
  show (match mapO blOf (List.replicate n (Val.bl true)) with
      | some bs => Out.ok (Val.bl (bs.all id)) S
      | none => .no) = _
  rw [e]
  simp
/-- a comprehension whose every item is True -/
theorem lc_true {it : Itr} {vs : List Val} {S1 : Store} {body : Val → Store → Out (Option Val)} (hl : vs.length < SZ) (hit : ∀ S' i, Fr [] S1 S' → it.at_ S' i = some vs[i]?)
    (hb : ∀ v ∈ vs, ∀ S', Fr [] S1 S' → (body v S').Ok fun y S'' => y = some (.bl true) ∧ Fr [] S' S'') :
    (lcN it S1.length body TURNS 0 (S1 ++ [.lst []])).Ok fun v S' => v = .ref S1.length ∧ seqAt S' S1.length = some (List.replicate vs.length (.bl true)) ∧ Fr [] S1 S' := by
  have hz : SZ = 16777216 := rfl
  have ht : TURNS = 20000000 := rfl
  refine (lcN_ok (vs := vs) (fun i acc S' => acc = List.replicate i (.bl true) ∧ i ≤ vs.length ∧ S'[S1.length]? = some (.lst acc) ∧ Fr [] S1 S') (fun i acc S' h => hit S' i h.2.2.2) (fun i acc S' v hv h => ?_) TURNS 0 [] _ (by omega) (Nat.zero_le _) ⟨rfl, Nat.zero_le _, by simp, .app S1 _⟩).imp fun v S' h => ?_
  · obtain ⟨h1, h0, h2, h3⟩ := h
    have hi : i < vs.length := (List.getElem?_eq_some_iff.mp hv).1
    refine (hb v (List.mem_of_getElem? hv) S' h3).imp fun y S'' ⟨e, f⟩ => ?_
    subst e
    have h4 := f.get h2 (by simp)
    refine ⟨h4, by rw [h1, List.length_replicate]; omega, ?_, hi, ?_, ?_⟩
    · rw [h1, List.replicate_succ']
    · exact List.getElem?_set_self (lt_of_at h4)
    · exact (((h3.mono (by simp)).trans (f.mono (by simp))).trans (Fr.set (M := [S1.length]) S'' _ (by simp))).new fun k hk => .inr (by
        rw [List.mem_singleton.mp hk]
        exact Nat.le_refl _)
  · obtain ⟨e, acc, h1, _, h2, h3⟩ := h
    subst h1
    exact ⟨e, sq_of h2, h3⟩
theorem eq_leaf (S : Store) (v : Val) (d : PyData) (h : datV S v = some d) (he : PyData.eqv d d = true) : cmpV S .eq v v = some true := by
  have : cmpV S .eq v v = match datV S v, datV S v with
    | some d, some e => some (PyData.eqv d e)
    | _, _ => none := by cases v <;> rfl
  rw [this, h, ← he]
local macro_rules | `(tactic| walk_at "ev") => `(tactic| try simp only [evS, evT, evE, evEs, evO, evG, evGs, evF, Out.bind_ok, Out.bind_no, lift_ok, Out.Ok_ok, Out.Ok_bind, Out.Ok_lift, SO.Ok_nx, SO.Ok_rt, SO.Ok_bk, SO.Ok_ct, thn_nx, thn_rt, thn_bk, thn_ct, endQ_nx, endQ_rt, Ok_ss0, ofO_some, List.getElem?_cons_zero, List.getElem?_cons_succ, List.set_cons_zero, List.set_cons_succ, Option.map_some, Option.bind_some, List.length_cons, List.length_nil, ix51, ix52, ix53, ix54, Nat.zero_add, Nat.reduceAdd, cmp_eq_int, cmp_ne_int, cmp_lt_int, cmp_le_int, cmp_gt_int, cmp_ge_int, tru_bl, add_int, sub_int, mul_intR, mod_int, fdiv_int, pow10_18, int_int, int_bl, len_ref, len_tup, len_fz, idx_ref, idx_tup, at0, at1, at2, at3, at4, Int.reduceNeg, Int.reduceLT, Int.reduceLE, decide_true, decide_false, eq_self, sq_set, sq_ne, List.set_set, isin, wipe, List.foldr_cons, List.foldr_nil, szw_le, if_true, Nat.reduceLeDiff, Bool.not_true, Bool.not_false, cmp_in, in45, tyN_non, tyN_bl, tyN_int, tyN_str, tyN_tup, tyN_ref, tyN_fz, ki_NoneType_bool, ki_NoneType_int, ki_NoneType_str, ki_NoneType_list, ki_NoneType_tuple, ki_bool_bool, ki_bool_int, ki_bool_str, ki_bool_list, ki_bool_tuple, ki_int_bool, ki_int_int, ki_int_str, ki_int_list, ki_int_tuple, ki_str_bool, ki_str_int, ki_str_str, ki_str_list, ki_str_tuple, ki_list_bool, ki_list_int, ki_list_str, ki_list_list, ki_list_tuple, ki_tuple_bool, ki_tuple_int, ki_tuple_str, ki_tuple_list, ki_tuple_tuple, *])
local macro_rules | `(tactic| walk_at "st") => `(tactic| ((try rw [Ok_ss]); walk_at "ev"))
theorem same_scal {T : Tab} {fk f n : Nat} {S : Store} {M : List Nat} {v : Val} {d : D} (x : PyData) (hk : T.fn fk = some ⟨1, 2, cKind⟩) (hf : T.fn f = some ⟨2, 4, cSame fk f⟩) (h : Con M S v d) (h4 : ¬((d.kind : Int) = 4 ∨ (d.kind : Int) = 5))
    (hx : ∀ S, datV S v = some x) (he : PyData.eqv x x = true) : (T.run (n + 2) f [v, v] S).Ok fun r S' => r = .bl true ∧ Fr [] S S' := by
  have hq := fun S => eq_leaf S v x (hx S) he
  have h4 := decide_eq_false h4
  apply ok_run hf rfl
  show (evSs _ (cSame fk f) [some v, some v, none, none] S).Ok _
  unfold cSame
  clear hx he
  walk_at "st"
  refine (kind_ok_w (n := n) hk h).imp fun z S1 ⟨e, f1⟩ => ?_
  subst e
  walk_at "ev"
  refine (kind_ok_w (n := n) hk (h.fr (f1.mono (by simp)))).imp fun z S2 ⟨e, f2⟩ => ?_
  subst e
  walk_at "ev"
  walk_at "st"
  refine (kind_ok_w (n := n) hk (h.fr ((f1.trans f2).mono (by simp)))).imp fun z S3 ⟨e, f3⟩ => ?_
  subst e
  walk_at "ev"
  walk_at "st"
  exact ⟨trivial, (f1.trans f2).trans f3⟩
theorem same_seq {T : Tab} {fk f n : Nat} {S : Store} {M : List Nat} {v w : Val} {d : D} (len : Nat) (ps : List Val) (it : Itr) (hk : T.fn fk = some ⟨1, 2, cKind⟩) (hf : T.fn f = some ⟨2, 4, cSame fk f⟩) (hv : Con M S v d) (hw : Con M S w d) (h4 : (d.kind : Int) = 4 ∨ (d.kind : Int) = 5)
    (l1 : ∀ S', Fr [] S S' → bltV S' "len" [v] = .ok (.int len) S') (l2 : ∀ S', Fr [] S S' → bltV S' "len" [w] = .ok (.int len) S') (hl : ps.length < SZ)
    (hi : ∀ g S', Fr [] S S' → evI g (.izip (.var 0) (.var 1)) [some v, some w, none, none] S' = .ok it S') (hit : ∀ S' i, Fr [] S S' → it.at_ S' i = some ps[i]?)
    (hb : ∀ p ∈ ps, ∃ x y, p = .tup [x, y] ∧ ∀ S', Fr [] S S' → (T.run (n + 1) f [x, y] S').Ok fun r S'' => r = .bl true ∧ Fr [] S' S'') : (T.run (n + 2) f [v, w] S).Ok fun r S' => r = .bl true ∧ Fr [] S S' := by
  have h4 := decide_eq_true h4
  apply ok_run hf rfl
  show (evSs _ (cSame fk f) [some v, some w, none, none] S).Ok _
  unfold cSame
  walk_at "st"
  refine (kind_ok_w (n := n) hk hv).imp fun z S1 ⟨e, f1⟩ => ?_
  subst e
  walk_at "ev"
  refine (kind_ok_w (n := n) hk (hw.fr (f1.mono (by simp)))).imp fun z S2 ⟨e, f2⟩ => ?_
  subst e
  walk_at "ev"
  walk_at "st"
  refine (kind_ok_w (n := n) hk (hw.fr ((f1.trans f2).mono (by simp)))).imp fun z S3 ⟨e, f3⟩ => ?_
  subst e
  have F := (f1.trans f2).trans f3
  have k1 := l1 S3 F
  have k2 := l2 S3 F
  have k3 := fun g => hi g S3 F
  clear l1 l2 hi
  walk_at "ev"
  walk_at "st"
  refine (lc_true (vs := ps) hl (fun S' i h => hit S' i (F.trans h)) (fun p hp S' h => ?_)).imp fun z S4 ⟨e, h1, h2⟩ => ?_
  · obtain ⟨x, y, rfl, hr⟩ := hb p hp
    have hr := hr S' (F.trans h)
    clear hb hit k1 k2 k3
    walk_at "ev"
    exact hr.imp fun r S'' ⟨e, f⟩ => ⟨by rw [e], f⟩
  · subst e
    rw [all_rep _ _ _ h1]
    exact ⟨rfl, F.trans h2⟩
theorem mem_zipWith {α β γ : Type} {f : α → β → γ} {xs : List α} {ys : List β} {p : γ} (h : p ∈ List.zipWith f xs ys) : ∃ (i : Nat) (x : α) (y : β), xs[i]? = some x ∧ ys[i]? = some y ∧ p = f x y := by
  obtain ⟨i, hi, e⟩ := List.getElem_of_mem h
  rw [List.length_zipWith] at hi
  refine ⟨i, xs[i]'(by omega), ys[i]'(by omega), List.getElem?_eq_getElem _, List.getElem?_eq_getElem _, ?_⟩
  rw [← e, List.getElem_zipWith]
theorem same_ok {T : Tab} {fk f : Nat} (hk : T.fn fk = some ⟨1, 2, cKind⟩) (hf : T.fn f = some ⟨2, 4, cSame fk f⟩) : ∀ (m n : Nat) {S : Store} {M : List Nat} {v w : Val} {d : D}, d.fits m → Con M S v d → Con M S w d →
    (T.run (n + m + 2) f [v, w] S).Ok fun r S' => r = .bl true ∧ Fr [] S S' := by
  intro m
  have leaf : ∀ (n m : Nat) {S : Store} {M : List Nat} {v w : Val} {d : D}, d.fits m → Con M S v d → Con M S w d → ¬((d.kind : Int) = 4 ∨ (d.kind : Int) = 5) →
      (T.run (n + 2) f [v, w] S).Ok fun r S' => r = .bl true ∧ Fr [] S S' := by
    intro n m S M v w d hd hv hw h4
    cases hv with
    | non =>
      cases hw
      exact same_scal (M := M) .none hk hf .non h4 (fun S => toD_non S 60) (by rw [PyData.eqv])
    | bl b =>
      cases hw
      exact same_scal (M := M) (.bool b) hk hf (.bl b) h4 (fun S => toD_bl S 60 b) (by rw [PyData.eqv]; exact beq_self_eq_true b)
    | int i =>
      cases hw
      exact same_scal (M := M) (.int i) hk hf (.int i) h4 (fun S => toD_int S 60 i) (by rw [PyData.eqv]; exact beq_self_eq_true i)
    | str x =>
      cases hw
      have hx : PyData.strOk x = true := by cases m <;> exact hd
      exact same_scal (M := M) (.str x) hk hf (.str x) h4 (fun S => toD_str S 60 x hx) (by rw [PyData.eqv]; exact beq_self_eq_true x)
    | tup h => exact absurd (Or.inr rfl) h4
    | lst _ _ h => exact absurd (Or.inl rfl) h4
  induction m with
  | zero =>
    intro n S M v w d hd hv hw
    refine leaf n 0 hd hv hw ?_
    cases d <;> first | exact hd.elim | (simp [D.kind])
  | succ m ih =>
    intro n S M v w d hd hv hw
    by_cases h4 : (d.kind : Int) = 4 ∨ (d.kind : Int) = 5
    · have e : n + (m + 1) + 2 = (n + m + 1) + 2 := by omega
      have e2 : n + m + 1 + 1 = n + m + 2 := by omega
      rw [e]
      cases hv with
      | tup h1 =>
        rename_i xs ds
        cases hw with
        | tup h2 =>
          rename_i ys
          have l1 := h1.length
          have l2 := h2.length
          refine same_seq (S := S) (M := M) (d := .tup ds) ds.length (List.zipWith (fun x y => .tup [x, y]) xs ys) (.its (List.zipWith (fun x y => .tup [x, y]) xs ys)) hk hf (.tup h1) (.tup h2) h4 (fun S' _ => by rw [len_tup, l1]) (fun S' _ => by rw [len_tup, l2]) (by rw [List.length_zipWith]; have := hd.1; omega) (fun g S' _ => ?_) (fun S' i _ => rfl) (fun p hp => ?_)
          · rw [evI]
            simp only [evE]
            rfl
          · obtain ⟨i, x, y, q1, q2, rfl⟩ := mem_zipWith hp
            obtain ⟨d1, p1, p2⟩ := h1.get q1
            obtain ⟨d2, p3, p4⟩ := h2.get q2
            rw [p1] at p3
            cases p3
            refine ⟨x, y, rfl, fun S' f => ?_⟩
            rw [e2]
            exact ih n (hd.2 _ (List.mem_of_getElem? p1)) (p2.fr (f.mono (by simp))) (p4.fr (f.mono (by simp)))
      | lst g1 g2 h1 =>
        rename_i k xs ds
        cases hw with
        | lst g3 g4 h2 =>
          rename_i l ys
          have l1 := h1.length
          have l2 := h2.length
          refine same_seq (S := S) (M := M) (d := .lst ds) ds.length (List.zipWith (fun x y => .tup [x, y]) xs ys) (.zip k l) hk hf (.lst g1 g2 h1) (.lst g3 g4 h2) h4 (fun S' f => by rw [len_ref, sq_fr (sq_of g1) f, ← l1]) (fun S' f => by rw [len_ref, sq_fr (sq_of g3) f, ← l2]) (by rw [List.length_zipWith]; have := hd.1; omega) (fun g S' _ => ?_) (fun S' i f => ?_) (fun p hp => ?_)
          · rw [evI]
            simp only [evE]
            rfl
          · show (match seqAt S' k, seqAt S' l with
              | some xs, some ys => some (match xs[i]?, ys[i]? with
                | some x, some y => some (Val.tup [x, y])
                | _, _ => none)
              | _, _ => none) = _
            rw [sq_fr (sq_of g1) f, sq_fr (sq_of g3) f, List.getElem?_zipWith]
            show some (match xs[i]?, ys[i]? with
                | some x, some y => some (Val.tup [x, y])
                | _, _ => none) = _
            generalize xs[i]? = A
            generalize ys[i]? = B
            cases A <;> cases B <;> rfl
          · obtain ⟨i, x, y, q1, q2, rfl⟩ := mem_zipWith hp
            obtain ⟨d1, p1, p2⟩ := h1.get q1
            obtain ⟨d2, p3, p4⟩ := h2.get q2
            rw [p1] at p3
            cases p3
            refine ⟨x, y, rfl, fun S' f => ?_⟩
            rw [e2]
            exact ih n (hd.2 _ (List.mem_of_getElem? p1)) (p2.fr (f.mono (by simp))) (p4.fr (f.mono (by simp)))
      | _ => exact absurd h4 (by show ¬((_ : Int) = 4 ∨ _); simp [D.kind])
    · have e : n + (m + 1) + 2 = (n + m + 1) + 2 := by omega
      rw [e]
      exact leaf (n + m + 1) (m + 1) hd hv hw h4
end Lv

/-! LwD: texts, comprehensions, names and numbers, the start, words. -/
namespace Lv
open PySem (Str PyData)
/-! ### texts -/
theorem sig_S (l : List Nat) : signs (SX.S l) = l := by simp [signs]
theorem cut_lo (l : List Nat) (n : Nat) (h : n ≤ l.length) : L2.cutS (SX.S l) none (some (n : Int)) = SX.S (l.take n) := by
  unfold L2.cutS
  rw [HT.sIx_none, HT.sIx_nat, SX.S_len, Nat.min_eq_left h]
  simp
theorem cut_hi (l : List Nat) (n : Nat) (h : n ≤ l.length) : L2.cutS (SX.S l) (some (n : Int)) none = SX.S (l.drop n) := by
  unfold L2.cutS
  rw [HT.sIx_none, HT.sIx_nat, SX.S_len, Nat.min_eq_left h]
  congr 1
  simp [List.take_of_length_le]
theorem sl_lo (S : Store) (l : List Nat) (n : Nat) (h : n ≤ l.length) (hl : l.length ≤ SZ) : slV S (.str (SX.S l)) none (some (n : Int)) = .ok (.str (SX.S (l.take n))) S := by
  show (if (SX.S l).length ≤ SZ then Out.ok (Val.str (L2.cutS (SX.S l) none (some (n : Int)))) S else .no) = _
  rw [SX.S_len, if_pos hl, cut_lo l n h]
theorem sl_hi (S : Store) (l : List Nat) (n : Nat) (h : n ≤ l.length) (hl : l.length ≤ SZ) : slV S (.str (SX.S l)) (some (n : Int)) none = .ok (.str (SX.S (l.drop n))) S := by
  show (if (SX.S l).length ≤ SZ then Out.ok (Val.str (L2.cutS (SX.S l) (some (n : Int)) none)) S else .no) = _
  rw [SX.S_len, if_pos hl, cut_hi l n h]
theorem add_S (S : Store) (a b : List Nat) (h : a.length + b.length ≤ SZ) : binV S .add (.str (SX.S a)) (.str (SX.S b)) = .ok (.str (SX.S (a ++ b))) S := by
  show (if (SX.S a).length + (SX.S b).length ≤ SZ then Out.ok (Val.str (SX.S a ++ SX.S b)) S else .no) = _
  rw [SX.S_len, SX.S_len, if_pos h, SX.S_cat]
theorem len_S (S : Store) (a : List Nat) (h : a.length ≤ SZ) : bltV S "len" [.str (SX.S a)] = .ok (.int a.length) S := by
  rw [len_str S (SX.S a) (by rw [SX.S_len]; exact h), SX.S_len]
theorem ok_S (l : List Nat) (h : ∀ c ∈ l, c < 1114112) : PyData.strOk (SX.S l) = true := by
  show (SX.S l).cps.all (· < 0x110000) = true
  simp
  exact h
theorem eqs_S (S : Store) (a b : List Nat) (ha : ∀ c ∈ a, c < 1114112) (hb : ∀ c ∈ b, c < 1114112) : cmpV S .eq (.str (SX.S a)) (.str (SX.S b)) = some (decide (a = b)) := by
  show (match datV S (.str (SX.S a)), datV S (.str (SX.S b)) with
    | some d, some e => some (PyData.eqv d e)
    | _, _ => none) = _
  have e1 : datV S (.str (SX.S a)) = some (.str (SX.S a)) := toD_str S 60 _ (ok_S a ha)
  have e2 : datV S (.str (SX.S b)) = some (.str (SX.S b)) := toD_str S 60 _ (ok_S b hb)
  rw [e1, e2]
  show some (PyData.eqv (.str (SX.S a)) (.str (SX.S b))) = _
  rw [PyData.eqv, SX.S_beq_eq]
theorem join_S : ∀ (ls : List (List Nat)), PySem.Txt.join (Str.ofString "") (ls.map SX.S) = SX.S ls.flatten := by
  intro ls
  have e : ∀ ls : List (List Nat), Str.join (Str.ofString "") (ls.map SX.S) = SX.S ls.flatten := by
    intro ls
    induction ls with
    | nil => rfl
    | cons a ls ih =>
      cases ls with
      | nil => simp [Str.join]
      | cons b r =>
        show SX.S a ++ Str.ofString "" ++ Str.join (Str.ofString "") ((b :: r).map SX.S) = _
        rw [ih]
        have : Str.ofString "" = SX.S [] := by decide +kernel
        rw [this, SX.S_cat, SX.S_cat]
        simp
  rw [TL.join_eq]
  exact e ls
def LET : List Nat := (List.range 26).map (· + 97)
theorem let_S : Str.ofString "abcdefghijklmnopqrstuvwxyz" = SX.S LET := by decide +kernel
theorem mem_LET (c : Nat) : c ∈ LET ↔ 97 ≤ c ∧ c ≤ 122 := by
  unfold LET
  rw [List.mem_map]
  constructor
  · rintro ⟨a, h, rfl⟩
    have := List.mem_range.mp h
    omega
  · intro h
    exact ⟨c - 97, List.mem_range.mpr (by omega), by omega⟩
theorem in_S (S : Store) (c : Nat) (z : List Nat) : inV S (.str (sign c)) (.str (SX.S z)) = some (decide (c ∈ z)) := by
  show (match signs (sign c) with
      | [c] => some (decide (c ∈ signs (SX.S z)))
      | _ => none) = _
  rw [sig_S]
  rfl
/-! ### comprehensions -/
theorem lc_map {it : Itr} {vs : List Val} {S1 : Store} {body : Val → Store → Out (Option Val)} (g : Val → Val) (hl : vs.length < SZ) (hit : ∀ S' i, Fr [] S1 S' → it.at_ S' i = some vs[i]?)
    (hb : ∀ v ∈ vs, ∀ S', Fr [] S1 S' → (body v S').Ok fun y S'' => y = some (g v) ∧ Fr [] S' S'') :
    (lcN it S1.length body TURNS 0 (S1 ++ [.lst []])).Ok fun v S' => v = .ref S1.length ∧ S'[S1.length]? = some (.lst (vs.map g)) ∧ Fr [] S1 S' := by
  have hz : SZ = 16777216 := rfl
  have ht : TURNS = 20000000 := rfl
  refine (lcN_ok (vs := vs) (fun i acc S' => acc = (vs.take i).map g ∧ i ≤ vs.length ∧ S'[S1.length]? = some (.lst acc) ∧ Fr [] S1 S') (fun i acc S' h => hit S' i h.2.2.2) (fun i acc S' v hv h => ?_) TURNS 0 [] _ (by omega) (Nat.zero_le _) ⟨rfl, Nat.zero_le _, by simp, .app S1 _⟩).imp fun v S' h => ?_
  · obtain ⟨h1, h0, h2, h3⟩ := h
    have hi : i < vs.length := (List.getElem?_eq_some_iff.mp hv).1
    refine (hb v (List.mem_of_getElem? hv) S' h3).imp fun y S'' ⟨e, f⟩ => ?_
    subst e
    have h4 := f.get h2 (by simp)
    refine ⟨h4, by rw [h1, List.length_map, List.length_take]; omega, ?_, hi, ?_, ?_⟩
    · rw [h1, List.take_succ, hv]
      simp
    · exact List.getElem?_set_self (lt_of_at h4)
    · exact (((h3.mono (by simp)).trans (f.mono (by simp))).trans (Fr.set (M := [S1.length]) S'' _ (by simp))).new fun k hk => .inr (by
        rw [List.mem_singleton.mp hk]
        exact Nat.le_refl _)
  · obtain ⟨e, acc, h1, _, h2, h3⟩ := h
    rw [List.take_length] at h1
    subst h1
    exact ⟨e, h2, h3⟩
/-- each item draws from the bag -/
theorem lc_bag {it : Itr} {vs : List Val} {S1 : Store} {b : Nat} {M : List Nat} {body : Val → Store → Out (Option Val)} (P : Val → Prop) (hl : vs.length < SZ) (hb0 : Bg M b S1) (hit : ∀ S' i, Fr [b] S1 S' → it.at_ S' i = some vs[i]?)
    (hb : ∀ v ∈ vs, ∀ S', Fr [b] S1 S' → Bg (S1.length :: M) b S' → (body v S').Ok fun y S'' => ∃ z, y = some z ∧ P z ∧ Fr [b] S' S'' ∧ Bg (S1.length :: M) b S'') :
    (lcN it S1.length body TURNS 0 (S1 ++ [.lst []])).Ok fun v S' => v = .ref S1.length ∧ ∃ ys, S'[S1.length]? = some (.lst ys) ∧ ys.length = vs.length ∧ (∀ y ∈ ys, P y) ∧ Fr [b] S1 S' ∧ Bg M b S' := by
  have hz : SZ = 16777216 := rfl
  have ht : TURNS = 20000000 := rfl
  have hlt := hb0.lt
  have hne : S1.length ≠ b := by omega
  refine (lcN_ok (vs := vs) (fun i acc S' => acc.length = i ∧ i ≤ vs.length ∧ (∀ y ∈ acc, P y) ∧ S'[S1.length]? = some (.lst acc) ∧ Fr [b] S1 S' ∧ Bg (S1.length :: M) b S') (fun i acc S' h => hit S' i h.2.2.2.2.1) (fun i acc S' v hv h => ?_) TURNS 0 [] _ (by omega) (Nat.zero_le _) ⟨rfl, Nat.zero_le _, by simp, by simp, .app S1 _, (hb0.add_new (Nat.le_refl _)).fr (.app S1 _)⟩).imp fun v S' h => ?_
  · obtain ⟨h1, h0, hP, h2, h3, hB⟩ := h
    have hi : i < vs.length := (List.getElem?_eq_some_iff.mp hv).1
    refine (hb v (List.mem_of_getElem? hv) S' h3 hB).imp fun y S'' ⟨z, e, p, f, hB2⟩ => ?_
    subst e
    have h4 := f.get h2 (by simpa using hne)
    refine ⟨h4, by omega, by simp [h1], hi, ?_, ?_, ?_, ?_⟩
    · intro y hy
      rcases List.mem_append.mp hy with q | q
      · exact hP y q
      · rw [List.mem_singleton.mp q]
        exact p
    · exact List.getElem?_set_self (lt_of_at h4)
    · exact (((h3.mono (M' := [b, S1.length]) (by simp)).trans (f.mono (by simp))).trans (Fr.set (M := [b, S1.length]) S'' _ (by simp))).new fun k hk => by
        rcases List.mem_cons.mp hk with q | q
        · exact .inl (by simp [q])
        · exact .inr (by rw [List.mem_singleton.mp q]; exact Nat.le_refl _)
    · exact hB2.set _ (by simp) hne
  · obtain ⟨e, acc, h1, _, hP, h2, h3, hB⟩ := h
    exact ⟨e, acc, h2, h1, hP, h3, hB.le (fun k hk => List.mem_cons_of_mem _ hk) hb0.mem⟩
theorem all_bl (S : Store) (k : Nat) (bs : List Bool) (h : seqAt S k = some (bs.map .bl)) : bltV S "all" [.ref k] = .ok (.bl (bs.all id)) S := by
  have e : ∀ bs : List Bool, mapO blOf (bs.map .bl) = some bs := by
    intro bs
    induction bs with
    | nil => rfl
    | cons b bs ih => rw [List.map_cons, mapO, ih]; rfl
  show (match (seqAt S k).bind (mapO blOf) with
      | some bs => Out.ok (Val.bl (bs.all id)) S
      | none => .no) = _
  rw [h]
  show (match mapO blOf (bs.map .bl) with
      | some bs => Out.ok (Val.bl (bs.all id)) S
      | none => .no) = _
  rw [e]
local macro_rules | `(tactic| walk_at "ev") => `(tactic| try simp only [evS, evT, evE, evEs, evO, evG, evGs, evF, Out.bind_ok, Out.bind_no, lift_ok, Out.Ok_ok, Out.Ok_bind, Out.Ok_lift, SO.Ok_nx, SO.Ok_rt, SO.Ok_bk, SO.Ok_ct, thn_nx, thn_rt, thn_bk, thn_ct, endQ_nx, endQ_rt, Ok_ss0, ofO_some, List.getElem?_cons_zero, List.getElem?_cons_succ, List.set_cons_zero, List.set_cons_succ, Option.map_some, Option.bind_some, List.length_cons, List.length_nil, ix51, ix52, ix53, ix54, Nat.zero_add, Nat.reduceAdd, cmp_eq_int, cmp_ne_int, cmp_lt_int, cmp_le_int, cmp_gt_int, cmp_ge_int, tru_bl, add_int, sub_int, mul_intR, mod_int, fdiv_int, pow10_18, int_int, int_bl, len_ref, len_tup, len_fz, idx_ref, idx_tup, at0, at1, at2, at3, at4, Int.reduceNeg, Int.reduceLT, Int.reduceLE, decide_true, decide_false, eq_self, sq_set, sq_ne, List.set_set, isin, wipe, List.foldr_cons, List.foldr_nil, szw_le, if_true, Nat.reduceLeDiff, Bool.not_true, Bool.not_false, cmp_in, in45, tyN_non, tyN_bl, tyN_int, tyN_str, tyN_tup, tyN_ref, tyN_fz, ki_NoneType_bool, ki_NoneType_int, ki_NoneType_str, ki_NoneType_list, ki_NoneType_tuple, ki_bool_bool, ki_bool_int, ki_bool_str, ki_bool_list, ki_bool_tuple, ki_int_bool, ki_int_int, ki_int_str, ki_int_list, ki_int_tuple, ki_str_bool, ki_str_int, ki_str_str, ki_str_list, ki_str_tuple, ki_list_bool, ki_list_int, ki_list_str, ki_list_list, ki_list_tuple, ki_tuple_bool, ki_tuple_int, ki_tuple_str, ki_tuple_list, ki_tuple_tuple, *])
local macro_rules | `(tactic| walk_at "st") => `(tactic| ((try rw [Ok_ss]); walk_at "ev"))
/-! ### numbers, names -/
def cNumber : C :=
  (.cons (.ret (.and_ (.blt "isinstance" (.cons (.var 0) (.cons (.kty "int") .nil))) (.and_ (.not_ (.blt "isinstance" (.cons (.var 0) (.cons (.kty "bool") .nil)))) (.chain .le .le (.var 1) (.var 0) (.var 2))))) .nil)
def numB (lo hi : Int) : D → Bool
  | .int i => decide (lo ≤ i) && decide (i ≤ hi)
  | _ => false
theorem number_ok {T : Tab} {n f : Nat} {S : Store} {M : List Nat} {v : Val} {d : D} {lo hi : Int} (hf : T.fn f = some ⟨3, 3, cNumber⟩) (h : Con M S v d) :
    T.run (n + 1) f [v, .int lo, .int hi] S = .ok (.bl (numB lo hi d)) S := by
  have key : (T.run (n + 1) f [v, .int lo, .int hi] S).Ok fun r S' => r = .bl (numB lo hi d) ∧ S' = S := by
    apply ok_run hf rfl
    show (evSs _ cNumber [some v, some (.int lo), some (.int hi)] S).Ok _
    unfold cNumber
    cases h with
    | int i =>
      walk_at "st"
      by_cases q : lo ≤ i
      · walk_at "ev"
        simp [numB, q]
      · walk_at "ev"
        simp [numB, q]
    | lst h1 h2 h3 =>
      have := sq_of h1
      walk_at "st"
      exact ⟨rfl, trivial⟩
    | _ =>
      walk_at "st"
      exact ⟨rfl, trivial⟩
  obtain ⟨a, S', e, h1, h2⟩ := key.get
  rw [e, h1, h2]
def cName : C :=
  (.cons (.ret (.and_ (.blt "isinstance" (.cons (.var 0) (.cons (.kty "str") .nil))) (.and_ (.chain .le .le (.kint 1) (.blt "len" (.cons (.var 0) .nil)) (.kint 6)) (.blt "all" (.cons (.lc (.cmp .inn (.var 1) (.kval "LETTERS")) (.tn 1) (.var 0) .nil [1]) .nil))))) .nil)
def nameL (l : List Nat) : Bool := decide (1 ≤ l.length) && decide (l.length ≤ 6) && l.all (fun c => decide (c ∈ LET))
def nameB : D → Bool
  | .str x => nameL (signs x)
  | _ => false
local macro_rules | `(tactic| walk_at "ev") => `(tactic| try simp only [evS, evT, evE, evEs, evO, evG, evGs, evF, Out.bind_ok, Out.bind_no, lift_ok, Out.Ok_ok, Out.Ok_bind, Out.Ok_lift, SO.Ok_nx, SO.Ok_rt, SO.Ok_bk, SO.Ok_ct, thn_nx, thn_rt, thn_bk, thn_ct, endQ_nx, endQ_rt, Ok_ss0, ofO_some, List.getElem?_cons_zero, List.getElem?_cons_succ, List.set_cons_zero, List.set_cons_succ, Option.map_some, Option.bind_some, List.length_cons, List.length_nil, ix51, ix52, ix53, ix54, Nat.zero_add, Nat.reduceAdd, cmp_eq_int, cmp_ne_int, cmp_lt_int, cmp_le_int, cmp_gt_int, cmp_ge_int, tru_bl, add_int, sub_int, mul_intR, mod_int, fdiv_int, pow10_18, int_int, int_bl, len_ref, len_tup, len_fz, idx_ref, idx_tup, at0, at1, at2, at3, at4, Int.reduceNeg, Int.reduceLT, Int.reduceLE, decide_true, decide_false, eq_self, sq_set, sq_ne, List.set_set, isin, evI, wipe, List.foldr_cons, List.foldr_nil, szw_le, if_true, Nat.reduceLeDiff, Bool.not_true, Bool.not_false, cmp_in, in45, tyN_non, tyN_bl, tyN_int, tyN_str, tyN_tup, tyN_ref, tyN_fz, ki_NoneType_bool, ki_NoneType_int, ki_NoneType_str, ki_NoneType_list, ki_NoneType_tuple, ki_bool_bool, ki_bool_int, ki_bool_str, ki_bool_list, ki_bool_tuple, ki_int_bool, ki_int_int, ki_int_str, ki_int_list, ki_int_tuple, ki_str_bool, ki_str_int, ki_str_str, ki_str_list, ki_str_tuple, ki_list_bool, ki_list_int, ki_list_str, ki_list_list, ki_list_tuple, ki_tuple_bool, ki_tuple_int, ki_tuple_str, ki_tuple_list, ki_tuple_tuple, *])
local macro_rules | `(tactic| walk_at "st") => `(tactic| ((try rw [Ok_ss]); walk_at "ev"))
theorem name_ok {T : Tab} {n f : Nat} {S : Store} {M : List Nat} {v : Val} {d : D} (hf : T.fn f = some ⟨1, 2, cName⟩) (hk : T.kv "LETTERS" = some (.str "abcdefghijklmnopqrstuvwxyz")) (h : Con M S v d) (hd : ∀ x, d = .str x → x.length < SZ) :
    (T.run (n + 1) f [v] S).Ok fun r S' => r = .bl (nameB d) ∧ Fr [] S S' := by
  apply ok_run hf rfl
  show (evSs _ cName [some v, none] S).Ok _
  unfold cName
  cases h with
  | str x =>
    have hx := hd x rfl
    have hx2 := Nat.le_of_lt hx
    have hsl : (signs x).length = x.length := sgn_len x
    have e1 := len_str S x hx2
    clear hd
    walk_at "st"
    by_cases q1 : (1 : Int) ≤ x.length
    · by_cases q2 : (x.length : Int) ≤ 6
      · walk_at "ev"
        refine (lc_map (vs := (signs x).map fun c => .str (sign c)) (fun v => match v with
          | .str y => .bl ((signs y).all fun c => decide (c ∈ LET))
          | _ => .non) (by rw [List.length_map, hsl]; exact hx) (fun _ _ _ => rfl) (fun v hv S' f => ?_)).imp fun r S' ⟨e, h1, h2⟩ => ?_
        · obtain ⟨c, hc, rfl⟩ := List.mem_map.mp hv
          have i1 := in_S S' c LET
          rw [← let_S] at i1
          walk_at "ev"
          refine ⟨?_, .rfl' _⟩
          show some (Val.bl (decide (c ∈ LET))) = some (.bl ((signs (sign c)).all fun c => decide (c ∈ LET)))
          have : signs (sign c) = [c] := sig_S [c]
          rw [this]
          simp
        · subst e
          have e3 : (List.map (fun v => match v with
            | Val.str y => Val.bl ((signs y).all fun c => decide (c ∈ LET))
            | _ => .non) ((signs x).map fun c => Val.str (sign c))) = (((signs x).map fun c => decide (c ∈ LET)).map Val.bl) := by
            rw [List.map_map, List.map_map]
            congr 1
            funext c
            show Val.bl ((signs (sign c)).all fun c => decide (c ∈ LET)) = Val.bl (decide (c ∈ LET))
            have : signs (sign c) = [c] := sig_S [c]
            rw [this]
            simp
          have h1 := sq_of h1
          rw [e3] at h1
          rw [all_bl _ _ _ h1]
          refine ⟨?_, h2⟩
          show Val.bl _ = Val.bl (nameL (signs x))
          unfold nameL
          rw [hsl, decide_eq_true (show 1 ≤ x.length by omega), decide_eq_true (show x.length ≤ 6 by omega), List.all_map]
          rfl
      · walk_at "ev"
        refine ⟨?_, .rfl' _⟩
        show Val.bl _ = Val.bl (nameL (signs x))
        unfold nameL
        rw [hsl, decide_eq_false (show ¬x.length ≤ 6 by omega)]
        simp
    · walk_at "ev"
      refine ⟨?_, .rfl' _⟩
      show Val.bl _ = Val.bl (nameL (signs x))
      unfold nameL
      rw [hsl, decide_eq_false (show ¬1 ≤ x.length by omega)]
      simp
  | lst h1 h2 h3 =>
    have := sq_of h1
    clear hd
    walk_at "st"
    exact ⟨rfl, .rfl' _⟩
  | _ =>
    clear hd
    walk_at "st"
    exact ⟨rfl, .rfl' _⟩
/-! ### the start -/
def cStart : C :=
  (.cons (.ret (.lst (.cons (.blt "list" (.cons (.sl (.var 0) .nil (.kint 63)) .nil)) (.cons (.kint 0) (.cons (.kint 0) (.cons (.bin .add (.kint 4933) (.blt "len" (.cons (.var 0) .nil))) (.cons (.kint 0) .nil))))))) .nil)
theorem start_ok {T : Tab} {n f : Nat} {S : Store} {ns : List Int} (hf : T.fn f = some ⟨1, 1, cStart⟩) (hl : ns.length ≤ 63) :
    (T.run (n + 1) f [.fz (ns.map .int)] S).Ok fun r S' => ∃ b, r = .ref b ∧ Fr [] S S' ∧ Bg [b] b S' := by
  apply ok_run hf rfl
  show (evSs _ cStart [some (.fz (ns.map .int))] S).Ok _
  unfold cStart
  have hc : cut (ns.map Val.int) none (some 63) = ((ns.take (HT.sIx ns.length ns.length (some 63)))).map .int := by
    unfold cut
    rw [List.length_map, HT.sIx_none, List.drop_zero, Nat.sub_zero, List.map_take]
  have hsl : slV S (.fz (ns.map .int)) none (some 63) = new S (.lst (((ns.take (HT.sIx ns.length ns.length (some 63)))).map .int)) := by
    show new S (.lst (cut (ns.map Val.int) none (some 63))) = _
    rw [hc]
  generalize ns.take (HT.sIx ns.length ns.length (some 63)) = ms at hsl
  walk_at "st"
  refine new_ok fun k S1 g1 g2 g3 g4 g5 => ?_
  have hlist : bltV S1 "list" [.ref k] = new S1 (.lst (ms.map .int)) := by
    show (match seqAt S1 k with
      | some xs => new S1 (.lst xs)
      | none => .no) = _
    rw [g2]
  clear hsl hc
  walk_at "ev"
  refine new_ok fun k2 S2 i1 i2 i3 i4 i5 => ?_
  walk_at "ev"
  refine newL_ok (show 5 ≤ SZ by decide) fun k3 S3 j1 j2 j3 j4 j5 => ?_
  walk_at "ev"
  refine ⟨k3, rfl, (g3.trans i3).trans j3, ⟨k2, ms, _, _, _, _, j1, j3.get i1 (by simp), ?_, by omega, by omega, by omega, ?_⟩, by simp⟩
  · simp
    omega
  · rw [List.length_map]
    omega
end Lv

/-! LwE: the words. -/
namespace Lv
open PySem (Str PyData)
local macro_rules | `(tactic| walk_at "ev") => `(tactic| try simp only [evS, evT, evE, evEs, evO, evG, evGs, evF, Out.bind_ok, Out.bind_no, lift_ok, Out.Ok_ok, Out.Ok_bind, Out.Ok_lift, SO.Ok_nx, SO.Ok_rt, SO.Ok_bk, SO.Ok_ct, thn_nx, thn_rt, thn_bk, thn_ct, endQ_nx, endQ_rt, Ok_ss0, ofO_some, List.getElem?_cons_zero, List.getElem?_cons_succ, List.set_cons_zero, List.set_cons_succ, Option.map_some, Option.bind_some, List.length_cons, List.length_nil, ix51, ix52, ix53, ix54, Nat.zero_add, Nat.reduceAdd, cmp_eq_int, cmp_ne_int, cmp_lt_int, cmp_le_int, cmp_gt_int, cmp_ge_int, tru_bl, add_int, sub_int, mul_intR, mod_int, fdiv_int, pow10_18, int_int, int_bl, len_ref, len_tup, len_fz, idx_ref, idx_tup, at0, at1, at2, at3, at4, Int.reduceNeg, Int.reduceLT, Int.reduceLE, decide_true, decide_false, eq_self, sq_set, sq_ne, List.set_set, isin, evI, List.foldl_cons, List.foldl_nil, List.zip_cons_cons, List.zip_nil_left, List.zip_nil_right, Int.toNat_natCast, wipe, List.foldr_cons, List.foldr_nil, szw_le, if_true, Nat.reduceLeDiff, Bool.not_true, Bool.not_false, cmp_in, in45, tyN_non, tyN_bl, tyN_int, tyN_str, tyN_tup, tyN_ref, tyN_fz, ki_NoneType_bool, ki_NoneType_int, ki_NoneType_str, ki_NoneType_list, ki_NoneType_tuple, ki_bool_bool, ki_bool_int, ki_bool_str, ki_bool_list, ki_bool_tuple, ki_int_bool, ki_int_int, ki_int_str, ki_int_list, ki_int_tuple, ki_str_bool, ki_str_int, ki_str_str, ki_str_list, ki_str_tuple, ki_list_bool, ki_list_int, ki_list_str, ki_list_list, ki_list_tuple, ki_tuple_bool, ki_tuple_int, ki_tuple_str, ki_tuple_list, ki_tuple_tuple, *])
local macro_rules | `(tactic| walk_at "st") => `(tactic| ((try rw [Ok_ss]); walk_at "ev"))
def cWordsL : C :=
  (.cons (.asg (.tn 8) (.idx (.var 2) (.bin .mod (.blt "int" (.cons (.bin .add (.var 7) (.bin .mul (.kint 7) (.var 5))) .nil)) (.kint 26)))) (.cons (.expr (.mth "append" (.var 4) (.cons (.bin .add (.bin .add (.sl (.var 3) .nil (.var 6)) (.var 8)) (.sl (.var 3) (.var 6) .nil)) .nil))) .nil))
def cWords (fk fp : Nat) : C :=
  (.cons (.asg (.tn 2) (.kstr "abcdefghijklmnopqrstuvwxyz")) (.cons (.asg (.tn 3) (.mth "join" (.kstr "") (.cons (.lc (.call fk (.cons (.var 0) (.cons (.var 2) .nil))) (.tn 5) (.irng (.call fk (.cons (.var 0) (.cons (.lst (.cons (.kint 0) (.cons (.kint 1) (.cons (.kint 2) (.cons (.kint 5) .nil))))) .nil)))) .nil [5]) .nil))) (.cons (.par [6, 7] (.cons (.call fp (.cons (.var 0) (.cons (.bin .add (.blt "len" (.cons (.var 3) .nil)) (.kint 1)) .nil))) (.cons (.call fp (.cons (.var 0) (.cons (.kint 26) .nil))) .nil))) (.cons (.asg (.tn 4) (.lst .nil)) (.cons (.forr (.tn 5) (.irng (.var 1)) cWordsL) (.cons (.ret (.var 4)) .nil))))))
def wd (stem : List Nat) (a first i : Nat) : List Nat := stem.take a ++ [97 + (first + 7 * i) % 26] ++ stem.drop a
theorem stem_of : ∀ {ys : List Val}, (∀ y ∈ ys, ∃ c ∈ LET, y = .str (sign c)) → ∃ stem : List Nat, ys = stem.map (fun c => .str (sign c)) ∧ ∀ c ∈ stem, c ∈ LET
  | [], _ => ⟨[], rfl, fun _ h => by cases h⟩
  | y :: ys, h => by
    obtain ⟨c, hc, e⟩ := h y (List.mem_cons_self ..)
    obtain ⟨stem, e2, h2⟩ := stem_of (ys := ys) fun y hy => h y (List.mem_cons_of_mem _ hy)
    exact ⟨c :: stem, by rw [e, e2]; rfl, fun d hd => (List.mem_cons.mp hd).elim (fun q => q ▸ hc) (h2 d)⟩
theorem join_stem {S : Store} {k : Nat} {stem : List Nat} (h : seqAt S k = some (stem.map fun c => .str (sign c))) (hl : stem.length ≤ 1000) : mthV S "str" "join" (.str (Str.ofString "")) [.ref k] = .ok (.str (SX.S stem)) S := by
  have e : ∀ stem : List Nat, mapO strOf (stem.map fun c => Val.str (sign c)) = some ((stem.map fun c => [c]).map SX.S) := by
    intro stem
    induction stem with
    | nil => rfl
    | cons c stem ih =>
      rw [List.map_cons, mapO, ih]
      rfl
  have e2 : (stem.map fun c => [c]).flatten = stem := by
    clear h hl
    induction stem with
    | nil => rfl
    | cons c stem ih => rw [List.map_cons, List.flatten_cons, ih]; rfl
  have e3 : (((stem.map fun c => [c]).map SX.S).map (fun x : Str => x.length)).sum = stem.length := by
    clear h hl e2
    induction stem with
    | nil => rfl
    | cons c stem ih =>
      rw [List.map_cons, List.map_cons, List.map_cons, List.sum_cons, ih, SX.S_len]
      simp
      omega
  have e0 : (Str.ofString "").length = 0 := by decide +kernel
  show (match (seqAt S k).bind (mapO strOf) with
      | some ys => if (ys.map (fun x : Str => x.length)).sum + ys.length * (Str.ofString "").length ≤ 16777216 then Out.ok (Val.str (PySem.Txt.join (Str.ofString "") ys)) S else .no
      | none => .no) = _
  rw [h]
  show (match mapO strOf (stem.map fun c => Val.str (sign c)) with
      | some ys => if (ys.map (fun x : Str => x.length)).sum + ys.length * (Str.ofString "").length ≤ 16777216 then Out.ok (Val.str (PySem.Txt.join (Str.ofString "") ys)) S else .no
      | none => .no) = _
  rw [e]
  show (if _ then _ else _) = _
  rw [e3, e0, Nat.mul_zero, if_pos (by omega), join_S, e2]
theorem letter_at (S : Store) (m : Nat) (h : m < 26) : idxV S (.str (Str.ofString "abcdefghijklmnopqrstuvwxyz")) (.int m) = some (.str (SX.S [97 + m])) := by
  rw [let_S]
  show (if (SX.S LET).length ≤ SZ then (L2.atI (signs (SX.S LET)) m).map fun c => Val.str (sign c) else none) = _
  have hl : LET.length = 26 := by decide
  rw [SX.S_len, if_pos (by rw [hl]; decide), sig_S, at_nat LET m m rfl (by omega)]
  have : LET[m]? = some (m + 97) := by
    unfold LET
    rw [List.getElem?_map, List.getElem?_range h]
    rfl
  rw [this, Nat.add_comm]
  rfl
theorem append_ok {S : Store} {k : Nat} {xs : List Val} {v : Val} (h : S[k]? = some (.lst xs)) (hl : xs.length < SZ) : mthV S "list" "append" (.ref k) [v] = .ok .non (S.set k (.lst (xs ++ [v]))) := by
  show (match S[k]? with
      | some (.lst xs) => if xs.length < SZ then Out.ok Val.non (S.set k (.lst (xs ++ [v]))) else .no
      | _ => .no) = _
  rw [h]
  exact if_pos hl
theorem words_body {g : Cfg} {b k4 count a first i : Nat} {stem : List Nat} {S' : Store} {x8 : Option Val} (hsl : stem.length ≤ 5) (a2 : a ≤ stem.length) (a4 : first < 26) (hi : i < count) (hc : count ≤ 1000)
    (c1 : S'[k4]? = some (.lst ((List.range i).map fun i => .str (SX.S (wd stem a first i))))) :
    (evSs g cWordsL [some (.ref b), some (.int count), some (.str (Str.ofString "abcdefghijklmnopqrstuvwxyz")), some (.str (SX.S stem)), some (.ref k4), some (.int i), some (.int a), some (.int first), x8] S').Ok fun o => ∃ x8,
      o = .nx [some (.ref b), some (.int count), some (.str (Str.ofString "abcdefghijklmnopqrstuvwxyz")), some (.str (SX.S stem)), some (.ref k4), some (.int i), some (.int a), some (.int first), x8] (S'.set k4 (.lst ((List.range (i + 1)).map fun i => .str (SX.S (wd stem a first i))))) := by
  have sl1 := sl_lo S' stem a (by omega) (Nat.le_trans hsl (by decide))
  have sl2 := sl_hi S' stem a (by omega) (Nat.le_trans hsl (by decide))
  have er : (List.range (i + 1)).map (fun i => Val.str (SX.S (wd stem a first i))) = (List.range i).map (fun i => Val.str (SX.S (wd stem a first i))) ++ [.str (SX.S (stem.take a ++ [97 + (first + 7 * i) % 26] ++ stem.drop a))] := by
    rw [List.range_succ, List.map_append]
    rfl
  have m1 : -18446744073709551616 < (i : Int) := by omega
  have m2 : (i : Int) < 18446744073709551616 := by omega
  have e26 : ((first : Int) + 7 * i) % 26 = ((first + 7 * i) % 26 : Nat) := by omega
  have q1 := letter_at S' ((first + 7 * i) % 26) (Nat.mod_lt _ (by omega))
  have q2 := sq_of c1
  have q3 : binV S' .add (.str (SX.S (stem.take a))) (.str (SX.S [97 + (first + 7 * i) % 26])) = _ := add_S S' _ _ (Nat.le_trans (by rw [List.length_take]; show _ + 1 ≤ 100; omega) (show 100 ≤ SZ by decide))
  have q4 : binV S' .add (.str (SX.S (stem.take a ++ [97 + (first + 7 * i) % 26]))) (.str (SX.S (stem.drop a))) = _ := add_S S' _ _ (Nat.le_trans (by rw [List.length_append, List.length_take, List.length_drop]; show _ + 1 + _ ≤ 100; omega) (show 100 ≤ SZ by decide))
  have q5 := append_ok (v := .str (SX.S (stem.take a ++ [97 + (first + 7 * i) % 26] ++ stem.drop a))) c1 (by rw [List.length_map, List.length_range]; exact Nat.lt_of_lt_of_le hi (Nat.le_trans hc (by decide)))
  clear c1
  rw [er]
  generalize (List.range i).map (fun i => Val.str (SX.S (wd stem a first i))) = L at *
  unfold cWordsL
  walk_at "st"
  walk_at "st"
  exact ⟨_, rfl⟩
theorem ok_forr {g : Cfg} {tg it body : C} {r : Rho} {S : Store} {Q : SO → Prop} (vs : List Val) (I : Nat → Rho → Store → Prop) (hl : vs.length < SZ)
    (hI : (evI g it r S).Ok fun j S1 => (∀ i r S, I i r S → j.at_ S i = some vs[i]?) ∧ I 0 r S1)
    (hb : ∀ i r S v, vs[i]? = some v → I i r S → (evG g tg v r S).Ok fun r1 S1 => (evSs g body r1 S1).Ok fun o => match o with
      | .nx r' S' => I (i + 1) r' S'
      | .ct r' S' => I (i + 1) r' S'
      | .bk r' S' => Q (.nx r' S')
      | .rt w S' => Q (.rt w S')
      | .no => False)
    (hend : ∀ r S, I vs.length r S → Q (.nx r S)) : (evS g (.forr tg it body) r S).Ok Q := by
  have hz : SZ = 16777216 := rfl
  have ht : TURNS = 20000000 := rfl
  rw [evS]
  rw [Out.Ok_lift]
  refine hI.imp fun j S1 ⟨h1, h2⟩ => ?_
  exact forN_ok I h1 (fun i r S v hv h => by rw [Out.Ok_lift]; exact hb i r S v hv h) hend TURNS 0 r S1 (by omega) (Nat.zero_le _) h2
theorem r62a (j : Nat) : -(2 ^ 62) ≤ (j : Int) := by omega
theorem r62b (j : Nat) (hj : j ≤ 1000000) : (j : Int) < 2 ^ 62 := Int.lt_of_le_of_lt (Int.ofNat_le.mpr hj) (by decide)
theorem rng_ok {g : Cfg} {a : C} {r : Rho} {S S1 : Store} {j : Nat} (h : evE g a r S = .ok (.int j) S1) (hj : j ≤ 1000000) : evI g (.irng a) r S = .ok (.its ((List.range j).map fun (i : Nat) => .int (i : Int))) S1 := by
  rw [evI, h, Out.bind_ok]
  dsimp only
  rw [if_pos ⟨r62a j, r62b j hj⟩, Int.toNat_natCast]
theorem words_ok {T : Tab} {n f fk fp b count : Nat} {S : Store} {M : List Nat} (hf : T.fn f = some ⟨2, 9, cWords fk fp⟩) (hk : T.fn fk = some ⟨2, 2, cPick fp⟩) (hp : T.fn fp = some ⟨2, 5, cPull⟩) (hb : Bg M b S) (hc : count ≤ 1000) :
    (T.run (n + 3) f [.ref b, .int count] S).Ok fun r S' => ∃ k stem a first, r = .ref k ∧ stem.length ≤ 5 ∧ (∀ c ∈ stem, c ∈ LET) ∧ a ≤ stem.length ∧ first < 26 ∧
      S'[k]? = some (.lst ((List.range count).map fun i => .str (SX.S (wd stem a first i)))) ∧ S.length ≤ k ∧ Fr [b] S S' ∧ Bg M b S' := by
  apply ok_run hf rfl
  show (evSs _ (cWords fk fp) [some (.ref b), some (.int count), none, none, none, none, none, none, none] S).Ok _
  unfold cWords
  walk_at "st"
  walk_at "st"
  refine newL_ok (show 4 ≤ SZ by decide) fun k1 S1 g1 g2 g3 g4 g5 => ?_
  walk_at "ev"
  refine (pick_lst (n := n) hp hk (hb.fr g3) g1 (by have := hb.lt; omega) (by simp) (by simp)).imp fun w S2 ⟨hw, f2, b2⟩ => ?_
  have hw2 : ∃ j : Nat, w = .int j ∧ j ≤ 5 := by
    simp only [List.mem_cons, List.not_mem_nil, or_false] at hw
    rcases hw with rfl | rfl | rfl | rfl
    · exact ⟨0, rfl, by omega⟩
    · exact ⟨1, rfl, by omega⟩
    · exact ⟨2, rfl, by omega⟩
    · exact ⟨5, rfl, by omega⟩
  obtain ⟨j, rfl, hj⟩ := hw2
  clear hw
  simp only []
  rw [if_pos (by omega)]
  walk_at "ev"
  refine (lc_bag (it := .its _) (vs := (List.range j).map fun (i : Nat) => .int (i : Int)) (fun v => ∃ c ∈ LET, v = .str (sign c)) (by rw [List.length_map, List.length_range]; exact Nat.lt_of_le_of_lt hj (by decide)) b2 (fun _ _ _ => rfl) (fun v hv S' f3 b3 => ?_)).imp fun r S3 ⟨e, ys, h1, h2, h3, f3, b3⟩ => ?_
  · rw [let_S]
    rw [Out.Ok_bind]
    refine (pick_str (n := n) hp hk b3 (by rw [SX.S_len]; decide) (by rw [SX.S_len]; decide)).imp fun w S'' ⟨⟨c, hc, e⟩, f4, b4⟩ => ?_
    rw [sig_S] at hc
    subst e
    exact ⟨_, rfl, ⟨c, hc, rfl⟩, f4, b4⟩
  · obtain ⟨stem, rfl, hst⟩ := stem_of h3
    have hsl : stem.length ≤ 5 := by simp at h2; omega
    subst e
    rw [join_stem (sq_of h1) (by omega)]
    have F3 : Fr [b] S S3 := ((g3.mono (by simp)).trans f2).trans f3
    clear h1 h2 h3 g1 g2
    walk_at "ev"
    rw [Ok_ss]
    have l3 := fun S => len_S S stem (Nat.le_trans hsl (by decide))
    walk_at "ev"
    refine (pull_fr (n := n + 1) hp b3 (by omega) (by omega)).imp fun w S4 ⟨a, e, a1, a2, f4, b4⟩ => ?_
    subst e
    walk_at "ev"
    refine (pull_fr (n := n + 1) hp b4 (by omega) (by omega)).imp fun w S5 ⟨first, e, a3, a4, f5, b5⟩ => ?_
    subst e
    obtain ⟨a, rfl⟩ := Int.eq_ofNat_of_zero_le a1
    obtain ⟨first, rfl⟩ := Int.eq_ofNat_of_zero_le a3
    clear a1 a3
    walk_at "st"
    refine newL_ok (Nat.zero_le _) fun k4 S6 i1 i2 i3 i4 i5 => ?_
    walk_at "ev"
    have F5 : Fr [b] S S5 := (F3.trans f4).trans f5
    rw [Ok_ss]
    refine ok_forr ((List.range count).map fun (i : Nat) => .int (i : Int))
      (fun i r S' => (∃ x5 x8, r = [some (.ref b), some (.int count), some (.str (Str.ofString "abcdefghijklmnopqrstuvwxyz")), some (.str (SX.S stem)), some (.ref k4), x5, some (.int a), some (.int first), x8]) ∧
        S'[k4]? = some (.lst ((List.range i).map fun i => .str (SX.S (wd stem a first i)))) ∧ Fr [] S5 S')
      (by rw [List.length_map, List.length_range]; exact Nat.lt_of_le_of_lt hc (by decide)) ?_ (fun i r S' v hv hI => ?_) (fun r S' hI => ?_)
    · have e1 : ∀ g S, evE g (.var 1) [some (.ref b), some (.int count), some (.str (Str.ofString "abcdefghijklmnopqrstuvwxyz")), some (.str (SX.S stem)), some (.ref k4), none, some (.int a), some (.int first), none] S = .ok (.int count) S := fun g S => by rw [evE]; rfl
      rw [rng_ok (e1 _ _) (by omega)]
      exact ⟨fun _ _ _ _ => rfl, ⟨_, _, rfl⟩, i1, i3⟩
    · obtain ⟨⟨x5, x8, rfl⟩, c1, c2⟩ := hI
      have hi : i < count := by
        have := (List.getElem?_eq_some_iff.mp hv).1
        simpa using this
      have ev : v = .int i := by
        rw [List.getElem?_map, List.getElem?_range hi] at hv
        cases hv
        rfl
      subst ev
      rw [evG, Out.Ok_ok]
      refine (words_body (x8 := x8) hsl (by omega) (by omega) hi hc c1).imp fun o ⟨x9, e⟩ => ?_
      subst e
      refine ⟨⟨_, _, rfl⟩, List.getElem?_set_self (lt_of_at c1), ?_⟩
      exact ((c2.mono (by simp)).trans (Fr.set (M := [k4]) S' _ (by simp))).new fun k hk => .inr (by rw [List.mem_singleton.mp hk]; exact i4)
    · obtain ⟨⟨x5, x8, rfl⟩, c1, c2⟩ := hI
      rw [thn_nx]
      walk_at "st"
      rw [List.length_map, List.length_range] at c1
      exact ⟨k4, stem, a, first, rfl, hsl, hst, by omega, by omega, c1, Nat.le_trans F5.len i4, F5.trans (c2.mono (by simp)), b5.fr c2⟩
end Lv

/-! LwF: liquids. -/
namespace Lv
open PySem (Str PyData)
theorem ca0 : ((0 : Nat) : Int) = 0 := rfl
theorem ca1 : ((1 : Nat) : Int) = 1 := rfl
theorem ca2 : ((2 : Nat) : Int) = 2 := rfl
theorem ca3 : ((3 : Nat) : Int) = 3 := rfl
theorem ca4 : ((4 : Nat) : Int) = 4 := rfl
theorem ca5 : ((5 : Nat) : Int) = 5 := rfl
theorem ca6 : ((6 : Nat) : Int) = 6 := rfl
theorem ca7 : ((7 : Nat) : Int) = 7 := rfl
theorem ca8 : ((8 : Nat) : Int) = 8 := rfl
theorem ca9 : ((9 : Nat) : Int) = 9 := rfl
theorem ca10 : ((10 : Nat) : Int) = 10 := rfl
theorem ca11 : ((11 : Nat) : Int) = 11 := rfl
theorem ca12 : ((12 : Nat) : Int) = 12 := rfl
local macro_rules | `(tactic| walk_at "ev") => `(tactic| try simp only [evS, evT, evE, evEs, evO, evG, evGs, evF, Out.bind_ok, Out.bind_no, lift_ok, Out.Ok_ok, Out.Ok_bind, Out.Ok_lift, SO.Ok_nx, SO.Ok_rt, SO.Ok_bk, SO.Ok_ct, thn_nx, thn_rt, thn_bk, thn_ct, endQ_nx, endQ_rt, Ok_ss0, ofO_some, List.getElem?_cons_zero, List.getElem?_cons_succ, List.set_cons_zero, List.set_cons_succ, Option.map_some, Option.bind_some, List.length_cons, List.length_nil, ix51, ix52, ix53, ix54, Nat.zero_add, Nat.reduceAdd, cmp_eq_int, cmp_ne_int, cmp_lt_int, cmp_le_int, cmp_gt_int, cmp_ge_int, tru_bl, add_int, sub_int, mul_intR, mod_int, fdiv_int, pow10_18, int_int, int_bl, len_ref, len_tup, len_fz, idx_ref, idx_tup, at0, at1, at2, at3, at4, Int.reduceNeg, Int.reduceLT, Int.reduceLE, decide_true, decide_false, eq_self, sq_set, sq_ne, List.set_set, isin, Int.reduceEq, ca0, ca1, ca2, ca3, ca4, ca5, ca6, ca7, ca8, ca9, ca10, ca11, ca12, List.foldl_cons, List.foldl_nil, List.zip_cons_cons, List.zip_nil_left, List.zip_nil_right, Int.toNat_natCast, wipe, List.foldr_cons, List.foldr_nil, szw_le, if_true, Nat.reduceLeDiff, Bool.not_true, Bool.not_false, cmp_in, in45, tyN_non, tyN_bl, tyN_int, tyN_str, tyN_tup, tyN_ref, tyN_fz, ki_NoneType_bool, ki_NoneType_int, ki_NoneType_str, ki_NoneType_list, ki_NoneType_tuple, ki_bool_bool, ki_bool_int, ki_bool_str, ki_bool_list, ki_bool_tuple, ki_int_bool, ki_int_int, ki_int_str, ki_int_list, ki_int_tuple, ki_str_bool, ki_str_int, ki_str_str, ki_str_list, ki_str_tuple, ki_list_bool, ki_list_int, ki_list_str, ki_list_list, ki_list_tuple, ki_tuple_bool, ki_tuple_int, ki_tuple_str, ki_tuple_list, ki_tuple_tuple, *])
local macro_rules | `(tactic| walk_at "st") => `(tactic| ((try rw [Ok_ss]); walk_at "ev"))
def cLiquid (fn : Nat) : C :=
  (.cons (.iff (.or_ (.not_ (.blt "isinstance" (.cons (.var 0) (.cons (.kty "tuple") .nil)))) (.cmp .ne (.blt "len" (.cons (.var 0) .nil)) (.kint 2))) (.cons (.ret (.kbl false)) .nil) .nil) (.cons (.ret (.and_ (.call fn (.cons (.idx (.var 0) (.kint 0)) (.cons (.kint 0) (.cons (.var 1) .nil)))) (.call fn (.cons (.idx (.var 0) (.kint 1)) (.cons (.kint 0) (.cons (.kval "MOST_NUMBER") .nil)))))) .nil))
def liqB (sp : Int) : D → Bool
  | .tup [a, b] => numB 0 sp a && numB 0 1000000000000000 b
  | _ => false
theorem liquid_ok {T : Tab} {n f fn : Nat} {S : Store} {M : List Nat} {v : Val} {d : D} {sp : Int} (hf : T.fn f = some ⟨2, 2, cLiquid fn⟩) (hn : T.fn fn = some ⟨3, 3, cNumber⟩) (hk : T.kv "MOST_NUMBER" = some (.int 1000000000000000)) (h : Con M S v d) :
    T.run (n + 2) f [v, .int sp] S = .ok (.bl (liqB sp d)) S := by
  have key : (T.run (n + 2) f [v, .int sp] S).Ok fun r S' => r = .bl (liqB sp d) ∧ S' = S := by
    apply ok_run hf rfl
    show (evSs _ (cLiquid fn) [some v, some (.int sp)] S).Ok _
    unfold cLiquid
    cases h with
    | tup h1 =>
      rename_i vs ds
      have hl := h1.length
      by_cases q : vs.length = 2
      · obtain ⟨x, y, rfl⟩ : ∃ x y, vs = [x, y] := by
          match vs, q with
          | [x, y], _ => exact ⟨x, y, rfl⟩
        cases h1 with
        | cons c1 h2 => cases h2 with
          | cons c2 h3 =>
            cases h3
            rename_i a b
            have e1 := number_ok (n := n) (lo := 0) (hi := sp) hn c1
            have e2 := number_ok (n := n) (lo := 0) (hi := 1000000000000000) hn c2
            clear hl q c1 c2
            walk_at "st"
            walk_at "st"
            walk_at "st"
            cases q1 : numB 0 sp a with
            | true =>
              walk_at "ev"
              simp [liqB, q1]
            | false =>
              walk_at "ev"
              simp [liqB, q1]
      · have q2 : decide ((vs.length : Int) = 2) = false := decide_eq_false (by omega)
        have e : liqB sp (.tup ds) = false := by
          match ds, hl with
          | [], _ => rfl
          | [_], _ => rfl
          | [_, _], hl => exact absurd hl q
          | _ :: _ :: _ :: _, _ => rfl
        clear h1 hl
        walk_at "st"
        walk_at "st"
        exact ⟨trivial, trivial⟩
    | lst h1 h2 h3 =>
      have := sq_of h1
      clear h1 h2 h3
      walk_at "st"
      walk_at "st"
      exact ⟨rfl, trivial⟩
    | _ =>
      walk_at "st"
      walk_at "st"
      exact ⟨rfl, trivial⟩
  obtain ⟨a, S', e, h1, h2⟩ := key.get
  rw [e, h1, h2]
/-- out of a list of known contents -/
theorem pick_con {T : Tab} {n f fp b k : Nat} {S : Store} {M : List Nat} {vs : List Val} {ds : List D} (hf : T.fn fp = some ⟨2, 5, cPull⟩) (hk : T.fn f = some ⟨2, 2, cPick fp⟩) (hb : Bg M b S)
    (hS : S[k]? = some (.lst vs)) (hkb : k ≠ b) (h0 : ds ≠ []) (h1 : ds.length < 18446744073709551616) (hc : Cons M S vs ds) :
    (T.run (n + 2) f [.ref b, .ref k] S).Ok fun w S' => (∃ d ∈ ds, Con M S' w d) ∧ Fr [b] S S' ∧ Bg M b S' := by
  have hl := hc.length
  refine (pick_lst (n := n) hf hk hb hS hkb (fun e => h0 (by subst e; cases hc; rfl)) (by omega)).imp fun w S' ⟨hw, f1, b1⟩ => ⟨?_, f1, b1⟩
  obtain ⟨i, hi, e⟩ := List.getElem_of_mem hw
  obtain ⟨d, h2, h3⟩ := hc.get (i := i) (v := w) (by rw [← e]; exact List.getElem?_eq_getElem hi)
  exact ⟨d, List.mem_of_getElem? h2, h3.fr (f1.mono (fun z hz => by rw [List.mem_singleton.mp hz]; exact hb.mem))⟩
end Lv

/-! LwG: odd values. -/
namespace Lv
open PySem (Str PyData)
theorem pow10_17 (S : Store) : binV S .pow (.int 10) (.int 17) = .ok (.int 100000000000000000) S := by
  show (if 0 ≤ (17 : Int) ∧ (17 : Int) ≤ 1000000 ∧ (10 : Int).natAbs < 2 ^ 64 then Out.ok (Val.int ((10 : Int) ^ (17 : Int).toNat)) S else .no) = _
  rw [if_pos (by decide)]
  rfl
theorem pow10_15 (S : Store) : binV S .pow (.int 10) (.int 15) = .ok (.int 1000000000000000) S := by
  show (if 0 ≤ (15 : Int) ∧ (15 : Int) ≤ 1000000 ∧ (10 : Int).natAbs < 2 ^ 64 then Out.ok (Val.int ((10 : Int) ^ (15 : Int).toNat)) S else .no) = _
  rw [if_pos (by decide)]
  rfl
local macro_rules | `(tactic| walk_at "ev") => `(tactic| try simp only [evS, evT, evE, evEs, evO, evG, evGs, evF, Out.bind_ok, Out.bind_no, lift_ok, Out.Ok_ok, Out.Ok_bind, Out.Ok_lift, SO.Ok_nx, SO.Ok_rt, SO.Ok_bk, SO.Ok_ct, thn_nx, thn_rt, thn_bk, thn_ct, endQ_nx, endQ_rt, Ok_ss0, ofO_some, List.getElem?_cons_zero, List.getElem?_cons_succ, List.set_cons_zero, List.set_cons_succ, Option.map_some, Option.bind_some, List.length_cons, List.length_nil, ix51, ix52, ix53, ix54, Nat.zero_add, Nat.reduceAdd, cmp_eq_int, cmp_ne_int, cmp_lt_int, cmp_le_int, cmp_gt_int, cmp_ge_int, tru_bl, add_int, sub_int, mul_intR, mod_int, fdiv_int, pow10_18, int_int, int_bl, len_ref, len_tup, len_fz, idx_ref, idx_tup, at0, at1, at2, at3, at4, Int.reduceNeg, Int.reduceLT, Int.reduceLE, decide_true, decide_false, eq_self, sq_set, sq_ne, List.set_set, isin, pow10_17, pow10_15, Int.reduceEq, ca0, ca1, ca2, ca3, ca4, ca5, ca6, ca7, ca8, ca9, ca10, ca11, ca12, List.foldl_cons, List.foldl_nil, List.zip_cons_cons, List.zip_nil_left, List.zip_nil_right, Int.toNat_natCast, wipe, List.foldr_cons, List.foldr_nil, szw_le, if_true, Nat.reduceLeDiff, Bool.not_true, Bool.not_false, cmp_in, in45, tyN_non, tyN_bl, tyN_int, tyN_str, tyN_tup, tyN_ref, tyN_fz, ki_NoneType_bool, ki_NoneType_int, ki_NoneType_str, ki_NoneType_list, ki_NoneType_tuple, ki_bool_bool, ki_bool_int, ki_bool_str, ki_bool_list, ki_bool_tuple, ki_int_bool, ki_int_int, ki_int_str, ki_int_list, ki_int_tuple, ki_str_bool, ki_str_int, ki_str_str, ki_str_list, ki_str_tuple, ki_list_bool, ki_list_int, ki_list_str, ki_list_list, ki_list_tuple, ki_tuple_bool, ki_tuple_int, ki_tuple_str, ki_tuple_list, ki_tuple_tuple, *])
local macro_rules | `(tactic| walk_at "st") => `(tactic| ((try rw [Ok_ss]); walk_at "ev"))
def cOdd (fk : Nat) : C :=
  (.cons (.ret (.call fk (.cons (.var 0) (.cons (.bin .add (.lst (.cons .knon (.cons (.kbl true) (.cons (.kbl false) (.cons (.kstr "") (.cons (.kstr "A") (.cons (.neg (.kint 1)) (.cons (.tup (.cons (.kint 1) (.cons (.kstr "a") .nil))) (.cons (.lst (.cons (.kint 1) .nil)) (.cons (.tup .nil) (.cons (.lst (.cons (.kstr "a") .nil)) (.cons (.bin .pow (.kint 10) (.kint 17)) .nil)))))))))))) (.var 1)) .nil)))) .nil)
def oddD : List D := [.non, .bl true, .bl false, .str "", .str "A", .int (-1), .tup [.int 1, .str "a"], .lst [.int 1], .tup [], .lst [.str "a"], .int 100000000000000000]
theorem odd_ok {T : Tab} {n f fk fp b km : Nat} {S : Store} {M : List Nat} {ms : List Val} {es : List D} (hf : T.fn f = some ⟨2, 2, cOdd fk⟩) (hk : T.fn fk = some ⟨2, 2, cPick fp⟩) (hp : T.fn fp = some ⟨2, 5, cPull⟩) (hb : Bg M b S)
    (hm : S[km]? = some (.lst ms)) (hc : Cons M S ms es) (hl : es.length ≤ 1000) (hM : ∀ m ∈ M, m < S.length) :
    (T.run (n + 3) f [.ref b, .ref km] S).Ok fun w S' => (∃ d ∈ oddD ++ es, Con M S' w d) ∧ Fr [b] S S' ∧ Bg M b S' := by
  have hcl := hc.length
  apply ok_run hf rfl
  show (evSs _ (cOdd fk) [some (.ref b), some (.ref km)] S).Ok _
  unfold cOdd
  walk_at "st"
  refine newL_ok (show 1 ≤ SZ by decide) fun k1 S1 g1 g2 g3 g4 g5 => ?_
  walk_at "ev"
  refine newL_ok (show 1 ≤ SZ by decide) fun k2 S2 i1 i2 i3 i4 i5 => ?_
  walk_at "ev"
  refine newL_ok (show 11 ≤ SZ by decide) fun k3 S3 j1 j2 j3 j4 j5 => ?_
  walk_at "ev"
  have F3 : Fr [] S S3 := (g3.trans i3).trans j3
  rw [addl_ref j1 (F3.get hm (by simp)) (by rw [hcl]; exact Nat.le_trans (Nat.add_le_add_left hl 11) (show 1011 ≤ SZ by decide))]
  refine new_ok fun k4 S4 l1 l2 l3 l4 l5 => ?_
  have F4 := F3.trans l3
  walk_at "ev"
  have q1 := ((i3.trans j3).trans l3).get g1 (by simp)
  have q2 := (j3.trans l3).get i1 (by simp)
  have n1 : k1 ∉ M := fun z => by have := hM k1 z; omega
  have n2 : k2 ∉ M := fun z => by have := hM k2 z; have := g3.len; omega
  have n4 : k4 ≠ b := fun z => by have := hb.lt; have := F3.len; omega
  refine (pick_con (n := n) (ds := oddD ++ es) hp hk (hb.fr F4) l1 n4 (by simp [oddD]) (by simp [oddD]; omega) ?_).imp fun w S' ⟨h1, h2, h3⟩ => ⟨h1, (F4.mono (by simp)).trans h2, h3⟩
  refine Cons.append ?_ (hc.fr (F4.mono (by simp)))
  exact .cons .non (.cons (.bl _) (.cons (.bl _) (.cons (.str _) (.cons (.str _) (.cons (.int _) (.cons (.tup (.cons (.int _) (.cons (.str _) .nil))) (.cons (.lst q1 n1 (.cons (.int _) .nil)) (.cons (.tup .nil) (.cons (.lst q2 n2 (.cons (.str _) .nil)) (.cons (.int _) .nil))))))))))
end Lv

/-! LwH: liquids so. -/
namespace Lv
open PySem (Str PyData)
local macro_rules | `(tactic| walk_at "ev") => `(tactic| try simp only [evS, evT, evE, evEs, evO, evG, evGs, evF, Out.bind_ok, Out.bind_no, lift_ok, Out.Ok_ok, Out.Ok_bind, Out.Ok_lift, SO.Ok_nx, SO.Ok_rt, SO.Ok_bk, SO.Ok_ct, thn_nx, thn_rt, thn_bk, thn_ct, endQ_nx, endQ_rt, Ok_ss0, ofO_some, List.getElem?_cons_zero, List.getElem?_cons_succ, List.set_cons_zero, List.set_cons_succ, Option.map_some, Option.bind_some, List.length_cons, List.length_nil, ix51, ix52, ix53, ix54, Nat.zero_add, Nat.reduceAdd, cmp_eq_int, cmp_ne_int, cmp_lt_int, cmp_le_int, cmp_gt_int, cmp_ge_int, tru_bl, add_int, sub_int, mul_intR, mod_int, fdiv_int, pow10_18, int_int, int_bl, len_ref, len_tup, len_fz, idx_ref, idx_tup, at0, at1, at2, at3, at4, Int.reduceNeg, Int.reduceLT, Int.reduceLE, decide_true, decide_false, eq_self, sq_set, sq_ne, List.set_set, isin, mapO, Src.get, List.cons_append, List.nil_append, pow10_17, pow10_15, Int.reduceEq, ca0, ca1, ca2, ca3, ca4, ca5, ca6, ca7, ca8, ca9, ca10, ca11, ca12, List.foldl_cons, List.foldl_nil, List.zip_cons_cons, List.zip_nil_left, List.zip_nil_right, Int.toNat_natCast, wipe, List.foldr_cons, List.foldr_nil, szw_le, if_true, Nat.reduceLeDiff, Bool.not_true, Bool.not_false, cmp_in, in45, tyN_non, tyN_bl, tyN_int, tyN_str, tyN_tup, tyN_ref, tyN_fz, ki_NoneType_bool, ki_NoneType_int, ki_NoneType_str, ki_NoneType_list, ki_NoneType_tuple, ki_bool_bool, ki_bool_int, ki_bool_str, ki_bool_list, ki_bool_tuple, ki_int_bool, ki_int_int, ki_int_str, ki_int_list, ki_int_tuple, ki_str_bool, ki_str_int, ki_str_str, ki_str_list, ki_str_tuple, ki_list_bool, ki_list_int, ki_list_str, ki_list_list, ki_list_tuple, ki_tuple_bool, ki_tuple_int, ki_tuple_str, ki_tuple_list, ki_tuple_tuple, *])
local macro_rules | `(tactic| walk_at "st") => `(tactic| ((try rw [Ok_ss]); walk_at "ev"))
def cLiquidSo (fp fk fl fs : Nat) : C :=
  (.cons (.par [4, 5, 6] (.cons (.call fp (.cons (.var 0) (.cons (.kint 10) .nil))) (.cons (.call fk (.cons (.var 0) (.cons (.lst (.cons (.kint 0) (.cons (.kint 1) (.cons (.bin .pow (.kint 10) (.kint 15)) (.cons (.call fp (.cons (.var 0) (.cons (.bin .pow (.kint 10) (.kint 15)) .nil))) .nil))))) .nil))) (.cons (.call fp (.cons (.var 0) (.cons (.kint 10) .nil))) .nil)))) (.cons (.asg (.tn 2) (.lst (.cons (.calld fl (.cons (.tup (.cons (.var 4) (.cons (.var 5) .nil))) .nil) [(.int 9)]) (.cons (.callk fl (.cons (.tup (.cons (.var 4) (.cons (.var 5) .nil))) .nil) [.p 0, .k 0] (.cons (.var 6) .nil)) .nil)))) (.cons (.iff (.not_ (.call fs (.cons (.var 2) (.cons (.lst (.cons (.kbl true) (.cons (.cmp .le (.var 4) (.var 6)) .nil))) .nil)))) (.cons (.ret (.kbl false)) .nil) .nil) (.cons (.asg (.tn 3) (.lst (.cons (.lst (.cons (.var 4) (.cons (.var 5) .nil))) (.cons (.tup (.cons (.var 4) .nil)) (.cons (.tup (.cons (.var 4) (.cons (.var 5) (.cons (.kint 0) .nil)))) (.cons (.tup (.cons (.neg (.kint 1)) (.cons (.var 5) .nil))) (.cons (.tup (.cons (.kint 10) (.cons (.var 5) .nil))) (.cons (.tup (.cons (.var 4) (.cons (.neg (.kint 1)) .nil))) (.cons (.tup (.cons (.var 4) (.cons (.bin .add (.bin .pow (.kint 10) (.kint 15)) (.kint 1)) .nil))) .nil))))))))) (.cons (.asg (.tn 3) (.bin .add (.var 3) (.lst (.cons (.tup (.cons (.var 1) (.cons (.var 5) .nil))) (.cons (.tup (.cons (.var 4) (.cons (.var 1) .nil))) (.cons (.var 1) (.cons (.tup .nil) (.cons (.tup (.cons (.tup (.cons (.var 4) (.cons (.var 5) .nil))) .nil)) .nil)))))))) (.cons (.ret (.call fs (.cons (.lc (.callk fl .nil [.k 0, .d (.int 9)] (.cons (.var 7) .nil)) (.tn 7) (.var 3) .nil [7]) (.cons (.bin .mul (.lst (.cons (.kbl false) .nil)) (.blt "len" (.cons (.var 3) .nil))) .nil)))) .nil))))))
theorem mul_ref {S : Store} {k n : Nat} {x : Val} (h : S[k]? = some (.lst [x])) (hn : n ≤ 1000) : binV S .mul (.ref k) (.int n) = new S (.lst (List.replicate n x)) := by
  show (match S[k]? with
    | some (.lst xs) => if -(2 ^ 63) ≤ (n : Int) ∧ (n : Int) < 2 ^ 63 ∧ xs.length * (n : Int).toNat ≤ SZ then new S (.lst (List.replicate (n : Int).toNat xs).flatten) else .no
    | _ => .no) = _
  rw [h]
  dsimp only
  have e1 : -(2 ^ 63) ≤ (n : Int) := by omega
  have e2 : (n : Int) < 2 ^ 63 := Int.lt_of_le_of_lt (Int.ofNat_le.mpr hn) (by decide)
  have e3 : [x].length * (n : Int).toNat ≤ SZ := by
    rw [Int.toNat_natCast]
    show 1 * n ≤ SZ
    rw [Nat.one_mul]
    exact Nat.le_trans hn (by decide)
  rw [if_pos ⟨e1, e2, e3⟩, Int.toNat_natCast]
  congr 2
  induction n with
  | zero => rfl
  | succ n ih => rw [List.replicate_succ, List.replicate_succ, List.flatten_cons, ih (by omega) (by omega) (by exact Int.lt_of_le_of_lt (Int.ofNat_le.mpr (Nat.le_trans (Nat.le_succ n) hn)) (by decide)) (by rw [Int.toNat_natCast]; show 1 * n ≤ SZ; rw [Nat.one_mul]; exact Nat.le_trans (Nat.le_trans (Nat.le_succ n) hn) (by decide))]; rfl
theorem cons_rep {M : List Nat} {S : Store} (b : Bool) : ∀ n, Cons M S (List.replicate n (.bl b)) (List.replicate n (.bl b))
  | 0 => .nil
  | n + 1 => .cons (.bl b) (cons_rep b n)
theorem fits_rep (n : Nat) (b : Bool) (h : n < SZ) : D.fits 1 (.lst (List.replicate n (.bl b))) := by
  refine ⟨by rw [List.length_replicate]; exact h, fun d hd => ?_⟩
  rw [(List.mem_replicate.mp hd).2]
  trivial
def strD : List D := [.non, .bl true, .bl false, .str "1", .tup [.int 1], .lst [.int 1], .str ""]
theorem liquid_so_ok {T : Tab} {n f fk fp fl fn fs fkd b : Nat} {S : Store} {M : List Nat} {v : Val} {d : D} (hf : T.fn f = some ⟨2, 8, cLiquidSo fp fk fl fs⟩) (hk : T.fn fk = some ⟨2, 2, cPick fp⟩) (hp : T.fn fp = some ⟨2, 5, cPull⟩)
    (hl : T.fn fl = some ⟨2, 2, cLiquid fn⟩) (hn : T.fn fn = some ⟨3, 3, cNumber⟩) (hkv : T.kv "MOST_NUMBER" = some (.int 1000000000000000)) (hs : T.fn fs = some ⟨2, 4, cSame fkd fs⟩) (hkd : T.fn fkd = some ⟨1, 2, cKind⟩)
    (hb : Bg M b S) (hM : ∀ m ∈ M, m < S.length) (hv : Con M S v d) (hd : d ∈ strD) :
    (T.run (n + 9) f [.ref b, v] S).Ok fun w S' => w = .bl true ∧ Fr [b] S S' ∧ Bg M b S' := by
  have hbM : ∀ k ∈ [b], k ∈ M := fun z hz => by rw [List.mem_singleton.mp hz]; exact hb.mem
  apply ok_run hf rfl
  show (evSs _ (cLiquidSo fp fk fl fs) [some (.ref b), some v, none, none, none, none, none, none] S).Ok _
  unfold cLiquidSo
  walk_at "st"
  refine (pull_fr (n := n + 7) hp hb (by omega) (by omega)).imp fun w S1 ⟨s, e, s0, s1, f1, b1⟩ => ?_
  subst e
  walk_at "ev"
  refine (pull_fr (n := n + 7) hp b1 (by omega) (by omega)).imp fun w S2 ⟨p, e, p0, p1, f2, b2⟩ => ?_
  subst e
  walk_at "ev"
  refine newL_ok (show 4 ≤ SZ by decide) fun k1 S3 g1 g2 g3 g4 g5 => ?_
  walk_at "ev"
  refine (pick_lst (n := n + 6) hp hk (b2.fr g3) g1 (by have := b2.lt; omega) (by simp) (by simp)).imp fun w S4 ⟨hw, f4, b4⟩ => ?_
  have hw2 : ∃ j : Int, w = .int j ∧ 0 ≤ j ∧ j ≤ 1000000000000000 := by
    simp only [List.mem_cons, List.not_mem_nil, or_false] at hw
    rcases hw with rfl | rfl | rfl | rfl
    · exact ⟨0, rfl, by omega, by omega⟩
    · exact ⟨1, rfl, by omega, by omega⟩
    · exact ⟨1000000000000000, rfl, by omega, by omega⟩
    · exact ⟨p, rfl, by omega, by omega⟩
  obtain ⟨m, rfl, m0, m1⟩ := hw2
  clear hw
  have F4 : Fr [b] S S4 := ((f1.trans f2).trans (g3.mono (by simp))).trans f4
  clear g1 g2 g4 g5
  walk_at "ev"
  refine (pull_fr (n := n + 7) hp b4 (by omega) (by omega)).imp fun w S5 ⟨t, e, t0, t1, f5, b5⟩ => ?_
  subst e
  have F5 := F4.trans f5
  have v5 := hv.fr (F5.mono hbM)
  have c1 : Con M S5 (.tup [.int s, .int m]) (.tup [.int s, .int m]) := .tup (.cons (.int _) (.cons (.int _) .nil))
  have e1 := liquid_ok (n := n + 6) (sp := 9) hl hn hkv c1
  have e2 := liquid_ok (n := n + 6) (sp := t) hl hn hkv c1
  have x1 : liqB 9 (.tup [.int s, .int m]) = true := by simp [liqB, numB]; omega
  have x2 : liqB t (.tup [.int s, .int m]) = decide (s ≤ t) := by simp [liqB, numB, s0, m0, m1]
  rw [x1] at e1
  rw [x2] at e2
  clear x1 x2 c1 hv
  walk_at "ev"
  walk_at "st"
  refine newL_ok (show 2 ≤ SZ by decide) fun k2 S6 i1 i2 i3 i4 i5 => ?_
  clear e1 e2
  walk_at "st"
  refine newL_ok (show 2 ≤ SZ by decide) fun k3 S7 j1 j2 j3 j4 j5 => ?_
  walk_at "ev"
  have n2 : k2 ∉ M := fun z => by have := hM k2 z; have := F5.len; omega
  have n3 : k3 ∉ M := fun z => by have := hM k3 z; have := F5.len; have := i3.len; omega
  have cc : ∀ S k, S[k]? = some (.lst [.bl true, .bl (decide (s ≤ t))]) → k ∉ M → Con M S (.ref k) (.lst [.bl true, .bl (decide (s ≤ t))]) := fun S k h1 h2 => .lst h1 h2 (.cons (.bl _) (.cons (.bl _) .nil))
  refine (same_ok hkd hs 1 (n + 5) (d := .lst [.bl true, .bl (decide (s ≤ t))]) ⟨show 2 < SZ by decide, fun d hd => by
    simp only [List.mem_cons, List.not_mem_nil, or_false] at hd
    rcases hd with rfl | rfl <;> trivial⟩ (cc S7 k2 (j3.get i1 (by simp)) n2) (cc S7 k3 j1 n3)).imp fun r S8 ⟨e, f8⟩ => ?_
  subst e
  have F8 : Fr [] S5 S8 := (i3.trans j3).trans f8
  have b8 := b5.fr F8
  have v8 := v5.fr (F8.mono (by simp))
  clear cc i1 i2 j1 j2
  walk_at "ev"
  walk_at "st"
  refine newL_ok (show 2 ≤ SZ by decide) fun k4 S9 l1 l2 l3 l4 l5 => ?_
  walk_at "ev"
  refine newL_ok (show 7 ≤ SZ by decide) fun k5 S10 o1 o2 o3 o4 o5 => ?_
  clear l2 o2
  walk_at "ev"
  walk_at "st"
  refine newL_ok (show 5 ≤ SZ by decide) fun k6 S11 r1 r2 r3 r4 r5 => ?_
  rw [addl_ref (r3.get o1 (by simp)) r1 (show 12 ≤ SZ by decide)]
  refine new_ok fun k7 S12 u1 u2 u3 u4 u5 => ?_
  have G12 : Fr [] S8 S12 := ((l3.trans o3).trans r3).trans u3
  have v12 := v8.fr (G12.mono (by simp))
  have b12 := b8.fr G12
  have n4 : k4 ∉ M := fun z => by have := hM k4 z; have := F5.len; have := F8.len; omega
  have l12 : S12[k4]? = some (.lst [.int s, .int m]) := ((o3.trans r3).trans u3).get l1 (by simp)
  have L12 : S.length ≤ S12.length := Nat.le_trans F5.len (Nat.le_trans F8.len G12.len)
  have E12 : Fr [b] S S12 := (F5.trans (F8.mono (by simp))).trans (G12.mono (by simp))
  generalize hvs : ([Val.ref k4, Val.tup [Val.int s], Val.tup [Val.int s, Val.int m, Val.int 0], Val.tup [Val.int (-1), Val.int m], Val.tup [Val.int 10, Val.int m], Val.tup [Val.int s, Val.int (-1)], Val.tup [Val.int s, Val.int (1000000000000000 + 1)]] ++
    [Val.tup [v, Val.int m], Val.tup [Val.int s, v], v, Val.tup [], Val.tup [Val.tup [Val.int s, Val.int m]]]) = vs at u1 u2
  have hcs : ∃ cs, Cons M S12 vs cs ∧ ∀ c ∈ cs, liqB 9 c = false := by
    subst hvs
    refine ⟨_, .append (.cons (.lst l12 n4 (.cons (.int _) (.cons (.int _) .nil))) (.cons (.tup (.cons (.int _) .nil)) (.cons (.tup (.cons (.int _) (.cons (.int _) (.cons (.int _) .nil)))) (.cons (.tup (.cons (.int _) (.cons (.int _) .nil)))
      (.cons (.tup (.cons (.int _) (.cons (.int _) .nil))) (.cons (.tup (.cons (.int _) (.cons (.int _) .nil))) (.cons (.tup (.cons (.int _) (.cons (.int _) .nil))) .nil)))))))
      (.cons (.tup (.cons v12 (.cons (.int _) .nil))) (.cons (.tup (.cons (.int _) (.cons v12 .nil))) (.cons v12 (.cons (.tup .nil) (.cons (.tup (.cons (.tup (.cons (.int _) (.cons (.int _) .nil))) .nil)) .nil))))), ?_⟩
    intro c hc
    simp only [List.cons_append, List.nil_append, List.mem_cons, List.not_mem_nil, or_false] at hc
    simp only [strD, List.mem_cons, List.not_mem_nil, or_false] at hd
    rcases hc with rfl | rfl | rfl | rfl | rfl | rfl | rfl | rfl | rfl | rfl | rfl | rfl
    · rfl
    · rfl
    · rfl
    · simp [liqB, numB]
    · simp [liqB, numB]
    · simp [liqB, numB]
    · simp [liqB, numB]
    · rcases hd with rfl | rfl | rfl | rfl | rfl | rfl | rfl <;> simp [liqB, numB]
    · rcases hd with rfl | rfl | rfl | rfl | rfl | rfl | rfl <;> simp [liqB, numB]
    · rcases hd with rfl | rfl | rfl | rfl | rfl | rfl | rfl <;> rfl
    · rfl
    · rfl
  obtain ⟨cs, hcs, hall⟩ := hcs
  have hvl : vs.length = 12 := by rw [← hvs]; rfl
  have e7 : ∀ g S, evI g (.var 3) [some (.ref b), some v, some (.ref k2), some (.ref k7), some (.int s), some (.int m), some (.int t), none] S = .ok (.live k7) S := fun g S => by
    rw [evI]
    · rw [evE]
      rfl
    all_goals (intros; contradiction)
  clear l1 l3 l4 l5 o1 o3 o4 o5 r1 r2 r3 r4 r5 hvs hd v12 v8 v5 l12 n2 n3 n4
  rw [Ok_ss]
  walk_at "ev"
  refine (lc_map (it := .live k7) (vs := vs) (fun _ => .bl false) (by rw [hvl]; decide) (fun S' i f => by
    show (seqAt S' k7).map (fun vs => vs[i]?) = _
    rw [sq_fr u2 f]
    rfl) (fun x hx S' f => ?_)).imp fun r S13 ⟨e, w1, w2⟩ => ?_
  · obtain ⟨i, hi, e⟩ := List.getElem_of_mem hx
    obtain ⟨c, c1, c2⟩ := hcs.get (i := i) (v := x) (by rw [← e]; exact List.getElem?_eq_getElem hi)
    have q := liquid_ok (n := n + 6) (sp := 9) hl hn hkv (c2.fr (f.mono (by simp)))
    rw [hall c (List.mem_of_getElem? c1)] at q
    clear e7 hcs hall u1 u2
    walk_at "ev"
    exact ⟨trivial, .rfl' _⟩
  · subst e
    have hrep : vs.map (fun _ => Val.bl false) = List.replicate 12 (.bl false) := by rw [← hvl]; exact List.map_const'
    rw [hrep] at w1
    clear e7 hcs hall hrep
    walk_at "ev"
    refine newL_ok (show 1 ≤ SZ by decide) fun k8 S14 x1 x2 x3 x4 x5 => ?_
    have q7 := sq_fr (sq_fr u2 w2) x3
    walk_at "ev"
    have q12 : binV S14 .mul (.ref k8) (.int 12) = new S14 (.lst (List.replicate 12 (.bl false))) := mul_ref (n := 12) x1 (by decide)
    rw [q12]
    refine new_ok fun k9 S15 y1 y2 y3 y4 y5 => ?_
    have m1 : S12.length ∉ M := fun z => by have := hM _ z; omega
    have m2 : k9 ∉ M := fun z => by have := hM _ z; have := w2.len; have := x3.len; omega
    refine (same_ok hkd hs 1 (n + 5) (d := .lst (List.replicate 12 (.bl false))) (fits_rep 12 false (by decide)) (.lst ((x3.trans y3).get w1 (by simp)) m1 (cons_rep false 12)) (.lst y1 m2 (cons_rep false 12))).imp fun r S16 ⟨e, f16⟩ => ?_
    have Z := ((w2.trans x3).trans y3).trans f16
    exact ⟨e, E12.trans (Z.mono (by simp)), b12.fr Z⟩
end Lv

/-! LwI: a turn's first part. -/
namespace Lv
open PySem (Str PyData)
local macro_rules | `(tactic| walk_at "ev") => `(tactic| try simp only [evS, evT, evE, evEs, evO, evG, evGs, evF, Out.bind_ok, Out.bind_no, lift_ok, Out.Ok_ok, Out.Ok_bind, Out.Ok_lift, SO.Ok_nx, SO.Ok_rt, SO.Ok_bk, SO.Ok_ct, thn_nx, thn_rt, thn_bk, thn_ct, endQ_nx, endQ_rt, Ok_ss0, ofO_some, List.getElem?_cons_zero, List.getElem?_cons_succ, List.set_cons_zero, List.set_cons_succ, Option.map_some, Option.bind_some, List.length_cons, List.length_nil, ix51, ix52, ix53, ix54, Nat.zero_add, Nat.reduceAdd, cmp_eq_int, cmp_ne_int, cmp_lt_int, cmp_le_int, cmp_gt_int, cmp_ge_int, tru_bl, add_int, sub_int, mul_intR, mod_int, fdiv_int, pow10_18, int_int, int_bl, len_ref, len_tup, len_fz, idx_ref, idx_tup, at0, at1, at2, at3, at4, Int.reduceNeg, Int.reduceLT, Int.reduceLE, decide_true, decide_false, eq_self, sq_set, sq_ne, List.set_set, isin, mapO, Src.get, List.cons_append, List.nil_append, pow10_17, pow10_15, Int.reduceEq, ca0, ca1, ca2, ca3, ca4, ca5, ca6, ca7, ca8, ca9, ca10, ca11, ca12, List.foldl_cons, List.foldl_nil, List.zip_cons_cons, List.zip_nil_left, List.zip_nil_right, Int.toNat_natCast, wipe, List.foldr_cons, List.foldr_nil, szw_le, if_true, Nat.reduceLeDiff, Bool.not_true, Bool.not_false, cmp_in, in45, tyN_non, tyN_bl, tyN_int, tyN_str, tyN_tup, tyN_ref, tyN_fz, ki_NoneType_bool, ki_NoneType_int, ki_NoneType_str, ki_NoneType_list, ki_NoneType_tuple, ki_bool_bool, ki_bool_int, ki_bool_str, ki_bool_list, ki_bool_tuple, ki_int_bool, ki_int_int, ki_int_str, ki_int_list, ki_int_tuple, ki_str_bool, ki_str_int, ki_str_str, ki_str_list, ki_str_tuple, ki_list_bool, ki_list_int, ki_list_str, ki_list_list, ki_list_tuple, ki_tuple_bool, ki_tuple_int, ki_tuple_str, ki_tuple_list, ki_tuple_tuple, *])
local macro_rules | `(tactic| walk_at "st") => `(tactic| ((try rw [Ok_ss]); walk_at "ev"))
theorem s_A : Str.ofString "A" = SX.S [65] := by decide +kernel
theorem s_1 : Str.ofString "1" = SX.S [49] := by decide +kernel
theorem s_sp : Str.ofString " " = SX.S [32] := by decide +kernel
theorem s_us : Str.ofString "_" = SX.S [95] := by decide +kernel
theorem s_mi : Str.ofString "-" = SX.S [45] := by decide +kernel
theorem s_do : Str.ofString "." = SX.S [46] := by decide +kernel
theorem s_z : Str.ofString "z" = SX.S [122] := by decide +kernel
theorem s_a6 : Str.ofString "aaaaaa" = SX.S [97, 97, 97, 97, 97, 97] := by decide +kernel
theorem s_e : Str.ofString "" = SX.S [] := by decide +kernel
/-- a sign that is put in -/
structure Sg (sg : List Nat) : Prop where
  len : sg.length ≤ 6
  small : ∀ c ∈ sg, c < 128
  bad : sg ≠ [122] → (∃ c ∈ sg, c ∉ LET) ∨ 6 ≤ sg.length
structure Wd (w : List Nat) : Prop where
  one : 1 ≤ w.length
  six : w.length ≤ 6
  let_ : ∀ c ∈ w, c ∈ LET
theorem Wd.small {w : List Nat} (h : Wd w) : ∀ c ∈ w, c < 128 := fun c hc => by have := (mem_LET c).mp (h.let_ c hc); omega
theorem Wd.name {w : List Nat} (h : Wd w) : nameL w = true := by
  unfold nameL
  rw [decide_eq_true h.one, decide_eq_true h.six]
  simp only [Bool.and_self, Bool.true_and, List.all_eq_true, decide_eq_true_eq]
  exact h.let_
theorem wd_wd {stem : List Nat} {a first i : Nat} (h1 : stem.length ≤ 5) (h2 : ∀ c ∈ stem, c ∈ LET) (h3 : a ≤ stem.length) : Wd (wd stem a first i) := by
  refine ⟨?_, ?_, ?_⟩
  · simp [wd]
    omega
  · simp [wd]
    omega
  · intro c hc
    simp only [wd, List.mem_append, List.mem_singleton] at hc
    rcases hc with (hc | rfl) | hc
    · exact h2 c (List.mem_of_mem_take hc)
    · exact (mem_LET _).mpr (by omega)
    · exact h2 c (List.mem_of_mem_drop hc)
def bent (w : List Nat) (a : Nat) (sg : List Nat) : List Nat := w.take a ++ sg ++ w.drop a
theorem bent_name {w sg : List Nat} {a : Nat} (hw : Wd w) (ha : a ≤ w.length) (hs : Sg sg) : nameL (bent w a sg) = (decide (sg = [122]) && decide ((bent w a sg).length < 7)) := by
  have hl : (bent w a sg).length = w.length + sg.length := by
    simp [bent]
    omega
  by_cases e : sg = [122]
  · subst e
    rw [decide_eq_true rfl, Bool.true_and]
    unfold nameL
    rw [hl]
    have h1 := hw.one
    have h2 : (bent w a [122]).all (fun c => decide (c ∈ LET)) = true := by
      rw [List.all_eq_true]
      intro c hc
      simp only [bent, List.mem_append, List.mem_singleton] at hc
      refine decide_eq_true ?_
      rcases hc with (hc | rfl) | hc
      · exact hw.let_ c (List.mem_of_mem_take hc)
      · exact (mem_LET _).mpr (by omega)
      · exact hw.let_ c (List.mem_of_mem_drop hc)
    rw [h2, Bool.and_true, decide_eq_true (show 1 ≤ w.length + [122].length by simp), Bool.true_and]
    congr 1
    apply propext
    constructor <;> intro h <;> omega
  · rw [decide_eq_false e, Bool.false_and]
    unfold nameL
    rcases hs.bad e with ⟨c, hc, hn⟩ | h
    · have : (bent w a sg).all (fun c => decide (c ∈ LET)) = false := by
        rw [List.all_eq_false]
        exact ⟨c, by simp [bent, hc], by simp [hn]⟩
      rw [this, Bool.and_false]
    · rw [hl, decide_eq_false (show ¬w.length + sg.length ≤ 6 by have := hw.one; omega), Bool.and_false, Bool.false_and]
theorem up_bad {w : List Nat} (h : Wd w) : nameL (w.map PyProof.Rows.up1) = false := by
  match w, h with
  | [], h => exact absurd h.one (by simp)
  | c :: w, h =>
    have := (mem_LET c).mp (h.let_ c (List.mem_cons_self ..))
    have e : ((c :: w).map PyProof.Rows.up1).all (fun c => decide (c ∈ LET)) = false := by
      rw [List.all_eq_false]
      refine ⟨PyProof.Rows.up1 c, by simp, ?_⟩
      have : PyProof.Rows.up1 c = c - 32 := if_pos this
      rw [this, decide_eq_true_eq, mem_LET]
      omega
    unfold nameL
    rw [e, Bool.and_false]
theorem upper_ok {S : Store} {w : List Nat} (h : Wd w) : mthV S "str" "upper" (.str (SX.S w)) [] = .ok (.str (SX.S (w.map PyProof.Rows.up1))) S := by
  show (if (SX.S w).length ≤ 5592405 then Out.ok (Val.str (PySem.Txt.upper (SX.S w))) S else .no) = _
  have := h.six
  rw [SX.S_len, if_pos (by omega), SX.upper_S (by rw [List.all_eq_true]; intro c hc; exact decide_eq_true (h.small c hc))]
end Lv

/-! GA_k02: the codes of the text, its table. Printed by gen.py. -/
namespace Lv
open PySem (Str)
def f_is_number : Nat := 0
def f_is_name : Nat := 1
def f_is_liquid : Nat := 2
def f__law_start : Nat := 3
def f__law_pull : Nat := 4
def f__law_pick : Nat := 5
def f__law_words : Nat := 6
def f__law_kind : Nat := 7
def f__law_same : Nat := 8
def f__law_odd : Nat := 9
def f__law_liquid_so : Nat := 10
def f_law : Nat := 11
def c_is_number : C :=
  (.cons (.ret (.and_ (.blt "isinstance" (.cons (.var 0) (.cons (.kty "int") .nil))) (.and_ (.not_ (.blt "isinstance" (.cons (.var 0) (.cons (.kty "bool") .nil)))) (.chain .le .le (.var 1) (.var 0) (.var 2))))) .nil)
def d_is_number : Fn := ⟨3, 3, c_is_number⟩
def c_is_name : C :=
  (.cons (.ret (.and_ (.blt "isinstance" (.cons (.var 0) (.cons (.kty "str") .nil))) (.and_ (.chain .le .le (.kint 1) (.blt "len" (.cons (.var 0) .nil)) (.kint 6)) (.blt "all" (.cons (.lc (.cmp .inn (.var 1) (.kval "LETTERS")) (.tn 1) (.var 0) .nil [1]) .nil))))) .nil)
def d_is_name : Fn := ⟨1, 2, c_is_name⟩
def c_is_liquid : C :=
  (.cons (.iff (.or_ (.not_ (.blt "isinstance" (.cons (.var 0) (.cons (.kty "tuple") .nil)))) (.cmp .ne (.blt "len" (.cons (.var 0) .nil)) (.kint 2))) (.cons (.ret (.kbl false)) .nil) .nil) (.cons (.ret (.and_ (.call f_is_number (.cons (.idx (.var 0) (.kint 0)) (.cons (.kint 0) (.cons (.var 1) .nil)))) (.call f_is_number (.cons (.idx (.var 0) (.kint 1)) (.cons (.kint 0) (.cons (.kval "MOST_NUMBER") .nil)))))) .nil))
def d_is_liquid : Fn := ⟨2, 2, c_is_liquid⟩
def c__law_start : C :=
  (.cons (.ret (.lst (.cons (.blt "list" (.cons (.sl (.var 0) .nil (.kint 63)) .nil)) (.cons (.kint 0) (.cons (.kint 0) (.cons (.bin .add (.kint 4933) (.blt "len" (.cons (.var 0) .nil))) (.cons (.kint 0) .nil))))))) .nil)
def d__law_start : Fn := ⟨1, 1, c__law_start⟩
def c__law_pull : C :=
  (.cons (.iff (.and_ (.cmp .eq (.idx (.var 0) (.kint 2)) (.kint 0)) (.cmp .lt (.idx (.var 0) (.kint 1)) (.blt "len" (.cons (.idx (.var 0) (.kint 0)) .nil)))) (.cons (.asg (.tn 3) (.idx (.idx (.var 0) (.kint 0)) (.idx (.var 0) (.kint 1)))) (.cons (.asg (.tsub (.var 0) (.kint 1)) (.bin .add (.idx (.var 0) (.kint 1)) (.kint 1))) (.cons (.iff (.cmp .ge (.var 3) (.bin .pow (.kint 10) (.kint 18))) (.cons (.asg (.tsub (.var 0) (.kint 2)) (.var 3)) .nil) (.cons (.asg (.tsub (.var 0) (.kint 3)) (.bin .mod (.blt "int" (.cons (.bin .add (.bin .add (.bin .mul (.idx (.var 0) (.kint 3)) (.kint 43051)) (.bin .mul (.bin .mod (.blt "int" (.cons (.var 3) .nil)) (.kint 2147483423)) (.kint 7411))) (.kint 37)) .nil)) (.kint 2147483579))) .nil)) .nil))) .nil) (.cons (.iff (.cmp .gt (.idx (.var 0) (.kint 2)) (.kint 0)) (.cons (.asg (.tn 4) (.bin .mod (.blt "int" (.cons (.idx (.var 0) (.kint 2)) .nil)) (.var 1))) (.cons (.asg (.tsub (.var 0) (.kint 2)) (.bin .fdiv (.idx (.var 0) (.kint 2)) (.var 1))) (.cons (.ret (.var 4)) .nil))) .nil) (.cons (.asg (.tsub (.var 0) (.kint 4)) (.bin .add (.idx (.var 0) (.kint 4)) (.kint 1))) (.cons (.asg (.tn 2) (.idx (.var 0) (.kint 3))) (.cons (.asg (.tsub (.var 0) (.kint 3)) (.bin .mod (.blt "int" (.cons (.bin .add (.bin .add (.bin .add (.bin .mul (.var 2) (.var 2)) (.bin .mul (.var 2) (.kint 31081))) (.bin .mul (.idx (.var 0) (.kint 4)) (.kint 1299833))) (.kint 70001)) .nil)) (.kint 2147483549))) (.cons (.ret (.bin .mod (.blt "int" (.cons (.bin .add (.bin .fdiv (.idx (.var 0) (.kint 3)) (.kint 59)) (.bin .mul (.bin .mod (.blt "int" (.cons (.idx (.var 0) (.kint 3)) .nil)) (.kint 8053)) (.kint 47))) .nil)) (.var 1))) .nil))))))
def d__law_pull : Fn := ⟨2, 5, c__law_pull⟩
def c__law_pick : C :=
  (.cons (.ret (.idx (.var 1) (.call f__law_pull (.cons (.var 0) (.cons (.blt "len" (.cons (.var 1) .nil)) .nil))))) .nil)
def d__law_pick : Fn := ⟨2, 2, c__law_pick⟩
def c__law_words : C :=
  (.cons (.asg (.tn 2) (.kstr "abcdefghijklmnopqrstuvwxyz")) (.cons (.asg (.tn 3) (.mth "join" (.kstr "") (.cons (.lc (.call f__law_pick (.cons (.var 0) (.cons (.var 2) .nil))) (.tn 5) (.irng (.call f__law_pick (.cons (.var 0) (.cons (.lst (.cons (.kint 0) (.cons (.kint 1) (.cons (.kint 2) (.cons (.kint 5) .nil))))) .nil)))) .nil [5]) .nil))) (.cons (.par [6, 7] (.cons (.call f__law_pull (.cons (.var 0) (.cons (.bin .add (.blt "len" (.cons (.var 3) .nil)) (.kint 1)) .nil))) (.cons (.call f__law_pull (.cons (.var 0) (.cons (.kint 26) .nil))) .nil))) (.cons (.asg (.tn 4) (.lst .nil)) (.cons (.forr (.tn 5) (.irng (.var 1)) (.cons (.asg (.tn 8) (.idx (.var 2) (.bin .mod (.blt "int" (.cons (.bin .add (.var 7) (.bin .mul (.kint 7) (.var 5))) .nil)) (.kint 26)))) (.cons (.expr (.mth "append" (.var 4) (.cons (.bin .add (.bin .add (.sl (.var 3) .nil (.var 6)) (.var 8)) (.sl (.var 3) (.var 6) .nil)) .nil))) .nil))) (.cons (.ret (.var 4)) .nil))))))
def d__law_words : Fn := ⟨2, 9, c__law_words⟩
def c__law_kind : C :=
  (.cons (.asg (.tn 1) (.lst (.cons (.cmp .is (.var 0) .knon) (.cons (.blt "isinstance" (.cons (.var 0) (.cons (.kty "bool") .nil))) (.cons (.blt "isinstance" (.cons (.var 0) (.cons (.kty "int") .nil))) (.cons (.blt "isinstance" (.cons (.var 0) (.cons (.kty "str") .nil))) .nil)))))) (.cons (.asg (.tn 1) (.bin .add (.var 1) (.lst (.cons (.blt "isinstance" (.cons (.var 0) (.cons (.kty "list") .nil))) (.cons (.blt "isinstance" (.cons (.var 0) (.cons (.kty "tuple") .nil))) (.cons (.kbl true) .nil)))))) (.cons (.ret (.mth "index" (.var 1) (.cons (.kbl true) .nil))) .nil)))
def d__law_kind : Fn := ⟨1, 2, c__law_kind⟩
def c__law_same : C :=
  (.cons (.iff (.cmp .ne (.call f__law_kind (.cons (.var 0) .nil)) (.call f__law_kind (.cons (.var 1) .nil))) (.cons (.ret (.kbl false)) .nil) .nil) (.cons (.iff (.cmp .inn (.call f__law_kind (.cons (.var 1) .nil)) (.tup (.cons (.kint 4) (.cons (.kint 5) .nil)))) (.cons (.ret (.and_ (.cmp .eq (.blt "len" (.cons (.var 0) .nil)) (.blt "len" (.cons (.var 1) .nil))) (.blt "all" (.cons (.lc (.call f__law_same (.cons (.var 2) (.cons (.var 3) .nil))) (.tt (.cons (.tn 2) (.cons (.tn 3) .nil))) (.izip (.var 0) (.var 1)) .nil [2, 3]) .nil)))) .nil) .nil) (.cons (.ret (.cmp .eq (.var 0) (.var 1))) .nil)))
def d__law_same : Fn := ⟨2, 4, c__law_same⟩
def c__law_odd : C :=
  (.cons (.ret (.call f__law_pick (.cons (.var 0) (.cons (.bin .add (.lst (.cons .knon (.cons (.kbl true) (.cons (.kbl false) (.cons (.kstr "") (.cons (.kstr "A") (.cons (.neg (.kint 1)) (.cons (.tup (.cons (.kint 1) (.cons (.kstr "a") .nil))) (.cons (.lst (.cons (.kint 1) .nil)) (.cons (.tup .nil) (.cons (.lst (.cons (.kstr "a") .nil)) (.cons (.bin .pow (.kint 10) (.kint 17)) .nil)))))))))))) (.var 1)) .nil)))) .nil)
def d__law_odd : Fn := ⟨2, 2, c__law_odd⟩
def c__law_liquid_so : C :=
  (.cons (.par [4, 5, 6] (.cons (.call f__law_pull (.cons (.var 0) (.cons (.kint 10) .nil))) (.cons (.call f__law_pick (.cons (.var 0) (.cons (.lst (.cons (.kint 0) (.cons (.kint 1) (.cons (.bin .pow (.kint 10) (.kint 15)) (.cons (.call f__law_pull (.cons (.var 0) (.cons (.bin .pow (.kint 10) (.kint 15)) .nil))) .nil))))) .nil))) (.cons (.call f__law_pull (.cons (.var 0) (.cons (.kint 10) .nil))) .nil)))) (.cons (.asg (.tn 2) (.lst (.cons (.calld f_is_liquid (.cons (.tup (.cons (.var 4) (.cons (.var 5) .nil))) .nil) [(.int 9)]) (.cons (.callk f_is_liquid (.cons (.tup (.cons (.var 4) (.cons (.var 5) .nil))) .nil) [.p 0, .k 0] (.cons (.var 6) .nil)) .nil)))) (.cons (.iff (.not_ (.call f__law_same (.cons (.var 2) (.cons (.lst (.cons (.kbl true) (.cons (.cmp .le (.var 4) (.var 6)) .nil))) .nil)))) (.cons (.ret (.kbl false)) .nil) .nil) (.cons (.asg (.tn 3) (.lst (.cons (.lst (.cons (.var 4) (.cons (.var 5) .nil))) (.cons (.tup (.cons (.var 4) .nil)) (.cons (.tup (.cons (.var 4) (.cons (.var 5) (.cons (.kint 0) .nil)))) (.cons (.tup (.cons (.neg (.kint 1)) (.cons (.var 5) .nil))) (.cons (.tup (.cons (.kint 10) (.cons (.var 5) .nil))) (.cons (.tup (.cons (.var 4) (.cons (.neg (.kint 1)) .nil))) (.cons (.tup (.cons (.var 4) (.cons (.bin .add (.bin .pow (.kint 10) (.kint 15)) (.kint 1)) .nil))) .nil))))))))) (.cons (.asg (.tn 3) (.bin .add (.var 3) (.lst (.cons (.tup (.cons (.var 1) (.cons (.var 5) .nil))) (.cons (.tup (.cons (.var 4) (.cons (.var 1) .nil))) (.cons (.var 1) (.cons (.tup .nil) (.cons (.tup (.cons (.tup (.cons (.var 4) (.cons (.var 5) .nil))) .nil)) .nil)))))))) (.cons (.ret (.call f__law_same (.cons (.lc (.callk f_is_liquid .nil [.k 0, .d (.int 9)] (.cons (.var 7) .nil)) (.tn 7) (.var 3) .nil [7]) (.cons (.bin .mul (.lst (.cons (.kbl false) .nil)) (.blt "len" (.cons (.var 3) .nil))) .nil)))) .nil))))))
def d__law_liquid_so : Fn := ⟨2, 8, c__law_liquid_so⟩
def c_law : C :=
  (.cons (.asg (.tn 1) (.call f__law_start (.cons (.var 0) .nil))) (.cons (.forr (.tn 2) (.irng (.kint 6)) (.cons (.asg (.tn 3) (.idx (.call f__law_words (.cons (.var 1) (.cons (.kint 1) .nil))) (.kint 0))) (.cons (.par [9, 10] (.cons (.call f__law_pull (.cons (.var 1) (.cons (.bin .add (.blt "len" (.cons (.var 3) .nil)) (.kint 1)) .nil))) (.cons (.call f__law_pick (.cons (.var 1) (.cons (.lst (.cons (.kstr "A") (.cons (.kstr "1") (.cons (.kstr " ") (.cons (.kstr "_") (.cons (.kstr "-") (.cons (.kstr ".") (.cons (.kstr "z") (.cons (.kstr "aaaaaa") .nil))))))))) .nil))) .nil))) (.cons (.asg (.tn 4) (.bin .add (.bin .add (.sl (.var 3) .nil (.var 9)) (.var 10)) (.sl (.var 3) (.var 9) .nil))) (.cons (.asg (.tn 5) (.and_ (.cmp .eq (.var 10) (.kstr "z")) (.cmp .lt (.blt "len" (.cons (.var 4) .nil)) (.kint 7)))) (.cons (.asg (.tn 6) (.call f__law_odd (.cons (.var 1) (.cons (.lst (.cons (.tup (.cons (.var 3) .nil)) (.cons (.lst (.cons (.var 3) .nil)) (.cons (.mth "upper" (.var 3) .nil) .nil)))) .nil)))) (.cons (.iff (.not_ (.call f__law_same (.cons (.lst (.cons (.call f_is_name (.cons (.var 3) .nil)) (.cons (.callk f_is_name .nil [.k 0] (.cons (.var 4) .nil)) (.cons (.call f_is_name (.cons (.var 6) .nil)) .nil)))) (.cons (.lst (.cons (.kbl true) (.cons (.var 5) (.cons (.kbl false) .nil)))) .nil)))) (.cons (.ret (.kbl false)) .nil) .nil) (.cons (.par [11, 12] (.cons (.bin .sub (.call f__law_pull (.cons (.var 1) (.cons (.kint 9) .nil))) (.kint 4)) (.cons (.call f__law_pull (.cons (.var 1) (.cons (.kint 4) .nil))) .nil))) (.cons (.forr (.tn 7) (.lst (.cons (.bin .sub (.var 11) (.kint 1)) (.cons (.var 11) (.cons (.bin .add (.var 11) (.var 12)) (.cons (.bin .add (.bin .add (.var 11) (.var 12)) (.kint 1)) .nil))))) (.cons (.asg (.tn 13) (.chain .le .le (.var 11) (.var 7) (.bin .add (.var 11) (.var 12)))) (.cons (.iff (.not_ (.call f__law_same (.cons (.lst (.cons (.call f_is_number (.cons (.var 7) (.cons (.var 11) (.cons (.bin .add (.var 11) (.var 12)) .nil)))) (.cons (.callk f_is_number .nil [.k 2, .k 1, .k 0] (.cons (.bin .add (.var 11) (.var 12)) (.cons (.var 11) (.cons (.var 7) .nil)))) .nil))) (.cons (.lst (.cons (.var 13) (.cons (.var 13) .nil))) .nil)))) (.cons (.ret (.kbl false)) .nil) .nil) .nil))) (.cons (.asg (.tn 8) (.call f__law_pick (.cons (.var 1) (.cons (.lst (.cons .knon (.cons (.kbl true) (.cons (.kbl false) (.cons (.kstr "1") (.cons (.tup (.cons (.kint 1) .nil)) (.cons (.lst (.cons (.kint 1) .nil)) (.cons (.kstr "") .nil)))))))) .nil)))) (.cons (.iff (.not_ (.call f__law_same (.cons (.lst (.cons (.call f_is_number (.cons (.var 8) (.cons (.neg (.kint 9)) (.cons (.kint 9) .nil)))) (.cons (.call f_is_number (.cons (.var 11) (.cons (.var 11) (.cons (.var 11) .nil)))) .nil))) (.cons (.lst (.cons (.kbl false) (.cons (.kbl true) .nil))) .nil)))) (.cons (.ret (.kbl false)) .nil) .nil) (.cons (.iff (.not_ (.call f__law_liquid_so (.cons (.var 1) (.cons (.var 8) .nil)))) (.cons (.ret (.kbl false)) .nil) .nil) .nil)))))))))))) (.cons (.ret (.and_ (.calld f_is_liquid (.cons (.tup (.cons (.kint 9) (.cons (.bin .pow (.kint 10) (.kint 15)) .nil))) .nil) [(.int 9)]) (.callk f_is_liquid (.cons (.tup (.cons (.kint 0) (.cons (.kint 0) .nil))) .nil) [.p 0, .k 0] (.cons (.kint 0) .nil)))) .nil)))
def d_law : Fn := ⟨1, 14, c_law⟩
def fnTab : List Fn := ([d_is_number, d_is_name, d_is_liquid, d__law_start, d__law_pull, d__law_pick, d__law_words, d__law_kind, d__law_same, d__law_odd, d__law_liquid_so, d_law] : List Fn)
def kvTab : List (Str × Val) := ([("MOST_NUMBER", .int 1000000000000000), ("LETTERS", .str "abcdefghijklmnopqrstuvwxyz")] : List (Str × Val))
def TT : Tab := ⟨fun f => fnTab[f]?, fun x => kvTab.lookup x⟩
theorem fn_is_number : TT.fn f_is_number = some d_is_number := rfl
theorem r_is_number (n : Nat) (v0 : Val) (v1 : Val) (v2 : Val) (S : Store) : TT.run (n + 1) f_is_number [v0, v1, v2] S = endR (evSs ⟨TT.run n, TT.kv⟩ c_is_number [some v0, some v1, some v2] S) := by
  show (match TT.fn f_is_number with | some d => if [v0, v1, v2].length = d.ar then endR (evSs ⟨TT.run n, TT.kv⟩ d.body (startR d.slots [v0, v1, v2]) S) else .no | none => .no) = _
  rw [fn_is_number]
  rfl
theorem fn_is_name : TT.fn f_is_name = some d_is_name := rfl
theorem r_is_name (n : Nat) (v0 : Val) (S : Store) : TT.run (n + 1) f_is_name [v0] S = endR (evSs ⟨TT.run n, TT.kv⟩ c_is_name [some v0, none] S) := by
  show (match TT.fn f_is_name with | some d => if [v0].length = d.ar then endR (evSs ⟨TT.run n, TT.kv⟩ d.body (startR d.slots [v0]) S) else .no | none => .no) = _
  rw [fn_is_name]
  rfl
theorem fn_is_liquid : TT.fn f_is_liquid = some d_is_liquid := rfl
theorem r_is_liquid (n : Nat) (v0 : Val) (v1 : Val) (S : Store) : TT.run (n + 1) f_is_liquid [v0, v1] S = endR (evSs ⟨TT.run n, TT.kv⟩ c_is_liquid [some v0, some v1] S) := by
  show (match TT.fn f_is_liquid with | some d => if [v0, v1].length = d.ar then endR (evSs ⟨TT.run n, TT.kv⟩ d.body (startR d.slots [v0, v1]) S) else .no | none => .no) = _
  rw [fn_is_liquid]
  rfl
theorem fn__law_start : TT.fn f__law_start = some d__law_start := rfl
theorem r__law_start (n : Nat) (v0 : Val) (S : Store) : TT.run (n + 1) f__law_start [v0] S = endR (evSs ⟨TT.run n, TT.kv⟩ c__law_start [some v0] S) := by
  show (match TT.fn f__law_start with | some d => if [v0].length = d.ar then endR (evSs ⟨TT.run n, TT.kv⟩ d.body (startR d.slots [v0]) S) else .no | none => .no) = _
  rw [fn__law_start]
  rfl
theorem fn__law_pull : TT.fn f__law_pull = some d__law_pull := rfl
theorem r__law_pull (n : Nat) (v0 : Val) (v1 : Val) (S : Store) : TT.run (n + 1) f__law_pull [v0, v1] S = endR (evSs ⟨TT.run n, TT.kv⟩ c__law_pull [some v0, some v1, none, none, none] S) := by
  show (match TT.fn f__law_pull with | some d => if [v0, v1].length = d.ar then endR (evSs ⟨TT.run n, TT.kv⟩ d.body (startR d.slots [v0, v1]) S) else .no | none => .no) = _
  rw [fn__law_pull]
  rfl
theorem fn__law_pick : TT.fn f__law_pick = some d__law_pick := rfl
theorem r__law_pick (n : Nat) (v0 : Val) (v1 : Val) (S : Store) : TT.run (n + 1) f__law_pick [v0, v1] S = endR (evSs ⟨TT.run n, TT.kv⟩ c__law_pick [some v0, some v1] S) := by
  show (match TT.fn f__law_pick with | some d => if [v0, v1].length = d.ar then endR (evSs ⟨TT.run n, TT.kv⟩ d.body (startR d.slots [v0, v1]) S) else .no | none => .no) = _
  rw [fn__law_pick]
  rfl
theorem fn__law_words : TT.fn f__law_words = some d__law_words := rfl
theorem r__law_words (n : Nat) (v0 : Val) (v1 : Val) (S : Store) : TT.run (n + 1) f__law_words [v0, v1] S = endR (evSs ⟨TT.run n, TT.kv⟩ c__law_words [some v0, some v1, none, none, none, none, none, none, none] S) := by
  show (match TT.fn f__law_words with | some d => if [v0, v1].length = d.ar then endR (evSs ⟨TT.run n, TT.kv⟩ d.body (startR d.slots [v0, v1]) S) else .no | none => .no) = _
  rw [fn__law_words]
  rfl
theorem fn__law_kind : TT.fn f__law_kind = some d__law_kind := rfl
theorem r__law_kind (n : Nat) (v0 : Val) (S : Store) : TT.run (n + 1) f__law_kind [v0] S = endR (evSs ⟨TT.run n, TT.kv⟩ c__law_kind [some v0, none] S) := by
  show (match TT.fn f__law_kind with | some d => if [v0].length = d.ar then endR (evSs ⟨TT.run n, TT.kv⟩ d.body (startR d.slots [v0]) S) else .no | none => .no) = _
  rw [fn__law_kind]
  rfl
theorem fn__law_same : TT.fn f__law_same = some d__law_same := rfl
theorem r__law_same (n : Nat) (v0 : Val) (v1 : Val) (S : Store) : TT.run (n + 1) f__law_same [v0, v1] S = endR (evSs ⟨TT.run n, TT.kv⟩ c__law_same [some v0, some v1, none, none] S) := by
  show (match TT.fn f__law_same with | some d => if [v0, v1].length = d.ar then endR (evSs ⟨TT.run n, TT.kv⟩ d.body (startR d.slots [v0, v1]) S) else .no | none => .no) = _
  rw [fn__law_same]
  rfl
theorem fn__law_odd : TT.fn f__law_odd = some d__law_odd := rfl
theorem r__law_odd (n : Nat) (v0 : Val) (v1 : Val) (S : Store) : TT.run (n + 1) f__law_odd [v0, v1] S = endR (evSs ⟨TT.run n, TT.kv⟩ c__law_odd [some v0, some v1] S) := by
  show (match TT.fn f__law_odd with | some d => if [v0, v1].length = d.ar then endR (evSs ⟨TT.run n, TT.kv⟩ d.body (startR d.slots [v0, v1]) S) else .no | none => .no) = _
  rw [fn__law_odd]
  rfl
theorem fn__law_liquid_so : TT.fn f__law_liquid_so = some d__law_liquid_so := rfl
theorem r__law_liquid_so (n : Nat) (v0 : Val) (v1 : Val) (S : Store) : TT.run (n + 1) f__law_liquid_so [v0, v1] S = endR (evSs ⟨TT.run n, TT.kv⟩ c__law_liquid_so [some v0, some v1, none, none, none, none, none, none] S) := by
  show (match TT.fn f__law_liquid_so with | some d => if [v0, v1].length = d.ar then endR (evSs ⟨TT.run n, TT.kv⟩ d.body (startR d.slots [v0, v1]) S) else .no | none => .no) = _
  rw [fn__law_liquid_so]
  rfl
theorem fn_law : TT.fn f_law = some d_law := rfl
theorem r_law (n : Nat) (v0 : Val) (S : Store) : TT.run (n + 1) f_law [v0] S = endR (evSs ⟨TT.run n, TT.kv⟩ c_law [some v0, none, none, none, none, none, none, none, none, none, none, none, none, none] S) := by
  show (match TT.fn f_law with | some d => if [v0].length = d.ar then endR (evSs ⟨TT.run n, TT.kv⟩ d.body (startR d.slots [v0]) S) else .no | none => .no) = _
  rw [fn_law]
  rfl
theorem kv_MOST_NUMBER : TT.kv "MOST_NUMBER" = some (.int 1000000000000000) := rfl
theorem kv_LETTERS : TT.kv "LETTERS" = some (.str "abcdefghijklmnopqrstuvwxyz") := rfl
end Lv

/-! LAW_k02: what the law's text computes is True. -/
namespace Lv
open PySem (Str PyData)
local macro_rules | `(tactic| walk_at "ev") => `(tactic| try simp only [evS, evT, evE, evEs, evO, evG, evGs, evF, Out.bind_ok, Out.bind_no, lift_ok, Out.Ok_ok, Out.Ok_bind, Out.Ok_lift, SO.Ok_nx, SO.Ok_rt, SO.Ok_bk, SO.Ok_ct, thn_nx, thn_rt, thn_bk, thn_ct, endQ_nx, endQ_rt, Ok_ss0, ofO_some, List.getElem?_cons_zero, List.getElem?_cons_succ, List.set_cons_zero, List.set_cons_succ, Option.map_some, Option.bind_some, List.length_cons, List.length_nil, ix51, ix52, ix53, ix54, Nat.zero_add, Nat.reduceAdd, cmp_eq_int, cmp_ne_int, cmp_lt_int, cmp_le_int, cmp_gt_int, cmp_ge_int, tru_bl, add_int, sub_int, mul_intR, mod_int, fdiv_int, pow10_18, int_int, int_bl, len_ref, len_tup, len_fz, idx_ref, idx_tup, at0, at1, at2, at3, at4, Int.reduceNeg, Int.reduceLT, Int.reduceLE, decide_true, decide_false, eq_self, sq_set, sq_ne, List.set_set, isin, mapO, Src.get, List.cons_append, List.nil_append, pow10_17, pow10_15, Int.reduceEq, ca0, ca1, ca2, ca3, ca4, ca5, ca6, ca7, ca8, ca9, ca10, ca11, ca12, List.foldl_cons, List.foldl_nil, List.zip_cons_cons, List.zip_nil_left, List.zip_nil_right, Int.toNat_natCast, wipe, List.foldr_cons, List.foldr_nil, szw_le, if_true, Nat.reduceLeDiff, Bool.not_true, Bool.not_false, cmp_in, in45, tyN_non, tyN_bl, tyN_int, tyN_str, tyN_tup, tyN_ref, tyN_fz, ki_NoneType_bool, ki_NoneType_int, ki_NoneType_str, ki_NoneType_list, ki_NoneType_tuple, ki_bool_bool, ki_bool_int, ki_bool_str, ki_bool_list, ki_bool_tuple, ki_int_bool, ki_int_int, ki_int_str, ki_int_list, ki_int_tuple, ki_str_bool, ki_str_int, ki_str_str, ki_str_list, ki_str_tuple, ki_list_bool, ki_list_int, ki_list_str, ki_list_list, ki_list_tuple, ki_tuple_bool, ki_tuple_int, ki_tuple_str, ki_tuple_list, ki_tuple_tuple, *])
local macro_rules | `(tactic| walk_at "st") => `(tactic| ((try rw [Ok_ss]); walk_at "ev"))
theorem q_pull : TT.fn f__law_pull = some ⟨2, 5, cPull⟩ := rfl
theorem q_pick : TT.fn f__law_pick = some ⟨2, 2, cPick f__law_pull⟩ := rfl
theorem q_words : TT.fn f__law_words = some ⟨2, 9, cWords f__law_pick f__law_pull⟩ := rfl
theorem q_kind : TT.fn f__law_kind = some ⟨1, 2, cKind⟩ := rfl
theorem q_same : TT.fn f__law_same = some ⟨2, 4, cSame f__law_kind f__law_same⟩ := rfl
theorem q_odd : TT.fn f__law_odd = some ⟨2, 2, cOdd f__law_pick⟩ := rfl
theorem q_start : TT.fn f__law_start = some ⟨1, 1, cStart⟩ := rfl
theorem q_number : TT.fn f_is_number = some ⟨3, 3, cNumber⟩ := rfl
theorem q_name : TT.fn f_is_name = some ⟨1, 2, cName⟩ := rfl
theorem q_liquid : TT.fn f_is_liquid = some ⟨2, 2, cLiquid f_is_number⟩ := rfl
theorem q_so : TT.fn f__law_liquid_so = some ⟨2, 8, cLiquidSo f__law_pull f__law_pick f_is_liquid f__law_same⟩ := rfl

def cTA (ss : C) : C :=
  (.cons (.asg (.tn 3) (.idx (.call f__law_words (.cons (.var 1) (.cons (.kint 1) .nil))) (.kint 0))) (.cons (.par [9, 10] (.cons (.call f__law_pull (.cons (.var 1) (.cons (.bin .add (.blt "len" (.cons (.var 3) .nil)) (.kint 1)) .nil))) (.cons (.call f__law_pick (.cons (.var 1) (.cons (.lst (.cons (.kstr "A") (.cons (.kstr "1") (.cons (.kstr " ") (.cons (.kstr "_") (.cons (.kstr "-") (.cons (.kstr ".") (.cons (.kstr "z") (.cons (.kstr "aaaaaa") .nil))))))))) .nil))) .nil))) (.cons (.asg (.tn 4) (.bin .add (.bin .add (.sl (.var 3) .nil (.var 9)) (.var 10)) (.sl (.var 3) (.var 9) .nil))) (.cons (.asg (.tn 5) (.and_ (.cmp .eq (.var 10) (.kstr "z")) (.cmp .lt (.blt "len" (.cons (.var 4) .nil)) (.kint 7)))) (.cons (.asg (.tn 6) (.call f__law_odd (.cons (.var 1) (.cons (.lst (.cons (.tup (.cons (.var 3) .nil)) (.cons (.lst (.cons (.var 3) .nil)) (.cons (.mth "upper" (.var 3) .nil) .nil)))) .nil)))) (.cons (.iff (.not_ (.call f__law_same (.cons (.lst (.cons (.call f_is_name (.cons (.var 3) .nil)) (.cons (.callk f_is_name .nil [.k 0] (.cons (.var 4) .nil)) (.cons (.call f_is_name (.cons (.var 6) .nil)) .nil)))) (.cons (.lst (.cons (.kbl true) (.cons (.var 5) (.cons (.kbl false) .nil)))) .nil)))) (.cons (.ret (.kbl false)) .nil) .nil) ss))))))
def cTI : C :=
  (.cons (.asg (.tn 13) (.chain .le .le (.var 11) (.var 7) (.bin .add (.var 11) (.var 12)))) (.cons (.iff (.not_ (.call f__law_same (.cons (.lst (.cons (.call f_is_number (.cons (.var 7) (.cons (.var 11) (.cons (.bin .add (.var 11) (.var 12)) .nil)))) (.cons (.callk f_is_number .nil [.k 2, .k 1, .k 0] (.cons (.bin .add (.var 11) (.var 12)) (.cons (.var 11) (.cons (.var 7) .nil)))) .nil))) (.cons (.lst (.cons (.var 13) (.cons (.var 13) .nil))) .nil)))) (.cons (.ret (.kbl false)) .nil) .nil) .nil))
def cTB (ss : C) : C :=
  (.cons (.par [11, 12] (.cons (.bin .sub (.call f__law_pull (.cons (.var 1) (.cons (.kint 9) .nil))) (.kint 4)) (.cons (.call f__law_pull (.cons (.var 1) (.cons (.kint 4) .nil))) .nil))) (.cons (.forr (.tn 7) (.lst (.cons (.bin .sub (.var 11) (.kint 1)) (.cons (.var 11) (.cons (.bin .add (.var 11) (.var 12)) (.cons (.bin .add (.bin .add (.var 11) (.var 12)) (.kint 1)) .nil))))) cTI) ss))
def cTC : C :=
  (.cons (.asg (.tn 8) (.call f__law_pick (.cons (.var 1) (.cons (.lst (.cons .knon (.cons (.kbl true) (.cons (.kbl false) (.cons (.kstr "1") (.cons (.tup (.cons (.kint 1) .nil)) (.cons (.lst (.cons (.kint 1) .nil)) (.cons (.kstr "") .nil)))))))) .nil)))) (.cons (.iff (.not_ (.call f__law_same (.cons (.lst (.cons (.call f_is_number (.cons (.var 8) (.cons (.neg (.kint 9)) (.cons (.kint 9) .nil)))) (.cons (.call f_is_number (.cons (.var 11) (.cons (.var 11) (.cons (.var 11) .nil)))) .nil))) (.cons (.lst (.cons (.kbl false) (.cons (.kbl true) .nil))) .nil)))) (.cons (.ret (.kbl false)) .nil) .nil) (.cons (.iff (.not_ (.call f__law_liquid_so (.cons (.var 1) (.cons (.var 8) .nil)))) (.cons (.ret (.kbl false)) .nil) .nil) .nil)))
theorem law_code : c_law = (.cons (.asg (.tn 1) (.call f__law_start (.cons (.var 0) .nil))) (.cons (.forr (.tn 2) (.irng (.kint 6)) (cTA (cTB cTC))) (.cons (.ret (.and_ (.calld f_is_liquid (.cons (.tup (.cons (.kint 9) (.cons (.bin .pow (.kint 10) (.kint 15)) .nil))) .nil) [(.int 9)]) (.callk f_is_liquid (.cons (.tup (.cons (.kint 0) (.cons (.kint 0) .nil))) .nil) [.p 0, .k 0] (.cons (.kint 0) .nil)))) .nil))) := rfl
abbrev gg : Cfg := ⟨TT.run 39, TT.kv⟩
theorem sg_of {w : Val} (hw : w ∈ [Val.str "A", .str "1", .str " ", .str "_", .str "-", .str ".", .str "z", .str "aaaaaa"]) : ∃ sg, w = .str (SX.S sg) ∧ Sg sg := by
  have one : ∀ c : Nat, c < 128 → c ∉ LET → Sg [c] := fun c h1 h2 => ⟨by simp, fun d hd => by rw [List.mem_singleton.mp hd]; exact h1, fun _ => .inl ⟨c, by simp, h2⟩⟩
  simp only [List.mem_cons, List.not_mem_nil, or_false] at hw
  rcases hw with rfl | rfl | rfl | rfl | rfl | rfl | rfl | rfl
  · exact ⟨_, congrArg Val.str s_A, one 65 (by omega) (by rw [mem_LET]; omega)⟩
  · exact ⟨_, congrArg Val.str s_1, one 49 (by omega) (by rw [mem_LET]; omega)⟩
  · exact ⟨_, congrArg Val.str s_sp, one 32 (by omega) (by rw [mem_LET]; omega)⟩
  · exact ⟨_, congrArg Val.str s_us, one 95 (by omega) (by rw [mem_LET]; omega)⟩
  · exact ⟨_, congrArg Val.str s_mi, one 45 (by omega) (by rw [mem_LET]; omega)⟩
  · exact ⟨_, congrArg Val.str s_do, one 46 (by omega) (by rw [mem_LET]; omega)⟩
  · exact ⟨_, congrArg Val.str s_z, ⟨by simp, fun d hd => by rw [List.mem_singleton.mp hd]; omega, fun h => absurd rfl h⟩⟩
  · exact ⟨_, congrArg Val.str s_a6, ⟨by simp, fun d hd => by simp at hd; omega, fun _ => .inr (by simp)⟩⟩
theorem turnA {S : Store} {b : Nat} {v0 : Val} {x2 x3 x4 x5 x6 x7 x8 x9 x10 x11 x12 x13 : Option Val} {ss : C} {Q : SO → Prop} (hb : Bg [b] b S)
    (h : ∀ y3 y4 y5 y6 y9 y10 S', Bg [b] b S' → (evSs gg ss [some v0, some (.ref b), x2, y3, y4, y5, y6, x7, x8, y9, y10, x11, x12, x13] S').Ok Q) :
    (evSs gg (cTA ss) [some v0, some (.ref b), x2, x3, x4, x5, x6, x7, x8, x9, x10, x11, x12, x13] S).Ok Q := by
  unfold cTA
  walk_at "st"
  refine (words_ok (n := 36) (count := 1) q_words q_pick q_pull hb (by omega)).imp fun r S1 ⟨k1, stem, a, first, e, h1, h2, h3, h4, h5, h6, f1, b1⟩ => ?_
  subst e
  have e1 := sq_of h5
  have hw := wd_wd (first := first) (i := 0) h1 h2 h3
  have e2 : idxV S1 (.ref k1) (.int 0) = some (.str (SX.S (wd stem a first 0))) := by
    rw [idx_ref, e1]
    rfl
  generalize wd stem a first 0 = w at e2 hw
  clear h1 h2 h3 h4 h5 h6 e1
  walk_at "ev"
  walk_at "st"
  have w6 := hw.six
  have l1 := fun S => len_S S w (Nat.le_trans w6 (show 6 ≤ SZ by decide))
  walk_at "ev"
  refine (pull_fr (n := 38) q_pull b1 (by omega) (by omega)).imp fun r S2 ⟨at_, e, a0, a1, f2, b2⟩ => ?_
  subst e
  obtain ⟨c, rfl⟩ := Int.eq_ofNat_of_zero_le a0
  walk_at "ev"
  refine newL_ok (show 8 ≤ SZ by decide) fun k2 S3 g1 g2 g3 g4 g5 => ?_
  refine (pick_lst (n := 37) q_pull q_pick (b2.fr g3) g1 (by have := b2.lt; omega) (by simp) (by simp)).imp fun r S4 ⟨hr, f4, b4⟩ => ?_
  obtain ⟨sg, rfl, hsg⟩ := sg_of hr
  clear e2 g1 g2 hr a0
  have hc : c ≤ w.length := by omega
  have q1 := fun S => sl_lo S w c hc (Nat.le_trans w6 (show 6 ≤ SZ by decide))
  have q2 := fun S => sl_hi S w c hc (Nat.le_trans w6 (show 6 ≤ SZ by decide))
  have q3 := fun S => add_S S (w.take c) sg (Nat.le_trans (by rw [List.length_take]; have := hsg.len; show _ ≤ 100; omega) (show 100 ≤ SZ by decide))
  have q4 := fun S => add_S S (w.take c ++ sg) (w.drop c) (Nat.le_trans (by rw [List.length_append, List.length_take, List.length_drop]; have := hsg.len; show _ ≤ 100; omega) (show 100 ≤ SZ by decide))
  have hbl : (bent w c sg).length = w.length + sg.length := by
    simp [bent]
    omega
  have hbn := bent_name hw hc hsg
  have q5 := fun S => len_S S (bent w c sg) (Nat.le_trans (by rw [hbl]; have := hsg.len; show _ ≤ 100; omega) (show 100 ≤ SZ by decide))
  have q6 := fun S => eqs_S S sg [122] (fun d hd => by have := hsg.small d hd; omega) (by simp)
  rw [← s_z] at q6
  walk_at "st"
  have hbe : w.take c ++ sg ++ w.drop c = bent w c sg := rfl
  rw [hbe]
  clear q1 q2 q3 q4 hbe
  have hb7 : (bent w c sg).length ≤ 12 := by rw [hbl]; have := hsg.len; omega
  clear hbl
  rw [Ok_ss]
  walk_at "ev"
  have hgo : ∀ (P : Val → Store → Prop), P (.bl (nameL (bent w c sg))) S4 → Out.Ok (match some (decide (sg = [122])) with
      | some true => Out.ok (Val.bl (decide (((bent w c sg).length : Int) < 7))) S4
      | some false => Out.ok (Val.bl (decide (sg = [122]))) S4
      | none => Out.no) P := by
    intro P hP
    rw [hbn] at hP
    cases e : decide (sg = [122]) with
    | true =>
      rw [e, Bool.true_and] at hP
      show P (Val.bl (decide (((bent w c sg).length : Int) < 7))) S4
      have : decide (((bent w c sg).length : Int) < 7) = decide ((bent w c sg).length < 7) := by
        congr 1
        apply propext
        constructor <;> intro h <;> omega
      rw [this]
      exact hP
    | false =>
      rw [e, Bool.false_and] at hP
      exact hP
  refine hgo _ ?_
  clear hgo q6 l1 q5
  generalize hN : nameL (bent w c sg) = N
  have cb : ∀ d ∈ bent w c sg, d < 128 := by
    intro d hd
    simp only [bent, List.mem_append] at hd
    rcases hd with (hd | hd) | hd
    · exact hw.small d (List.mem_of_mem_take hd)
    · exact hsg.small d hd
    · exact hw.small d (List.mem_of_mem_drop hd)
  generalize bent w c sg = bt at hN hb7 cb
  clear hbn hsg
  have q7 := fun S => upper_ok (S := S) hw
  walk_at "st"
  refine newL_ok (show 1 ≤ SZ by decide) fun k3 S5 i1 i2 i3 i4 i5 => ?_
  walk_at "ev"
  refine newL_ok (show 3 ≤ SZ by decide) fun k4 S6 j1 j2 j3 j4 j5 => ?_
  have b6 := (b4.fr i3).fr j3
  have nb := b4.lt
  have n3 : k3 ∉ [b] := by simp; omega
  refine (odd_ok (n := 36) (es := [.tup [.str (SX.S w)], .lst [.str (SX.S w)], .str (SX.S (w.map PyProof.Rows.up1))]) q_odd q_pick q_pull b6 j1 (.cons (.tup (.cons (.str _) .nil)) (.cons (.lst (j3.get i1 (by simp)) n3 (.cons (.str _) .nil)) (.cons (.str _) .nil))) (by simp) (by simp; have := b6.lt; omega)).imp fun od S7 ⟨⟨d, hd, od1⟩, f7, b7⟩ => ?_
  have hod : nameB d = false ∧ ∀ x, d = .str x → x.length < SZ := by
    simp only [oddD, List.cons_append, List.nil_append, List.mem_cons, List.not_mem_nil, or_false] at hd
    rcases hd with rfl | rfl | rfl | rfl | rfl | rfl | rfl | rfl | rfl | rfl | rfl | rfl | rfl | rfl
    · exact ⟨rfl, fun x h => nomatch h⟩
    · exact ⟨rfl, fun x h => nomatch h⟩
    · exact ⟨rfl, fun x h => nomatch h⟩
    · refine ⟨?_, fun x h => ?_⟩
      · rw [s_e]
        show nameL (signs (SX.S [])) = false
        rw [sig_S]
        rfl
      · cases h
        rw [s_e, SX.S_len]
        decide
    · refine ⟨?_, fun x h => ?_⟩
      · rw [s_A]
        show nameL (signs (SX.S [65])) = false
        rw [sig_S]
        decide
      · cases h
        rw [s_A, SX.S_len]
        decide
    · exact ⟨rfl, fun x h => nomatch h⟩
    · exact ⟨rfl, fun x h => nomatch h⟩
    · exact ⟨rfl, fun x h => nomatch h⟩
    · exact ⟨rfl, fun x h => nomatch h⟩
    · exact ⟨rfl, fun x h => nomatch h⟩
    · exact ⟨rfl, fun x h => nomatch h⟩
    · exact ⟨rfl, fun x h => nomatch h⟩
    · exact ⟨rfl, fun x h => nomatch h⟩
    · refine ⟨?_, fun x h => ?_⟩
      · show nameL (signs (SX.S (w.map PyProof.Rows.up1))) = false
        rw [sig_S]
        exact up_bad hw
      · cases h
        rw [SX.S_len, List.length_map]
        exact Nat.lt_of_le_of_lt w6 (show 6 < SZ by decide)
  clear i1 i2 j1 j2 hd q7
  have hwn := hw.name
  walk_at "ev"
  walk_at "st"
  refine (name_ok (n := 38) (M := [b]) (d := .str (SX.S w)) q_name rfl (.str _) (fun x h => by cases h; rw [SX.S_len]; exact Nat.lt_of_le_of_lt w6 (show 6 < SZ by decide))).imp fun r S8 ⟨e, f8⟩ => ?_
  have e1 : nameB (.str (SX.S w)) = true := by
    show nameL (signs (SX.S w)) = true
    rw [sig_S]
    exact hwn
  rw [e1] at e
  subst e
  refine (name_ok (n := 38) (M := [b]) (d := .str (SX.S bt)) q_name rfl (.str _) (fun x h => by cases h; rw [SX.S_len]; exact Nat.lt_of_le_of_lt hb7 (show 12 < SZ by decide))).imp fun r S9 ⟨e, f9⟩ => ?_
  have e2 : nameB (.str (SX.S bt)) = N := by
    show nameL (signs (SX.S bt)) = N
    rw [sig_S]
    exact hN
  rw [e2] at e
  subst e
  refine (name_ok (n := 38) (d := d) q_name rfl (od1.fr ((f8.trans f9).mono (by simp))) hod.2).imp fun r S10 ⟨e, f10⟩ => ?_
  rw [hod.1] at e
  subst e
  have b10 := ((b7.fr f8).fr f9).fr f10
  refine newL_ok (show 3 ≤ SZ by decide) fun k5 S11 g1 _ g3 g4 g5 => ?_
  refine newL_ok (show 3 ≤ SZ by decide) fun k6 S12 h1 _ h3 h4 h5 => ?_
  have b12 := (b10.fr g3).fr h3
  have m5 : k5 ∉ [b] := by have := b10.lt; simp; omega
  have m6 : k6 ∉ [b] := by have := b10.lt; have := g3.len; simp; omega
  have cc : ∀ k, S12[k]? = some (.lst [.bl true, .bl N, .bl false]) → k ∉ [b] → Con [b] S12 (.ref k) (.lst [.bl true, .bl N, .bl false]) := fun k h1 h2 => .lst h1 h2 (.cons (.bl _) (.cons (.bl _) (.cons (.bl _) .nil)))
  refine (same_ok q_kind q_same 1 36 (d := .lst [.bl true, .bl N, .bl false]) ⟨show 3 < SZ by decide, fun d hd => by
    simp only [List.mem_cons, List.not_mem_nil, or_false] at hd
    rcases hd with rfl | rfl | rfl <;> trivial⟩ (cc k5 (h3.get g1 (by simp)) m5) (cc k6 h1 m6)).imp fun r S13 ⟨e, f13⟩ => ?_
  subst e
  have hfin := h (some (.str (SX.S w))) (some (.str (SX.S bt))) (some (.bl N)) (some od) (some (.int c)) (some (.str (SX.S sg))) S13 (b12.fr f13)
  clear h
  walk_at "ev"
  first | exact hfin | (rw [e2]; exact hfin)
theorem turnI {S : Store} {b : Nat} {v0 : Val} {lo wi nu : Int} {x2 x3 x4 x5 x6 x8 x9 x10 x13 : Option Val} (hb : Bg [b] b S) :
    (evSs gg cTI [some v0, some (.ref b), x2, x3, x4, x5, x6, some (.int nu), x8, x9, x10, some (.int lo), some (.int wi), x13] S).Ok fun o => ∃ y13 S',
      o = .nx [some v0, some (.ref b), x2, x3, x4, x5, x6, some (.int nu), x8, x9, x10, some (.int lo), some (.int wi), y13] S' ∧ Fr [] S S' := by
  have key : ∀ (B : Bool), numB lo (lo + wi) (.int nu) = B → (evSs gg cTI [some v0, some (.ref b), x2, x3, x4, x5, x6, some (.int nu), x8, x9, x10, some (.int lo), some (.int wi), x13] S).Ok fun o => ∃ y13 S',
      o = .nx [some v0, some (.ref b), x2, x3, x4, x5, x6, some (.int nu), x8, x9, x10, some (.int lo), some (.int wi), y13] S' ∧ Fr [] S S' := by
    intro B hB
    have e1 := fun S => number_ok (S := S) (M := [b]) (n := 38) (lo := lo) (hi := lo + wi) q_number (Con.int nu)
    rw [hB] at e1
    have hgo : ∀ (P : Val → Store → Prop), P (.bl B) S → Out.Ok (match some (decide (lo ≤ nu)) with
        | some true => Out.ok (Val.bl (decide (nu ≤ lo + wi))) S
        | some false => Out.ok (Val.bl false) S
        | none => Out.no) P := by
      intro P hP
      rw [← hB] at hP
      have hP : P (.bl (decide (lo ≤ nu) && decide (nu ≤ lo + wi))) S := hP
      cases e : decide (lo ≤ nu) with
      | true =>
        rw [e, Bool.true_and] at hP
        exact hP
      | false =>
        rw [e, Bool.false_and] at hP
        exact hP
    unfold cTI
    walk_at "st"
    refine hgo _ ?_
    clear hgo
    walk_at "st"
    refine newL_ok (show 2 ≤ SZ by decide) fun k5 S11 g1 _ g3 g4 g5 => ?_
    refine newL_ok (show 2 ≤ SZ by decide) fun k6 S12 h1 _ h3 h4 h5 => ?_
    have m5 : k5 ∉ [b] := by have := hb.lt; simp; omega
    have m6 : k6 ∉ [b] := by have := hb.lt; have := g3.len; simp; omega
    have cc : ∀ k, S12[k]? = some (.lst [.bl B, .bl B]) → k ∉ [b] → Con [b] S12 (.ref k) (.lst [.bl B, .bl B]) := fun k h1 h2 => .lst h1 h2 (.cons (.bl _) (.cons (.bl _) .nil))
    refine (same_ok q_kind q_same 1 36 (d := .lst [.bl B, .bl B]) ⟨show 2 < SZ by decide, fun d hd => by
      simp only [List.mem_cons, List.not_mem_nil, or_false] at hd
      rcases hd with rfl | rfl <;> trivial⟩ (cc k5 (h3.get g1 (by simp)) m5) (cc k6 h1 m6)).imp fun r S13 ⟨e, f13⟩ => ?_
    subst e
    clear e1
    walk_at "ev"
    exact ⟨_, _, rfl, (g3.trans h3).trans f13⟩
  exact key _ rfl
theorem evI_lst (g : Cfg) (es : C) (r : Rho) (S : Store) : evI g (.lst es) r S = (evE g (.lst es) r S).bind fun v S1 => match v with
    | .ref k => .ok (.live k) S1
    | .tup vs => .ok (.its vs) S1
    | .str x => .ok (.its ((signs x).map fun c => .str (sign c))) S1
    | _ => .no := by
  rw [evI] <;> first | rfl | (intros; contradiction)
theorem ok_for0 {g : Cfg} {tg it body : C} {r : Rho} {S : Store} {Q : SO → Prop} (h : (evI g it r S).Ok fun j S1 => (forN j (fun v r S => lift (evG g tg v r S) fun r1 S1 => evSs g body r1 S1) TURNS 0 r S1).Ok Q) : (evS g (.forr tg it body) r S).Ok Q := by
  rw [evS, Out.Ok_lift]
  exact h
theorem for_run {r : Rho} {S : Store} {Q : SO → Prop} {j : Itr} {body : Val → Rho → Store → SO} (vs : List Val) (I : Nat → Rho → Store → Prop) (hl : vs.length < SZ)
    (hit : ∀ i r S, I i r S → j.at_ S i = some vs[i]?) (h0 : I 0 r S)
    (hb : ∀ i r S v, vs[i]? = some v → I i r S → (body v r S).Ok fun o => match o with
      | .nx r' S' => I (i + 1) r' S'
      | .ct r' S' => I (i + 1) r' S'
      | .bk r' S' => Q (.nx r' S')
      | .rt w S' => Q (.rt w S')
      | .no => False)
    (hend : ∀ r S, I vs.length r S → Q (.nx r S)) : (forN j body TURNS 0 r S).Ok Q := by
  have hz : SZ = 16777216 := rfl
  have ht : TURNS = 20000000 := rfl
  exact forN_ok I hit hb hend TURNS 0 r S (by omega) (Nat.zero_le _) h0
theorem turnB {S : Store} {b : Nat} {v0 : Val} {x2 x3 x4 x5 x6 x7 x8 x9 x10 x11 x12 x13 : Option Val} {ss : C} {Q : SO → Prop} (hb : Bg [b] b S)
    (h : ∀ y7 y13 lo wi S', Bg [b] b S' → (evSs gg ss [some v0, some (.ref b), x2, x3, x4, x5, x6, y7, x8, x9, x10, some (.int lo), some (.int wi), y13] S').Ok Q) :
    (evSs gg (cTB ss) [some v0, some (.ref b), x2, x3, x4, x5, x6, x7, x8, x9, x10, x11, x12, x13] S).Ok Q := by
  unfold cTB
  walk_at "st"
  refine (pull_fr (n := 38) q_pull hb (by omega) (by omega)).imp fun r S1 ⟨p, e, _, _, f1, b1⟩ => ?_
  subst e
  walk_at "ev"
  refine (pull_fr (n := 38) q_pull b1 (by omega) (by omega)).imp fun r S2 ⟨wi, e, _, _, f2, b2⟩ => ?_
  subst e
  walk_at "ev"
  generalize p - 4 = lo
  rw [Ok_ss]
  refine ok_for0 ?_
  rw [evI_lst]
  walk_at "ev"
  refine newL_ok (show 4 ≤ SZ by decide) fun k S3 g1 g2 g3 g4 g5 => ?_
  have b3 := b2.fr g3
  simp only [Out.Ok_ok]
  refine for_run [.int (lo - 1), .int lo, .int (lo + wi), .int (lo + wi + 1)] (fun i r S' => (∃ y7 y13, r = [some v0, some (.ref b), x2, x3, x4, x5, x6, y7, x8, x9, x10, some (.int lo), some (.int wi), y13]) ∧ Fr [] S3 S') (show 4 < SZ by decide) (fun i r S' hI => ?_) ⟨⟨_, _, rfl⟩, .rfl' _⟩ (fun i r S' v hv hI => ?_) (fun r S' hI => ?_)
  · show (seqAt S' k).map (fun vs => vs[i]?) = _
    rw [sq_fr g2 hI.2]
    rfl
  · obtain ⟨⟨y7, y13, rfl⟩, f⟩ := hI
    have hv2 : ∃ nu, v = .int nu := by
      have := List.mem_of_getElem? hv
      simp only [List.mem_cons, List.not_mem_nil, or_false] at this
      rcases this with rfl | rfl | rfl | rfl <;> exact ⟨_, rfl⟩
    obtain ⟨nu, rfl⟩ := hv2
    refine (turnI (lo := lo) (wi := wi) (nu := nu) (x13 := y13) (b3.fr f)).imp fun o ⟨y, S4, e, f4⟩ => ?_
    subst e
    exact ⟨⟨_, _, rfl⟩, f.trans f4⟩
  · obtain ⟨⟨y7, y13, rfl⟩, f⟩ := hI
    exact h y7 y13 lo wi S' (b3.fr f)
theorem turnC {S : Store} {b : Nat} {v0 : Val} {lo wi : Int} {x2 x3 x4 x5 x6 x7 x8 x9 x10 x13 : Option Val} (hb : Bg [b] b S) :
    (evSs gg cTC [some v0, some (.ref b), x2, x3, x4, x5, x6, x7, x8, x9, x10, some (.int lo), some (.int wi), x13] S).Ok fun o => ∃ y8 S', o = .nx [some v0, some (.ref b), x2, x3, x4, x5, x6, x7, y8, x9, x10, some (.int lo), some (.int wi), x13] S' ∧ Bg [b] b S' := by
  unfold cTC
  walk_at "st"
  refine newL_ok (show 1 ≤ SZ by decide) fun k1 S1 g1 _ g3 g4 g5 => ?_
  walk_at "ev"
  refine newL_ok (show 7 ≤ SZ by decide) fun k2 S2 i1 _ i3 i4 i5 => ?_
  have F2 := g3.trans i3
  have n1 : k1 ∉ [b] := by have := hb.lt; simp; omega
  have n2 : k2 ≠ b := by have := hb.lt; have := g3.len; omega
  refine (pick_con (n := 37) (ds := strD) q_pull q_pick (hb.fr F2) i1 n2 (by simp [strD]) (by simp [strD]) (.cons .non (.cons (.bl _) (.cons (.bl _) (.cons (.str _) (.cons (.tup (.cons (.int _) .nil)) (.cons (.lst (i3.get g1 (by simp)) n1 (.cons (.int _) .nil)) (.cons (.str _) .nil)))))))).imp fun st S3 ⟨⟨d, hd, c3⟩, f3, b3⟩ => ?_
  have e1 := fun S (c : Con [b] S st d) => number_ok (S := S) (n := 38) (lo := -9) (hi := 9) q_number c
  have x1 : numB (-9) 9 d = false := by
    simp only [strD, List.mem_cons, List.not_mem_nil, or_false] at hd
    rcases hd with rfl | rfl | rfl | rfl | rfl | rfl | rfl <;> rfl
  rw [x1] at e1
  have e1 := e1 S3 c3
  have e2 := fun S => number_ok (S := S) (M := [b]) (n := 38) (lo := lo) (hi := lo) q_number (Con.int lo)
  have x2' : numB lo lo (.int lo) = true := by simp [numB]
  rw [x2'] at e2
  have e2 := e2 S3
  clear g1 i1
  walk_at "st"
  refine newL_ok (show 2 ≤ SZ by decide) fun k5 S11 g1 _ g3 g4 g5 => ?_
  refine newL_ok (show 2 ≤ SZ by decide) fun k6 S12 h1 _ h3 h4 h5 => ?_
  have m5 : k5 ∉ [b] := by have := b3.lt; simp; omega
  have m6 : k6 ∉ [b] := by have := b3.lt; have := g3.len; simp; omega
  have cc : ∀ k, S12[k]? = some (.lst [.bl false, .bl true]) → k ∉ [b] → Con [b] S12 (.ref k) (.lst [.bl false, .bl true]) := fun k h1 h2 => .lst h1 h2 (.cons (.bl _) (.cons (.bl _) .nil))
  refine (same_ok q_kind q_same 1 36 (d := .lst [.bl false, .bl true]) ⟨show 2 < SZ by decide, fun d hd => by
    simp only [List.mem_cons, List.not_mem_nil, or_false] at hd
    rcases hd with rfl | rfl <;> trivial⟩ (cc k5 (h3.get g1 (by simp)) m5) (cc k6 h1 m6)).imp fun r S13 ⟨e, f13⟩ => ?_
  subst e
  have F := (g3.trans h3).trans f13
  have b13 := b3.fr F
  have c13 := c3.fr (F.mono (by simp))
  clear e1 e2 g1 h1 cc c3
  walk_at "ev"
  walk_at "st"
  refine (liquid_so_ok (n := 30) q_so q_pick q_pull q_liquid q_number rfl q_same q_kind b13 (by simp; exact b13.lt) c13 hd).imp fun r S14 ⟨e, _, b14⟩ => ?_
  subst e
  walk_at "ev"
  exact ⟨_, _, rfl, b14⟩
theorem law_true (ns : List Int) (hl : ns.length ≤ 63) : ∃ S', TT.run 40 f_law [.fz (ns.map .int)] [] = .ok (.bl true) S' := by
  have key : (TT.run 40 f_law [.fz (ns.map .int)] []).Ok fun v _ => v = .bl true := by
    apply ok_run (n := 39) fn_law rfl
    show (evSs gg c_law [some (.fz (ns.map .int)), none, none, none, none, none, none, none, none, none, none, none, none, none] []).Ok _
    rw [law_code]
    walk_at "st"
    refine (start_ok (n := 38) q_start hl).imp fun r S1 ⟨b, e, f1, b1⟩ => ?_
    subst e
    walk_at "ev"
    rw [Ok_ss]
    refine ok_for0 ?_
    rw [rng_ok (j := 6) (by rw [evE]; rfl) (by omega), Out.Ok_ok]
    refine for_run ((List.range 6).map fun (i : Nat) => .int (i : Int)) (fun i r S' => (∃ x2 x3 x4 x5 x6 x7 x8 x9 x10 x11 x12 x13, r = [some (.fz (ns.map .int)), some (.ref b), x2, x3, x4, x5, x6, x7, x8, x9, x10, x11, x12, x13]) ∧ Bg [b] b S') (show 6 < SZ by decide)
      (fun _ _ _ _ => rfl) ⟨⟨_, _, _, _, _, _, _, _, _, _, _, _, rfl⟩, b1⟩ (fun i r S' v hv hI => ?_) (fun r S' hI => ?_)
    · obtain ⟨⟨x2, x3, x4, x5, x6, x7, x8, x9, x10, x11, x12, x13, rfl⟩, b2⟩ := hI
      rw [Out.Ok_lift, evG, Out.Ok_ok]
      refine turnA b2 fun y3 y4 y5 y6 y9 y10 S2 b3 => ?_
      refine turnB b3 fun y7 y13 lo wi S3 b4 => ?_
      refine (turnC b4).imp fun o ⟨y8, S4, e, b5⟩ => ?_
      subst e
      exact ⟨⟨_, _, _, _, _, _, _, _, _, _, _, _, rfl⟩, b5⟩
    · obtain ⟨⟨x2, x3, x4, x5, x6, x7, x8, x9, x10, x11, x12, x13, rfl⟩, b2⟩ := hI
      have e1 := liquid_ok (S := S') (M := [b]) (n := 37) (sp := 9) q_liquid q_number rfl (.tup (.cons (.int 9) (.cons (.int 1000000000000000) .nil)))
      have e2 := liquid_ok (S := S') (M := [b]) (n := 37) (sp := 0) q_liquid q_number rfl (.tup (.cons (.int 0) (.cons (.int 0) .nil)))
      have y1 : liqB 9 (.tup [.int 9, .int 1000000000000000]) = true := by decide
      have y2 : liqB 0 (.tup [.int 0, .int 0]) = true := by decide
      rw [y1] at e1
      rw [y2] at e2
      rw [thn_nx]
      clear hl
      walk_at "st"
  obtain ⟨a, S', e, h1⟩ := key.get
  exact ⟨S', h1 ▸ e⟩
end Lv

namespace Lv
open PySem PySem.Spec PyProof.Rows L2
def topS (i : Nat) : Stmt := PySem.Challenge.pw_lightabove_k02_names_numbers_liquids.main.body.getD i (.Pass ⟨0, 0, 0, 0⟩)
def gtEx : List (Nat × Bool) := ([(f_is_number, true), (f_is_name, true), (f_is_liquid, false), (f__law_start, true), (f__law_pull, true), (f__law_pick, true), (f__law_words, true), (f__law_kind, true), (f__law_same, true), (f__law_odd, true), (f__law_liquid_so, true), (f_law, true)] : List (Nat × Bool))
def gtFns : List (Str × (Nat × Nat)) := ([("is_number", (f_is_number, 3)), ("is_name", (f_is_name, 1)), ("is_liquid", (f_is_liquid, 2)), ("_law_start", (f__law_start, 1)), ("_law_pull", (f__law_pull, 2)), ("_law_pick", (f__law_pick, 2)), ("_law_words", (f__law_words, 2)), ("_law_kind", (f__law_kind, 1)), ("_law_same", (f__law_same, 2)), ("_law_odd", (f__law_odd, 2)), ("_law_liquid_so", (f__law_liquid_so, 2)), ("law", (f_law, 1))] : List (Str × (Nat × Nat)))
def gtDcs : List ((Nat × Nat) × List Val) := ([((f_is_liquid, 1), [(.int 9)])] : List ((Nat × Nat) × List Val))
def gtKcs : List ((Nat × Nat × List Str) × List Src) := ([((f_is_liquid, 1, ["spaces"]), [.p 0, .k 0]), ((f_is_liquid, 0, ["value"]), [.k 0, .d (.int 9)]), ((f_is_name, 0, ["value"]), [.k 0]), ((f_is_number, 0, ["most", "least", "value"]), [.k 2, .k 1, .k 0])] : List ((Nat × Nat × List Str) × List Src))
def GG : GT := { ex := fun f => (gtEx.lookup f).getD false, fns := fun x => gtFns.lookup x, dcs := fun f k => gtDcs.lookup (f, k), kcs := fun f k ks => gtKcs.lookup (f, k, ks), kvs := fun x => (kvTab.lookup x).isSome }
def DP : Nat := 60
def dd_is_number : He.DefD := ⟨("is_number", none), "is_number", "is_number", defArgs (topS 3), defBody (topS 3), defScope (topS 3), [], []⟩
def dd_is_name : He.DefD := ⟨("is_name", none), "is_name", "is_name", defArgs (topS 4), defBody (topS 4), defScope (topS 4), [], []⟩
def dd_is_liquid : He.DefD := ⟨("is_liquid", none), "is_liquid", "is_liquid", defArgs (topS 5), defBody (topS 5), defScope (topS 5), [], [("spaces", (.int 9))]⟩
def dd__law_start : He.DefD := ⟨("_law_start", none), "_law_start", "_law_start", defArgs (topS 7), defBody (topS 7), defScope (topS 7), [], []⟩
def dd__law_pull : He.DefD := ⟨("_law_pull", none), "_law_pull", "_law_pull", defArgs (topS 8), defBody (topS 8), defScope (topS 8), [], []⟩
def dd__law_pick : He.DefD := ⟨("_law_pick", none), "_law_pick", "_law_pick", defArgs (topS 9), defBody (topS 9), defScope (topS 9), [], []⟩
def dd__law_words : He.DefD := ⟨("_law_words", none), "_law_words", "_law_words", defArgs (topS 10), defBody (topS 10), defScope (topS 10), [], []⟩
def dd__law_kind : He.DefD := ⟨("_law_kind", none), "_law_kind", "_law_kind", defArgs (topS 11), defBody (topS 11), defScope (topS 11), [], []⟩
def dd__law_same : He.DefD := ⟨("_law_same", none), "_law_same", "_law_same", defArgs (topS 12), defBody (topS 12), defScope (topS 12), [], []⟩
def dd__law_odd : He.DefD := ⟨("_law_odd", none), "_law_odd", "_law_odd", defArgs (topS 13), defBody (topS 13), defScope (topS 13), [], []⟩
def dd__law_liquid_so : He.DefD := ⟨("_law_liquid_so", none), "_law_liquid_so", "_law_liquid_so", defArgs (topS 14), defBody (topS 14), defScope (topS 14), [], []⟩
def dd_law : He.DefD := ⟨("law", none), "law", "law", defArgs (topS 15), defBody (topS 15), defScope (topS 15), [], []⟩
def hFn : List He.DefD := ([dd_is_number, dd_is_name, dd_is_liquid, dd__law_start, dd__law_pull, dd__law_pick, dd__law_words, dd__law_kind, dd__law_same, dd__law_odd, dd__law_liquid_so, dd_law] : List He.DefD)
def hFa : List He.Fa := ([.glo "is_number", .glo "is_name", .glo "is_liquid", .glo "_law_start", .glo "_law_pull", .glo "_law_pick", .glo "_law_words", .glo "_law_kind", .glo "_law_same", .glo "_law_odd", .glo "_law_liquid_so", .glo "law", .free "len", .free "isinstance", .free "all", .free "any", .free "list", .free "tuple", .free "int", .free "bool", .free "str", .free "range", .free "enumerate", .free "zip", .int "MOST_NUMBER" 1000000000000000, .str "LETTERS" "abcdefghijklmnopqrstuvwxyz"] : List He.Fa)
def n_is_number : List Str := (["value", "least", "most"] : List Str)
theorem sc_is_number : FnScope n_is_number ["value", "least", "most"] (defScope (topS 3)) := ⟨by rfl, by rfl, by rfl, by decide +kernel, by rfl, by decide +kernel, by decide +kernel⟩
theorem comp_is_number : compSs (compS GG n_is_number DP (defScope (topS 3)) (fun _ => true) DP) (defBody (topS 3)) = some c_is_number := by kernel_rfl
theorem has_is_number {K : PySem.W.Frag} {h : Heap} {mg : Str → Option Value} (X : K.In h) (Gm : h.Ns mainGlobals mg) (c : He.SaysD hFa hFn K) : DefHas GG TT DP K mg "is_number" f_is_number 3 := by
  obtain ⟨fd, F⟩ := c.def_ 0 (d := dd_is_number) rfl
  refine ⟨_, fd, ["value", "least", "most"], n_is_number, _, _, _, _, _, _, _, d_is_number, He.glo_ok X Gm (c.fact 0 (f := .glo "is_number") rfl), F, sc_is_number, rfl, rfl, rfl, rfl, comp_is_number, ?_, ?_, ?_⟩
  · exact fun _ => F.bindsN fun _ _ _ _ _ _ us hl => match us, hl with | [_, _, _], _ => rfl
  · exact dcs_of (l := gtDcs) (f := f_is_number) (R := fun _ ds => DcE K fd ["value", "least", "most"] ds) (m := []) (by rfl) (List.forall_mem_nil _)
  · exact kcs_of (l := gtKcs) (f := f_is_number) (R := fun k ks src => KcE K fd ["value", "least", "most"] k ks src) (m := [((f_is_number, 0, ["most", "least", "value"]), [.k 2, .k 1, .k 0])]) (by rfl) (List.forall_mem_cons.2 ⟨kcN F rfl fun _ _ _ _ _ _ us ws h1 h2 => match us, ws, h1, h2 with | [], [_, _, _], _, _ => rfl, List.forall_mem_nil _⟩)
def n_is_name : List Str := (["value", "sign"] : List Str)
theorem sc_is_name : FnScope n_is_name ["value"] (defScope (topS 4)) := ⟨by rfl, by rfl, by rfl, by decide +kernel, by rfl, by decide +kernel, by decide +kernel⟩
theorem comp_is_name : compSs (compS GG n_is_name DP (defScope (topS 4)) (fun _ => true) DP) (defBody (topS 4)) = some c_is_name := by kernel_rfl
theorem has_is_name {K : PySem.W.Frag} {h : Heap} {mg : Str → Option Value} (X : K.In h) (Gm : h.Ns mainGlobals mg) (c : He.SaysD hFa hFn K) : DefHas GG TT DP K mg "is_name" f_is_name 1 := by
  obtain ⟨fd, F⟩ := c.def_ 1 (d := dd_is_name) rfl
  refine ⟨_, fd, ["value"], n_is_name, _, _, _, _, _, _, _, d_is_name, He.glo_ok X Gm (c.fact 1 (f := .glo "is_name") rfl), F, sc_is_name, rfl, rfl, rfl, rfl, comp_is_name, ?_, ?_, ?_⟩
  · exact fun _ => F.bindsN fun _ _ _ _ _ _ us hl => match us, hl with | [_], _ => rfl
  · exact dcs_of (l := gtDcs) (f := f_is_name) (R := fun _ ds => DcE K fd ["value"] ds) (m := []) (by rfl) (List.forall_mem_nil _)
  · exact kcs_of (l := gtKcs) (f := f_is_name) (R := fun k ks src => KcE K fd ["value"] k ks src) (m := [((f_is_name, 0, ["value"]), [.k 0])]) (by rfl) (List.forall_mem_cons.2 ⟨kcN F rfl fun _ _ _ _ _ _ us ws h1 h2 => match us, ws, h1, h2 with | [], [_], _, _ => rfl, List.forall_mem_nil _⟩)
def n_is_liquid : List Str := (["value", "spaces"] : List Str)
theorem sc_is_liquid : FnScope n_is_liquid ["value", "spaces"] (defScope (topS 5)) := ⟨by rfl, by rfl, by rfl, by decide +kernel, by rfl, by decide +kernel, by decide +kernel⟩
theorem comp_is_liquid : compSs (compS GG n_is_liquid DP (defScope (topS 5)) (fun _ => true) DP) (defBody (topS 5)) = some c_is_liquid := by kernel_rfl
theorem has_is_liquid {K : PySem.W.Frag} {h : Heap} {mg : Str → Option Value} (X : K.In h) (Gm : h.Ns mainGlobals mg) (c : He.SaysD hFa hFn K) : DefHas GG TT DP K mg "is_liquid" f_is_liquid 2 := by
  obtain ⟨fd, F⟩ := c.def_ 2 (d := dd_is_liquid) rfl
  refine ⟨_, fd, ["value", "spaces"], n_is_liquid, _, _, _, _, _, _, _, d_is_liquid, He.glo_ok X Gm (c.fact 2 (f := .glo "is_liquid") rfl), F, sc_is_liquid, rfl, rfl, rfl, rfl, comp_is_liquid, ?_, ?_, ?_⟩
  · exact fun z => absurd z (by decide +kernel)
  · exact dcs_of (l := gtDcs) (f := f_is_liquid) (R := fun _ ds => DcE K fd ["value", "spaces"] ds) (m := [((f_is_liquid, 1), [(.int 9)])]) (by rfl) (List.forall_mem_cons.2 ⟨dc0 (fun _ _ => (.cons (.int _) .nil)) (F.binds0 1 (List.cons_ne_nil _ _) rfl fun _ _ _ _ _ _ us ks h1 h2 => match us, ks, h1, h2 with | [_], [_], _, _ => ⟨_, _, _, _, _, _, rfl, rfl, rfl⟩), List.forall_mem_nil _⟩)
  · exact kcs_of (l := gtKcs) (f := f_is_liquid) (R := fun k ks src => KcE K fd ["value", "spaces"] k ks src) (m := [((f_is_liquid, 1, ["spaces"]), [.p 0, .k 0]), ((f_is_liquid, 0, ["value"]), [.k 0, .d (.int 9)])]) (by rfl) (List.forall_mem_cons.2 ⟨kc0 F [] (List.cons_ne_nil _ _) (show ∀ q ∈ ([] : List (Str × V)), q ∈ ([("spaces", (.int 9))] : List (Str × V)) from by decide) (fun _ _ => .nil) fun _ _ _ _ _ _ us mv ws h1 h2 h3 => match us, mv, ws, h1, h2, h3 with | [_], [], [_], _, _, _ => rfl, List.forall_mem_cons.2 ⟨kc0 F [("spaces", (.int 9))] (List.cons_ne_nil _ _) (show ∀ q ∈ ([("spaces", (.int 9))] : List (Str × V)), q ∈ ([("spaces", (.int 9))] : List (Str × V)) from by decide) (fun _ _ => (.cons (.int _) .nil)) fun _ _ _ _ _ _ us mv ws h1 h2 h3 => match us, mv, ws, h1, h2, h3 with | [], [_], [_], _, _, _ => ⟨_, _, _, _, _, _, rfl, rfl, rfl⟩, List.forall_mem_nil _⟩⟩)
def n__law_start : List Str := (["_law_script"] : List Str)
theorem sc__law_start : FnScope n__law_start ["_law_script"] (defScope (topS 7)) := ⟨by rfl, by rfl, by rfl, by decide +kernel, by rfl, by decide +kernel, by decide +kernel⟩
theorem comp__law_start : compSs (compS GG n__law_start DP (defScope (topS 7)) (fun _ => true) DP) (defBody (topS 7)) = some c__law_start := by kernel_rfl
theorem has__law_start {K : PySem.W.Frag} {h : Heap} {mg : Str → Option Value} (X : K.In h) (Gm : h.Ns mainGlobals mg) (c : He.SaysD hFa hFn K) : DefHas GG TT DP K mg "_law_start" f__law_start 1 := by
  obtain ⟨fd, F⟩ := c.def_ 3 (d := dd__law_start) rfl
  refine ⟨_, fd, ["_law_script"], n__law_start, _, _, _, _, _, _, _, d__law_start, He.glo_ok X Gm (c.fact 3 (f := .glo "_law_start") rfl), F, sc__law_start, rfl, rfl, rfl, rfl, comp__law_start, ?_, ?_, ?_⟩
  · exact fun _ => F.bindsN fun _ _ _ _ _ _ us hl => match us, hl with | [_], _ => rfl
  · exact dcs_of (l := gtDcs) (f := f__law_start) (R := fun _ ds => DcE K fd ["_law_script"] ds) (m := []) (by rfl) (List.forall_mem_nil _)
  · exact kcs_of (l := gtKcs) (f := f__law_start) (R := fun k ks src => KcE K fd ["_law_script"] k ks src) (m := []) (by rfl) (List.forall_mem_nil _)
def n__law_pull : List Str := (["_law_bag", "_law_size", "_law_seed", "_law_cell", "_law_digit"] : List Str)
theorem sc__law_pull : FnScope n__law_pull ["_law_bag", "_law_size"] (defScope (topS 8)) := ⟨by rfl, by rfl, by rfl, by decide +kernel, by rfl, by decide +kernel, by decide +kernel⟩
theorem comp__law_pull : compSs (compS GG n__law_pull DP (defScope (topS 8)) (fun _ => true) DP) (defBody (topS 8)) = some c__law_pull := by kernel_rfl
theorem has__law_pull {K : PySem.W.Frag} {h : Heap} {mg : Str → Option Value} (X : K.In h) (Gm : h.Ns mainGlobals mg) (c : He.SaysD hFa hFn K) : DefHas GG TT DP K mg "_law_pull" f__law_pull 2 := by
  obtain ⟨fd, F⟩ := c.def_ 4 (d := dd__law_pull) rfl
  refine ⟨_, fd, ["_law_bag", "_law_size"], n__law_pull, _, _, _, _, _, _, _, d__law_pull, He.glo_ok X Gm (c.fact 4 (f := .glo "_law_pull") rfl), F, sc__law_pull, rfl, rfl, rfl, rfl, comp__law_pull, ?_, ?_, ?_⟩
  · exact fun _ => F.bindsN fun _ _ _ _ _ _ us hl => match us, hl with | [_, _], _ => rfl
  · exact dcs_of (l := gtDcs) (f := f__law_pull) (R := fun _ ds => DcE K fd ["_law_bag", "_law_size"] ds) (m := []) (by rfl) (List.forall_mem_nil _)
  · exact kcs_of (l := gtKcs) (f := f__law_pull) (R := fun k ks src => KcE K fd ["_law_bag", "_law_size"] k ks src) (m := []) (by rfl) (List.forall_mem_nil _)
def n__law_pick : List Str := (["_law_bag", "_law_some"] : List Str)
theorem sc__law_pick : FnScope n__law_pick ["_law_bag", "_law_some"] (defScope (topS 9)) := ⟨by rfl, by rfl, by rfl, by decide +kernel, by rfl, by decide +kernel, by decide +kernel⟩
theorem comp__law_pick : compSs (compS GG n__law_pick DP (defScope (topS 9)) (fun _ => true) DP) (defBody (topS 9)) = some c__law_pick := by kernel_rfl
theorem has__law_pick {K : PySem.W.Frag} {h : Heap} {mg : Str → Option Value} (X : K.In h) (Gm : h.Ns mainGlobals mg) (c : He.SaysD hFa hFn K) : DefHas GG TT DP K mg "_law_pick" f__law_pick 2 := by
  obtain ⟨fd, F⟩ := c.def_ 5 (d := dd__law_pick) rfl
  refine ⟨_, fd, ["_law_bag", "_law_some"], n__law_pick, _, _, _, _, _, _, _, d__law_pick, He.glo_ok X Gm (c.fact 5 (f := .glo "_law_pick") rfl), F, sc__law_pick, rfl, rfl, rfl, rfl, comp__law_pick, ?_, ?_, ?_⟩
  · exact fun _ => F.bindsN fun _ _ _ _ _ _ us hl => match us, hl with | [_, _], _ => rfl
  · exact dcs_of (l := gtDcs) (f := f__law_pick) (R := fun _ ds => DcE K fd ["_law_bag", "_law_some"] ds) (m := []) (by rfl) (List.forall_mem_nil _)
  · exact kcs_of (l := gtKcs) (f := f__law_pick) (R := fun k ks src => KcE K fd ["_law_bag", "_law_some"] k ks src) (m := []) (by rfl) (List.forall_mem_nil _)
def n__law_words : List Str := (["_law_bag", "_law_count", "_law_letters", "_law_stem", "_law_found", "_law_k", "_law_at", "_law_first", "_law_sign"] : List Str)
theorem sc__law_words : FnScope n__law_words ["_law_bag", "_law_count"] (defScope (topS 10)) := ⟨by rfl, by rfl, by rfl, by decide +kernel, by rfl, by decide +kernel, by decide +kernel⟩
theorem comp__law_words : compSs (compS GG n__law_words DP (defScope (topS 10)) (fun _ => true) DP) (defBody (topS 10)) = some c__law_words := by kernel_rfl
theorem has__law_words {K : PySem.W.Frag} {h : Heap} {mg : Str → Option Value} (X : K.In h) (Gm : h.Ns mainGlobals mg) (c : He.SaysD hFa hFn K) : DefHas GG TT DP K mg "_law_words" f__law_words 2 := by
  obtain ⟨fd, F⟩ := c.def_ 6 (d := dd__law_words) rfl
  refine ⟨_, fd, ["_law_bag", "_law_count"], n__law_words, _, _, _, _, _, _, _, d__law_words, He.glo_ok X Gm (c.fact 6 (f := .glo "_law_words") rfl), F, sc__law_words, rfl, rfl, rfl, rfl, comp__law_words, ?_, ?_, ?_⟩
  · exact fun _ => F.bindsN fun _ _ _ _ _ _ us hl => match us, hl with | [_, _], _ => rfl
  · exact dcs_of (l := gtDcs) (f := f__law_words) (R := fun _ ds => DcE K fd ["_law_bag", "_law_count"] ds) (m := []) (by rfl) (List.forall_mem_nil _)
  · exact kcs_of (l := gtKcs) (f := f__law_words) (R := fun k ks src => KcE K fd ["_law_bag", "_law_count"] k ks src) (m := []) (by rfl) (List.forall_mem_nil _)
def n__law_kind : List Str := (["_law_thing", "_law_marks"] : List Str)
theorem sc__law_kind : FnScope n__law_kind ["_law_thing"] (defScope (topS 11)) := ⟨by rfl, by rfl, by rfl, by decide +kernel, by rfl, by decide +kernel, by decide +kernel⟩
theorem comp__law_kind : compSs (compS GG n__law_kind DP (defScope (topS 11)) (fun _ => true) DP) (defBody (topS 11)) = some c__law_kind := by kernel_rfl
theorem has__law_kind {K : PySem.W.Frag} {h : Heap} {mg : Str → Option Value} (X : K.In h) (Gm : h.Ns mainGlobals mg) (c : He.SaysD hFa hFn K) : DefHas GG TT DP K mg "_law_kind" f__law_kind 1 := by
  obtain ⟨fd, F⟩ := c.def_ 7 (d := dd__law_kind) rfl
  refine ⟨_, fd, ["_law_thing"], n__law_kind, _, _, _, _, _, _, _, d__law_kind, He.glo_ok X Gm (c.fact 7 (f := .glo "_law_kind") rfl), F, sc__law_kind, rfl, rfl, rfl, rfl, comp__law_kind, ?_, ?_, ?_⟩
  · exact fun _ => F.bindsN fun _ _ _ _ _ _ us hl => match us, hl with | [_], _ => rfl
  · exact dcs_of (l := gtDcs) (f := f__law_kind) (R := fun _ ds => DcE K fd ["_law_thing"] ds) (m := []) (by rfl) (List.forall_mem_nil _)
  · exact kcs_of (l := gtKcs) (f := f__law_kind) (R := fun k ks src => KcE K fd ["_law_thing"] k ks src) (m := []) (by rfl) (List.forall_mem_nil _)
def n__law_same : List Str := (["_law_found", "_law_due", "_law_a", "_law_b"] : List Str)
theorem sc__law_same : FnScope n__law_same ["_law_found", "_law_due"] (defScope (topS 12)) := ⟨by rfl, by rfl, by rfl, by decide +kernel, by rfl, by decide +kernel, by decide +kernel⟩
theorem comp__law_same : compSs (compS GG n__law_same DP (defScope (topS 12)) (fun _ => true) DP) (defBody (topS 12)) = some c__law_same := by kernel_rfl
theorem has__law_same {K : PySem.W.Frag} {h : Heap} {mg : Str → Option Value} (X : K.In h) (Gm : h.Ns mainGlobals mg) (c : He.SaysD hFa hFn K) : DefHas GG TT DP K mg "_law_same" f__law_same 2 := by
  obtain ⟨fd, F⟩ := c.def_ 8 (d := dd__law_same) rfl
  refine ⟨_, fd, ["_law_found", "_law_due"], n__law_same, _, _, _, _, _, _, _, d__law_same, He.glo_ok X Gm (c.fact 8 (f := .glo "_law_same") rfl), F, sc__law_same, rfl, rfl, rfl, rfl, comp__law_same, ?_, ?_, ?_⟩
  · exact fun _ => F.bindsN fun _ _ _ _ _ _ us hl => match us, hl with | [_, _], _ => rfl
  · exact dcs_of (l := gtDcs) (f := f__law_same) (R := fun _ ds => DcE K fd ["_law_found", "_law_due"] ds) (m := []) (by rfl) (List.forall_mem_nil _)
  · exact kcs_of (l := gtKcs) (f := f__law_same) (R := fun k ks src => KcE K fd ["_law_found", "_law_due"] k ks src) (m := []) (by rfl) (List.forall_mem_nil _)
def n__law_odd : List Str := (["_law_bag", "_law_more"] : List Str)
theorem sc__law_odd : FnScope n__law_odd ["_law_bag", "_law_more"] (defScope (topS 13)) := ⟨by rfl, by rfl, by rfl, by decide +kernel, by rfl, by decide +kernel, by decide +kernel⟩
theorem comp__law_odd : compSs (compS GG n__law_odd DP (defScope (topS 13)) (fun _ => true) DP) (defBody (topS 13)) = some c__law_odd := by kernel_rfl
theorem has__law_odd {K : PySem.W.Frag} {h : Heap} {mg : Str → Option Value} (X : K.In h) (Gm : h.Ns mainGlobals mg) (c : He.SaysD hFa hFn K) : DefHas GG TT DP K mg "_law_odd" f__law_odd 2 := by
  obtain ⟨fd, F⟩ := c.def_ 9 (d := dd__law_odd) rfl
  refine ⟨_, fd, ["_law_bag", "_law_more"], n__law_odd, _, _, _, _, _, _, _, d__law_odd, He.glo_ok X Gm (c.fact 9 (f := .glo "_law_odd") rfl), F, sc__law_odd, rfl, rfl, rfl, rfl, comp__law_odd, ?_, ?_, ?_⟩
  · exact fun _ => F.bindsN fun _ _ _ _ _ _ us hl => match us, hl with | [_, _], _ => rfl
  · exact dcs_of (l := gtDcs) (f := f__law_odd) (R := fun _ ds => DcE K fd ["_law_bag", "_law_more"] ds) (m := []) (by rfl) (List.forall_mem_nil _)
  · exact kcs_of (l := gtKcs) (f := f__law_odd) (R := fun k ks src => KcE K fd ["_law_bag", "_law_more"] k ks src) (m := []) (by rfl) (List.forall_mem_nil _)
def n__law_liquid_so : List Str := (["_law_bag", "_law_strange", "_law_found", "_law_bad", "_law_space", "_law_number", "_law_top", "_law_one"] : List Str)
theorem sc__law_liquid_so : FnScope n__law_liquid_so ["_law_bag", "_law_strange"] (defScope (topS 14)) := ⟨by rfl, by rfl, by rfl, by decide +kernel, by rfl, by decide +kernel, by decide +kernel⟩
theorem comp__law_liquid_so : compSs (compS GG n__law_liquid_so DP (defScope (topS 14)) (fun _ => true) DP) (defBody (topS 14)) = some c__law_liquid_so := by kernel_rfl
theorem has__law_liquid_so {K : PySem.W.Frag} {h : Heap} {mg : Str → Option Value} (X : K.In h) (Gm : h.Ns mainGlobals mg) (c : He.SaysD hFa hFn K) : DefHas GG TT DP K mg "_law_liquid_so" f__law_liquid_so 2 := by
  obtain ⟨fd, F⟩ := c.def_ 10 (d := dd__law_liquid_so) rfl
  refine ⟨_, fd, ["_law_bag", "_law_strange"], n__law_liquid_so, _, _, _, _, _, _, _, d__law_liquid_so, He.glo_ok X Gm (c.fact 10 (f := .glo "_law_liquid_so") rfl), F, sc__law_liquid_so, rfl, rfl, rfl, rfl, comp__law_liquid_so, ?_, ?_, ?_⟩
  · exact fun _ => F.bindsN fun _ _ _ _ _ _ us hl => match us, hl with | [_, _], _ => rfl
  · exact dcs_of (l := gtDcs) (f := f__law_liquid_so) (R := fun _ ds => DcE K fd ["_law_bag", "_law_strange"] ds) (m := []) (by rfl) (List.forall_mem_nil _)
  · exact kcs_of (l := gtKcs) (f := f__law_liquid_so) (R := fun k ks src => KcE K fd ["_law_bag", "_law_strange"] k ks src) (m := []) (by rfl) (List.forall_mem_nil _)
def n_law : List Str := (["_law_script", "_law_bag", "_law_turn", "_law_word", "_law_bent", "_law_good", "_law_odd_here", "_law_number", "_law_strange", "_law_at", "_law_sign", "_law_low", "_law_wide", "_law_due"] : List Str)
theorem sc_law : FnScope n_law ["_law_script"] (defScope (topS 15)) := ⟨by rfl, by rfl, by rfl, by decide +kernel, by rfl, by decide +kernel, by decide +kernel⟩
theorem comp_law : compSs (compS GG n_law DP (defScope (topS 15)) (fun _ => true) DP) (defBody (topS 15)) = some c_law := by kernel_rfl
theorem has_law {K : PySem.W.Frag} {h : Heap} {mg : Str → Option Value} (X : K.In h) (Gm : h.Ns mainGlobals mg) (c : He.SaysD hFa hFn K) : DefHas GG TT DP K mg "law" f_law 1 := by
  obtain ⟨fd, F⟩ := c.def_ 11 (d := dd_law) rfl
  refine ⟨_, fd, ["_law_script"], n_law, _, _, _, _, _, _, _, d_law, He.glo_ok X Gm (c.fact 11 (f := .glo "law") rfl), F, sc_law, rfl, rfl, rfl, rfl, comp_law, ?_, ?_, ?_⟩
  · exact fun _ => F.bindsN fun _ _ _ _ _ _ us hl => match us, hl with | [_], _ => rfl
  · exact dcs_of (l := gtDcs) (f := f_law) (R := fun _ ds => DcE K fd ["_law_script"] ds) (m := []) (by rfl) (List.forall_mem_nil _)
  · exact kcs_of (l := gtKcs) (f := f_law) (R := fun k ks src => KcE K fd ["_law_script"] k ks src) (m := []) (by rfl) (List.forall_mem_nil _)
section
variable {K : PySem.W.Frag} {h : Heap} {mg : Str → Option Value}
theorem h_free (X : K.In h) (Gm : h.Ns mainGlobals mg) (c : He.SaysD hFa hFn K) : ∀ x ∈ freeNames, mg x = none :=
  show ∀ x ∈ (["len", "isinstance", "all", "any", "list", "tuple", "int", "bool", "str", "range", "enumerate", "zip"] : List Str), mg x = none from List.forall_mem_cons.2 ⟨He.free_ok X Gm (c.fact 12 (f := .free "len") rfl), List.forall_mem_cons.2 ⟨He.free_ok X Gm (c.fact 13 (f := .free "isinstance") rfl), List.forall_mem_cons.2 ⟨He.free_ok X Gm (c.fact 14 (f := .free "all") rfl), List.forall_mem_cons.2 ⟨He.free_ok X Gm (c.fact 15 (f := .free "any") rfl), List.forall_mem_cons.2 ⟨He.free_ok X Gm (c.fact 16 (f := .free "list") rfl), List.forall_mem_cons.2 ⟨He.free_ok X Gm (c.fact 17 (f := .free "tuple") rfl), List.forall_mem_cons.2 ⟨He.free_ok X Gm (c.fact 18 (f := .free "int") rfl), List.forall_mem_cons.2 ⟨He.free_ok X Gm (c.fact 19 (f := .free "bool") rfl), List.forall_mem_cons.2 ⟨He.free_ok X Gm (c.fact 20 (f := .free "str") rfl), List.forall_mem_cons.2 ⟨He.free_ok X Gm (c.fact 21 (f := .free "range") rfl), List.forall_mem_cons.2 ⟨He.free_ok X Gm (c.fact 22 (f := .free "enumerate") rfl), List.forall_mem_cons.2 ⟨He.free_ok X Gm (c.fact 23 (f := .free "zip") rfl), List.forall_mem_nil _⟩⟩⟩⟩⟩⟩⟩⟩⟩⟩⟩⟩
theorem h_kv (X : K.In h) (Gm : h.Ns mainGlobals mg) (c : He.SaysD hFa hFn K) : ∀ x, GG.kvs x = true → ∃ v y u, TT.kv x = some v ∧ mg x = some u ∧ RelV y u ∧ ∀ H as, RV K H as v y := fun x hx => by
  obtain ⟨v, h1, y, u, h2, h3, h4⟩ := kvs_of (l := kvTab) (R := fun x v => ∃ y u, mg x = some u ∧ RelV y u ∧ ∀ H as, RV K H as v y) (show ∀ e ∈ ([("MOST_NUMBER", .int 1000000000000000), ("LETTERS", .str "abcdefghijklmnopqrstuvwxyz")] : List (Str × Val)), _ from List.forall_mem_cons.2 ⟨(let ⟨t, e⟩ := He.int_ok X Gm (c.fact 24 (f := .int "MOST_NUMBER" 1000000000000000) rfl); ⟨.int 1000000000000000, _, e, ⟨t, rfl⟩, fun _ _ => .int _⟩), List.forall_mem_cons.2 ⟨(let ⟨t, e⟩ := He.str_ok X Gm (c.fact 25 (f := .str "LETTERS" "abcdefghijklmnopqrstuvwxyz") rfl); ⟨.str "abcdefghijklmnopqrstuvwxyz", _, e, ⟨t, rfl⟩, fun _ _ => .str _⟩), List.forall_mem_nil _⟩⟩) x hx
  exact ⟨v, y, u, h1, h2, h3, h4⟩
theorem h_def (X : K.In h) (Gm : h.Ns mainGlobals mg) (c : He.SaysD hFa hFn K) : ∀ x f m, GG.fns x = some (f, m) → DefHas GG TT DP K mg x f m :=
  fns_of (l := gtFns) (show ∀ e ∈ ([("is_number", (f_is_number, 3)), ("is_name", (f_is_name, 1)), ("is_liquid", (f_is_liquid, 2)), ("_law_start", (f__law_start, 1)), ("_law_pull", (f__law_pull, 2)), ("_law_pick", (f__law_pick, 2)), ("_law_words", (f__law_words, 2)), ("_law_kind", (f__law_kind, 1)), ("_law_same", (f__law_same, 2)), ("_law_odd", (f__law_odd, 2)), ("_law_liquid_so", (f__law_liquid_so, 2)), ("law", (f_law, 1))] : List (Str × (Nat × Nat))), DefHas GG TT DP K mg e.1 e.2.1 e.2.2 from List.forall_mem_cons.2 ⟨has_is_number X Gm c, List.forall_mem_cons.2 ⟨has_is_name X Gm c, List.forall_mem_cons.2 ⟨has_is_liquid X Gm c, List.forall_mem_cons.2 ⟨has__law_start X Gm c, List.forall_mem_cons.2 ⟨has__law_pull X Gm c, List.forall_mem_cons.2 ⟨has__law_pick X Gm c, List.forall_mem_cons.2 ⟨has__law_words X Gm c, List.forall_mem_cons.2 ⟨has__law_kind X Gm c, List.forall_mem_cons.2 ⟨has__law_same X Gm c, List.forall_mem_cons.2 ⟨has__law_odd X Gm c, List.forall_mem_cons.2 ⟨has__law_liquid_so X Gm c, List.forall_mem_cons.2 ⟨has_law X Gm c, List.forall_mem_nil _⟩⟩⟩⟩⟩⟩⟩⟩⟩⟩⟩⟩)
end
abbrev R : PySem.W.OpenRow := PySem.W.OpenLaw.row PySem.Challenge.rw_lightabove_k02_names_numbers_liquids
def names : List Str := (["MOST_NUMBER", "LETTERS", "is_number", "is_name", "is_liquid", "_law_start", "_law_pull", "_law_pick", "_law_words", "_law_kind", "_law_same", "_law_odd", "_law_liquid_so"] : List Str)
abbrev hk : PySem.W.Hook := He.hookD 4 hFa hFn
def ob (s : PySem.W.SharedT) : He.AlD := He.obsDG 4 hFa hFn (HandSHeadRun.getT s)
theorem ob_eq (s : PySem.W.SharedT) : ob s = hk.obs s.abs := He.obsDG_eq (HandSHeadRun.getT_eq s)
theorem run (w : World) : HandSHeadRun.RunEq R (PySem.W.view R.prog [15]) hk ob 4000 names w := by
  intro os
  kernel_rfl
end Lv
open PySem PySem.W PySem.Calls PyProof.Rows
theorem PySem.Challenge.cw_lightabove_k02_names_numbers_liquids_holds : PySem.Challenge.rw_lightabove_k02_names_numbers_liquids.Holds := by
  w_on; o_law
  refine HandSHeadRun.head_any (r := OpenLaw.row PySem.Challenge.rw_lightabove_k02_names_numbers_liquids) (q := view (OpenLaw.row PySem.Challenge.rw_lightabove_k02_names_numbers_liquids).prog [15]) (H := Lv.hk) (ob := Lv.ob) (M := 4000) (loose := Lv.names) (d := HandSHeadRun.topDef (OpenLaw.row PySem.Challenge.rw_lightabove_k02_names_numbers_liquids).prog 15) (kwd := []) Lv.ob_eq
    (by kernel_rfl) (fun s => by kernel_rfl) Lv.run (by kernel_rfl) (by kernel_rfl) (by kernel_rfl) (by rfl) (by first | assumption | decide +kernel) (by decide +kernel) ⟨rfl, rfl, rfl, rfl, rfl, by decide +kernel⟩ ?hw ?hc
  case hw => w_witness2
  case hc =>
    refine L2.walk_ofE (l := PySem.Challenge.rw_lightabove_k02_names_numbers_liquids) (n := 63) (k := 40) (x := "_law_script") (CX := L2.CX0) rfl (by decide) (by kernel_rfl) ⟨rfl, by decide, by decide⟩ ?F (fun _ _ _ _ z => z)
    intro w mg fa h Y G hmg0
    obtain ⟨K, KX, c⟩ := Y
    have hmg : mg ("law" : PySem.Str) = some (.ref fa) := by
      have e : (HandSHeadRun.topDef (OpenLaw.row PySem.Challenge.rw_lightabove_k02_names_numbers_liquids).prog 15).name = ("law" : PySem.Str) := by kernel_rfl
      rw [← e]
      exact hmg0
    obtain ⟨fd, F⟩ := c.def_ 11 (d := Lv.dd_law) rfl
    have hga := He.glo_ok KX G (c.fact 11 (f := .glo "law") rfl)
    refine ⟨K, fd, Lv.spF K 1 (Lv.TT.run 40 Lv.f_law), KX, ?_, ?_, ?_⟩
    · have b := L2.FunD.bindsA (ps := ["_law_script"]) F fun _ _ _ _ _ _ us hl => match us, hl with | [_], _ => rfl
      exact fun s u => b s [u] rfl
    · exact fun H a ns hl hO hS => Lv.law_sp (Lv.law_true ns hl) hO hS
    · intro base _ _
      have e := hmg.symm.trans hga
      cases e
      exact Lv.def_ok (Lv.h_free KX G c) (Lv.h_kv KX G c) (Lv.h_def KX G c) 39 F Lv.sc_law Lv.fn_law rfl rfl rfl Lv.comp_law
