import PyProof.Rows.All
import PySem.Challenge.RW_toldmeans_k09_whole_fits_to_a_gap
import HandS.ForMost
import HandS.IsInst
import HandS.TupMul
import HandS.TupAny
import HandS.Style
import KE.KRevSl
import HandS.Wide
import HandS.Gcd
import HandS.Deep
import HandS.RaiseMore
import PyProof.ReprRoads
import HandS.Walk
import HandS.Zip
import KE.GoesEnum
import KE.GoesNew
import HandS.Comp
import HandS.OwnEq
import HandS.More
import HandS.Remove
import HandS.Small
import HandS.Words
import HandS.Codes
import HandS.Ends
import HandS.HeadHook2
import HandS.Head2
import HandS.Defaults
import HandS.Head3
import PyProof.Rows.Walk

section
set_option Elab.async false
set_option linter.all false
set_option maxRecDepth 100000
/-! M1: a compact syntax and its evaluator. Data by value; mutable lists, dicts and objects in a small heap; draws as a tree. -/
namespace M
open PySem

inductive Val where
  | non | bl (b : Bool) | int (i : Int) | str (s : Str)
  | tup (xs : List Val) | lst (xs : List Val)
  | obj (c : Nat) (fs : List (Nat × Val))
  | ref (i : Nat)
  | pen
  | scr (ns : List Int)
  deriving Inhabited

/-- a key of a dict: a tuple of ints and texts, or one of them alone -/
inductive Ky where
  | one (k : Sum Int Str)
  | tup (ks : List (Sum Int Str))
  deriving DecidableEq

inductive Ob where
  | lst (xs : List Val)
  | dK (kvs : List (Sum Int Str × Val))
  | dT (kvs : List (List (Sum Int Str) × Val))
  | ins (c : Nat) (fs : List (Nat × Val))
  /-- the law's pen: at most d numbers drawn -/
  | pen (d : Nat)

/-- the heap: the next number, the objects -/
structure VH where
  next : Nat
  obs : List (Nat × Ob)

namespace VH
def get (h : VH) (i : Nat) : Option Ob := h.obs.lookup i
def setL (i : Nat) (o : Ob) : List (Nat × Ob) → List (Nat × Ob)
  | [] => []
  | (j, u) :: r => if j = i then (j, o) :: r else (j, u) :: setL i o r
def set (h : VH) (i : Nat) (o : Ob) : VH := ⟨h.next, setL i o h.obs⟩
def eraseL (i : Nat) : List (Nat × Ob) → List (Nat × Ob)
  | [] => []
  | (j, u) :: r => if j = i then eraseL i r else (j, u) :: eraseL i r
def erase (h : VH) (i : Nat) : VH := ⟨h.next, eraseL i h.obs⟩
def push (h : VH) (o : Ob) : VH := ⟨h.next + 1, (h.next, o) :: h.obs⟩
end VH

/-- what was there ahead of n -/
def VH.upto (h : VH) (n : Nat) : List (Nat × Ob) := h.obs.filter fun p => decide (p.1 < n)
def VH.wf (h : VH) : Prop := ∀ p ∈ h.obs, p.1 < h.next
def isPen : Ob → Bool
  | .pen _ => true
  | _ => false
/-- a run: an answer, a draw below n, or nothing known -/
inductive T (α : Type) where
  | ret (a : α)
  | draw (n : Nat) (k : Nat → T α)
  | stuck
namespace T
def bind {α β : Type} : T α → (α → T β) → T β
  | .ret a, f => f a
  | .draw n k, f => .draw n fun i => (k i).bind f
  | .stuck, _ => .stuck
def Good {α : Type} : T α → (α → Prop) → Prop
  | .ret a, P => P a
  | .draw n k, P => ∀ i, i < n → (k i).Good P
  | .stuck, _ => False
theorem good_bind {α β : Type} {P : β → Prop} {f : α → T β} : ∀ {t : T α}, (t.bind f).Good P ↔ t.Good fun a => (f a).Good P
  | .ret a => Iff.rfl
  | .draw n k => by
    show (∀ i, i < n → ((k i).bind f).Good P) ↔ ∀ i, i < n → (k i).Good _
    exact forall_congr' fun i => forall_congr' fun _ => good_bind
  | .stuck => Iff.rfl
theorem good_mono {α : Type} {P Q : α → Prop} (h : ∀ a, P a → Q a) : ∀ {t : T α}, t.Good P → t.Good Q
  | .ret a, g => h a g
  | .draw n k, g => fun i hi => good_mono h (g i hi)
  | .stuck, g => g
end T

abbrev Mo (α : Type) := VH → T (α × VH)
abbrev Sl := List (Option Val)

inductive Bop where
  | add | sub | mul | fdiv | mod | pow | shl
  deriving DecidableEq
inductive Cop where
  | eq | ne | lt | le | gt | ge | is | isnot | in_ | notin
  deriving DecidableEq
/-- built-in classes of isinstance -/
inductive Ty where
  | int | bool | str | tuple | list | dict | own (c : Nat)
  deriving DecidableEq
/-- built-in calls -/
inductive Bi where
  | len | abs | max | min | sum | all | any | int | str | list | tuple | gcd | sorted | repr
  deriving DecidableEq
/-- methods of built-in objects -/
inductive Lm where
  | append | pop | index | remove | extend
inductive Tg where
  | nm (i : Nat)
  | nil
  | cons (t : Tg) (r : Tg)

mutual
inductive Ex where
  | var (i : Nat)
  | int (i : Int) | str (s : Str) | bl (b : Bool) | non
  | glob (g : Nat)
  | bin (m : Bool) (op : Bop) (a b : Ex)
  | cmp (op : Cop) (a b : Ex)
  | chain (op1 op2 : Cop) (a b c : Ex)
  | and (a b : Ex) | or (a b : Ex) | not (a : Ex) | neg (a : Ex)
  | ifx (c a b : Ex)
  | tup (es : Es) | lst (m : Bool) (es : Es)
  | sub (a i : Ex)
  | slc (m : Bool) (a : Ex) (lo hi : Option Ex) | rev (m : Bool) (a : Ex)
  | fld (a : Ex) (f : Nat)
  | call (g : Nat) (es : Es)
  /-- the last one by its keyword -/
  | callk (g : Nat) (es : Es) (e : Ex)
  | mk (m : Bool) (c : Nat) (es : Es)
  | meth (a : Ex) (mm : Nat) (es : Es)
  | bi (m : Bool) (b : Bi) (es : Es)
  | isin (a : Ex) (ts : List Ty)
  | lm (a : Ex) (b : Lm) (es : Es)
  | dct (ks : List (Sum Int Str)) (es : Es)
  | inl (neg : Bool) (a b : Ex)
  | comp (m : Bool) (elt : Ex) (tg : Tg) (src : Sx) (ifs : Option Ex) (own : List Nat)
  | frz (a : Ex)
inductive Es where
  | nil
  | cons (e : Ex) (r : Es)
inductive Sx where
  | seq (e : Ex)
  | rng1 (a : Ex) | rng2 (a b : Ex) | rng3 (a b c : Ex)
  | zip (a b : Ex) | zip3 (a b c : Ex) | enum (a : Ex)
end
mutual
inductive Sm where
  | skip
  | ex (e : Ex)
  | set (i : Nat) (e : Ex)
  | par (is : List Nat) (es : Es)
  | unt (tg : Tg) (e : Ex)
  | ssub (a i e : Ex)
  | sfld (a : Ex) (f : Nat) (e : Ex)
  | aug (i : Nat) (op : Bop) (e : Ex)
  | asub (a i : Ex) (op : Bop) (e : Ex)
  | afld (a : Ex) (f : Nat) (op : Bop) (e : Ex)
  | ite (c : Ex) (t e : Ss)
  | for_ (tg : Tg) (src : Sx) (b : Ss)
  | while_ (c : Ex) (b : Ss)
  | ret (e : Ex) | retN | brk | cnt
  | wall
inductive Ss where
  | nil
  | cons (s : Sm) (r : Ss)
end

/-- flow behind a statement -/
inductive Fl where
  | nx (σ : Sl) | rt (v : Val) | bk (σ : Sl) | ct (σ : Sl)

structure ClsI where
  init : Option Nat
  frozen : Bool
  meths : List (Nat × Nat)
  /-- its own == -/
  eqf : Option Nat
  /-- what fields it may have -/
  flds : List Nat
inductive Def where
  | fn (np ns : Nat) (body : Ss)
  | draw
  | mkpen
structure Tb where
  globs : List Val
  cls : List ClsI
  defs : List Def
  fuel : Nat

def lim : Nat := 1000000
def big (i : Int) : Nat := i.natAbs.log2

/-! ### values -/
mutual
/-- plain data -/
def Val.toD : Val → Option PyData
  | .non => some .none
  | .bl b => some (.bool b)
  | .int i => some (.int i)
  | .str x => some (.str x)
  | .tup xs => (Val.toDs xs).map .tuple
  | .lst xs => (Val.toDs xs).map .list
  | _ => none
def Val.toDs : List Val → Option (List PyData)
  | [] => some []
  | x :: xs => match Val.toD x, Val.toDs xs with
    | some d, some ds => some (d :: ds)
    | _, _ => none
end
def eqD (x y : Val) : Option Bool :=
  match x.toD, y.toD with
  | some d, some e => if SeqAt.shaped d && SeqAt.shaped e then some (PyData.eqv d e) else none
  | _, _ => none
/-- an index within n -/
def ixN (n : Nat) (i : Int) : Option Nat := L2.ixN n i
def cut {α : Type} (xs : List α) (lo hi : Option Int) : List α := (xs.drop (HT.sIx xs.length 0 lo)).take (HT.sIx xs.length xs.length hi - HT.sIx xs.length 0 lo)
def ctup : Nat := 1000
/-- a value, or a new list -/
inductive Rv where
  | v (x : Val) | nl (xs : List Val)

def seqOf (h : VH) : Val → Option (List Val)
  | .scr ns => some (ns.map .int)
  | .tup xs => some xs
  | .lst xs => some xs
  | .ref i => match h.get i with
    | some (.lst xs) => some xs
    | _ => none
  | _ => none
def lseq (h : VH) : Val → Option (List Val)
  | .tup _ => none
  | x => seqOf h x
def intsOf : List Val → Option (List Int)
  | [] => some []
  | .int i :: r => (intsOf r).map (i :: ·)
  | _ :: _ => none
def blsOf : List Val → Option (List Bool)
  | [] => some []
  | .bl i :: r => (blsOf r).map (i :: ·)
  | _ :: _ => none

def binI (op : Bop) (i j : Int) : Option Val :=
  match op with
  | .add => some (.int (i + j))
  | .sub => some (.int (i - j))
  | .mul => if big i + big j < lim then some (.int (i * j)) else none
  | .fdiv => if j = 0 then none else if big j < 9000 then some (.int (i.fdiv j)) else none
  | .mod => if j = 0 then none else some (.int (i.fmod j))
  | .pow => if 0 ≤ j ∧ j ≤ 1000000 ∧ i.natAbs < 2 ^ 64 then some (.int (i ^ j.toNat)) else none
  | .shl => if 0 ≤ j ∧ j ≤ 1000000 ∧ i.natAbs < 2 ^ 64 then some (.int (i * 2 ^ j.toNat)) else none
def sz (n : Nat) : Bool := decide (n ≤ 1000000)
def binV (h : VH) (op : Bop) (x y : Val) : Option Rv :=
  match op, x, y with
  | op, .int i, .int j => (binI op i j).map .v
  | .add, .str a, .str b => if sz (a.length + b.length) then some (.v (.str (a ++ b))) else none
  | .add, .tup xs, .tup ys => if sz (xs.length + ys.length) then some (.v (.tup (xs ++ ys))) else none
  | .mul, .tup xs, .int k => if sz (xs.length * k.toNat) && decide (k < 1000000) && decide (-1000000 < k) then some (.v (.tup (List.replicate k.toNat xs).flatten)) else none
  | .add, x, y => match x, y with
    | .tup _, _ => none
    | _, .tup _ => none
    | .scr _, _ => none
    | _, .scr _ => none
    | x, y => match seqOf h x, seqOf h y with
      | some xs, some ys => if sz (xs.length + ys.length) then some (.nl (xs ++ ys)) else none
      | _, _ => none
  | .mul, x, .int k => match x with
    | .tup _ => none
    | .scr _ => none
    | x => match seqOf h x with
      | some xs => if sz (xs.length * k.toNat) && decide (k < 1000000) && decide (-1000000 < k) then some (.nl (List.replicate k.toNat xs).flatten) else none
      | none => none
  | _, _, _ => none
def cmpI : Cop → Int → Int → Option Bool
  | .lt, i, j => some (decide (i < j))
  | .le, i, j => some (decide (i ≤ j))
  | .gt, i, j => some (decide (j < i))
  | .ge, i, j => some (decide (j ≤ i))
  | _, _, _ => none
def isNon : Val → Bool
  | .non => true
  | _ => false
/-- comparisons without own classes -/
def cmpV (op : Cop) (x y : Val) : Option Bool :=
  match op, x, y with
  | .is, x, .non => some (isNon x)
  | .isnot, x, .non => some (!isNon x)
  | .eq, x, y => eqD x y
  | .ne, x, y => (eqD x y).map (!·)
  | op, .int i, .int j => cmpI op i j
  | _, _, _ => none

def ofTy (h : VH) (x : Val) : Option Ty :=
  match x with
  | .bl _ => some .bool
  | .int _ => some .int
  | .str _ => some .str
  | .tup _ => some .tuple
  | .lst _ => some .list
  | .obj c _ => some (.own c)
  | .ref i => match h.get i with
    | some (.lst _) => some .list
    | some (.dK _) => some .dict
    | some (.dT _) => some .dict
    | some (.ins c _) => some (.own c)
    | _ => none
  | _ => none
def isTy (t u : Ty) : Bool := decide (t = u) || (decide (t = .bool) && decide (u = .int))
def isinV (h : VH) (x : Val) (ts : List Ty) : Option Bool :=
  match x with
  | .non => some false
  | x => (ofTy h x).map fun t => ts.any (isTy t)

def keyOf : Val → Option (Sum Int Str)
  | .int i => some (.inl i)
  | .str x => some (.inr x)
  | _ => none
def valK (kvs : List (Sum Int Str × Val)) (k : Sum Int Str) : Option Val := (kvs.find? fun kv => decide (kv.1 = k)).map (·.2)
def putKV (kvs : List (Sum Int Str × Val)) (k : Sum Int Str) (v : Val) : List (Sum Int Str × Val) :=
  if (kvs.any fun kv => decide (kv.1 = k)) = true then kvs.map (fun kv => if kv.1 = k then (kv.1, v) else kv) else kvs ++ [(k, v)]
def subV (h : VH) (x i : Val) : Option Val :=
  match x, i with
  | .ref r, i => match h.get r with
    | some (.lst xs) => match i with
      | .int k => (ixN xs.length k).bind fun j => xs[j]?
      | _ => none
    | some (.dK kvs) => (keyOf i).bind (valK kvs)
    | _ => none
  | .tup xs, .int k => (ixN xs.length k).bind fun j => xs[j]?
  | .lst xs, .int k => (ixN xs.length k).bind fun j => xs[j]?
  | .str s, .int k => if sz s.length then (ixN s.cps.size k).bind fun j => (s.cps.toList[j]?).map fun c => Val.str ⟨#[c]⟩ else none
  | _, _ => none
def slcV (h : VH) (x : Val) (lo hi : Option Int) : Option Rv :=
  match x with
  | .tup xs => some (.v (.tup (cut xs lo hi)))
  | x => (seqOf h x).map fun xs => .nl (cut xs lo hi)
def revV (h : VH) (x : Val) : Option Rv :=
  match x with
  | .tup xs => some (.v (.tup xs.reverse))
  | x => (seqOf h x).map fun xs => .nl xs.reverse
/-- x in a list -/
def inV (h : VH) (x y : Val) : Option Bool :=
  match (lseq h y).bind Val.toDs, x.toD with
  | some ds, some d => if SeqAt.shaped d && SeqAt.shaped (.list ds) then some (ds.any fun z => PyData.eqv z d) else none
  | _, _ => none
def fldV (h : VH) (x : Val) (f : Nat) : Option Val :=
  match x with
  | .obj _ fs => fs.lookup f
  | .ref i => match h.get i with
    | some (.ins _ fs) => fs.lookup f
    | _ => none
  | _ => none
def maxI : List Int → Option Int
  | [] => none
  | [a] => some a
  | a :: r => (maxI r).map fun b => if b > a then b else a
def minI : List Int → Option Int
  | [] => none
  | [a] => some a
  | a :: r => (minI r).map fun b => if b < a then b else a
/-- built-in calls -/
def biV (h : VH) (b : Bi) (vs : List Val) : Option Rv :=
  match b, vs with
  | .len, [.str s] => if sz s.length then some (.v (.int s.length)) else none
  | .len, [x] => (seqOf h x).map fun xs => .v (.int xs.length)
  | .abs, [.int i] => some (.v (.int (if i < 0 then -i else i)))
  | .int, [.int i] => some (.v (.int i))
  | .int, [.bl k] => some (.v (.int (if k then 1 else 0)))
  | .str, [.int i] => if big i < 1920 then some (.v (.str (toString i))) else none
  | .list, [x] => (seqOf h x).map .nl
  | .tuple, [x] => (seqOf h x).map fun xs => .v (.tup xs)
  | .gcd, [.int a, .int b] => some (.v (.int (Nat.gcd a.natAbs b.natAbs : Nat)))
  | .sum, [x] => (lseq h x).bind fun xs => (intsOf xs).map fun ns => .v (.int ns.sum)
  | .max, [x] => (lseq h x).bind fun xs => (intsOf xs).bind fun ns => (maxI ns).map fun m => .v (.int m)
  | .min, [x] => (lseq h x).bind fun xs => (intsOf xs).bind fun ns => (minI ns).map fun m => .v (.int m)
  | .all, [x] => (lseq h x).bind fun xs => (blsOf xs).map fun ns => .v (.bl (ns.all id))
  | .any, [x] => (lseq h x).bind fun xs => (blsOf xs).map fun ns => .v (.bl (ns.any id))
  | .repr, [.tup xs] => match (Val.tup xs).toD with
    | some d => if d.showable && sz d.shown.length && decide (d.depth ≤ 60) && !d.hasDict then some (.v (.str d.shown)) else none
    | none => none
  | .repr, [.lst xs] => match (Val.lst xs).toD with
    | some d => if d.showable && sz d.shown.length && decide (d.depth ≤ 60) && !d.hasDict then some (.v (.str d.shown)) else none
    | none => none
  | .repr, [.int i] => if big i < 1920 then some (.v (.str (toString i))) else none
  | _, _ => none

/-! ### runs -/
def lift {α : Type} (o : Option α) : Mo α := fun h => match o with
  | some a => .ret (a, h)
  | none => .stuck
def bindM {α β : Type} (c : Mo α) (f : α → Mo β) : Mo β := fun h => (c h).bind fun (a, h') => f a h'
/-- a new list by value, or laid into the heap -/
def out (m : Bool) : Rv → Mo Val
  | .v x => fun h => .ret (x, h)
  | .nl xs => fun h => if m then .ret (.ref h.next, h.push (.lst xs)) else .ret (.lst xs, h)
/-- an object of the heap becomes a value -/
def frzV (T : Tb) (x : Val) : Mo Val := fun h => match x with
  | .ref i => match h.get i with
    | some (.lst xs) => .ret (.lst xs, h.erase i)
    | some (.ins c fs) => .ret (.obj c fs, h.erase i)
    | _ => .stuck
  | .lst xs => .ret (.lst xs, h)
  | .tup xs => .ret (.tup xs, h)
  | _ => .stuck

inductive Sv where
  | fix (xs : List Val) | rng (lo st : Int) (n : Nat) | dyn (i : Nat)
/-- a sequence that can't change -/
def fseq : Val → Option (List Val)
  | .scr ns => some (ns.map .int)
  | .tup xs => some xs
  | .lst xs => some xs
  | _ => none
def Sv.size (h : VH) : Sv → Nat
  | .fix xs => xs.length
  | .rng _ _ n => n
  | .dyn i => match h.get i with
    | some (.lst xs) => xs.length
    | _ => 0
/-- the k-th item: nothing known, the end, or an item -/
def Sv.item (h : VH) (k : Nat) : Sv → Option (Option Val)
  | .fix xs => some xs[k]?
  | .rng lo st n => some (if k < n then some (.int (lo + k * st)) else none)
  | .dyn i => match h.get i with
    | some (.lst xs) => some xs[k]?
    | _ => none
def zip2 : List Val → List Val → List Val
  | x :: xs, y :: ys => .tup [x, y] :: zip2 xs ys
  | _, _ => []
def zip3 : List Val → List Val → List Val → List Val
  | x :: xs, y :: ys, z :: zs => .tup [x, y, z] :: zip3 xs ys zs
  | _, _, _ => []
def enumL : Nat → List Val → List Val
  | k, x :: xs => .tup [.int k, x] :: enumL (k + 1) xs
  | _, [] => []
def okR (i : Int) : Bool := decide (-1000000000 < i) && decide (i < 1000000000)
/-- counting up, counting down -/
def rngU (lo hi : Int) : Option Sv := if okR lo && okR hi then some (.rng lo 1 (hi - lo).toNat) else none
def rngD (lo hi st : Int) : Option Sv := if okR lo && okR hi && decide (st = -1) then some (.rng lo (-1) (lo - hi).toNat) else none

def setTg : Tg → Val → Sl → Option Sl
  | .nm i, v, σ => some (σ.set i (some v))
  | .nil, .tup [], σ => some σ
  | .cons t r, .tup (x :: xs), σ => (setTg t x σ).bind fun σ' => setTg r (.tup xs) σ'
  | _, _, _ => none
def wipe (σ : Sl) : List Nat → Sl
  | [] => σ
  | v :: vs => (wipe σ vs).set v none

def loop (item : VH → Nat → Option (Option Val)) (body : Val → Sl → Mo Fl) : Nat → Nat → Sl → Mo Fl
  | 0, _, _ => fun _ => .stuck
  | n + 1, k, σ => fun h => match item h k with
    | none => .stuck
    | some none => .ret (.nx σ, h)
    | some (some v) => (body v σ h).bind fun (fl, h') => match fl with
      | .nx σ' => loop item body n (k + 1) σ' h'
      | .ct σ' => loop item body n (k + 1) σ' h'
      | .bk σ' => .ret (.nx σ', h')
      | .rt v => .ret (.rt v, h')
def loopL (body : Val → Sl → Mo Fl) : List Val → Sl → Mo Fl
  | [], σ => fun h => .ret (.nx σ, h)
  | v :: vs, σ => fun h => (body v σ h).bind fun (fl, h') => match fl with
      | .nx σ' => loopL body vs σ' h'
      | .ct σ' => loopL body vs σ' h'
      | .bk σ' => .ret (.nx σ', h')
      | .rt v => .ret (.rt v, h')
/-- a comprehension: an item gives a value or nothing -/
def cloop (item : VH → Nat → Option (Option Val)) (body : Val → Mo (Option Val)) : Nat → Nat → List Val → Mo (List Val)
  | 0, _, _ => fun _ => .stuck
  | n + 1, k, acc => fun h => match item h k with
    | none => .stuck
    | some none => .ret (acc, h)
    | some (some v) => (body v h).bind fun (r, h') => match r with
      | some y => if sz acc.length then cloop item body n (k + 1) (acc ++ [y]) h' else .stuck
      | none => cloop item body n (k + 1) acc h'
def cloopL (body : Val → Mo (Option Val)) : List Val → List Val → Mo (List Val)
  | [], acc => fun h => .ret (acc, h)
  | v :: vs, acc => fun h => (body v h).bind fun (r, h') => match r with
      | some y => if sz acc.length then cloopL body vs (acc ++ [y]) h' else .stuck
      | none => cloopL body vs acc h'
def wloop (c : Sl → Mo Bool) (body : Sl → Mo Fl) : Nat → Sl → Mo Fl
  | 0, _ => fun _ => .stuck
  | n + 1, σ => fun h => (c σ h).bind fun (b, h') => match b with
    | false => .ret (.nx σ, h')
    | true => (body σ h').bind fun (fl, h'') => match fl with
      | .nx σ' => wloop c body n σ' h''
      | .ct σ' => wloop c body n σ' h''
      | .bk σ' => .ret (.nx σ', h'')
      | .rt v => .ret (.rt v, h'')

def walkS (sv : Sv) (body : Val → Sl → Mo Fl) (σ : Sl) : Mo Fl := match sv with
  | .fix xs => loopL body xs σ
  | sv => fun h => loop (fun h k => sv.item h k) body (sv.size h + 1) 0 σ h
def walkC (sv : Sv) (body : Val → Mo (Option Val)) : Mo (List Val) := match sv with
  | .fix xs => cloopL body xs []
  | sv => fun h => cloop (fun h k => sv.item h k) body (sv.size h + 1) 0 [] h
def asBl : Val → Option Bool
  | .bl b => some b
  | _ => none
def asInt : Val → Option Int
  | .int b => some b
  | _ => none

section
variable (T : Tb) (C : Nat → List Val → Mo Val)
def clsOf (h : VH) : Val → Option Nat
  | .obj c _ => some c
  | .ref i => match h.get i with
    | some (.ins c _) => some c
    | _ => none
  | _ => none
def methOf (c m : Nat) : Option Nat := (T.cls[c]?).bind fun k => k.meths.lookup m
def mkV (m : Bool) (c : Nat) (vs : List Val) : Mo Val := fun h =>
  match T.cls[c]? with
  | some ⟨some k, fz, _, _, _⟩ => (C k (.ref h.next :: vs) (h.push (.ins c []))).bind fun (r, h') => match r with
    | .non => if (fz && !m) = true then frzV T (.ref h.next) h' else .ret (.ref h.next, h')
    | _ => .stuck
  | _ => .stuck
/-- a value that is no object of an own class -/
def plainV : Val → Bool
  | .non => true
  | .bl _ => true
  | .int _ => true
  | .str _ => true
  | .tup _ => true
  | .lst _ => true
  | _ => false
/-- plain data, a list of the heap as it is now -/
def refD (h : VH) (x : Val) : Option PyData := match x with
  | .ref i => match h.get i with
    | some (.lst xs) => (Val.toDs xs).map .list
    | _ => none
  | x => x.toD
def eqH (h : VH) (x y : Val) : Option Bool := match refD h x, refD h y with
  | some d, some e => if SeqAt.shaped d && SeqAt.shaped e then some (PyData.eqv d e) else none
  | _, _ => none
/-- == and != of objects: by their own ==, or by what they are -/
def cmpO (ne : Bool) (x y : Val) : Mo Bool := fun h => match clsOf h x with
  | some c => match T.cls[c]? with
    | some k => match k.eqf with
      | some f => if clsOf h y = some c ∨ (ne = false ∧ plainV y = true) then (C f [x, y] h).bind fun (v, h') => match v with
          | .bl b => .ret (if ne then !b else b, h')
          | _ => .stuck
        else .stuck
      | none => match x, y with
        | .ref i, .ref j => if clsOf h y = some c ∧ ne = false then .ret (decide (i = j), h) else .stuck
        | _, _ => .stuck
    | none => .stuck
  | none => match eqH h x y with
    | some b => .ret (if ne then !b else b, h)
    | none => .stuck
def cmpM (op : Cop) (x y : Val) : Mo Bool := match cmpV op x y with
  | some r => fun h => .ret (r, h)
  | none => match op with
    | .eq => cmpO T C false x y
    | .ne => cmpO T C true x y
    | _ => fun _ => .stuck
/-- a list -/
def isL (h : VH) : Val → Bool
  | .lst _ => true
  | .scr _ => true
  | .ref i => match h.get i with
    | some (.lst _) => true
    | _ => false
  | _ => false
/-- built-in methods -/
def lmAppend (x : Val) (vs : List Val) : Mo Val := fun h => match x, vs with
  | .ref i, [y] => match h.get i with
    | some (.lst xs) => if sz xs.length then .ret (.non, h.set i (.lst (xs ++ [y]))) else .stuck
    | _ => .stuck
  | _, _ => .stuck
def lmExtend (x : Val) (vs : List Val) : Mo Val := fun h => match x, vs with
  | .ref i, [.lst ys] => match h.get i with
    | some (.lst xs) => if sz (xs.length + ys.length) then .ret (.non, h.set i (.lst (xs ++ ys))) else .stuck
    | _ => .stuck
  | _, _ => .stuck
def lmPop (x : Val) (vs : List Val) : Mo Val := fun h => match x, vs with
  | .ref i, [] => match h.get i with
    | some (.lst xs) => match xs[xs.length - 1]? with
      | some y => .ret (y, h.set i (.lst xs.dropLast))
      | none => .stuck
    | _ => .stuck
  | _, _ => .stuck
def lmIndex (x : Val) (vs : List Val) : Mo Val := fun h => match vs with
  | [y] => match (lseq h x).bind Val.toDs, y.toD with
    | some ds, some d => if SeqAt.shaped (.list ds) && SeqAt.shaped d then match ds.findIdx? fun z => PyData.eqv z d with
        | some j => .ret (.int (j : Nat), h)
        | none => .stuck
      else .stuck
    | _, _ => .stuck
  | _ => .stuck
def lmV (b : Lm) (x : Val) (vs : List Val) : Mo Val := match b with
  | .append => lmAppend x vs
  | .extend => lmExtend x vs
  | .pop => lmPop x vs
  | .index => lmIndex x vs
  | _ => fun _ => .stuck

/-- a comprehension's turn -/
def compB (tg : Tg) (σ : Sl) (tt : Option (Sl → Mo Val)) (el : Sl → Mo Val) (v : Val) : Mo (Option Val) := match setTg tg v σ with
  | none => fun _ => .stuck
  | some σ' => match tt with
    | none => bindM (el σ') fun y => fun h => .ret (some y, h)
    | some t => bindM (t σ') fun b => match b with
      | .bl true => bindM (el σ') fun y => fun h => .ret (some y, h)
      | .bl false => fun h => .ret (none, h)
      | _ => fun _ => .stuck
mutual
def evE (σ : Sl) : Ex → Mo Val
  | .var i => fun h => match σ[i]? with
    | some (some v) => .ret (v, h)
    | _ => .stuck
  | .int i => fun h => .ret (.int i, h)
  | .str s => fun h => .ret (.str s, h)
  | .bl b => fun h => .ret (.bl b, h)
  | .non => fun h => .ret (.non, h)
  | .glob g => lift T.globs[g]?
  | .bin m op a b => bindM (evE σ a) fun x => bindM (evE σ b) fun y => fun h => match binV h op x y with
    | some r => out m r h
    | none => .stuck
  | .cmp op a b => bindM (evE σ a) fun x => bindM (evE σ b) fun y => bindM (cmpM T C op x y) fun r => fun h => .ret (.bl r, h)
  | .chain op1 op2 a b c => bindM (evE σ a) fun x => bindM (evE σ b) fun y => bindM (lift (cmpV op1 x y)) fun r =>
    match r with
    | false => fun h => .ret (.bl false, h)
    | true => bindM (evE σ c) fun z => bindM (lift (cmpV op2 y z)) fun r => fun h => .ret (.bl r, h)
  | .and a b => bindM (evE σ a) fun x => match x with
    | .bl true => evE σ b
    | .bl false => fun h => .ret (.bl false, h)
    | _ => fun _ => .stuck
  | .or a b => bindM (evE σ a) fun x => match x with
    | .bl true => fun h => .ret (.bl true, h)
    | .bl false => evE σ b
    | _ => fun _ => .stuck
  | .not a => bindM (evE σ a) fun x => match x with
    | .bl k => fun h => .ret (.bl (!k), h)
    | _ => fun _ => .stuck
  | .neg a => bindM (evE σ a) fun x => match x with
    | .int k => fun h => .ret (.int (-k), h)
    | _ => fun _ => .stuck
  | .ifx c a b => bindM (evE σ c) fun x => match x with
    | .bl true => evE σ a
    | .bl false => evE σ b
    | _ => fun _ => .stuck
  | .tup es => bindM (evEs σ es) fun xs => fun h => if sz xs.length then .ret (.tup xs, h) else .stuck
  | .lst m es => bindM (evEs σ es) fun xs => fun h => if sz xs.length then out m (.nl xs) h else .stuck
  | .sub a i => bindM (evE σ a) fun x => bindM (evE σ i) fun y => fun h => match subV h x y with
    | some v => .ret (v, h)
    | none => .stuck
  | .slc m a lo hi => bindM (evE σ a) fun x => bindM (evO σ lo) fun l => bindM (evO σ hi) fun u => fun h => match slcV h x l u with
    | some r => out m r h
    | none => .stuck
  | .rev m a => bindM (evE σ a) fun x => fun h => match revV h x with
    | some r => out m r h
    | none => .stuck
  | .fld a f => bindM (evE σ a) fun x => fun h => match fldV h x f with
    | some v => .ret (v, h)
    | none => .stuck
  | .call g es => bindM (evEs σ es) fun vs => C g vs
  | .callk g es e => bindM (evEs σ es) fun vs => bindM (evE σ e) fun x => C g (vs ++ [x])
  | .mk m c es => bindM (evEs σ es) fun vs => mkV T C m c vs
  | .meth a mm es => bindM (evE σ a) fun x => fun h => match (clsOf h x).bind fun c => methOf T c mm with
    | some k => bindM (evEs σ es) (fun vs => C k (x :: vs)) h
    | none => .stuck
  | .bi m b es => bindM (evEs σ es) fun vs => fun h => match biV h b vs with
    | some r => out m r h
    | none => .stuck
  | .isin a ts => bindM (evE σ a) fun x => fun h => match isinV h x ts with
    | some r => .ret (.bl r, h)
    | none => .stuck
  | .lm a b es => bindM (evE σ a) fun x => fun h => if isL h x then bindM (evEs σ es) (fun vs => lmV b x vs) h else .stuck
  | .dct ks es => bindM (evEs σ es) fun vs => fun h => .ret (.ref h.next, h.push (.dK ((ks.zip vs).foldl (fun acc kv => putKV acc kv.1 kv.2) [])))
  | .inl neg a b => bindM (evE σ a) fun x => bindM (evE σ b) fun y => fun h => match inV h x y with
    | some r => .ret (.bl (if neg then !r else r), h)
    | none => .stuck
  | .comp m elt tg src ifs own => bindM (evX σ src) fun sv => fun h =>
    (walkC sv (compB tg (wipe σ own) (match ifs with
      | none => none
      | some c => some fun σ' => evE σ' c) fun σ' => evE σ' elt) h).bind fun r => out m (.nl r.1) r.2
  | .frz a => bindM (evE σ a) fun x => frzV T x
def evEs (σ : Sl) : Es → Mo (List Val)
  | .nil => fun h => .ret ([], h)
  | .cons e r => bindM (evE σ e) fun x => bindM (evEs σ r) fun xs => fun h => .ret (x :: xs, h)
def evO (σ : Sl) : Option Ex → Mo (Option Int)
  | none => fun h => .ret (none, h)
  | some e => bindM (evE σ e) fun x => match x with
    | .int i => fun h => .ret (some i, h)
    | _ => fun _ => .stuck
def evX (σ : Sl) : Sx → Mo Sv
  | .seq e => bindM (evE σ e) fun x => fun h => match fseq x, x with
    | some xs, _ => .ret (.fix xs, h)
    | none, .ref i => match h.get i with
      | some (.lst _) => .ret (.dyn i, h)
      | _ => .stuck
    | _, _ => .stuck
  | .rng1 a => bindM (evE σ a) fun x => lift ((asInt x).bind fun i => rngU 0 i)
  | .rng2 a b => bindM (evE σ a) fun x => bindM (evE σ b) fun y => lift ((asInt x).bind fun i => (asInt y).bind fun j => rngU i j)
  | .rng3 a b c => bindM (evE σ a) fun x => bindM (evE σ b) fun y => bindM (evE σ c) fun z => lift ((asInt x).bind fun i => (asInt y).bind fun j => (asInt z).bind fun k => rngD i j k)
  | .zip a b => bindM (evE σ a) fun x => bindM (evE σ b) fun y => lift ((fseq x).bind fun xs => (fseq y).map fun ys => .fix (zip2 xs ys))
  | .zip3 a b c => bindM (evE σ a) fun x => bindM (evE σ b) fun y => bindM (evE σ c) fun z => lift ((fseq x).bind fun xs => (fseq y).bind fun ys => (fseq z).map fun zs => .fix (zip3 xs ys zs))
  | .enum a => bindM (evE σ a) fun x => lift ((fseq x).map fun xs => .fix (enumL 0 xs))
end
def setAll : List Nat → List Val → Sl → Option Sl
  | [], [], σ => some σ
  | i :: is, v :: vs, σ => (setAll is vs σ).map fun σ' => σ'.set i (some v)
  | _, _, _ => none
def storeV (x i v : Val) : Mo Unit := fun h => match x with
  | .ref r => match h.get r with
    | some (.lst xs) => match i with
      | .int k => match ixN xs.length k with
        | some j => .ret ((), h.set r (.lst (xs.set j v)))
        | none => .stuck
      | _ => .stuck
    | some (.dK kvs) => match keyOf i with
      | some k => if kvs.length < 1000 then .ret ((), h.set r (.dK (putKV kvs k v))) else .stuck
      | none => .stuck
    | _ => .stuck
  | _ => .stuck
def putF (f : Nat) (v : Val) : List (Nat × Val) → List (Nat × Val)
  | [] => [(f, v)]
  | (g, w) :: r => if g = f then (g, v) :: r else (g, w) :: putF f v r
def hasF (c f : Nat) : Bool := match T.cls[c]? with
  | some k => k.flds.contains f
  | none => false
def sfldV (x : Val) (f : Nat) (v : Val) : Mo Unit := fun h => match x with
  | .ref r => match h.get r with
    | some (.ins c fs) => if fs.length < 900 ∧ hasF T c f = true then .ret ((), h.set r (.ins c (putF f v fs))) else .stuck
    | _ => .stuck
  | _ => .stuck
mutual
def evS (σ : Sl) : Sm → Mo Fl
  | .skip => fun h => .ret (.nx σ, h)
  | .ex e => bindM (evE T C σ e) fun _ => fun h => .ret (.nx σ, h)
  | .set i e => bindM (evE T C σ e) fun v => fun h => .ret (.nx (σ.set i (some v)), h)
  | .par is es => bindM (evEs T C σ es) fun vs => bindM (lift (setAll is vs σ)) fun σ' => fun h => .ret (.nx σ', h)
  | .unt tg e => bindM (evE T C σ e) fun v => bindM (lift (setTg tg v σ)) fun σ' => fun h => .ret (.nx σ', h)
  | .ssub a i e => bindM (evE T C σ e) fun v => bindM (evE T C σ a) fun x => bindM (evE T C σ i) fun y => bindM (storeV x y v) fun _ => fun h => .ret (.nx σ, h)
  | .sfld a f e => bindM (evE T C σ e) fun v => bindM (evE T C σ a) fun x => bindM (sfldV T x f v) fun _ => fun h => .ret (.nx σ, h)
  | .aug i op e => fun h => match σ[i]? with
    | some (some x) => (evE T C σ e h).bind fun (y, h') => match x, y with
      | .int a, .int b => match binI op a b with
        | some z => .ret (.nx (σ.set i (some z)), h')
        | none => .stuck
      | _, _ => .stuck
    | _ => .stuck
  | .asub a i op e => bindM (evE T C σ a) fun x => bindM (evE T C σ i) fun y => fun h => match subV h x y with
    | some old => (evE T C σ e h).bind fun (z, h') => match old, z with
      | .int p, .int q => match binI op p q with
        | some v => (storeV x y v h').bind fun (_, h'') => .ret (.nx σ, h'')
        | none => .stuck
      | _, _ => .stuck
    | none => .stuck
  | .afld a f op e => bindM (evE T C σ a) fun x => fun h => match fldV h x f with
    | some old => (evE T C σ e h).bind fun (z, h') => match old, z with
      | .int p, .int q => match binI op p q with
        | some v => (sfldV T x f v h').bind fun (_, h'') => .ret (.nx σ, h'')
        | none => .stuck
      | _, _ => .stuck
    | none => .stuck
  | .ite c t e => bindM (evE T C σ c) fun x => match x with
    | .bl true => evSs σ t
    | .bl false => evSs σ e
    | _ => fun _ => .stuck
  | .for_ tg src b => bindM (evX T C σ src) fun sv => walkS sv (fun v σ' => match setTg tg v σ' with
      | none => fun _ => .stuck
      | some σ'' => evSs σ'' b) σ
  | .while_ c b => fun h => wloop (fun σ' => bindM (evE T C σ' c) fun x => lift (asBl x)) (fun σ' => evSs σ' b) T.fuel σ h
  | .ret e => bindM (evE T C σ e) fun v => fun h => .ret (.rt v, h)
  | .retN => fun h => .ret (.rt .non, h)
  | .brk => fun h => .ret (.bk σ, h)
  | .cnt => fun h => .ret (.ct σ, h)
  | .wall => fun _ => .stuck
def evSs (σ : Sl) : Ss → Mo Fl
  | .nil => fun h => .ret (.nx σ, h)
  | .cons s r => fun h => (evS σ s h).bind fun (fl, h') => match fl with
    | .nx σ' => evSs σ' r h'
    | fl => .ret (fl, h')
end
end
def begin_ (ns : Nat) (vs : List Val) : Sl := vs.map some ++ List.replicate (ns - vs.length) none
mutual
/-- no object of the heap in it -/
def Val.noref : Val → Bool
  | .ref _ => false
  | .tup xs => Val.norefs xs
  | .lst xs => Val.norefs xs
  | .obj _ fs => Val.noreff fs
  | _ => true
def Val.norefs : List Val → Bool
  | [] => true
  | x :: xs => x.noref && Val.norefs xs
def Val.noreff : List (Nat × Val) → Bool
  | [] => true
  | (_, x) :: xs => x.noref && Val.noreff xs
end
/-- nothing that was there has changed, but pens -/
def VH.same (h h' : VH) : Prop := ∀ i o, i < h.next → h'.get i = some o → isPen o = true ∨ h.get i = some o
open Classical in
/-- what a def made for itself is gone behind it -/
noncomputable def gc (h : VH) (v : Val) (h' : VH) : VH := if v.noref = true ∧ h.same h' then ⟨h.next, h'.upto h.next⟩ else h'
def most : Nat := 1000000000000
/-- a def's run, its calls at most l deep -/
noncomputable def run (T : Tb) : Nat → Nat → List Val → Mo Val
  | 0, _, _ => fun _ => .stuck
  | l + 1, k, vs => fun h => match T.defs[k]? with
    | some (.fn np ns body) => if vs.length = np then bindM (evSs T (run T l) (begin_ ns vs) body) (fun fl => match fl with
        | .nx _ => fun h' => .ret (.non, gc h .non h')
        | .rt v => fun h' => .ret (v, gc h v h')
        | _ => fun _ => .stuck) h
      else .stuck
    | some .draw => match vs with
      | [.ref j, .int n] => match h.get j with
        | some (.pen d) => if 0 < n ∧ n < 2 ^ 4000 ∧ d < most then .draw n.toNat fun i => .ret (.int i, h.set j (.pen (d + 1))) else .stuck
        | _ => .stuck
      | _ => .stuck
    | some .mkpen => match vs with
      | [.scr ns] => if ns.length ≤ 1000 then .ret (.ref h.next, h.push (.pen 0)) else .stuck
      | _ => .stuck
    | none => .stuck
end M
end

section
set_option Elab.async false
set_option linter.all false
set_option maxRecDepth 100000
/-! M2: worlds, what a value stands for, the semantic readings. -/
namespace M
open PySem L2

/-- the text's facts that the evaluator leans on: classes, fields by number -/
structure Ga where
  prog : Program
  w : World
  K : PySem.W.Frag
  mg : Str → Option Value
  base : Heap
  cls : Nat → Addr
  nc : Nat
  fld : Nat → Str
  has : Nat → Nat → Bool
  penP : Hp → HO → Prop
  penM : ∀ (G G' : Hp) (u : HO), (∀ p o, G p = some o → G' p = some o) → penP G u → penP G' u

/-- an instance's fields -/
def Has (g : Ga) (c : Nat) (fs : List (Nat × Val)) : Prop := c < g.nc ∧ ∀ p ∈ fs, g.has c p.1 = true
/-- the pen: the script's cells, the place, the digits, the count, the fold -/
def PenK (G : Hp) (d : Nat) (us : List (L2.Key × V)) : Prop := ∃ (L : Addr) (cells : List Int) (a dg c f : Int),
  us = [(.inr "cells", .ref L), (.inr "at", .int a), (.inr "digits", .int dg), (.inr "count", .int c), (.inr "fold", .int f)] ∧ G L = some (.lst (cells.map V.int)) ∧ cells.length ≤ 1000 ∧ 0 ≤ a ∧ 0 ≤ dg ∧ 0 ≤ c ∧ c ≤ d ∧ 0 ≤ f ∧ f < 4294967296

structure Wd where
  G : Hp
  m : Nat → Option Addr
  pen : Option Addr
  /-- what others hold: it stays as it is -/
  x : Hp

structure Wd.le0 (a b : Wd) : Prop where
  g : ∀ p o, a.G p = some o → b.G p = some o
  m : ∀ i p, a.m i = some p → b.m i = some p
  pen : b.pen = a.pen
structure Wd.le (a b : Wd) : Prop extends Wd.le0 a b where
  x : b.x = a.x
theorem Wd.le.rfl' {a : Wd} : a.le a := ⟨⟨fun _ _ h => h, fun _ _ h => h, rfl⟩, rfl⟩
theorem Wd.le0.trans {a b c : Wd} (x : a.le0 b) (y : b.le0 c) : a.le0 c := ⟨fun p o h => y.g p o (x.g p o h), fun i p h => y.m i p (x.m i p h), y.pen.trans x.pen⟩
theorem Wd.le.trans {a b c : Wd} (x : a.le b) (y : b.le c) : a.le c := ⟨x.tole0.trans y.tole0, y.x.trans x.x⟩

mutual
inductive Rep (g : Ga) (W : Wd) : Val → V → Prop where
  | non : Rep g W .non .non
  | bl (b : Bool) : Rep g W (.bl b) (.bl b)
  | int (i : Int) : Rep g W (.int i) (.int i)
  | str (x : Str) : Rep g W (.str x) (.str x)
  | tup {a : Addr} {xs : List Val} {ys : List V} : SqT g.K W.G a ys → Reps g W xs ys → Rep g W (.tup xs) (.ref a)
  | lst {a : Addr} {xs : List Val} {ys : List V} : W.G a = some (.lst ys) → Reps g W xs ys → Rep g W (.lst xs) (.ref a)
  | obj {c : Nat} {a dx : Addr} {fs : List (Nat × Val)} {gs : List (Str × V)} : Has g c fs → W.G a = some (.ins (g.cls c) dx gs) → RepF g W fs gs → Rep g W (.obj c fs) (.ref a)
  | ref {i : Nat} {a : Addr} : W.m i = some a → Rep g W (.ref i) (.ref a)
  | pen {a : Addr} : W.pen = some a → Rep g W .pen (.ref a)
  | scr {a : Addr} {ns : List Int} : SqL g.K W.G a (ns.map V.int) → Rep g W (.scr ns) (.ref a)
inductive Reps (g : Ga) (W : Wd) : List Val → List V → Prop where
  | nil : Reps g W [] []
  | cons {x : Val} {y : V} {xs : List Val} {ys : List V} : Rep g W x y → Reps g W xs ys → Reps g W (x :: xs) (y :: ys)
inductive RepF (g : Ga) (W : Wd) : List (Nat × Val) → List (Str × V) → Prop where
  | nil : RepF g W [] []
  | cons {f : Nat} {x : Val} {y : V} {xs : List (Nat × Val)} {ys : List (Str × V)} : Rep g W x y → RepF g W xs ys → RepF g W ((f, x) :: xs) ((g.fld f, y) :: ys)
end

theorem sqT_mono {K : PySem.W.Frag} {G G' : Hp} (e : ∀ p o, G p = some o → G' p = some o) {a : Addr} {xs : List V} (h : SqT K G a xs) : SqT K G' a xs := by
  rcases h with (h | ⟨o, h⟩) | h
  · exact .inl (.inl (e _ _ h))
  · exact .inl (.inr ⟨o, e _ _ h⟩)
  · exact .inr h
theorem sqL_mono {K : PySem.W.Frag} {G G' : Hp} (e : ∀ p o, G p = some o → G' p = some o) {a : Addr} {xs : List V} (h : SqL K G a xs) : SqL K G' a xs := by
  rcases h with (h | ⟨o, h⟩) | h
  · exact .inl (.inl (e _ _ h))
  · exact .inl (.inr ⟨o, e _ _ h⟩)
  · exact .inr h
section
variable {g : Ga} {W W' : Wd}
mutual
theorem Rep.mono0 (e : W.le0 W') : ∀ {x : Val} {y : V}, Rep g W x y → Rep g W' x y
  | _, _, .non => .non
  | _, _, .bl b => .bl b
  | _, _, .int i => .int i
  | _, _, .str x => .str x
  | _, _, .tup h r => .tup (sqT_mono e.g h) (Reps.mono0 e r)
  | _, _, .lst h r => .lst (e.g _ _ h) (Reps.mono0 e r)
  | _, _, .obj l h r => .obj l (e.g _ _ h) (RepF.mono0 e r)
  | _, _, .ref h => .ref (e.m _ _ h)
  | _, _, .pen h => .pen (e.pen.trans h)
  | _, _, .scr h => .scr (sqL_mono e.g h)
theorem Reps.mono0 (e : W.le0 W') : ∀ {x : List Val} {y : List V}, Reps g W x y → Reps g W' x y
  | _, _, .nil => .nil
  | _, _, .cons h r => .cons (Rep.mono0 e h) (Reps.mono0 e r)
theorem RepF.mono0 (e : W.le0 W') : ∀ {x : List (Nat × Val)} {y : List (Str × V)}, RepF g W x y → RepF g W' x y
  | _, _, .nil => .nil
  | _, _, .cons h r => .cons (Rep.mono0 e h) (RepF.mono0 e r)
end
theorem Rep.mono (e : W.le W') {x : Val} {y : V} (h : Rep g W x y) : Rep g W' x y := h.mono0 e.tole0
theorem Reps.mono (e : W.le W') {x : List Val} {y : List V} (h : Reps g W x y) : Reps g W' x y := h.mono0 e.tole0
theorem RepF.mono (e : W.le W') {x : List (Nat × Val)} {y : List (Str × V)} (h : RepF g W x y) : RepF g W' x y := h.mono0 e.tole0
theorem Reps.length : ∀ {x : List Val} {y : List V}, Reps g W x y → x.length = y.length
  | _, _, .nil => rfl
  | _, _, .cons _ r => congrArg (· + 1) (Reps.length r)
theorem Reps.get : ∀ {xs : List Val} {ys : List V} {i : Nat} {x : Val}, Reps g W xs ys → xs[i]? = some x → ∃ y, ys[i]? = some y ∧ Rep g W x y
  | _, _, _, _, .nil, h => by simp at h
  | _, _, 0, _, .cons a _, h => by
    simp at h
    subst h
    exact ⟨_, rfl, a⟩
  | _, _, i + 1, _, .cons _ r, h => by
    obtain ⟨y, e, q⟩ := Reps.get (i := i) r (by simpa using h)
    exact ⟨y, by simpa using e, q⟩
theorem Reps.append : ∀ {xs xs' : List Val} {ys ys' : List V}, Reps g W xs ys → Reps g W xs' ys' → Reps g W (xs ++ xs') (ys ++ ys')
  | _, _, _, _, .nil, h => h
  | _, _, _, _, .cons a r, h => .cons a (Reps.append r h)
theorem Reps.take : ∀ {xs : List Val} {ys : List V} (n : Nat), Reps g W xs ys → Reps g W (xs.take n) (ys.take n)
  | _, _, 0, _ => .nil
  | _, _, _ + 1, .nil => .nil
  | _, _, n + 1, .cons a r => .cons a (Reps.take n r)
theorem Reps.drop : ∀ {xs : List Val} {ys : List V} (n : Nat), Reps g W xs ys → Reps g W (xs.drop n) (ys.drop n)
  | _, _, 0, h => h
  | _, _, _ + 1, .nil => .nil
  | _, _, n + 1, .cons a r => Reps.drop n r
theorem Reps.reverse {xs : List Val} {ys : List V} (h : Reps g W xs ys) : Reps g W xs.reverse ys.reverse := by
  induction xs generalizing ys with
  | nil =>
    cases h
    exact .nil
  | cons x xs ih =>
    cases h with
    | cons a r =>
      rw [List.reverse_cons, List.reverse_cons]
      exact (ih r).append (.cons a .nil)
theorem Reps.rep {xs : List Val} {ys : List V} (h : Reps g W xs ys) : ∀ k : Nat, Reps g W (List.replicate k xs).flatten (List.replicate k ys).flatten
  | 0 => .nil
  | k + 1 => by
    rw [List.replicate_succ, List.replicate_succ, List.flatten_cons, List.flatten_cons]
    exact h.append (Reps.rep h k)
theorem Reps.set : ∀ {xs : List Val} {ys : List V} {x : Val} {y : V} (i : Nat), Reps g W xs ys → Rep g W x y → Reps g W (xs.set i x) (ys.set i y)
  | _, _, _, _, _, .nil, _ => .nil
  | _, _, _, _, 0, .cons _ r, h => .cons h r
  | _, _, _, _, i + 1, .cons a r, h => .cons a (Reps.set i r h)
theorem Reps.dropLast {xs : List Val} {ys : List V} (h : Reps g W xs ys) : Reps g W xs.dropLast ys.dropLast := by
  rw [List.dropLast_eq_take, List.dropLast_eq_take, h.length]
  exact h.take _
theorem Reps.ints : ∀ {xs : List Val} {ys : List V} {ns : List Int}, Reps g W xs ys → intsOf xs = some ns → ys = ns.map V.int
  | [], _, _, .nil, h => by
    cases h
    rfl
  | .int i :: r, _, ns, .cons (.int _) q, h => by
    unfold intsOf at h
    cases e : intsOf r with
    | none =>
      rw [e] at h
      cases h
    | some ms =>
      rw [e] at h
      cases h
      rw [Reps.ints q e]
      rfl
theorem Reps.bls : ∀ {xs : List Val} {ys : List V} {ns : List Bool}, Reps g W xs ys → blsOf xs = some ns → ys = ns.map V.bl
  | [], _, _, .nil, h => by
    cases h
    rfl
  | .bl i :: r, _, ns, .cons (.bl _) q, h => by
    unfold blsOf at h
    cases e : blsOf r with
    | none =>
      rw [e] at h
      cases h
    | some ms =>
      rw [e] at h
      cases h
      rw [Reps.bls q e]
      rfl
theorem Reps.of_ints : ∀ ns : List Int, Reps g W (ns.map Val.int) (ns.map V.int)
  | [] => .nil
  | i :: r => .cons (.int i) (Reps.of_ints r)
theorem RepF.lookup (inj : ∀ i j, g.fld i = g.fld j → i = j) : ∀ {fs : List (Nat × Val)} {gs : List (Str × V)} {f : Nat} {x : Val}, RepF g W fs gs → fs.lookup f = some x → ∃ y, gs.lookup (g.fld f) = some y ∧ Rep g W x y
  | _, _, _, _, .nil, h => by simp at h
  | _, _, f, x, .cons (f := k) a r, h => by
    by_cases e : f = k
    · subst e
      simp at h
      subst h
      exact ⟨_, by simp, a⟩
    · have e1 : (f == k) = false := by simpa using e
      have e2 : (g.fld f == g.fld k) = false := by
        simp only [beq_eq_false_iff_ne, ne_eq]
        exact fun z => e (inj _ _ z)
      simp only [List.lookup_cons, e1] at h
      obtain ⟨y, q, z⟩ := RepF.lookup inj r h
      exact ⟨y, by simp only [List.lookup_cons, e2]; exact q, z⟩
theorem RepF.lookup_none (inj : ∀ i j, g.fld i = g.fld j → i = j) : ∀ {fs : List (Nat × Val)} {gs : List (Str × V)} {m : Str}, RepF g W fs gs → (∀ p ∈ fs, g.fld p.1 ≠ m) → gs.lookup m = none
  | _, _, _, .nil, _ => rfl
  | _, _, m, .cons (f := k) a r, h => by
    have e2 : (m == g.fld k) = false := by
      simp only [beq_eq_false_iff_ne, ne_eq]
      exact fun z => h (k, _) List.mem_cons_self z.symm
    simp only [List.lookup_cons, e2]
    exact RepF.lookup_none inj r fun p hp => h p (List.mem_cons_of_mem _ hp)
theorem RepF.put (inj : ∀ i j, g.fld i = g.fld j → i = j) : ∀ {fs : List (Nat × Val)} {gs : List (Str × V)} {f : Nat} {x : Val} {y : V}, RepF g W fs gs → Rep g W x y → RepF g W (M.putF f x fs) (L2.putF (g.fld f) y gs)
  | _, _, _, _, _, .nil, h => .cons h .nil
  | _, _, f, x, y, .cons (f := k) (xs := xs) (ys := ys) (y := z) a r, h => by
    unfold M.putF
    show RepF g W _ (if g.fld k = g.fld f then (g.fld k, y) :: ys else (g.fld k, z) :: L2.putF (g.fld f) y ys)
    by_cases e : k = f
    · subst e
      rw [if_pos rfl, if_pos rfl]
      exact .cons h r
    · rw [if_neg e, if_neg (fun q => e (inj _ _ q))]
      exact .cons a (RepF.put inj r h)
theorem RepF.length : ∀ {x : List (Nat × Val)} {y : List (Str × V)}, RepF g W x y → x.length = y.length
  | _, _, .nil => rfl
  | _, _, .cons _ r => congrArg (· + 1) (RepF.length r)
end

theorem Has.put {g : Ga} {c f : Nat} {v : Val} : ∀ {fs : List (Nat × Val)}, (∀ p ∈ fs, g.has c p.1 = true) → g.has c f = true → ∀ p ∈ M.putF f v fs, g.has c p.1 = true
  | [], _, hf, p, hp => by
    cases List.mem_singleton.mp hp
    exact hf
  | (k, w) :: r, h, hf, p, hp => by
    unfold M.putF at hp
    split at hp
    · rename_i e
      rcases List.mem_cons.mp hp with z | z
      · rw [z]
        exact h (k, w) List.mem_cons_self
      · exact h p (List.mem_cons_of_mem _ z)
    · rcases List.mem_cons.mp hp with z | z
      · rw [z]
        exact h (k, w) List.mem_cons_self
      · exact Has.put (fun q hq => h q (List.mem_cons_of_mem _ hq)) hf p z
theorem lookup_mem {f : Nat} {v : Val} : ∀ {fs : List (Nat × Val)}, fs.lookup f = some v → (f, v) ∈ fs
  | [], h => by cases h
  | (k, w) :: r, h => by
    rw [List.lookup_cons] at h
    split at h
    · rename_i e
      cases h
      have := beq_iff_eq.mp e
      subst this
      exact List.mem_cons_self
    · exact List.mem_cons_of_mem _ (lookup_mem h)
/-- what an object of the heap stands for -/
inductive RepK (g : Ga) (W : Wd) : List (L2.Key × Val) → List (L2.Key × V) → Prop where
  | nil : RepK g W [] []
  | cons {k : L2.Key} {x : Val} {y : V} {xs : List (L2.Key × Val)} {ys : List (L2.Key × V)} : Rep g W x y → RepK g W xs ys → RepK g W ((k, x) :: xs) ((k, y) :: ys)
theorem RepK.mono0 {g : Ga} {W W' : Wd} (e : W.le0 W') : ∀ {x : List (L2.Key × Val)} {y : List (L2.Key × V)}, RepK g W x y → RepK g W' x y
  | _, _, .nil => .nil
  | _, _, .cons h r => .cons (h.mono0 e) (RepK.mono0 e r)
theorem RepK.length {g : Ga} {W : Wd} : ∀ {x : List (L2.Key × Val)} {y : List (L2.Key × V)}, RepK g W x y → x.length = y.length
  | _, _, .nil => rfl
  | _, _, .cons _ r => congrArg (· + 1) (RepK.length r)
theorem RepK.val {g : Ga} {W : Wd} {k : L2.Key} {v : Val} : ∀ {x : List (L2.Key × Val)} {y : List (L2.Key × V)}, RepK g W x y → valK x k = some v → ∃ w, L2.valV y k = some w ∧ Rep g W v w
  | _, _, .nil, h => by cases h
  | _, _, .cons (k := k0) (x := x0) (y := y0) (xs := xs) (ys := ys) r rr, h => by
    by_cases e : k0 = k
    · have e1 : valK ((k0, x0) :: xs) k = some x0 := by simp [valK, List.find?_cons, e]
      rw [e1] at h
      cases h
      exact ⟨y0, L2.valV_pos e, r⟩
    · have e1 : valK ((k0, x0) :: xs) k = valK xs k := by simp [valK, List.find?_cons, e]
      rw [e1] at h
      obtain ⟨w, a, b⟩ := RepK.val rr h
      exact ⟨w, by rw [L2.valV_neg e]; exact a, b⟩
theorem RepK.any {g : Ga} {W : Wd} {k : L2.Key} : ∀ {x : List (L2.Key × Val)} {y : List (L2.Key × V)}, RepK g W x y → (x.any fun kv => decide (kv.1 = k)) = (y.any fun kv => decide (kv.1 = k))
  | _, _, .nil => rfl
  | _, _, .cons r rr => by rw [List.any_cons, List.any_cons, RepK.any rr]
theorem RepK.mapv {g : Ga} {W : Wd} {k : L2.Key} {v : Val} {w : V} (r : Rep g W v w) : ∀ {x : List (L2.Key × Val)} {y : List (L2.Key × V)}, RepK g W x y → RepK g W (x.map fun kv => if kv.1 = k then (kv.1, v) else kv) (y.map fun kv => if kv.1 = k then (kv.1, w) else kv)
  | _, _, .nil => .nil
  | _, _, .cons (k := k0) r0 rr => by
    rw [List.map_cons, List.map_cons]
    by_cases e : k0 = k
    · rw [if_pos e, if_pos e]
      exact .cons r (RepK.mapv r rr)
    · rw [if_neg e, if_neg e]
      exact .cons r0 (RepK.mapv r rr)
theorem RepK.app {g : Ga} {W : Wd} : ∀ {x x' : List (L2.Key × Val)} {y y' : List (L2.Key × V)}, RepK g W x y → RepK g W x' y' → RepK g W (x ++ x') (y ++ y')
  | _, _, _, _, .nil, h => h
  | _, _, _, _, .cons r rr, h => .cons r (RepK.app rr h)
theorem RepK.put {g : Ga} {W : Wd} {k : L2.Key} {v : Val} {w : V} {x : List (L2.Key × Val)} {y : List (L2.Key × V)} (h : RepK g W x y) (r : Rep g W v w) : RepK g W (putKV x k v) (L2.putK y k w) := by
  unfold putKV L2.putK
  rw [h.any]
  by_cases e : (y.any fun kv => decide (kv.1 = k)) = true
  · rw [if_pos e, if_pos e]
    exact h.mapv r
  · rw [if_neg e, if_neg e]
    exact h.app (.cons r .nil)
inductive RepO (g : Ga) (W : Wd) : Ob → HO → Prop where
  | lst {xs : List Val} {ys : List V} : Reps g W xs ys → RepO g W (.lst xs) (.lst ys)
  | ins {c : Nat} {dx : Addr} {fs : List (Nat × Val)} {gs : List (Str × V)} : Has g c fs → RepF g W fs gs → RepO g W (.ins c fs) (.ins (g.cls c) dx gs)
  | dK {kvs : List (L2.Key × Val)} {us : List (L2.Key × V)} : RepK g W kvs us → RepO g W (.dK kvs) (.dK us)
  | pen {d : Nat} {us : List (L2.Key × V)} : PenK W.G d us → RepO g W (.pen d) (.dK us)
theorem RepO.mono0 {g : Ga} {W W' : Wd} (e : W.le0 W') {o : Ob} {u : HO} (h : RepO g W o u) : RepO g W' o u := by
  cases h with
  | lst r => exact .lst (r.mono0 e)
  | ins l r => exact .ins l (r.mono0 e)
  | dK r => exact .dK (r.mono0 e)
  | pen r =>
    obtain ⟨L, cells, a, dg, c, f, h1, h2, h3⟩ := r
    exact .pen ⟨L, cells, a, dg, c, f, h1, e.g _ _ h2, h3⟩
theorem RepO.mono {g : Ga} {W W' : Wd} (e : W.le W') {o : Ob} {u : HO} (h : RepO g W o u) : RepO g W' o u := h.mono0 e.tole0

structure Sim (g : Ga) (W : Wd) (h : VH) (H : Hp) : Prop where
  sub : ∀ p o, W.G p = some o → H p = some o
  ob : ∀ i o, h.get i = some o → ∃ a u, W.m i = some a ∧ W.G a = none ∧ W.pen ≠ some a ∧ H a = some u ∧ RepO g W o u
  inj : ∀ i j a, (h.get i).isSome → (h.get j).isSome → W.m i = some a → W.m j = some a → i = j
  nx : ∀ i, h.next ≤ i → W.m i = none
  pn : ∀ a, W.pen = some a → ∃ u, H a = some u ∧ g.penP W.G u ∧ W.G a = none
  xk : ∀ p o, W.x p = some o → H p = some o ∧ W.G p = none ∧ W.pen ≠ some p ∧ ∀ i, (h.get i).isSome → W.m i ≠ some p

section
variable {g : Ga} {W : Wd} {h : VH} {H : Hp}
theorem VH.get_push {h : VH} {o : Ob} {i : Nat} : (h.push o).get i = if i = h.next then some o else h.get i := by
  unfold VH.push VH.get
  simp only [List.lookup_cons]
  by_cases e : i = h.next
  · subst e
    simp
  · have : (i == h.next) = false := by simpa using e
    rw [this, if_neg e]
theorem VH.get_setL {i j : Nat} {o : Ob} : ∀ {l : List (Nat × Ob)}, (VH.setL i o l).lookup j = if j = i then (if (l.lookup i).isSome then some o else none) else l.lookup j
  | [] => by
    unfold VH.setL
    simp
  | (k, u) :: r => by
    have ih := @VH.get_setL i j o r
    unfold VH.setL
    by_cases e : k = i
    · subst e
      rw [if_pos rfl]
      by_cases e2 : j = k
      · subst e2
        simp
      · have : (j == k) = false := by simpa using e2
        simp only [List.lookup_cons, this, if_neg e2]
    · rw [if_neg e]
      have ik : (i == k) = false := by simpa using fun z => e z.symm
      by_cases e2 : j = k
      · subst e2
        have : ¬ j = i := e
        simp only [List.lookup_cons, BEq.rfl, if_neg this]
      · have jk : (j == k) = false := by simpa using e2
        simp only [List.lookup_cons, jk, ik]
        exact ih
theorem VH.get_set {h : VH} {o : Ob} {i j : Nat} : (h.set i o).get j = if j = i then (if (h.get i).isSome then some o else none) else h.get j := VH.get_setL
theorem VH.get_eraseL {i j : Nat} : ∀ {l : List (Nat × Ob)}, (VH.eraseL i l).lookup j = if j = i then none else l.lookup j
  | [] => by
    unfold VH.eraseL
    simp
  | (k, u) :: r => by
    have ih := @VH.get_eraseL i j r
    unfold VH.eraseL
    by_cases e : k = i
    · subst e
      rw [if_pos rfl, ih]
      by_cases e2 : j = k
      · rw [if_pos e2, if_pos e2]
      · have : (j == k) = false := by simpa using e2
        rw [if_neg e2, if_neg e2]
        simp only [List.lookup_cons, this]
    · rw [if_neg e]
      by_cases e2 : j = k
      · subst e2
        have : ¬ j = i := e
        simp only [List.lookup_cons, BEq.rfl, if_neg this]
      · have jk : (j == k) = false := by simpa using e2
        simp only [List.lookup_cons, jk]
        exact ih
theorem VH.get_erase {h : VH} {i j : Nat} : (h.erase i).get j = if j = i then none else h.get j := VH.get_eraseL

theorem Sim.lt (S : Sim g W h H) {i : Nat} (e : (h.get i).isSome) : i < h.next := by
  obtain ⟨o, q⟩ := Option.isSome_iff_exists.mp e
  obtain ⟨a, u, m, _⟩ := S.ob i o q
  by_cases z : i < h.next
  · exact z
  · rw [S.nx i (by omega)] at m
    cases m
theorem Sim.free (S : Sim g W h H) {p : Addr} (e : H p = none) : W.G p = none := by
  cases q : W.G p with
  | none => rfl
  | some o =>
    rw [S.sub p o q] at e
    cases e
def Wd.put (W : Wd) (p : Addr) (o : HO) : Wd := ⟨upd W.G p o, W.m, W.pen, W.x⟩
def Wd.lay (W : Wd) (i : Nat) (p : Addr) : Wd := ⟨W.G, fun j => if j = i then some p else W.m j, W.pen, W.x⟩
def Wd.hold (W : Wd) (x : Hp) : Wd := ⟨W.G, W.m, W.pen, x⟩
theorem Wd.put_le {p : Addr} {o : HO} (e : W.G p = none) : W.le (W.put p o) := ⟨⟨fun q u z => by
  show upd W.G p o q = some u
  rw [upd_ne (ne_of_none z e)]
  exact z, fun _ _ z => z, rfl⟩, rfl⟩
theorem Wd.lay_le {i : Nat} {p : Addr} (e : W.m i = none) : W.le (W.lay i p) := ⟨⟨fun _ _ z => z, fun j q z => by
  show (if j = i then some p else W.m j) = some q
  by_cases k : j = i
  · rw [k, e] at z
    cases z
  · rw [if_neg k]
    exact z, rfl⟩, rfl⟩
theorem Wd.hold_le0 {x : Hp} : W.le0 (W.hold x) := ⟨fun _ _ z => z, fun _ _ z => z, rfl⟩
theorem Wd.le0_hold {x : Hp} : (W.hold x).le0 W := ⟨fun _ _ z => z, fun _ _ z => z, rfl⟩
/-- a new object that stays as it is -/
theorem Sim.put (S : Sim g W h H) {p : Addr} {o : HO} (e : H p = none) : Sim g (W.put p o) h (upd H p o) := by
  have l := Wd.put_le (o := o) (S.free e)
  refine ⟨fun q u z => ?_, fun i ob z => ?_, S.inj, S.nx, fun a z => ?_, fun q v z => ?_⟩
  · have z' : upd W.G p o q = some u := z
    by_cases k : q = p
    · rw [k, upd_same] at z' ⊢
      exact z'
    · rw [upd_ne k] at z' ⊢
      exact S.sub q u z'
  · obtain ⟨a, u, m, n, np, hh, r⟩ := S.ob i ob z
    have k : a ≠ p := ne_of_none hh e
    refine ⟨a, u, m, ?_, np, by rw [upd_ne k]; exact hh, r.mono l⟩
    show upd W.G p o a = none
    rw [upd_ne k]
    exact n
  · obtain ⟨u, hh, r, n⟩ := S.pn a z
    have k : a ≠ p := ne_of_none hh e
    refine ⟨u, by rw [upd_ne k]; exact hh, g.penM _ _ u l.g r, ?_⟩
    show upd W.G p o a = none
    rw [upd_ne k]
    exact n
  · obtain ⟨hh, n, np, nm⟩ := S.xk q v z
    have k : q ≠ p := ne_of_none hh e
    refine ⟨by rw [upd_ne k]; exact hh, ?_, np, nm⟩
    show upd W.G p o q = none
    rw [upd_ne k]
    exact n
/-- a new object of the heap -/
theorem Sim.lay (S : Sim g W h H) {p : Addr} {o : Ob} {u : HO} (e : H p = none) (r : RepO g (W.lay h.next p) o u) : Sim g (W.lay h.next p) (h.push o) (upd H p u) := by
  have l := Wd.lay_le (p := p) (S.nx h.next (Nat.le_refl _))
  have ne : ∀ {q v}, H q = some v → q ≠ p := fun z => ne_of_none z e
  refine ⟨fun q v z => ?_, fun i ob z => ?_, fun i j a zi zj mi mj => ?_, fun i z => ?_, fun a z => ?_, fun q v z => ?_⟩
  · rw [upd_ne (ne (S.sub q v z))]
    exact S.sub q v z
  · rw [VH.get_push] at z
    by_cases k : i = h.next
    · rw [if_pos k] at z
      cases z
      refine ⟨p, u, ?_, S.free e, fun q => ?_, upd_same, r⟩
      · show (if i = h.next then some p else W.m i) = some p
        rw [if_pos k]
      · obtain ⟨v, hh, _⟩ := S.pn p q
        exact ne hh rfl
    · rw [if_neg k] at z
      obtain ⟨a, v, m, n, np, hh, r'⟩ := S.ob i ob z
      exact ⟨a, v, l.m _ _ m, n, np, by rw [upd_ne (ne hh)]; exact hh, r'.mono l⟩
  · have key : ∀ k, ((h.push o).get k).isSome → (if k = h.next then some p else W.m k) = some a → (k = h.next ∧ a = p) ∨ (k ≠ h.next ∧ (h.get k).isSome ∧ W.m k = some a ∧ a ≠ p) := fun k zk mk => by
      rw [VH.get_push] at zk
      by_cases q : k = h.next
      · rw [if_pos q] at mk
        exact .inl ⟨q, (Option.some.inj mk).symm⟩
      · rw [if_neg q] at mk zk
        obtain ⟨ob, w⟩ := Option.isSome_iff_exists.mp zk
        obtain ⟨b, v, m, _, _, hh, _⟩ := S.ob k ob w
        rw [mk] at m
        cases m
        exact .inr ⟨q, zk, mk, ne hh⟩
    rcases key i zi mi with ⟨a1, a2⟩ | ⟨a1, a2, a3, a4⟩ <;> rcases key j zj mj with ⟨b1, b2⟩ | ⟨b1, b2, b3, b4⟩
    · rw [a1, b1]
    · exact absurd a2 b4
    · exact absurd b2 a4
    · exact S.inj i j a a2 b2 a3 b3
  · have z' : h.next + 1 ≤ i := z
    show (if i = h.next then some p else W.m i) = none
    rw [if_neg (by omega)]
    exact S.nx i (by omega)
  · obtain ⟨v, hh, r', n⟩ := S.pn a z
    exact ⟨v, by rw [upd_ne (ne hh)]; exact hh, r', n⟩
  · obtain ⟨hh, n, np, nm⟩ := S.xk q v z
    refine ⟨by rw [upd_ne (ne hh)]; exact hh, n, np, fun i zi mi => ?_⟩
    have mi' : (if i = h.next then some p else W.m i) = some q := mi
    rw [VH.get_push] at zi
    by_cases k : i = h.next
    · rw [if_pos k] at mi'
      exact ne hh (Option.some.inj mi').symm
    · rw [if_neg k] at zi mi'
      exact nm i zi mi'
/-- an object of the heap changes -/
theorem Sim.set (S : Sim g W h H) {i : Nat} {a : Addr} {o o' : Ob} {u : HO} (e : h.get i = some o) (m : W.m i = some a) (r : RepO g W o' u) : Sim g W (h.set i o') (upd H a u) := by
  obtain ⟨a', u', m', n, np, hh, _⟩ := S.ob i o e
  rw [m] at m'
  cases m'
  have gs : ∀ k, ((h.set i o').get k).isSome → (h.get k).isSome := fun k z => by
    rw [VH.get_set] at z
    by_cases q : k = i
    · rw [q, e]
      rfl
    · rw [if_neg q] at z
      exact z
  refine ⟨fun q v z => ?_, fun k ob z => ?_, fun j k b zj zk => S.inj j k b (gs j zj) (gs k zk), S.nx, fun b z => ?_, fun q v z => ?_⟩
  · have : q ≠ a := fun w => by
      rw [w, n] at z
      cases z
    rw [upd_ne this]
    exact S.sub q v z
  · rw [VH.get_set] at z
    by_cases q : k = i
    · rw [if_pos q, e] at z
      cases z
      rw [q]
      exact ⟨a, u, m, n, np, upd_same, r⟩
    · rw [if_neg q] at z
      obtain ⟨b, v, mb, nb, pb, hb, rb⟩ := S.ob k ob z
      have : b ≠ a := fun w => q (S.inj k i a (by rw [z]; rfl) (by rw [e]; rfl) (by rw [← w]; exact mb) m)
      exact ⟨b, v, mb, nb, pb, by rw [upd_ne this]; exact hb, rb⟩
  · obtain ⟨v, hb, rb, nb⟩ := S.pn b z
    have : b ≠ a := fun w => np (by rw [← w]; exact z)
    exact ⟨v, by rw [upd_ne this]; exact hb, rb, nb⟩
  · obtain ⟨hb, nb, pb, mb⟩ := S.xk q v z
    have : q ≠ a := fun w => mb i (by rw [e]; rfl) (by rw [w]; exact m)
    exact ⟨by rw [upd_ne this]; exact hb, nb, pb, fun k zk => mb k (gs k zk)⟩
/-- an object of the heap becomes a value -/
theorem Sim.frz (S : Sim g W h H) {i : Nat} {o : Ob} (e : h.get i = some o) : ∃ a u, W.m i = some a ∧ H a = some u ∧ RepO g W o u ∧ W.le (W.put a u) ∧ Sim g (W.put a u) (h.erase i) H := by
  obtain ⟨a, u, m, n, np, hh, r⟩ := S.ob i o e
  have l := Wd.put_le (o := u) n
  have gs : ∀ k, ((h.erase i).get k).isSome → (h.get k).isSome := fun k z => by
    rw [VH.get_erase] at z
    by_cases q : k = i
    · rw [if_pos q] at z
      cases z
    · rw [if_neg q] at z
      exact z
  refine ⟨a, u, m, hh, r, l, fun q v z => ?_, fun k ob z => ?_, fun j k b zj zk => S.inj j k b (gs j zj) (gs k zk), S.nx, fun b z => ?_, fun q v z => ?_⟩
  · have z' : upd W.G a u q = some v := z
    by_cases w : q = a
    · rw [w, upd_same] at z'
      cases z'
      rw [w]
      exact hh
    · rw [upd_ne w] at z'
      exact S.sub q v z'
  · rw [VH.get_erase] at z
    by_cases q : k = i
    · rw [if_pos q] at z
      cases z
    · rw [if_neg q] at z
      obtain ⟨b, v, mb, nb, pb, hb, rb⟩ := S.ob k ob z
      have : b ≠ a := fun w => q (S.inj k i a (by rw [z]; rfl) (by rw [e]; rfl) (by rw [← w]; exact mb) m)
      refine ⟨b, v, mb, ?_, pb, hb, rb.mono l⟩
      show upd W.G a u b = none
      rw [upd_ne this]
      exact nb
  · obtain ⟨v, hb, rb, nb⟩ := S.pn b z
    have : b ≠ a := fun w => np (by rw [← w]; exact z)
    refine ⟨v, hb, g.penM _ _ v l.g rb, ?_⟩
    show upd W.G a u b = none
    rw [upd_ne this]
    exact nb
  · obtain ⟨hb, nb, pb, mb⟩ := S.xk q v z
    have : q ≠ a := fun w => mb i (by rw [e]; rfl) (by rw [w]; exact m)
    refine ⟨hb, ?_, pb, fun k zk => mb k (gs k zk)⟩
    show upd W.G a u q = none
    rw [upd_ne this]
    exact nb
/-- a new object that others hold -/
theorem Sim.held (S : Sim g W h H) {p : Addr} {o : HO} (e : H p = none) : Sim g (W.hold (upd W.x p o)) h (upd H p o) := by
  have ne : ∀ {q v}, H q = some v → q ≠ p := fun z => ne_of_none z e
  refine ⟨fun q v z => by rw [upd_ne (ne (S.sub q v z))]; exact S.sub q v z, fun i ob z => ?_, S.inj, S.nx, fun a z => ?_, fun q v z => ?_⟩
  · obtain ⟨a, v, m, n, np, hh, r⟩ := S.ob i ob z
    exact ⟨a, v, m, n, np, by rw [upd_ne (ne hh)]; exact hh, r.mono0 Wd.hold_le0⟩
  · obtain ⟨v, hh, r', n⟩ := S.pn a z
    exact ⟨v, by rw [upd_ne (ne hh)]; exact hh, r', n⟩
  · have z' : upd W.x p o q = some v := z
    by_cases k : q = p
    · rw [k, upd_same] at z'
      rw [k]
      refine ⟨by rw [upd_same]; exact z', S.free e, fun y => ?_, fun i zi mi => ?_⟩
      · obtain ⟨u, hh, _⟩ := S.pn p y
        rw [e] at hh
        cases hh
      · obtain ⟨ob, w⟩ := Option.isSome_iff_exists.mp zi
        obtain ⟨b, u, m, _, _, hh, _⟩ := S.ob i ob w
        have : b = p := Option.some.inj (m.symm.trans mi)
        rw [this, e] at hh
        cases hh
    · rw [upd_ne k] at z'
      obtain ⟨hh, n, np, nm⟩ := S.xk q v z'
      exact ⟨by rw [upd_ne k]; exact hh, n, np, nm⟩
/-- what others hold changes -/
theorem Sim.hset (S : Sim g W h H) {p : Addr} {o o' : HO} (e : W.x p = some o) : Sim g (W.hold (upd W.x p o')) h (upd H p o') := by
  obtain ⟨hp, np, pp, mp⟩ := S.xk p o e
  refine ⟨fun q v z => ?_, fun i ob z => ?_, S.inj, S.nx, fun a z => ?_, fun q v z => ?_⟩
  · have : q ≠ p := fun w => by
      have z' : W.G q = some v := z
      rw [w, np] at z'
      cases z'
    rw [upd_ne this]
    exact S.sub q v z
  · obtain ⟨a, v, m, n, npn, hh, r⟩ := S.ob i ob z
    have : a ≠ p := fun w => mp i (by rw [z]; rfl) (by rw [← w]; exact m)
    exact ⟨a, v, m, n, npn, by rw [upd_ne this]; exact hh, r.mono0 Wd.hold_le0⟩
  · obtain ⟨v, hh, r', n⟩ := S.pn a z
    have : a ≠ p := fun w => pp (by rw [← w]; exact z)
    exact ⟨v, by rw [upd_ne this]; exact hh, r', n⟩
  · have z' : upd W.x p o' q = some v := z
    by_cases k : q = p
    · rw [k, upd_same] at z'
      rw [k]
      exact ⟨by rw [upd_same]; exact z', np, pp, mp⟩
    · rw [upd_ne k] at z'
      obtain ⟨hh, n, npn, nm⟩ := S.xk q v z'
      exact ⟨by rw [upd_ne k]; exact hh, n, npn, nm⟩
/-- what others held is a value now -/
theorem Sim.hput (S : Sim g W h H) {p : Addr} {o : HO} {x : Hp} (e : W.x p = some o) (hx : ∀ q v, x q = some v → W.x q = some v ∧ q ≠ p) : Sim g ((W.put p o).hold x) h H := by
  obtain ⟨hp, np, pp, mp⟩ := S.xk p o e
  have l : W.le0 ((W.put p o).hold x) := (Wd.put_le np).tole0.trans Wd.hold_le0
  refine ⟨fun q v z => ?_, fun i ob z => ?_, S.inj, S.nx, fun a z => ?_, fun q v z => ?_⟩
  · have z' : upd W.G p o q = some v := z
    by_cases k : q = p
    · rw [k, upd_same] at z'
      cases z'
      rw [k]
      exact hp
    · rw [upd_ne k] at z'
      exact S.sub q v z'
  · obtain ⟨a, v, m, n, npn, hh, r⟩ := S.ob i ob z
    have k : a ≠ p := fun w => mp i (by rw [z]; rfl) (by rw [← w]; exact m)
    refine ⟨a, v, m, ?_, npn, hh, r.mono0 l⟩
    show upd W.G p o a = none
    rw [upd_ne k]
    exact n
  · obtain ⟨v, hh, r', n⟩ := S.pn a z
    have k : a ≠ p := fun w => pp (by rw [← w]; exact z)
    refine ⟨v, hh, g.penM _ _ v l.g r', ?_⟩
    show upd W.G p o a = none
    rw [upd_ne k]
    exact n
  · obtain ⟨w, k⟩ := hx q v z
    obtain ⟨hh, n, npn, nm⟩ := S.xk q v w
    refine ⟨hh, ?_, npn, nm⟩
    show upd W.G p o q = none
    rw [upd_ne k]
    exact n
/-- what others held is an object of the heap now -/
theorem Sim.hlay (S : Sim g W h H) {p : Addr} {u : HO} {o : Ob} {x : Hp} (e : W.x p = some u) (hx : ∀ q v, x q = some v → W.x q = some v ∧ q ≠ p) (r : RepO g W o u) : Sim g ((W.lay h.next p).hold x) (h.push o) H := by
  obtain ⟨hp, np, pp, mp⟩ := S.xk p u e
  have l : W.le0 ((W.lay h.next p).hold x) := (Wd.lay_le (S.nx h.next (Nat.le_refl _))).tole0.trans Wd.hold_le0
  refine ⟨S.sub, fun i ob z => ?_, fun i j a zi zj mi mj => ?_, fun i z => ?_, S.pn, fun q v z => ?_⟩
  · rw [VH.get_push] at z
    by_cases k : i = h.next
    · rw [if_pos k] at z
      cases z
      refine ⟨p, u, ?_, np, pp, hp, r.mono0 l⟩
      show (if i = h.next then some p else W.m i) = some p
      rw [if_pos k]
    · rw [if_neg k] at z
      obtain ⟨a, v, m, n, npn, hh, r'⟩ := S.ob i ob z
      exact ⟨a, v, l.m _ _ m, n, npn, hh, r'.mono0 l⟩
  · have key : ∀ k, ((h.push o).get k).isSome → (if k = h.next then some p else W.m k) = some a → (k = h.next ∧ a = p) ∨ (k ≠ h.next ∧ (h.get k).isSome ∧ W.m k = some a ∧ a ≠ p) := fun k zk mk => by
      rw [VH.get_push] at zk
      by_cases q : k = h.next
      · rw [if_pos q] at mk
        exact .inl ⟨q, (Option.some.inj mk).symm⟩
      · rw [if_neg q] at mk zk
        exact .inr ⟨q, zk, mk, fun w => mp k zk (by rw [← w]; exact mk)⟩
    rcases key i zi mi with ⟨a1, a2⟩ | ⟨a1, a2, a3, a4⟩ <;> rcases key j zj mj with ⟨b1, b2⟩ | ⟨b1, b2, b3, b4⟩
    · rw [a1, b1]
    · exact absurd a2 b4
    · exact absurd b2 a4
    · exact S.inj i j a a2 b2 a3 b3
  · have z' : h.next + 1 ≤ i := z
    show (if i = h.next then some p else W.m i) = none
    rw [if_neg (by omega)]
    exact S.nx i (by omega)
  · obtain ⟨w, k⟩ := hx q v z
    obtain ⟨hh, n, npn, nm⟩ := S.xk q v w
    refine ⟨hh, n, npn, fun i zi mi => ?_⟩
    have mi' : (if i = h.next then some p else W.m i) = some q := mi
    rw [VH.get_push] at zi
    by_cases k2 : i = h.next
    · rw [if_pos k2] at mi'
      exact k (Option.some.inj mi').symm
    · rw [if_neg k2] at zi mi'
      exact nm i zi mi'
end

/-! ### the readings by what they mean -/
def we (X : Cx) (e : Expr) : TE := fun σ H Q => ∀ pins s, Inv X pins σ H s → wpAny (model X.prog X.w) X.A (eval e X.env) (EP X pins σ Q) X.xe s
def wt (X : Cx) (e : Expr) : TT := fun σ H Q => ∀ pins s, Inv X pins σ H s → wpAny (model X.prog X.w) X.A (isTrue e X.env (eval e X.env)) (TP X pins σ Q) X.xe s
def wa (X : Cx) (es : List Expr) : TA := fun σ H Q => ∀ (pos : Pos) pins s, Inv X pins σ H s → wpAny (model X.prog X.w) X.A (spliced (backTo pos (starEach es X.env))) (AP X pins σ Q) X.xe s
def ws (X : Cx) (st : Stmt) : TS := fun D σ H => ∀ pins s, Inv X pins σ H s → wpAny (model X.prog X.w) X.A (exec st X.env) (SP X pins D) X.xe s
def wss (X : Cx) (st : List Stmt) : TS := fun D σ H => ∀ pins s, Inv X pins σ H s → wpAny (model X.prog X.w) X.A (execs st X.env) (SP X pins D) X.xe s
section
variable {X : Cx} {e : Expr} {es : List Expr} {st : Stmt} {sts : List Stmt} {σ : L2.St} {H : Hp}
theorem pe_we : PE X e (we X e) := ⟨fun pins s _ _ _ I h => h pins s I⟩
theorem pt_wt : PT X e (wt X e) := ⟨fun pins s _ _ _ I h => h pins s I⟩
theorem pa_wa : PA X es (wa X es) := ⟨fun pos pins s _ _ _ I h => h pos pins s I⟩
theorem ps_ws : PS X st (ws X st) := ⟨fun pins s _ _ _ I h => h pins s I⟩
theorem pss_wss : PSs X sts (wss X sts) := ⟨fun pins s _ _ _ I h => h pins s I⟩
theorem _root_.L2.PE.we' {t : TE} (h : PE X e t) {Q : VK} (q : t σ H Q) : we X e σ H Q := fun pins s I => h.run pins s σ H Q I q
theorem _root_.L2.PT.wt' {t : TT} (h : PT X e t) {Q : Bool → Hp → Prop} (q : t σ H Q) : wt X e σ H Q := fun pins s I => h.run pins s σ H Q I q
theorem _root_.L2.PA.wa' {t : TA} (h : PA X es t) {Q : List V → Hp → Prop} (q : t σ H Q) : wa X es σ H Q := fun pos pins s I => h.run pos pins s σ H Q I q
theorem _root_.L2.PS.ws' {t : TS} (h : PS X st t) {D : Ends} (q : t D σ H) : ws X st D σ H := fun pins s I => h.run pins s σ H D I q
theorem _root_.L2.PSs.wss' {t : TS} (h : PSs X sts t) {D : Ends} (q : t D σ H) : wss X sts D σ H := fun pins s I => h.run pins s σ H D I q
theorem we_mono {Q Q' : VK} (h : we X e σ H Q) (q : ∀ v H', Q v H' → Q' v H') : we X e σ H Q' := fun pins s I => thn (h pins s I) fun _ _ ⟨v, H', I', r, z⟩ => ⟨v, H', I', r, q v H' z⟩
theorem wt_mono {Q Q' : Bool → Hp → Prop} (h : wt X e σ H Q) (q : ∀ v H', Q v H' → Q' v H') : wt X e σ H Q' := fun pins s I => thn (h pins s I) fun _ _ ⟨H', I', z⟩ => ⟨H', I', q _ H' z⟩
theorem wa_mono {Q Q' : List V → Hp → Prop} (h : wa X es σ H Q) (q : ∀ v H', Q v H' → Q' v H') : wa X es σ H Q' := fun pos pins s I => thn (h pos pins s I) fun _ _ ⟨v, H', I', r, z⟩ => ⟨v, H', I', r, q v H' z⟩
end
end M
end

section
set_option maxRecDepth 100000
set_option maxHeartbeats 2000000
namespace M
open PySem PySem.Spec PyProof.Rows L2
theorem tmul_self (l : Addr) (items : Array Value) (n : Nat) (dd : Option Addr) (sl : Array (Option Value)) (x : Int) (u : Tok) (c0 : (decide (x < -(2 ^ 63)) || decide (x ≥ 2 ^ 63)) = false) (c1 : (items.isEmpty || x == 1) = true) :
    Meets (Builtin.«tuple.__mul__» ⟨[.ref l, .int x u], []⟩) (fun _ R s => s.heap.get? l = some { cls := .type "tuple", dict := dd, data := .seq items n, slots := sl } ∧ R (.ok (.ret (Value.ref l))) s) :=
  .of_wp fun prog w A R s h => by
    obtain ⟨hp, g, d, tk, os⟩ := s
    obtain ⟨hl, h⟩ := h
    have f1 := AutoSeq1.idx_int
    wp_walk using wpAny_loadPart' hl
    repeat (first
      | (refine wpAny_ite_false (decide_eq_false (by rw [c0]; exact Bool.false_ne_true)) ?_; wp_walk using wpAny_loadPart' hl)
      | (refine wpAny_ite_true (decide_eq_true (by rw [c1])) ?_; wp_walk using wpAny_loadPart' hl))
    exact ⟨_, rfl, h⟩
theorem tmul_nil (l : Addr) (items : Array Value) (n : Nat) (dd : Option Addr) (sl : Array (Option Value)) (x : Int) (u : Tok) (c0 : (decide (x < -(2 ^ 63)) || decide (x ≥ 2 ^ 63)) = false) (c1 : (items.isEmpty || x == 1) = false) (c2 : (decide (x ≤ 0) || items.isEmpty) = true) :
    Meets (Builtin.«tuple.__mul__» ⟨[.ref l, .int x u], []⟩) (fun _ R s => s.heap.get? l = some { cls := .type "tuple", dict := dd, data := .seq items n, slots := sl } ∧ R (.ok (.ret (Value.ref s.heap.objs.size))) { s with heap := s.heap.push { cls := Value.type "tuple", data := Data.seq #[] }, toks := s.toks }) :=
  .of_wp fun prog w A R s h => by
    obtain ⟨hp, g, d, tk, os⟩ := s
    obtain ⟨hl, h⟩ := h
    have f1 := AutoSeq1.idx_int
    wp_walk using wpAny_loadPart' hl
    repeat (first
      | (refine wpAny_ite_false (decide_eq_false (by rw [c0]; exact Bool.false_ne_true)) ?_; wp_walk using wpAny_loadPart' hl)
      | (refine wpAny_ite_false (decide_eq_false (by rw [c1]; exact Bool.false_ne_true)) ?_; wp_walk using wpAny_loadPart' hl)
      | (refine wpAny_ite_true (decide_eq_true (by rw [c2])) ?_; wp_walk using wpAny_loadPart' hl))
    exact ⟨_, rfl, h⟩

def rMulT (K : PySem.W.Frag) : R2 := fun x y H Q => ∃ l k xs, x = .ref l ∧ y = .int k ∧ SqT K H l xs ∧ -1000000 < k ∧ k < 1000000 ∧ xs.length * k.toNat ≤ 1000000 ∧
  ((xs = [] ∨ k = 1) → Q (.ref l) H) ∧ (¬ (xs = [] ∨ k = 1) → ∀ p, H p = none → Q (.ref p) (upd H p (.tup (List.replicate k.toNat xs).flatten)))
section
variable {X : Cx}
theorem op_mulT : OpR X (binaryOp .Mult) (rMulT X.K) := by
  intro pins s σ H x y v u Q I rx ry h
  obtain ⟨l, k, xs, rfl, rfl, hT, hk1, hk2, hsz, q1, q2⟩ := h
  cases rx
  obtain ⟨t, rfl⟩ := ry
  obtain ⟨its, r, ⟨⟨cls, dd, data, sl⟩, ho, hc, n, hd⟩, hs⟩ := I.tuple hT
  simp only at hc hd
  subst hc hd
  have el : its.length = xs.length := r.length.symm
  have en : its.toArray.isEmpty = true ↔ xs = [] := by
    cases its with
    | nil => exact ⟨fun _ => List.eq_nil_of_length_eq_zero el.symm, fun _ => rfl⟩
    | cons a b =>
      refine ⟨fun z => (by cases z), fun z => ?_⟩
      rw [z] at el
      cases el
  have c0 : (decide (k < -(2 ^ 63)) || decide (k ≥ 2 ^ 63)) = false := by
    rw [decide_eq_false (by omega), decide_eq_false (by omega)]
    rfl
  have go : ∀ {F : Value → Shared → Prop}, codeAny (model X.prog X.w) X.A.in1 (.builtin "tuple.__mul__" ⟨[.ref l, .int k t], []⟩) (fun r s' => ∃ v, r = .ok (.ret v) ∧ F v s') s → True := fun _ => trivial
  by_cases hz : xs = [] ∨ k = 1
  · have c1 : (its.toArray.isEmpty || k == 1) = true := by
      rw [Bool.or_eq_true]
      rcases hz with z | z
      · exact .inl (en.mpr z)
      · exact .inr (by rw [z]; rfl)
    refine wpAny_binaryOp_repeat_ref (T := "tuple") (U := "int") (by decide) ⟨_, ho, rfl⟩ (fun s' => typeIs_int s' k t) noFill_tuple_mul F.fills_int_mul F.slot_int_rmul repeat_tuple F.slot_int_index.lookup
      (call_meets F.slot_int_rmul (typeIs_int s k t) F.entry_int_rmul (F.args_int_rmul_2 _ _) (int_rmul_tuple k t l its.toArray n dd sl)
        ⟨ho, rfl, ⟨_, ho, rfl⟩, call_meets F.slot_tuple_mul ⟨_, ho, rfl⟩ F.entry_tuple_mul (F.args_tuple_mul_2 _ _) (tmul_self l its.toArray n dd sl k t c0 c1) ⟨ho, ?_⟩⟩)
    exact ⟨.ref l, H, I, rfl, q1 hz⟩
  · have c1 : (its.toArray.isEmpty || k == 1) = false := by
      rw [Bool.or_eq_false_iff]
      refine ⟨?_, beq_eq_false_iff_ne.mpr fun z => hz (.inr z)⟩
      cases e : its.toArray.isEmpty with
      | false => rfl
      | true => exact absurd (.inl (en.mp e)) hz
    have ne : its.toArray.isEmpty = false := (Bool.or_eq_false_iff.mp c1).1
    by_cases h0 : k ≤ 0
    · have c2 : (decide (k ≤ 0) || its.toArray.isEmpty) = true := by rw [decide_eq_true h0]; rfl
      refine wpAny_binaryOp_repeat_ref (T := "tuple") (U := "int") (by decide) ⟨_, ho, rfl⟩ (fun s' => typeIs_int s' k t) noFill_tuple_mul F.fills_int_mul F.slot_int_rmul repeat_tuple F.slot_int_index.lookup
        (call_meets F.slot_int_rmul (typeIs_int s k t) F.entry_int_rmul (F.args_int_rmul_2 _ _) (int_rmul_tuple k t l its.toArray n dd sl)
          ⟨ho, rfl, ⟨_, ho, rfl⟩, call_meets F.slot_tuple_mul ⟨_, ho, rfl⟩ F.entry_tuple_mul (F.args_tuple_mul_2 _ _) (tmul_nil l its.toArray n dd sl k t c0 c1 c2) ⟨ho, ?_⟩⟩)
      have e0 : k.toNat = 0 := by omega
      have q3 := q2 hz s.heap.objs.size (I.hok.fresh (Nat.le_refl _))
      rw [e0] at q3
      refine ⟨.ref s.heap.objs.size, _, I.laid (t' := s.toks) (o := .tup []) (fun b ob q => Heap.get?_push_of_some _ q) (Nat.le_refl _) ?_, rfl, q3⟩
      exact ⟨Nat.zero_le _, [], .nil, IsTup.new _ _⟩
    · have c2 : (decide (k ≤ 0) || its.toArray.isEmpty) = false := by rw [decide_eq_false h0, ne]; rfl
      have hm : ((its.toArray.size : Nat) : Int) * k ≤ 1000000 := by
        rw [List.size_toArray, el]
        have : ((xs.length * k.toNat : Nat) : Int) = (xs.length : Int) * k := by
          rw [Int.natCast_mul, Int.toNat_of_nonneg (by omega)]
        omega
      have flen : (List.replicate k.toNat its).flatten.length ≤ 1000000 := by
        rw [PyProof.Rows.lm_len_rep_flat, el, Nat.mul_comm]
        exact hsz
      have sl6 : 1000000 ≤ sizeLine := by rw [sizeLine_eq]; decide
      have c4 : Builtin.Tuple.tupleTooMany (((its.toArray.size : Nat) : Int) * k) = false := by
        unfold Builtin.Tuple.tupleTooMany
        rw [sizeLine_eq]
        exact decide_eq_false (by omega)
      refine wpAny_binaryOp_repeat_ref (T := "tuple") (U := "int") (by decide) ⟨_, ho, rfl⟩ (fun s' => typeIs_int s' k t) noFill_tuple_mul F.fills_int_mul F.slot_int_rmul repeat_tuple F.slot_int_index.lookup
        (call_meets F.slot_int_rmul (typeIs_int s k t) F.entry_int_rmul (F.args_int_rmul_2 _ _) (int_rmul_tuple k t l its.toArray n dd sl)
          ⟨ho, rfl, ⟨_, ho, rfl⟩, call_meets F.slot_tuple_mul ⟨_, ho, rfl⟩ F.entry_tuple_mul (F.args_tuple_mul_2 _ _) (tuple_mulW l its.toArray n dd sl k t c0 c1 c2 (by omega) c4 (by rw [size_rep, List.size_toArray]; exact Nat.le_trans flen sl6)) ⟨ho, ?_⟩⟩)
      rw [size_rep]
      refine ⟨.ref s.heap.objs.size, _, I.laid (t' := s.toks) (o := .tup (List.replicate k.toNat xs).flatten) (fun b ob q => Heap.get?_push_of_some _ q) (Nat.le_refl _) ?_, rfl, q2 hz _ (I.hok.fresh (Nat.le_refl _))⟩
      exact ⟨by rw [PyProof.Rows.lm_len_rep_flat, Nat.mul_comm]; exact Nat.le_trans hsz sl6, _, r.rep k.toNat, IsTup.new _ _⟩
end
end M
end

section
set_option Elab.async false
set_option linter.all false
set_option maxRecDepth 100000
set_option maxHeartbeats 2000000
/-! X2: t[::-1] of a tuple. -/
namespace M
open PySem PySem.Spec PyProof.Rows L2
section
variable {prog : Program} {w : World} {A : Around} {E : Value → Shared → Prop} {s : Shared}
theorem rev_places (n : Nat) : Builtin.Slice.slicePlaces ((n : Int) - 1) (-1) (-1) = n := by
  unfold Builtin.Slice.slicePlaces
  rw [if_neg (by decide)]
  by_cases h : (n : Int) - 1 > -1
  · rw [if_pos h, show (-(-1) : Int) = 1 by decide, Int.ediv_one]
    omega
  · rw [if_neg h]
    omega
theorem slice_rev {sl : Addr} {vl vu vs : Value} {n : Nat} {Q : Int × Int × Nat → Shared → Prop} (hs : s.heap.IsSliceOf sl vl vu vs) (pl : IsPart vl none) (pu : IsPart vu none) (ps : IsPart vs (some (-1)))
    (h : Q ((n : Int) - 1, -1, n) s) : wpAny (model prog w) A (Builtin.Slice.sliceApplied (.ref sl) (pure (n : Int))) Q E s := by
  obtain ⟨os, hos, hcs, hds⟩ := id hs
  unfold Builtin.Slice.sliceApplied Builtin.Slice.sliceFields
  refine wpAny_bind (wpAny_bind (wpAny_field hos hds (x := vl) rfl (wpAny_bind (wpAny_field hos hds (x := vu) rfl (wpAny_bind (wpAny_field hos hds (x := vs) rfl (wpAny_pure ?_)))))))
  refine wpAny_bind (HT.slicePart_ ps ?_)
  show wpAny _ _ (if ((-1 : Int) == 0) = true then _ else _) _ _ s
  rw [if_neg (by decide)]
  refine wpAny_bind (HT.slicePart_ pl (wpAny_bind (HT.slicePart_ pu (wpAny_bind (wpAny_pure ?_)))))
  show wpAny _ _ (pure ((n : Int) - 1, (-1 : Int), Builtin.Slice.slicePlaces ((n : Int) - 1) (-1) (-1))) _ _ s
  rw [rev_places]
  exact wpAny_pure h
theorem pick_rev (xs : Array Value) : ((List.range xs.size).filterMap fun (m : Nat) => xs[(((xs.size : Nat) : Int) - 1 + (m : Int) * (-1)).toNat]?).toArray = xs.toList.reverse.toArray := by
  have e : (List.range xs.size).filterMap (fun (m : Nat) => xs[(((xs.size : Nat) : Int) - 1 + (m : Int) * (-1)).toNat]?) = ((List.range xs.size).map fun k => xs.size - 1 - k).filterMap (xs[·]?) := by
    rw [List.filterMap_map]
    have e1 : (fun (m : Nat) => xs[(((xs.size : Nat) : Int) - 1 + (m : Int) * (-1)).toNat]?) = ((fun k => xs[k]?) ∘ fun k => xs.size - 1 - k) := by
      funext m
      have e2 : (((xs.size : Nat) : Int) - 1 + (m : Int) * (-1)).toNat = xs.size - 1 - m := by omega
      show xs[(((xs.size : Nat) : Int) - 1 + (m : Int) * (-1)).toNat]? = xs[xs.size - 1 - m]?
      rw [e2]
    rw [e1]
  rw [e, PySem.W.krv_range, List.filterMap_reverse, PySem.W.krv_all]
theorem getItem_tuple_rev {t sl : Addr} {items : Array Value} {vl vu vs : Value} {Q : Value → Shared → Prop} (ht : IsTup s.heap t items) (hs : s.heap.IsSliceOf sl vl vu vs) (pl : IsPart vl none) (pu : IsPart vu none) (ps : IsPart vs (some (-1)))
    (h : Q (.ref s.heap.objs.size) { s with heap := s.heap.push { cls := .type "tuple", data := .seq items.toList.reverse.toArray } })
    (hsz : items.size ≤ sizeLine) : wpAny (model prog w) A (getItem (.ref t) (.ref sl)) Q E s := by
  have hso : sizeOk (.seq items.toList.reverse.toArray) := by
    show items.toList.reverse.toArray.size ≤ sizeLine
    rw [List.size_toArray, List.length_reverse, Array.length_toList]
    exact hsz
  obtain ⟨os, hos, hcs, hds⟩ := id hs
  have hTs : s.TypeIs (.ref sl) "slice" := ⟨os, hos, hcs⟩
  unfold getItem
  try with_reducible refine wpAny_holding ?_
  first | refine wpAny_bind (wpAny_pure ?_) | skip
  refine wpAny_bind (wpAny_sequenceKey ht.typeIs (by decide) ?_)
  refine wpAny_bind (wpAny_callSpecial?_slot (name := Str.ofString "__getitem__") ht.typeIs PyProof.Rows.slot_tuple_getitem
    (wpAny_call_entry PyProof.Rows.slot_tuple_getitem ht.typeIs entry_tuple_getitem ?_ (args_tuple_getitem _ _)))
  show wpAny _ _ (Builtin.Tuple.tupleItemsOf (.ref t) >>= _) _ _ s
  refine wpAny_bind (tupleItemsOf_ ht ?_)
  refine wpAny_bind (wpAny_typeOf hTs ?_)
  rw [if_pos (by decide)]
  refine wpAny_bind (slice_rev hs pl pu ps ?_)
  have hno : ¬ (((((items.size : Nat) : Int) - 1) == 0 && (-1 : Int) == 1 && items.size == items.size) = true) := by simp
  show wpAny _ _ (if ((((items.size : Nat) : Int) - 1) == 0 && (-1 : Int) == 1 && items.size == items.size) = true then _ else _) _ _ s
  rw [if_neg hno, pick_rev]
  first
    | exact wpAny_bind (m := Builtin.Tuple.tupleExact _) (wpAny_newObj_type (wpAny_pure ⟨_, rfl, wpAny_pure h⟩) hso)
    | exact wpAny_bind (m := Builtin.Tuple.tupleExact _) (wpAny_newObj_type (wpAny_bind (wpAny_pure (wpAny_pure ⟨_, rfl, wpAny_pure h⟩))) hso)
    | exact wpAny_bind (wpAny_bind (m := Builtin.Tuple.tupleExact _) (wpAny_newObj_type (wpAny_pure (wpAny_pure ⟨_, rfl, wpAny_pure h⟩)) hso))
    | exact wpAny_bind (wpAny_bind (m := Builtin.Tuple.tupleExact _) (wpAny_newObj_type (wpAny_pure ⟨_, rfl, wpAny_pure h⟩) hso))
end
/-- x[::-1] of a list or a tuple -/
def tRevA (K : PySem.W.Frag) (te : TE) : TE := fun σ H Q => te σ H fun x H1 => ∃ a xs, x = .ref a ∧ ((SqL K H1 a xs ∧ ∀ p, H1 p = none → Q (.ref p) (upd H1 p (.lst xs.reverse))) ∨ (SqT K H1 a xs ∧ ∀ p, H1 p = none → Q (.ref p) (upd H1 p (.tup xs.reverse))))
theorem pe_revA {X : Cx} {e : Expr} {te : TE} {k : Nat} {p1 p2 p3 pos : Pos} (he : PE X e te) : PE X (.Subscript e (.Slice none none (some (.UnaryOp .USub (.Constant (.int 1) k p1) p2)) p3) pos) (tRevA X.K te) := by
  refine ⟨fun pins s σ H Q I h => ?_⟩
  refine Subscript_ (thn (he.run pins s σ H _ I h) fun v s1 ⟨x, H1, I1, r1, q1⟩ => ?_)
  obtain ⟨a, xs, ex, hq⟩ := q1
  subst ex
  cases r1
  have hst : PO X (some (.UnaryOp .USub (.Constant (.int 1) k p1) p2)) (tPart (tUn (rU fun i => .int (-i)) (tC (.int 1)))) := po_some (pe_un un_neg pe_int)
  refine wpAny_Slice (thn (po_none.run pins s1 σ H1 (fun o H2 => o = none ∧ H2 = H1) I1 ⟨rfl, rfl⟩) fun vl s2 ⟨l, H2, I2, pl, el, e2⟩ => ?_)
  subst el e2
  refine thn (po_none.run pins s2 σ H2 (fun o H3 => o = none ∧ H3 = H2) I2 ⟨rfl, rfl⟩) fun vu s3 ⟨u, H3, I3, pu, eu, e3⟩ => ?_
  subst eu e3
  refine thn (hst.run pins s3 σ H3 (fun o H4 => o = some (-1) ∧ H4 = H3) I3 ⟨1, rfl, -1, rfl, rfl, rfl⟩) fun vs s4 ⟨o, H4, I4, ps, eo, e4⟩ => ?_
  subst eo e4
  have I5 : Inv X pins σ H4 { s4 with heap := s4.heap.push { cls := .type "slice", data := .fields #[vl, vu, vs] } } := I4.kept (t' := s4.toks) fun b ob q => Heap.get?_push_of_some _ q
  show wpAny (model X.prog X.w) X.A (subscriptTail e (.Slice none none (some (.UnaryOp .USub (.Constant (.int 1) k p1) p2)) p3) (.ref a) (.ref s4.heap.objs.size)) (EP X pins σ Q) X.xe { s4 with heap := s4.heap.push { cls := .type "slice", data := .fields #[vl, vu, vs] } }
  rcases hq with ⟨hx, q⟩ | ⟨hx, q⟩
  · obtain ⟨its, r, ht, hz⟩ := I5.list hx
    have hlen := r.length
    refine tail_any (ops := [.ref a, .ref s4.heap.objs.size]) ht.isList.typeIs (PySem.slot_list_getitem.lookup) ?_ (by with_unfolding_all rfl)
    refine wpAny_getItem_list_slice ht.isList (Heap.IsSliceOf.new _ vl vu vs) pl pu ps (by decide) ?_ (by rw [List.size_toArray]; omega)
    rw [PySem.W.krv_pick]
    refine ⟨.ref _, _, I5.laid (t' := s4.toks) (o := .lst xs.reverse) (fun b ob q => Heap.get?_push_of_some _ q) (Nat.le_refl _) ?_, rfl, q _ (I5.hok.fresh (Nat.le_refl _))⟩
    exact ⟨by rw [List.length_reverse]; exact hz, _, 0, r.reverse, Heap.get?_push_size _ rfl⟩
  · obtain ⟨its, r, ht, hz⟩ := I5.tuple hx
    have hlen := r.length
    refine tail_any (ops := [.ref a, .ref s4.heap.objs.size]) ht.typeIs (PyProof.Rows.slot_tuple_getitem.lookup) ?_ (by with_unfolding_all rfl)
    refine getItem_tuple_rev ht (Heap.IsSliceOf.new _ vl vu vs) pl pu ps ?_ (by rw [List.size_toArray]; omega)
    refine ⟨.ref _, _, I5.laid (t' := s4.toks) (o := .tup xs.reverse) (fun b ob q => Heap.get?_push_of_some _ q) (Nat.le_refl _) ?_, rfl, q _ (I5.hok.fresh (Nat.le_refl _))⟩
    exact ⟨by rw [List.length_reverse]; exact hz, _, r.reverse, IsTup.new _ _⟩
end M
end

section
set_option Elab.async false
set_option linter.all false
set_option maxRecDepth 100000
set_option maxHeartbeats 1000000
/-! M3: the operations on values keep what they promise. -/
namespace M
open PySem PySem.Spec PyProof.Rows L2

def bopO : Bop → Operator
  | .add => .Add | .sub => .Sub | .mul => .Mult | .fdiv => .FloorDiv | .mod => .Mod | .pow => .Pow | .shl => .LShift
def copO : Cop → CmpOp
  | .eq => .Eq | .ne => .NotEq | .lt => .Lt | .le => .LtE | .gt => .Gt | .ge => .GtE | .is => .Is | .isnot => .IsNot | .in_ => .In | .notin => .NotIn

/-- any rule for the operation -/
def opq (X : Cx) (f : Value → Value → Sem Value) : R2 := fun x y H Q => ∃ r, OpR X f r ∧ r x y H Q
theorem opq_R {X : Cx} {f : Value → Value → Sem Value} : OpR X f (opq X f) := fun pins s σ H x y v u Q I rx ry ⟨_, hr, h⟩ => hr pins s σ H x y v u Q I rx ry h
def callq (X : Cx) (f : Value) : List V → Hp → VK → Prop := fun xs H Q => ∃ r, CallR X f r ∧ r xs H Q
theorem callq_R {X : Cx} {f : Value} : CallR X f (callq X f) := fun pins s σ H xs us Q I r ⟨_, hr, h⟩ => hr pins s σ H xs us Q I r h
def ixq (X : Cx) : R2 := fun x y H Q => ∃ r, IxR X r ∧ r x y H Q
theorem ixq_R {X : Cx} : IxR X (ixq X) := fun value slice pins s σ H x y v u Q I rx ry hh hs => hh.elim fun _ hr => hr.1 value slice pins s σ H x y v u Q I rx ry hr.2 hs
def slq (X : Cx) : V → Option Int → Option Int → Hp → VK → Prop := fun x lo hi H Q => ∃ r, SlR X r ∧ r x lo hi H Q
theorem slq_R {X : Cx} : SlR X (slq X) := fun pins s σ H x v vl vu lo hi sl Q I r1 r2 r3 r4 hh => hh.elim fun _ hr => hr.1 pins s σ H x v vl vu lo hi sl Q I r1 r2 r3 r4 hr.2

theorem sz_le {n : Nat} (h : sz n = true) : n ≤ 1000000 := of_decide_eq_true h
theorem line6 : 1000000 < sizeLine := by rw [sizeLine_eq]; decide
theorem sz_line {n : Nat} (h : sz n = true) : n ≤ sizeLine := Nat.le_of_lt (Nat.lt_of_le_of_lt (sz_le h) line6)

/-- the outcome, without the run -/
def outP (m : Bool) (r : Rv) (h : VH) : Val × VH := match r with
  | .v x => (x, h)
  | .nl xs => if m then (.ref h.next, h.push (.lst xs)) else (.lst xs, h)
theorem out_eq (m : Bool) (r : Rv) (h : VH) : out m r h = .ret (outP m r h) := by
  cases r with
  | v x => rfl
  | nl xs => cases m <;> rfl

section
variable {g : Ga} {W : Wd} {h : VH} {H : Hp}
/-- what is wanted of a value, of a world that goes on -/
abbrev Want (g : Ga) (W : Wd) (r : Val × VH) (Q : VK) : Prop := ∀ W' w H', W.le W' → Sim g W' r.2 H' → Rep g W' r.1 w → Q w H'
theorem new_list {Q : VK} {m : Bool} {xs : List Val} {ys : List V} (S : Sim g W h H) (r : Reps g W xs ys) (q : Want g W (outP m (.nl xs) h) Q) : ∀ p, H p = none → Q (.ref p) (upd H p (.lst ys)) := fun p hp => by
  cases m with
  | false =>
    have l := Wd.put_le (o := .lst ys) (S.free hp)
    exact q _ _ _ l (S.put hp) (.lst upd_same (r.mono l))
  | true =>
    have l := Wd.lay_le (p := p) (S.nx h.next (Nat.le_refl _))
    exact q (W.lay h.next p) _ _ l (S.lay hp (.lst (r.mono l))) (.ref (by show (if h.next = h.next then some p else W.m h.next) = some p; rw [if_pos rfl]))
theorem new_tup {Q : VK} {xs : List Val} {ys : List V} (S : Sim g W h H) (r : Reps g W xs ys) (q : Want g W (.tup xs, h) Q) : ∀ p, H p = none → Q (.ref p) (upd H p (.tup ys)) := fun p hp => by
  have l := Wd.put_le (o := .tup ys) (S.free hp)
  exact q _ _ _ l (S.put hp) (.tup (.of upd_same) (r.mono l))
theorem at_once {Q : VK} {x : Val} {w : V} (S : Sim g W h H) (r : Rep g W x w) (q : Want g W (x, h) Q) : Q w H := q W w H .rfl' S r
theorem Sim.sqT (S : Sim g W h H) {a : Addr} {xs : List V} (t : SqT g.K W.G a xs) : SqT g.K H a xs := sqT_mono S.sub t
theorem Sim.sqL (S : Sim g W h H) {a : Addr} {xs : List V} (t : SqL g.K W.G a xs) : SqL g.K H a xs := sqL_mono S.sub t
/-- a sequence -/
inductive SeqAt' (g : Ga) (H : Hp) (W : Wd) (x : Val) (xs : List Val) : V → Prop where
  | tup {a : Addr} {ys : List V} (e : x = .tup xs) (t : SqT g.K H a ys) (r : Reps g W xs ys) : SeqAt' g H W x xs (.ref a)
  | lst {a : Addr} {ys : List V} (t : H a = some (.lst ys)) (r : Reps g W xs ys) (ne : ∀ zs, x ≠ .tup zs) (ns : ∀ zs, x ≠ .scr zs) : SeqAt' g H W x xs (.ref a)
  | scr {a : Addr} {ns : List Int} (e : x = .scr ns) (t : SqL g.K H a (ns.map V.int)) (r : xs = ns.map Val.int) : SeqAt' g H W x xs (.ref a)
theorem seq_at (S : Sim g W h H) {x : Val} {w : V} {xs : List Val} (r : Rep g W x w) (e : seqOf h x = some xs) : SeqAt' g H W x xs w := by
  cases r with
  | tup t r =>
    cases e
    exact .tup rfl (S.sqT t) r
  | lst t r =>
    cases e
    exact .lst (S.sub _ _ t) r (fun _ z => by cases z) (fun _ z => by cases z)
  | scr t =>
    cases e
    exact .scr rfl (S.sqL t) rfl
  | @ref i a m =>
    have e' : (match h.get i with | some (.lst xs) => some xs | _ => none) = some xs := e
    cases q : h.get i with
    | none =>
      rw [q] at e'
      cases e'
    | some o =>
      rw [q] at e'
      obtain ⟨a', u, m', n, np, hh, ro⟩ := S.ob i o q
      rw [m] at m'
      cases m'
      cases ro with
      | lst r =>
        cases e'
        exact .lst hh r (fun _ z => by cases z) (fun _ z => by cases z)
      | ins _ r => cases e'
      | dK r => cases e'
      | pen r => cases e'
  | non => cases e
  | bl b => cases e
  | int i => cases e
  | str s => cases e
  | obj _ t r => cases e
  | pen t => cases e
end

/-! ### two-place operations -/
section
variable {g : Ga} {W : Wd} {h : VH} {H : Hp} {X : Cx}
def CFd (i j : Int) : Prop := j ≠ 0 ∧ j.natAbs.log2 < 9000
theorem op_fdivG : OpR X (binaryOp .FloorDiv) (rI CFd fun i j => .int (i.fdiv j)) := opI fun _ _ _ _ _ _ _ hc q => floordiv_int hc.1 q (.inl (PyProof.noPylong_of_log2 hc.2))
theorem binI_ok {op : Bop} {i j : Int} {z : Val} (e : binI op i j = some z) : ∃ k, z = .int k ∧ ∀ (H : Hp) (Q : VK), Q (.int k) H → opq X (binaryOp (bopO op)) (.int i) (.int j) H Q := by
  cases op with
  | add => cases e; exact ⟨_, rfl, fun H Q q => ⟨_, op_add, i, j, rfl, rfl, q⟩⟩
  | sub => cases e; exact ⟨_, rfl, fun H Q q => ⟨_, op_sub, i, j, rfl, rfl, q⟩⟩
  | mul =>
    have e' : (if big i + big j < lim then some (Val.int (i * j)) else none) = some z := e
    split at e'
    · rename_i hb
      cases e'
      exact ⟨_, rfl, fun H Q q => ⟨_, op_mulW, i, j, rfl, rfl, hb, q⟩⟩
    · cases e'
  | fdiv =>
    have e' : (if j = 0 then none else if big j < 9000 then some (Val.int (i.fdiv j)) else none) = some z := e
    split at e'
    · cases e'
    · split at e'
      · rename_i h1 h2
        cases e'
        exact ⟨_, rfl, fun H Q q => ⟨_, op_fdivG, i, j, rfl, rfl, ⟨h1, h2⟩, q⟩⟩
      · cases e'
  | mod =>
    have e' : (if j = 0 then none else some (Val.int (i.fmod j))) = some z := e
    split at e'
    · cases e'
    · rename_i h1
      cases e'
      exact ⟨_, rfl, fun H Q q => ⟨_, op_modN, i, j, rfl, rfl, h1, q⟩⟩
  | pow =>
    have e' : (if 0 ≤ j ∧ j ≤ 1000000 ∧ i.natAbs < 2 ^ 64 then some (Val.int (i ^ j.toNat)) else none) = some z := e
    split at e'
    · rename_i h1
      cases e'
      exact ⟨_, rfl, fun H Q q => ⟨_, op_pow, i, j, rfl, rfl, h1, q⟩⟩
    · cases e'
  | shl =>
    have e' : (if 0 ≤ j ∧ j ≤ 1000000 ∧ i.natAbs < 2 ^ 64 then some (Val.int (i * 2 ^ j.toNat)) else none) = some z := e
    split at e'
    · rename_i h1
      cases e'
      exact ⟨_, rfl, fun H Q q => ⟨_, op_shl, i, j, rfl, rfl, h1, q⟩⟩
    · cases e'
theorem cat_ok (K : X.K = g.K) (S : Sim g W h H) {x y : Val} {x' y' : V} {xs ys : List Val} {m : Bool} {Q : VK} (rx : Rep g W x x') (ry : Rep g W y y') (ex : seqOf h x = some xs) (ey : seqOf h y = some ys)
    (n1 : ∀ z, x ≠ .tup z) (n2 : ∀ z, x ≠ .scr z) (n3 : ∀ z, y ≠ .tup z) (n4 : ∀ z, y ≠ .scr z) (hz : sz (xs.length + ys.length) = true) (q : Want g W (outP m (.nl (xs ++ ys)) h) Q) : opq X (binaryOp .Add) x' y' H Q := by
  cases seq_at S rx ex with
  | tup e _ _ => exact absurd e (n1 _)
  | scr e _ _ => exact absurd e (n2 _)
  | lst t r _ _ =>
    cases seq_at S ry ey with
    | tup e _ _ => exact absurd e (n3 _)
    | scr e _ _ => exact absurd e (n4 _)
    | lst t' r' _ _ =>
      refine ⟨_, op_cat, _, _, _, _, rfl, rfl, t, t', ?_, new_list S (r.append r') q⟩
      rw [← r.length, ← r'.length]
      exact sz_line hz
theorem rep_ok (K : X.K = g.K) (S : Sim g W h H) {x : Val} {k : Int} {x' : V} {xs : List Val} {m : Bool} {Q : VK} (rx : Rep g W x x') (ex : seqOf h x = some xs)
    (n1 : ∀ z, x ≠ .tup z) (n2 : ∀ z, x ≠ .scr z) (hz : (sz (xs.length * k.toNat) && decide (k < 1000000) && decide (-1000000 < k)) = true) (q : Want g W (outP m (.nl (List.replicate k.toNat xs).flatten) h) Q) : opq X (binaryOp .Mult) x' (.int k) H Q := by
  simp only [Bool.and_eq_true, decide_eq_true_eq] at hz
  cases seq_at S rx ex with
  | tup e _ _ => exact absurd e (n1 _)
  | scr e _ _ => exact absurd e (n2 _)
  | lst t r _ _ =>
    refine ⟨_, op_rep, _, k, _, rfl, rfl, t, by omega, by omega, ?_, new_list S (r.rep _) q⟩
    rw [← r.length]
    exact sz_line hz.1.1
theorem tcat_ok (K : X.K = g.K) (S : Sim g W h H) {xs ys : List Val} {x' y' : V} {Q : VK} (rx : Rep g W (.tup xs) x') (ry : Rep g W (.tup ys) y') (hz : sz (xs.length + ys.length) = true) (q : Want g W (.tup (xs ++ ys), h) Q) :
    opq X (binaryOp .Add) x' y' H Q := by
  cases rx with
  | tup t r =>
    cases ry with
    | tup t' r' =>
      refine ⟨_, op_catA, _, _, _, _, rfl, rfl, by rw [K]; exact S.sqT t, by rw [K]; exact S.sqT t', ?_, fun e => ?_, fun e1 e2 => ?_, fun e1 e2 => new_tup S (r.append r') q⟩
      · rw [← r.length, ← r'.length]
        exact sz_line hz
      · have e' : xs = [] := List.eq_nil_of_length_eq_zero (by rw [r.length, e]; rfl)
        rw [e'] at q
        exact at_once S (.tup t' r') q
      · have e' : ys = [] := List.eq_nil_of_length_eq_zero (by rw [r'.length, e2]; rfl)
        rw [e', List.append_nil] at q
        exact at_once S (.tup t r) q
theorem tmul_ok (K : X.K = g.K) (S : Sim g W h H) {xs : List Val} {k : Int} {x' : V} {Q : VK} (rx : Rep g W (.tup xs) x') (hz : (sz (xs.length * k.toNat) && decide (k < 1000000) && decide (-1000000 < k)) = true)
    (q : Want g W (.tup (List.replicate k.toNat xs).flatten, h) Q) : opq X (binaryOp .Mult) x' (.int k) H Q := by
  simp only [Bool.and_eq_true, decide_eq_true_eq] at hz
  cases rx with
  | tup t r =>
    refine ⟨_, op_mulT, _, k, _, rfl, rfl, by rw [K]; exact S.sqT t, hz.2, hz.1.2, ?_, fun e => ?_, fun _ => new_tup S (r.rep _) q⟩
    · rw [← r.length]
      exact sz_le hz.1.1
    · rcases e with e | e
      · have e' : xs = [] := List.eq_nil_of_length_eq_zero (by rw [r.length, e]; rfl)
        have e2 : (List.replicate k.toNat xs).flatten = xs := by
          rw [e']
          induction k.toNat with
          | zero => rfl
          | succ n ih => rw [List.replicate_succ, List.flatten_cons, ih]; rfl
        rw [e2] at q
        exact at_once S (.tup t r) q
      · rw [e] at q
        have e2 : (List.replicate (1 : Int).toNat xs).flatten = xs := by
          show (List.replicate 1 xs).flatten = xs
          simp
        rw [e2] at q
        exact at_once S (.tup t r) q
theorem binV_ok (K : X.K = g.K) (S : Sim g W h H) {op : Bop} {x y : Val} {x' y' : V} {r : Rv} {m : Bool} {Q : VK} (rx : Rep g W x x') (ry : Rep g W y y') (e : binV h op x y = some r) (q : Want g W (outP m r h) Q) : opq X (binaryOp (bopO op)) x' y' H Q := by
  unfold binV at e
  split at e
  · rename_i i j
    cases rx
    cases ry
    cases eb : binI op i j with
    | none =>
      rw [eb] at e
      cases e
    | some z =>
      rw [eb] at e
      cases e
      obtain ⟨k, rfl, z⟩ := binI_ok (X := X) eb
      exact z H Q (at_once S (.int k) q)
  · rename_i a b
    cases rx
    cases ry
    split at e
    · rename_i hz
      cases e
      exact ⟨_, op_add_str, a, b, rfl, rfl, sz_line hz, at_once S (.str _) q⟩
    · cases e
  · rename_i xs ys
    split at e
    · rename_i hz
      cases e
      exact tcat_ok K S rx ry hz q
    · cases e
  · rename_i xs k
    cases ry
    split at e
    · rename_i hz
      cases e
      exact tmul_ok K S rx hz q
    · cases e
  · split at e
    · cases e
    · cases e
    · cases e
    · cases e
    · rename_i n1 n2 n3 n4
      split at e
      · rename_i xs ys ex ey
        split at e
        · rename_i hz
          cases e
          exact cat_ok K S rx ry ex ey (fun z w => n1 z w) (fun z w => n2 z w) (fun z w => n3 z w) (fun z w => n4 z w) hz q
        · cases e
      · cases e
  · rename_i k _ _
    cases ry
    split at e
    · cases e
    · cases e
    · rename_i n1 n2
      split at e
      · rename_i xs ex
        split at e
        · rename_i hz
          cases e
          exact rep_ok K S rx ex (fun z w => n1 z w) (fun z w => n2 z w) hz q
        · cases e
      · cases e
  · cases e
end
end M
end

section
set_option Elab.async false
set_option linter.all false
set_option maxRecDepth 100000
set_option maxHeartbeats 1000000
/-! M4: comparisons, subscripts, slices, fields, built-in calls. -/
namespace M
open PySem PySem.Spec PyProof.Rows L2

def tyV' (g : Ga) : Ty → Value
  | .int => .type "int" | .bool => .type "bool" | .str => .type "str" | .tuple => .type "tuple" | .list => .type "list" | .dict => .type "dict"
  | .own c => .ref (g.cls c)
def tyW (g : Ga) : Ty → V
  | .int => .ty "int" | .bool => .ty "bool" | .str => .ty "str" | .tuple => .ty "tuple" | .list => .ty "list" | .dict => .ty "dict"
  | .own c => .ref (g.cls c)
/-- what of the text the evaluator leans on -/
structure GaOk (g : Ga) (nc nf : Nat) : Prop where
  inj : ∀ i j, g.fld i = g.fld j → i = j
  cinj : ∀ i j, i < nc → j < nc → g.cls i = g.cls j → i = j
  cls : ∀ c, c < nc → Cls g.K (g.cls c)
  noat : ∀ c f, c < nc → g.has c f = true → NoAttr g.K (g.cls c) (g.fld f)
  cat : ∀ c, c < nc → PySem.W.findIn g.K (.ref (g.cls c)) "__class__" = some (some (.builtin "object.__class__"))
  mro : ∀ c, c < nc → PySem.W.mroIn g.K (g.cls c) (.type "object") = some true
  chn : PySem.W.specialIn g.K (.builtin "object.__class__") "__get__" = some (some (.builtin "getset_descriptor.__get__"))
  chk : PySem.W.takesIn g.K (.builtin "object.__class__") = some true
  kit : ∀ t u : Ty, (∀ c, t = .own c → c < nc) → (∀ c, u = .own c → c < nc) → PySem.W.kitOne g.K (tyV' g t) (tyV' g u) = some (isTy t u)
  kitN : ∀ u : Ty, (∀ c, u = .own c → c < nc) → PySem.W.kitOne g.K (.type "NoneType") (tyV' g u) = some false

section
variable {g : Ga} {W : Wd} {h : VH} {H : Hp} {X : Cx}
mutual
theorem Rep.dp (S : Sim g W h H) : ∀ {x : Val} {w : V} {d : PyData}, Rep g W x w → x.toD = some d → Dp g.K H w d
  | _, _, _, .non, e => by
    cases e
    exact .non
  | _, _, _, .bl b, e => by
    cases e
    exact .bl b
  | _, _, _, .int b, e => by
    cases e
    exact .int b
  | _, _, _, .str b, e => by
    cases e
    exact .str b
  | .tup xs, _, d, .tup t r, e => by
    have e' : (Val.toDs xs).map PyData.tuple = some d := by
      rw [← e, Val.toD]
    cases q : Val.toDs xs with
    | none =>
      rw [q] at e'
      cases e'
    | some ds =>
      rw [q] at e'
      cases e'
      exact .tup (S.sqT t) (Reps.dp S r q)
  | .lst xs, _, d, .lst t r, e => by
    have e' : (Val.toDs xs).map PyData.list = some d := by
      rw [← e, Val.toD]
    cases q : Val.toDs xs with
    | none =>
      rw [q] at e'
      cases e'
    | some ds =>
      rw [q] at e'
      cases e'
      exact .lst (.of (S.sub _ _ t)) (Reps.dp S r q)
  | _, _, _, .obj _ _ _, e => by simp [Val.toD] at e
  | _, _, _, .ref _, e => by simp [Val.toD] at e
  | _, _, _, .pen _, e => by simp [Val.toD] at e
  | _, _, _, .scr _, e => by simp [Val.toD] at e
theorem Reps.dp (S : Sim g W h H) : ∀ {x : List Val} {w : List V} {d : List PyData}, Reps g W x w → Val.toDs x = some d → DpAll g.K H w d
  | _, _, _, .nil, e => by
    simp [Val.toDs] at e
    subst e
    exact .nil
  | x :: xs, _, d, .cons a r, e => by
    unfold Val.toDs at e
    split at e
    · rename_i d1 ds1 q1 q2
      cases e
      exact .cons (Rep.dp S a q1) (Reps.dp S r q2)
    · cases e
end
theorem eqD_ok (K : X.K = g.K) (u : X.A.units + 64 < cLine) (S : Sim g W h H) {x y : Val} {x' y' : V} {b : Bool} (rx : Rep g W x x') (ry : Rep g W y y') (e : eqD x y = some b) :
    (∀ Q : VK, Q (.bl b) H → opq X (compareOp .Eq) x' y' H Q) ∧ (∀ Q : VK, Q (.bl (!b)) H → opq X (compareOp .NotEq) x' y' H Q) := by
  unfold eqD at e
  split at e
  · rename_i d1 d2 q1 q2
    split at e
    · rename_i hs
      cases e
      rw [Bool.and_eq_true] at hs
      have p1 := Rep.dp S rx q1
      have p2 := Rep.dp S ry q2
      rw [← K] at p1 p2
      exact ⟨fun Q q => ⟨_, op_eqD u, _, _, p1, p2, hs.1, hs.2, q⟩, fun Q q => ⟨_, op_neD u, _, _, p1, p2, hs.1, hs.2, q⟩⟩
    · cases e
  · cases e
theorem refD_dp (S : Sim g W h H) {x : Val} {w : V} {d : PyData} (r : Rep g W x w) (e : refD h x = some d) : Dp g.K H w d := by
  unfold refD at e
  split at e
  · rename_i i
    split at e
    · rename_i xs hx
      cases r with
      | ref m =>
        obtain ⟨a, u, m', n, np, hh, ro⟩ := S.ob _ _ hx
        rw [m] at m'
        cases m'
        cases ro with
        | lst r =>
          cases q : Val.toDs xs with
          | none =>
            rw [q] at e
            cases e
          | some ds =>
            rw [q] at e
            cases e
            exact .lst (.of hh) (Reps.dp S r q)
    · cases e
  · exact Rep.dp S r e
theorem eqH_ok (K : X.K = g.K) (u : X.A.units + 64 < cLine) (S : Sim g W h H) {x y : Val} {x' y' : V} {b : Bool} (rx : Rep g W x x') (ry : Rep g W y y') (e : eqH h x y = some b) :
    (∀ Q : VK, Q (.bl b) H → opq X (compareOp .Eq) x' y' H Q) ∧ (∀ Q : VK, Q (.bl (!b)) H → opq X (compareOp .NotEq) x' y' H Q) := by
  unfold eqH at e
  split at e
  · rename_i d1 d2 q1 q2
    split at e
    · rename_i hs
      cases e
      rw [Bool.and_eq_true] at hs
      have p1 := refD_dp S rx q1
      have p2 := refD_dp S ry q2
      rw [← K] at p1 p2
      exact ⟨fun Q q => ⟨_, op_eqD u, _, _, p1, p2, hs.1, hs.2, q⟩, fun Q q => ⟨_, op_neD u, _, _, p1, p2, hs.1, hs.2, q⟩⟩
    · cases e
  · cases e
theorem isNon_iff {x : Val} {w : V} (r : Rep g W x w) : isNon x = decide (w = .non) := by
  cases r <;> simp [isNon]
theorem cmpI_ok {op : Cop} {i j : Int} {b : Bool} (e : cmpI op i j = some b) {Q : VK} (q : Q (.bl b) H) : opq X (compareOp (copO op)) (.int i) (.int j) H Q := by
  cases op <;> simp only [cmpI] at e <;> cases e
  · exact ⟨_, op_lt, i, j, rfl, rfl, q⟩
  · exact ⟨_, op_le, i, j, rfl, rfl, q⟩
  · exact ⟨_, op_gt, i, j, rfl, rfl, q⟩
  · exact ⟨_, op_ge, i, j, rfl, rfl, q⟩
theorem cmpV_ok (K : X.K = g.K) (u : X.A.units + 64 < cLine) (S : Sim g W h H) {op : Cop} {x y : Val} {x' y' : V} {b : Bool} {Q : VK} (rx : Rep g W x x') (ry : Rep g W y y') (e : cmpV op x y = some b) (q : Q (.bl b) H) :
    opq X (compareOp (copO op)) x' y' H Q := by
  unfold cmpV at e
  split at e
  · cases ry
    cases e
    rw [isNon_iff rx] at q
    exact ⟨_, op_isN, rfl, q⟩
  · cases ry
    cases e
    rw [isNon_iff rx] at q
    exact ⟨_, op_notN, rfl, q⟩
  · exact (eqD_ok K u S rx ry e).1 Q q
  · cases ed : eqD x y with
    | none =>
      rw [ed] at e
      cases e
    | some c =>
      rw [ed] at e
      cases e
      exact (eqD_ok K u S rx ry ed).2 Q q
  · cases rx
    cases ry
    exact cmpI_ok e q
  · cases e

theorem at_I {α : Type} {xs : List α} {k : Int} {v : α} (e : ((M.ixN xs.length k).bind fun j => xs[j]?) = some v) : atI xs k = some v := e
theorem at_R {xs : List Val} {ys : List V} {k : Int} {v : Val} (r : Reps g W xs ys) (e : ((M.ixN xs.length k).bind fun j => xs[j]?) = some v) : ∃ w, atI ys k = some w ∧ Rep g W v w := by
  unfold atI
  show ∃ w, ((L2.ixN ys.length k).bind fun j => ys[j]?) = some w ∧ _
  have e' : ((L2.ixN xs.length k).bind fun j => xs[j]?) = some v := e
  rw [r.length] at e'
  cases q : L2.ixN ys.length k with
  | none =>
    rw [q] at e'
    cases e'
  | some j =>
    rw [q] at e'
    obtain ⟨w, a, b⟩ := r.get (show xs[j]? = some v from e')
    exact ⟨w, a, b⟩
theorem ix_dict (u : X.A.units + 1 < cLine) : IxR X (fun x y H Q => ∃ a v, x = .ref a ∧ DGet H a y (some v) ∧ Q v H) := by
  intro value slice pins s σ H x y v u' Q I rx ry h hs
  obtain ⟨a, w, rfl, hd, q⟩ := h
  cases (show v = Value.ref a from rx)
  exact tail_any (dict_typeIs I hd) slot_dict_getitem.lookup (d_getItem u I hd ry fun w' s3 I3 rw' => ⟨w, H, I3, rw', q⟩) hs
theorem keyOf_ok {i : Val} {w : V} {k : L2.Key} (r : Rep g W i w) (e : keyOf i = some k) : w = kV k := by
  unfold keyOf at e
  split at e
  · cases e
    cases r
    rfl
  · cases e
    cases r
    rfl
  · cases e
theorem subV_ok (K : X.K = g.K) (u : X.A.units + 64 < cLine) (S : Sim g W h H) {x ky v : Val} {x' i' : V} {Q : VK} (rx : Rep g W x x') (ri : Rep g W ky i') (e : subV h x ky = some v) (q : ∀ w, Rep g W v w → Q w H) : ixq X x' i' H Q := by
  unfold subV at e
  split at e
  · rename_i r i
    split at e
    · rename_i xs hg
      split at e
      · rename_i k
        cases ri
        cases rx with
        | ref m =>
          obtain ⟨a, u, m', n, np, hh, ro⟩ := S.ob _ _ hg
          rw [m] at m'
          cases m'
          cases ro with
          | lst rr =>
            obtain ⟨w, a1, b1⟩ := at_R rr e
            exact ⟨_, ix_list, _, _, k, w, rfl, rfl, .of hh, a1, q w b1⟩
      · cases e
    · rename_i kvs hg
      cases rx with
      | ref m =>
        obtain ⟨a, u, m', n, np, hh, ro⟩ := S.ob _ _ hg
        rw [m] at m'
        cases m'
        cases ro with
        | dK rr =>
          cases ek : keyOf ky with
          | none =>
            rw [ek] at e
            cases e
          | some k =>
            rw [ek] at e
            obtain ⟨w, a1, b1⟩ := rr.val (show valK kvs k = some v from e)
            have := keyOf_ok ri ek
            subst this
            exact ⟨_, ix_dict (by omega), _, w, rfl, .inl ⟨_, k, .of hh, rfl, a1.symm⟩, q w b1⟩
    · cases e
  · rename_i xs k
    cases ri
    cases rx with
    | tup t rr =>
      obtain ⟨w, a1, b1⟩ := at_R rr e
      exact ⟨_, ix_tup, _, _, k, w, rfl, rfl, by rw [K]; exact S.sqT t, a1, q w b1⟩
  · rename_i xs k
    cases ri
    cases rx with
    | lst t rr =>
      obtain ⟨w, a1, b1⟩ := at_R rr e
      exact ⟨_, ix_list, _, _, k, w, rfl, rfl, .of (S.sub _ _ t), a1, q w b1⟩
  · rename_i s k
    cases ri
    cases rx
    split at e
    · rename_i hz
      cases e1 : M.ixN s.cps.size k with
      | none =>
        rw [e1] at e
        cases e
      | some j =>
        rw [e1] at e
        have e2 : ((s.cps.toList[j]?).map fun c => Val.str ⟨#[c]⟩) = some v := e
        cases e3 : s.cps.toList[j]? with
        | none =>
          rw [e3] at e2
          cases e2
        | some c =>
          rw [e3] at e2
          cases e2
          refine ⟨_, ix_str, s, k, c, rfl, rfl, sz_line hz, ?_, q _ (.str _)⟩
          show ((L2.ixN s.cps.toList.length k).bind fun j => s.cps.toList[j]?) = some c
          rw [Array.length_toList, show L2.ixN s.cps.size k = some j from e1]
          exact e3
    · cases e
  · cases e
theorem cut_R {xs : List Val} {ys : List V} {lo hi : Option Int} (r : Reps g W xs ys) : Reps g W (cut xs lo hi) (cutV ys lo hi) := by
  unfold cut cutV
  rw [r.length]
  exact (r.drop _).take _
theorem sIx_le' (n d : Nat) (hd : d ≤ n) (o : Option Int) : HT.sIx n d o ≤ n := HT.sIx_le n d hd o
theorem slcV_ok (K : X.K = g.K) (S : Sim g W h H) {x : Val} {x' : V} {lo hi : Option Int} {r : Rv} {m : Bool} {Q : VK} (rx : Rep g W x x') (e : slcV h x lo hi = some r) (q : Want g W (outP m r h) Q) : slq X x' lo hi H Q := by
  unfold slcV at e
  split at e
  · rename_i xs
    cases e
    cases rx with
    | tup t rr =>
      refine ⟨_, sl_tupA, _, _, rfl, by rw [K]; exact S.sqT t, fun hw => ?_, fun hw => new_tup S (cut_R rr) q⟩
      have e2 : cut xs lo hi = xs := by
        unfold cut
        rw [rr.length, hw.1, hw.2, List.drop_zero, Nat.sub_zero]
        exact List.take_of_length_le (by rw [rr.length]; exact Nat.le_refl _)
      rw [e2] at q
      exact at_once S (.tup t rr) q
  · rename_i n1
    cases e1 : seqOf h x with
    | none =>
      rw [e1] at e
      cases e
    | some xs =>
      rw [e1] at e
      cases e
      cases seq_at S rx e1 with
      | tup e _ _ => exact absurd e (n1 _)
      | lst t rr _ _ => exact ⟨_, sl_list, _, _, rfl, .of t, new_list S (cut_R rr) q⟩
      | scr e t rr =>
        subst rr
        exact ⟨_, sl_list, _, _, rfl, by rw [K]; exact t, new_list S (cut_R (Reps.of_ints _)) q⟩
theorem Reps.isTup {xs : List Val} {w : V} (r : Rep g W (.tup xs) w) (S : Sim g W h H) : TyX g.K H w (.type "tuple") := by
  cases r with
  | tup t _ =>
    rcases S.sqT t with (t | ⟨o, t⟩) | ⟨o, its, n, hk, hc, _⟩
    · exact .base (.tup t)
    · exact .fTuple t
    · exact .kTuple hk hc
theorem Rep.tyx {nf : Nat} (O : GaOk g g.nc nf) (S : Sim g W h H) {x : Val} {w : V} {t : Ty} (r : Rep g W x w) (e : ofTy h x = some t) : TyX g.K H w (tyV' g t) ∧ ∀ c, t = .own c → c < g.nc := by
  unfold ofTy at e
  split at e
  · cases e
    cases r
    exact ⟨.base (.bl _), fun _ z => nomatch z⟩
  · cases e
    cases r
    exact ⟨.base (.int _), fun _ z => nomatch z⟩
  · cases e
    cases r
    exact ⟨.base (.str _), fun _ z => nomatch z⟩
  · cases e
    exact ⟨Reps.isTup r S, fun _ z => nomatch z⟩
  · cases e
    cases r with
    | lst t _ => exact ⟨.base (.lst (S.sub _ _ t)), fun _ z => nomatch z⟩
  · rename_i c fs
    cases e
    cases r with
    | obj hs t _ =>
      have this := hs.1
      exact ⟨.base (.ins (S.sub _ _ t) (O.cls c this) (O.cat c this) O.chn O.chk (O.mro c this)), fun c z => by cases z; exact this⟩
  · rename_i i
    cases r with
    | ref m =>
      split at e
      · rename_i xs hg
        cases e
        obtain ⟨a, u, m', n, np, hh, ro⟩ := S.ob _ _ hg
        rw [m] at m'
        cases m'
        cases ro with
        | lst _ => exact ⟨.base (.lst hh), fun _ z => nomatch z⟩
      · rename_i xs hg
        cases e
        obtain ⟨a, u, m', n, np, hh, ro⟩ := S.ob _ _ hg
        rw [m] at m'
        cases m'
        cases ro with
        | dK _ => exact ⟨.base (.dK hh), fun _ z => nomatch z⟩
      · rename_i xs hg
        obtain ⟨a, u, m', n, np, hh, ro⟩ := S.ob _ _ hg
        cases ro
      · rename_i c fs hg
        cases e
        obtain ⟨a, u, m', n, np, hh, ro⟩ := S.ob _ _ hg
        rw [m] at m'
        cases m'
        cases ro with
        | ins hs _ =>
          have this := hs.1
          exact ⟨.base (.ins hh (O.cls c this) (O.cat c this) O.chn O.chk (O.mro c this)), fun c z => by cases z; exact this⟩
      · cases e
  · cases e
theorem kitAny_ok {nc nf : Nat} (O : GaOk g nc nf) {t : Ty} (ht : ∀ c, t = .own c → c < nc) : ∀ ts : List Ty, (∀ u ∈ ts, ∀ c, u = .own c → c < nc) → PySem.W.kitAny g.K (tyV' g t) (ts.map (tyV' g)) = some (ts.any (isTy t))
  | [], _ => rfl
  | u :: ts, hu => by
    have h1 := O.kit t u ht (hu u List.mem_cons_self)
    have ih := kitAny_ok O ht ts fun v hv => hu v (List.mem_cons_of_mem _ hv)
    show (match PySem.W.kitOne g.K (tyV' g t) (tyV' g u) with | some true => some true | some false => PySem.W.kitAny g.K (tyV' g t) (ts.map (tyV' g)) | none => none) = _
    rw [h1, List.any_cons]
    cases isTy t u with
    | true => rfl
    | false => exact ih
theorem kitAnyN_ok {nc nf : Nat} (O : GaOk g nc nf) : ∀ ts : List Ty, (∀ u ∈ ts, ∀ c, u = .own c → c < nc) → PySem.W.kitAny g.K (.type "NoneType") (ts.map (tyV' g)) = some false
  | [], _ => rfl
  | u :: ts, hu => by
    have h1 := O.kitN u (hu u List.mem_cons_self)
    have ih := kitAnyN_ok O ts fun v hv => hu v (List.mem_cons_of_mem _ hv)
    show (match PySem.W.kitOne g.K (.type "NoneType") (tyV' g u) with | some true => some true | some false => PySem.W.kitAny g.K (.type "NoneType") (ts.map (tyV' g)) | none => none) = _
    rw [h1]
    exact ih
theorem fldV_ok {nc nf : Nat} (O : GaOk g nc nf) (S : Sim g W h H) {x v : Val} {f : Nat} {w : V} (r : Rep g W x w) (e : fldV h x f = some v) (hf : f < nf) :
    ∃ a c dx gs u, w = .ref a ∧ H a = some (.ins (g.cls c) dx gs) ∧ gs.lookup (g.fld f) = some u ∧ Rep g W v u ∧ clsOf h x = some c ∧ c < g.nc ∧ g.has c f = true := by
  unfold fldV at e
  split at e
  · rename_i c fs
    cases r with
    | obj lc t rr =>
      obtain ⟨y, a1, b1⟩ := rr.lookup O.inj e
      exact ⟨_, c, _, _, y, rfl, S.sub _ _ t, a1, b1, rfl, lc.1, lc.2 _ (lookup_mem e)⟩
  · rename_i i
    cases r with
    | ref m =>
      split at e
      · rename_i c fs hg
        obtain ⟨a, u, m', n, np, hh, ro⟩ := S.ob _ _ hg
        rw [m] at m'
        cases m'
        cases ro with
        | ins lc rr =>
          obtain ⟨y, a1, b1⟩ := rr.lookup O.inj e
          exact ⟨_, c, _, _, y, rfl, hh, a1, b1, by show (match h.get i with | some (Ob.ins c _) => some c | _ => none) = some c; rw [hg], lc.1, lc.2 _ (lookup_mem e)⟩
      · cases e
  · cases e

/-! ### built-in calls -/
def biF : Bi → Value
  | .len => .builtin "len" | .abs => .builtin "abs" | .max => .builtin "max" | .min => .builtin "min" | .sum => .builtin "sum" | .all => .builtin "all" | .any => .builtin "any"
  | .int => .type "int" | .str => .type "str" | .list => .type "list" | .tuple => .type "tuple" | .gcd => .builtin "math.gcd" | .sorted => .builtin "sorted" | .repr => .builtin "repr"
theorem maxI_ok : ∀ {ns : List Int} {m : Int}, maxI ns = some m → m ∈ ns ∧ ∀ y ∈ ns, y ≤ m
  | [a], m, e => by
    cases e
    exact ⟨List.mem_singleton.mpr rfl, fun y hy => by rw [List.mem_singleton.mp hy]; exact Int.le_refl _⟩
  | a :: b :: r, m, e => by
    have e' : ((maxI (b :: r)).map fun c => if c > a then c else a) = some m := e
    cases q : maxI (b :: r) with
    | none =>
      rw [q] at e'
      cases e'
    | some c =>
      rw [q] at e'
      cases e'
      obtain ⟨h1, h2⟩ := maxI_ok q
      show (if c > a then c else a) ∈ a :: b :: r ∧ ∀ y ∈ a :: b :: r, y ≤ if c > a then c else a
      split
      · rename_i z
        refine ⟨List.mem_cons_of_mem _ h1, fun y hy => ?_⟩
        rcases List.mem_cons.mp hy with rfl | hy
        · omega
        · exact h2 y hy
      · rename_i z
        refine ⟨List.mem_cons_self, fun y hy => ?_⟩
        rcases List.mem_cons.mp hy with rfl | hy
        · exact Int.le_refl _
        · have := h2 y hy
          omega
theorem minI_ok : ∀ {ns : List Int} {m : Int}, minI ns = some m → m ∈ ns ∧ ∀ y ∈ ns, m ≤ y
  | [a], m, e => by
    cases e
    exact ⟨List.mem_singleton.mpr rfl, fun y hy => by rw [List.mem_singleton.mp hy]; exact Int.le_refl _⟩
  | a :: b :: r, m, e => by
    have e' : ((minI (b :: r)).map fun c => if c < a then c else a) = some m := e
    cases q : minI (b :: r) with
    | none =>
      rw [q] at e'
      cases e'
    | some c =>
      rw [q] at e'
      cases e'
      obtain ⟨h1, h2⟩ := minI_ok q
      show (if c < a then c else a) ∈ a :: b :: r ∧ ∀ y ∈ a :: b :: r, (if c < a then c else a) ≤ y
      split
      · rename_i z
        refine ⟨List.mem_cons_of_mem _ h1, fun y hy => ?_⟩
        rcases List.mem_cons.mp hy with rfl | hy
        · omega
        · exact h2 y hy
      · rename_i z
        refine ⟨List.mem_cons_self, fun y hy => ?_⟩
        rcases List.mem_cons.mp hy with rfl | hy
        · exact Int.le_refl _
        · have := h2 y hy
          omega
theorem one_max {ns : List Int} {m k : Int} (e : maxI ns = some m) (h1 : k ∈ ns) (h2 : ∀ y ∈ ns, y ≤ k) : k = m := by
  obtain ⟨a, b⟩ := maxI_ok e
  have := h2 m a
  have := b k h1
  omega
theorem one_min {ns : List Int} {m k : Int} (e : minI ns = some m) (h1 : k ∈ ns) (h2 : ∀ y ∈ ns, k ≤ y) : k = m := by
  obtain ⟨a, b⟩ := minI_ok e
  have := h2 m a
  have := b k h1
  omega
/-- any of the readings of a sequence, as a list alone -/
theorem seq_list (K : X.K = g.K) (S : Sim g W h H) {x : Val} {w : V} {xs : List Val} (r : Rep g W x w) (e : seqOf h x = some xs) (nt : ∀ z, x ≠ .tup z) : ∃ a ys, w = .ref a ∧ SqL X.K H a ys ∧ Reps g W xs ys := by
  cases seq_at S r e with
  | tup e _ _ => exact absurd e (nt _)
  | lst t rr _ _ => exact ⟨_, _, rfl, .of t, rr⟩
  | scr e t rr =>
    subst rr
    exact ⟨_, _, rfl, by rw [K]; exact t, Reps.of_ints _⟩

theorem call_repr (hg : X.A.guards = some []) (hu : X.A.units + 64 < cLine) : CallR X (.builtin "repr") (fun xs H Q => ∃ a d, xs = [.ref a] ∧ Dp X.K H (.ref a) d ∧ d.showable = true ∧ d.hasDict = false ∧ d.shown.length ≤ sizeLine ∧ d.depth ≤ 60 ∧ Q (.str d.shown) H) := by
  intro pins s σ H xs us Q I r hq
  obtain ⟨a, d, rfl, hd, hs, hn, hz, h6, q⟩ := hq
  obtain ⟨u, rfl, ru⟩ := vals1 r
  cases ru
  obtain ⟨as, rr⟩ := Dp.reads I d (.ref a) (.ref a) hd rfl
  exact repr_of_reads' rr hs (fun z => by rw [hn] at z; cases z) hg (by omega) (fun _ _ e => e) (fun h' u tk k => ⟨.str d.shown, H, I.kept k, ⟨_, rfl⟩, q⟩) hz
theorem seq_any (K : X.K = g.K) (S : Sim g W h H) {x : Val} {w : V} {xs : List Val} (r : Rep g W x w) (e : seqOf h x = some xs) : ∃ a ys, w = .ref a ∧ (SqL X.K H a ys ∨ SqT X.K H a ys) ∧ Reps g W xs ys := by
  cases seq_at S r e with
  | tup e t rr => exact ⟨_, _, rfl, .inr (by rw [K]; exact t), rr⟩
  | lst t rr _ _ => exact ⟨_, _, rfl, .inl (.of t), rr⟩
  | scr e t rr =>
    subst rr
    exact ⟨_, _, rfl, .inl (by rw [K]; exact t), Reps.of_ints _⟩
theorem bind_some {α β : Type} {o : Option α} {f : α → Option β} {b : β} (e : o.bind f = some b) : ∃ a, o = some a ∧ f a = some b := by
  cases o with
  | none => cases e
  | some a => exact ⟨a, rfl, e⟩
theorem map_some {α β : Type} {o : Option α} {f : α → β} {b : β} (e : o.map f = some b) : ∃ a, o = some a ∧ f a = b := by
  cases o with
  | none => cases e
  | some a => exact ⟨a, rfl, Option.some.inj e⟩
theorem lseq_list (K : X.K = g.K) (S : Sim g W h H) {x : Val} {w : V} {xs : List Val} (r : Rep g W x w) (e : lseq h x = some xs) : ∃ a ys, w = .ref a ∧ SqL X.K H a ys ∧ Reps g W xs ys := by
  unfold lseq at e
  split at e
  · cases e
  · rename_i nt
    exact seq_list K S r e nt
theorem repr_ok (K : X.K = g.K) (hg : X.A.guards = some []) (hu : X.A.units + 64 < cLine) (S : Sim g W h H) {x : Val} {w : V} {r : Rv} {m : Bool} {Q : VK} (rx : Rep g W x w) (isr : ∃ a, w = .ref a)
    (e : (match x.toD with | some d => if d.showable && sz d.shown.length && decide (d.depth ≤ 60) && !d.hasDict then some (Rv.v (.str d.shown)) else none | none => none) = some r) (q : Want g W (outP m r h) Q) : callq X (.builtin "repr") [w] H Q := by
  split at e
  · rename_i d hd
    split at e
    · rename_i hb
      simp only [Bool.and_eq_true, decide_eq_true_eq, Bool.not_eq_true'] at hb
      cases e
      obtain ⟨a, rfl⟩ := isr
      have p := Rep.dp S rx hd
      rw [← K] at p
      exact ⟨_, call_repr hg hu, a, d, rfl, p, hb.1.1.1, hb.2, sz_line hb.1.1.2, hb.1.2, at_once S (.str _) q⟩
    · cases e
  · cases e
theorem biV_ok (K : X.K = g.K) (hc : X.calm = true) (hg : X.A.guards = some []) (hu : X.A.units + 64 < cLine) (S : Sim g W h H) {b : Bi} {vs : List Val} {ws : List V} {r : Rv} {m : Bool} {Q : VK} (rs : Reps g W vs ws) (e : biV h b vs = some r) (q : Want g W (outP m r h) Q) :
    callq X (biF b) ws H Q := by
  unfold biV at e
  split at e
  · cases rs with
    | cons a z =>
      cases z
      cases a
      split at e
      · rename_i s hz
        cases e
        exact ⟨_, call_len_str, _, rfl, sz_line hz, at_once S (.int _) q⟩
      · cases e
  · cases rs with
    | cons a z =>
      cases z
      obtain ⟨xs, e1, rfl⟩ := map_some e
      obtain ⟨p, ys, rfl, t, rr⟩ := seq_any K S a e1
      refine ⟨_, call_len_seq, p, ys, rfl, t, ?_⟩
      rw [← rr.length]
      exact at_once S (.int _) q
  · cases rs with
    | cons a z =>
      cases z
      cases a
      cases e
      exact ⟨_, call_abs, _, rfl, at_once S (.int _) q⟩
  · cases rs with
    | cons a z =>
      cases z
      cases a
      cases e
      exact ⟨_, call_int1, .inl ⟨_, rfl, at_once S (.int _) q⟩⟩
  · cases rs with
    | cons a z =>
      cases z
      cases a
      cases e
      exact ⟨_, call_int1, .inr ⟨_, rfl, at_once S (.int _) q⟩⟩
  · cases rs with
    | cons a z =>
      cases z
      cases a
      split at e
      · rename_i hz
        cases e
        exact ⟨_, call_str_int, _, rfl, hz, at_once S (.str _) q⟩
      · cases e
  · cases rs with
    | cons a z =>
      cases z
      obtain ⟨xs, e1, rfl⟩ := map_some e
      obtain ⟨p, ys, rfl, t, rr⟩ := seq_any K S a e1
      exact ⟨_, call_list_of, p, ys, rfl, t, new_list S rr q⟩
  · cases rs with
    | cons a z =>
      cases z
      obtain ⟨xs, e1, rfl⟩ := map_some e
      cases seq_at S a e1 with
      | tup e t rr =>
        subst e
        exact ⟨_, call_tuple_of, _, _, rfl, .inr ⟨by rw [K]; exact t, at_once S a q⟩⟩
      | lst t rr _ _ => exact ⟨_, call_tuple_of, _, _, rfl, .inl ⟨.of t, new_tup S rr q⟩⟩
      | scr e t rr =>
        subst rr
        exact ⟨_, call_tuple_of, _, _, rfl, .inl ⟨by rw [K]; exact t, new_tup S (Reps.of_ints _) q⟩⟩
  · cases rs with
    | cons a z =>
      cases z with
      | cons a2 z2 =>
        cases z2
        cases a
        cases a2
        cases e
        exact ⟨_, cr_gcd, _, _, rfl, at_once S (.int _) q⟩
  · cases rs with
    | cons a z =>
      cases z
      obtain ⟨xs, e1, e2⟩ := bind_some e
      obtain ⟨ns, e3, rfl⟩ := map_some e2
      obtain ⟨p, ys, rfl, t, rr⟩ := lseq_list K S a e1
      have := rr.ints e3
      subst this
      exact ⟨_, cr_sum hc, p, ns, rfl, t, at_once S (.int _) q⟩
  · cases rs with
    | cons a z =>
      cases z
      obtain ⟨xs, e1, e2⟩ := bind_some e
      obtain ⟨ns, e3, e4⟩ := bind_some e2
      obtain ⟨k, e5, rfl⟩ := map_some e4
      obtain ⟨p, ys, rfl, t, rr⟩ := lseq_list K S a e1
      have := rr.ints e3
      subst this
      refine ⟨_, cr_max hc, p, ns, rfl, t, ?_, fun m h1 h2 => ?_⟩
      · exact List.length_pos_of_mem (maxI_ok e5).1
      · rw [one_max e5 h1 h2]
        exact at_once S (.int _) q
  · cases rs with
    | cons a z =>
      cases z
      obtain ⟨xs, e1, e2⟩ := bind_some e
      obtain ⟨ns, e3, e4⟩ := bind_some e2
      obtain ⟨k, e5, rfl⟩ := map_some e4
      obtain ⟨p, ys, rfl, t, rr⟩ := lseq_list K S a e1
      have := rr.ints e3
      subst this
      refine ⟨_, cr_min hc, p, ns, rfl, t, ?_, fun m h1 h2 => ?_⟩
      · exact List.length_pos_of_mem (minI_ok e5).1
      · rw [one_min e5 h1 h2]
        exact at_once S (.int _) q
  · cases rs with
    | cons a z =>
      cases z
      obtain ⟨xs, e1, e2⟩ := bind_some e
      obtain ⟨ns, e3, rfl⟩ := map_some e2
      obtain ⟨p, ys, rfl, t, rr⟩ := lseq_list K S a e1
      have := rr.bls e3
      subst this
      exact ⟨_, cr_all hc, p, ns, rfl, t, at_once S (.bl _) q⟩
  · cases rs with
    | cons a z =>
      cases z
      obtain ⟨xs, e1, e2⟩ := bind_some e
      obtain ⟨ns, e3, rfl⟩ := map_some e2
      obtain ⟨p, ys, rfl, t, rr⟩ := lseq_list K S a e1
      have := rr.bls e3
      subst this
      exact ⟨_, cr_any hc, p, ns, rfl, t, at_once S (.bl _) q⟩
  · cases rs with
    | cons a z =>
      cases z
      exact repr_ok K hg hu S a (by cases a; exact ⟨_, rfl⟩) e q
  · cases rs with
    | cons a z =>
      cases z
      exact repr_ok K hg hu S a (by cases a; exact ⟨_, rfl⟩) e q
  · cases rs with
    | cons a z =>
      cases z
      cases a
      split at e
      · rename_i hz
        cases e
        exact ⟨_, SkE.call_repr_int, _, rfl, hz, at_once S (.str _) q⟩
      · cases e
  · cases e
end
end M
end

section
set_option Elab.async false
set_option linter.all false
set_option maxRecDepth 100000
set_option maxHeartbeats 1000000
/-! M5: does a compact text say what the syntax says? -/
namespace M
open PySem PySem.Spec PyProof.Rows L2

abbrev Nms := List (Str × NameKind)
/-- the names by number -/
structure Si where
  N : List Str
  gl : List Str
  fns : List Str
  cln : List Str
  fld : List Str
  mth : List Str
  bis : List Bi
  /-- the last parameter's name, where it may be passed by it -/
  kwn : List Str

def visB (nm : Nms) (x : Str) : Bool := match nm.lookup x with
  | some .local | some .cell | some .free => true
  | _ => false
def locB (nm : Nms) (x : Str) : Bool := match nm.lookup x with
  | some .local | some .cell => true
  | _ => false
def glB (nm : Nms) (x : Str) : Bool := match nm.lookup x with
  | some .globalImplicit => true
  | _ => false
def okN (x : Str) : Bool := !(x == ("__debug__" : Str)) && !(x == ("__classdict__" : Str)) && !(x == ("__name__" : Str)) && !(x == ("" : Str))
def glob? (nm : Nms) (e : Expr) (x : Option Str) : Bool := match e, x with
  | .Name y _, some x => decide (y = x) && glB nm y && okN y
  | _, _ => false
def biN : Bi → Str
  | .len => "len" | .abs => "abs" | .max => "max" | .min => "min" | .sum => "sum" | .all => "all" | .any => "any"
  | .int => "int" | .str => "str" | .list => "list" | .tuple => "tuple" | .gcd => "gcd" | .sorted => "sorted" | .repr => "repr"
def tyB (s : Si) (nm : Nms) (t : Ty) (e : Expr) : Bool := match t with
  | .int => glob? nm e (some "int") | .bool => glob? nm e (some "bool") | .str => glob? nm e (some "str") | .tuple => glob? nm e (some "tuple") | .list => glob? nm e (some "list") | .dict => glob? nm e (some "dict")
  | .own c => glob? nm e s.cln[c]?
def tysB (s : Si) (nm : Nms) : List Ty → List Expr → Bool
  | [], [] => true
  | t :: ts, e :: es => tyB s nm t e && tysB s nm ts es
  | _, _ => false
/-- no super() -/
def noSup : Expr → Bool
  | .Call (.Name _ _) [] [] _ => false
  | _ => true
def lmN : Lm → Str
  | .append => "append" | .pop => "pop" | .index => "index" | .remove => "remove" | .extend => "extend"
def bopB (op : Bop) (o : Operator) : Bool := decide (bopO op = o)
def copB (op : Cop) (o : CmpOp) : Bool := decide (copO op = o) && !decide (op = .in_) && !decide (op = .notin)
def chkT (s : Si) (nm : Nms) : Tg → Expr → Bool
  | .nm i, e => match e with
    | .Name x _ => decide (s.N[i]? = some x) && locB nm x
    | _ => false
  | .nil, e => match e with
    | .Tuple [] _ _ => true
    | _ => false
  | .cons t r, e => match e with
    | .Tuple (x :: xs) k p => chkT s nm t x && chkT s nm r (.Tuple xs k p)
    | _ => false
def tgIx : Tg → List Nat
  | .nm i => [i]
  | .nil => []
  | .cons t r => tgIx t ++ tgIx r
/-- the keys of a dict's display -/
def keysB : List (Sum Int Str) → List (Option Expr) → Bool
  | [], [] => true
  | .inl i :: ks, some (.Constant (.int j) _ _) :: es => decide (i = j) && keysB ks es
  | .inr x :: ks, some (.Constant (.str y) _ _) :: es => decide (x = y) && keysB ks es
  | _, _ => false
def isFrz : Ex → Bool
  | .frz _ => true
  | _ => false
mutual
def chkE (s : Si) (nm : Nms) : Ex → Expr → Bool
  | .var i, e => match e with
    | .Name x _ => decide (s.N[i]? = some x) && visB nm x && okN x
    | _ => false
  | .int i, e => match e with
    | .Constant (.int j) _ _ => decide (i = j)
    | _ => false
  | .str i, e => match e with
    | .Constant (.str j) _ _ => decide (i = j)
    | _ => false
  | .bl i, e => match e with
    | .Constant (.bool j) _ _ => decide (i = j)
    | _ => false
  | .non, e => match e with
    | .Constant .none _ _ => true
    | _ => false
  | .glob n, e => glob? nm e s.gl[n]?
  | .bin _ op a b, e => match e with
    | .BinOp a' op' b' _ => bopB op op' && chkE s nm a a' && chkE s nm b b'
    | _ => false
  | .cmp op a b, e => match e with
    | .Compare a' [op'] [b'] _ => copB op op' && chkE s nm a a' && chkE s nm b b'
    | _ => false
  | .chain op1 op2 a b c, e => match e with
    | .Compare a' [op1', op2'] [b', c'] _ => copB op1 op1' && copB op2 op2' && chkE s nm a a' && chkE s nm b b' && chkE s nm c c'
    | _ => false
  | .and a b, e => match e with
    | .BoolOp .And [x, y] _ => chkE s nm a x && chkE s nm b y
    | .BoolOp .And (x :: y :: z :: r) p => chkE s nm a x && chkE s nm b (.BoolOp .And (y :: z :: r) p)
    | _ => false
  | .or a b, e => match e with
    | .BoolOp .Or [x, y] _ => chkE s nm a x && chkE s nm b y
    | .BoolOp .Or (x :: y :: z :: r) p => chkE s nm a x && chkE s nm b (.BoolOp .Or (y :: z :: r) p)
    | _ => false
  | .not a, e => match e with
    | .UnaryOp .Not a' _ => chkE s nm a a'
    | _ => false
  | .neg a, e => match e with
    | .UnaryOp .USub a' _ => chkE s nm a a'
    | _ => false
  | .ifx c a b, e => match e with
    | .IfExp c' a' b' _ => chkE s nm c c' && chkE s nm a a' && chkE s nm b b'
    | _ => false
  | .tup es, e => match e with
    | .Tuple es' _ _ => chkEs s nm es es'
    | _ => false
  | .lst _ es, e => match e with
    | .List es' _ => chkEs s nm es es'
    | _ => false
  | .sub a i, e => match e with
    | .Subscript a' i' _ => chkE s nm a a' && chkE s nm i i'
    | _ => false
  | .slc _ a lo hi, e => match e with
    | .Subscript a' (.Slice lo' hi' none _) _ => chkE s nm a a' && chkO s nm lo lo' && chkO s nm hi hi'
    | _ => false
  | .rev _ a, e => match e with
    | .Subscript a' (.Slice none none (some (.UnaryOp .USub (.Constant (.int 1) _ _) _)) _) _ => chkE s nm a a'
    | _ => false
  | .fld a f, e => match e with
    | .Attribute a' f' _ => noSup a' && decide (s.fld[f]? = some f') && chkE s nm a a'
    | _ => false
  | .call n es, e => match e with
    | .Call fn es' [] _ => glob? nm fn s.fns[n]? && chkEs s nm es es'
    | _ => false
  | .callk n es x, e => match e with
    | .Call fn es' [⟨some y, e', _⟩] _ => glob? nm fn s.fns[n]? && decide (s.kwn[n]? = some y) && decide (y ≠ "") && !es'.isEmpty && chkEs s nm es es' && chkE s nm x e'
    | _ => false
  | .mk _ c es, e => match e with
    | .Call fn es' [] _ => glob? nm fn s.cln[c]? && chkEs s nm es es'
    | _ => false
  | .meth a m es, e => match e with
    | .Call (.Attribute a' m' ap) es' [] p => noSup a' && decide (s.mth[m]? = some m') && (ap.endLine == p.line) && decide (es'.length < 20) && chkE s nm a a' && chkEs s nm es es'
    | _ => false
  | .bi _ b es, e => match e with
    | .Call fn es' [] _ => glob? nm fn (some (biN b)) && s.bis.contains b && chkEs s nm es es'
    | _ => false
  | .isin a ts, e => match e with
    | .Call fn [a', .Tuple ts' _ _] [] _ => glob? nm fn (some "isinstance") && chkE s nm a a' && decide (ts.length < 20) && tysB s nm ts ts'
    | .Call fn [a', t'] [] _ => glob? nm fn (some "isinstance") && chkE s nm a a' && (match ts with
      | [t] => tyB s nm t t'
      | _ => false)
    | _ => false
  | .lm a m es, e => match e with
    | .Call (.Attribute a' m' ap) es' [] p => noSup a' && decide (lmN m = m') && (ap.endLine == p.line) && decide (es'.length < 20) && chkE s nm a a' && chkEs s nm es es'
    | _ => false
  | .comp _ elt tg src ifs own, e => match e with
    | .ListComp elt' [⟨tg', it', ifs', ia⟩] scope _ => decide (ia = 0) && blkC s.N ⟨.function, nm, false, false, []⟩ scope ((own.map fun i => s.N.getD i "?").zip own) && own.all (fun i => decide (i < s.N.length)) && (tgIx tg).all (fun i => own.contains i) && chkX s nm src it' tg' && chkT s scope.names tg tg' && chkE s scope.names elt elt' && chkI s scope.names ifs ifs'
    | _ => false
  | .frz a, e => !isFrz a && chkE s nm a e
  | .dct ks es, e => match e with
    | .Dict keys vs _ => keysB ks keys && decide (keys.length = vs.length) && decide (ks.length ≤ 15) && !ks.isEmpty && chkEs s nm es vs
    | _ => false
  | .inl neg a b, e => match e with
    | .Compare a' [op'] [b'] _ => (match op' with
      | .In => !neg
      | .NotIn => neg
      | _ => false) && chkE s nm a a' && chkE s nm b b'
    | _ => false
def chkEs (s : Si) (nm : Nms) : Es → List Expr → Bool
  | .nil, e => match e with
    | [] => true
    | _ => false
  | .cons x r, e => match e with
    | y :: ys => chkE s nm x y && chkEs s nm r ys
    | _ => false
def chkO (s : Si) (nm : Nms) : Option Ex → Option Expr → Bool
  | none, e => match e with
    | none => true
    | _ => false
  | some x, e => match e with
    | some y => chkE s nm x y
    | _ => false
def chkI (s : Si) (nm : Nms) : Option Ex → List Expr → Bool
  | none, e => match e with
    | [] => true
    | _ => false
  | some x, e => match e with
    | [y] => chkE s nm x y
    | _ => false
def chkX (s : Si) (nm : Nms) : Sx → Expr → Expr → Bool
  | .seq a, e, tg => chkE s nm a e
  | .rng1 a, e, tg => match e with
    | .Call fn [a'] [] _ => glob? nm fn (some "range") && chkE s nm a a'
    | _ => false
  | .rng2 a b, e, tg => match e with
    | .Call fn [a', b'] [] _ => glob? nm fn (some "range") && chkE s nm a a' && chkE s nm b b'
    | _ => false
  | .rng3 a b c, e, tg => match e with
    | .Call fn [a', b', c'] [] _ => glob? nm fn (some "range") && chkE s nm a a' && chkE s nm b b' && chkE s nm c c'
    | _ => false
  | .zip a b, e, tg => match e with
    | .Call fn [a', b'] [] _ => glob? nm fn (some "zip") && chkE s nm a a' && chkE s nm b b' && (match tg with
      | .Tuple _ _ _ => true
      | _ => false)
    | _ => false
  | .zip3 a b c, e, tg => match e with
    | .Call fn [a', b', c'] [] _ => glob? nm fn (some "zip") && chkE s nm a a' && chkE s nm b b' && chkE s nm c c' && (match tg with
      | .Tuple _ _ _ => true
      | _ => false)
    | _ => false
  | .enum a, e, tg => match e with
    | .Call fn [a'] [] _ => glob? nm fn (some "enumerate") && chkE s nm a a' && (match tg with
      | .Tuple _ _ _ => true
      | _ => false)
    | _ => false
end

/-! ### shapes -/
def starE : Expr → Bool
  | .Starred _ _ => true
  | _ => false
def slcE : Expr → Bool
  | .Slice _ _ _ _ => true
  | _ => false
def setE : Expr → Bool
  | .Set _ _ _ => true
  | _ => false
theorem glob_shape {nm : Nms} {e : Expr} {x : Option Str} (h : glob? nm e x = true) : ∃ y p, e = .Name y p ∧ x = some y ∧ glB nm y = true ∧ okN y = true := by
  unfold glob? at h
  split at h
  · rename_i y p x
    simp only [Bool.and_eq_true, decide_eq_true_eq] at h
    obtain ⟨⟨h1, h2⟩, h3⟩ := h
    exact ⟨y, p, rfl, by rw [h1], h2, h3⟩
  · cases h
/-- no star, no slice, no set -/
theorem chk_shape {s : Si} : ∀ {m : Ex} {nm : Nms} {e : Expr}, chkE s nm m e = true → starE e = false ∧ slcE e = false ∧ setE e = false
  | .frz a, nm, e, h => chk_shape (m := a) (by unfold chkE at h; rw [Bool.and_eq_true] at h; exact h.2)
  | .glob n, nm, e, h => by
    unfold chkE at h
    obtain ⟨y, p, rfl, _⟩ := glob_shape h
    exact ⟨rfl, rfl, rfl⟩
  | .var i, nm, e, h => by
    unfold chkE at h
    split at h <;> first | exact ⟨rfl, rfl, rfl⟩ | cases h
  | .int i, nm, e, h => by
    unfold chkE at h
    split at h <;> first | exact ⟨rfl, rfl, rfl⟩ | cases h
  | .str i, nm, e, h => by
    unfold chkE at h
    split at h <;> first | exact ⟨rfl, rfl, rfl⟩ | cases h
  | .bl i, nm, e, h => by
    unfold chkE at h
    split at h <;> first | exact ⟨rfl, rfl, rfl⟩ | cases h
  | .non, nm, e, h => by
    unfold chkE at h
    split at h <;> first | exact ⟨rfl, rfl, rfl⟩ | cases h
  | .bin _ _ _ _, nm, e, h => by
    unfold chkE at h
    split at h <;> first | exact ⟨rfl, rfl, rfl⟩ | cases h
  | .cmp _ _ _, nm, e, h => by
    unfold chkE at h
    split at h <;> first | exact ⟨rfl, rfl, rfl⟩ | cases h
  | .chain _ _ _ _ _, nm, e, h => by
    unfold chkE at h
    split at h <;> first | exact ⟨rfl, rfl, rfl⟩ | cases h
  | .and _ _, nm, e, h => by
    unfold chkE at h
    split at h <;> first | exact ⟨rfl, rfl, rfl⟩ | cases h
  | .or _ _, nm, e, h => by
    unfold chkE at h
    split at h <;> first | exact ⟨rfl, rfl, rfl⟩ | cases h
  | .not _, nm, e, h => by
    unfold chkE at h
    split at h <;> first | exact ⟨rfl, rfl, rfl⟩ | cases h
  | .neg _, nm, e, h => by
    unfold chkE at h
    split at h <;> first | exact ⟨rfl, rfl, rfl⟩ | cases h
  | .ifx _ _ _, nm, e, h => by
    unfold chkE at h
    split at h <;> first | exact ⟨rfl, rfl, rfl⟩ | cases h
  | .tup _, nm, e, h => by
    unfold chkE at h
    split at h <;> first | exact ⟨rfl, rfl, rfl⟩ | cases h
  | .lst _ _, nm, e, h => by
    unfold chkE at h
    split at h <;> first | exact ⟨rfl, rfl, rfl⟩ | cases h
  | .sub _ _, nm, e, h => by
    unfold chkE at h
    split at h <;> first | exact ⟨rfl, rfl, rfl⟩ | cases h
  | .slc _ _ _ _, nm, e, h => by
    unfold chkE at h
    split at h <;> first | exact ⟨rfl, rfl, rfl⟩ | cases h
  | .rev _ _, nm, e, h => by
    unfold chkE at h
    split at h <;> first | exact ⟨rfl, rfl, rfl⟩ | cases h
  | .fld _ _, nm, e, h => by
    unfold chkE at h
    split at h <;> first | exact ⟨rfl, rfl, rfl⟩ | cases h
  | .call _ _, nm, e, h => by
    unfold chkE at h
    split at h <;> first | exact ⟨rfl, rfl, rfl⟩ | cases h
  | .callk _ _ _, nm, e, h => by
    unfold chkE at h
    split at h <;> first | exact ⟨rfl, rfl, rfl⟩ | cases h
  | .mk _ _ _, nm, e, h => by
    unfold chkE at h
    split at h <;> first | exact ⟨rfl, rfl, rfl⟩ | cases h
  | .meth _ _ _, nm, e, h => by
    unfold chkE at h
    split at h <;> first | exact ⟨rfl, rfl, rfl⟩ | cases h
  | .bi _ _ _, nm, e, h => by
    unfold chkE at h
    split at h <;> first | exact ⟨rfl, rfl, rfl⟩ | cases h
  | .isin _ _, nm, e, h => by
    unfold chkE at h
    split at h <;> first | exact ⟨rfl, rfl, rfl⟩ | cases h
  | .lm _ _ _, nm, e, h => by
    unfold chkE at h
    split at h <;> first | exact ⟨rfl, rfl, rfl⟩ | cases h
  | .comp _ _ _ _ _ _, nm, e, h => by
    unfold chkE at h
    split at h <;> first | exact ⟨rfl, rfl, rfl⟩ | cases h
  | .dct _ _, nm, e, h => by
    unfold chkE at h
    split at h <;> first | exact ⟨rfl, rfl, rfl⟩ | cases h
  | .inl _ _ _, nm, e, h => by
    unfold chkE at h
    split at h <;> first | exact ⟨rfl, rfl, rfl⟩ | cases h
theorem star_cons {e : Expr} {es : List Expr} {env : PySem.Env} (h : starE e = false) : starEach (e :: es) env = (false, eval e env) :: starEach es env := by
  cases e <;> first | rfl | cases h
theorem star_plain {env : PySem.Env} {pos : Pos} {s : Si} {nm : Nms} : ∀ {es : List Expr} {m : Es}, chkEs s nm m es = true → (backTo pos (starEach es env)).any (·.1) = false ∧ (backTo pos (starEach es env)).all (fun x => !x.1) = true
  | [], _, _ => ⟨rfl, rfl⟩
  | e :: es, m, h => by
    cases m with
    | nil => unfold chkEs at h; cases h
    | cons x r =>
      unfold chkEs at h
      rw [Bool.and_eq_true] at h
      have ih := star_plain (env := env) (pos := pos) (es := es) (m := r) h.2
      rw [star_cons (chk_shape h.1).1]
      show ((false, _) :: backTo pos (starEach es env)).any (·.1) = false ∧ ((false, _) :: backTo pos (starEach es env)).all (fun x => !x.1) = true
      rw [List.any_cons, List.all_cons]
      exact ⟨by rw [ih.1]; rfl, by rw [ih.2]; rfl⟩
theorem no_set {op : CmpOp} {b : Expr} (h : setE b = false) : behindInMarks op b = false := by
  cases b <;> first | rfl | cases h
theorem plain_ix {b : Expr} (h : slcE b = false) : PlainIx b := by
  intro o i
  cases b <;> first | rfl | cases h
theorem no_sup {o : Expr} {a : Str} {env : PySem.Env} {w : Sem Value} (h : noSup o = true) : attributeBase o a env w = w := by
  unfold attributeBase
  split
  · rename_i id p pos
    cases h
  · rfl
theorem fold_set {e : Expr} {env : PySem.Env} (h : setE e = false) : ∀ x, foldedSetIterable e env x = pure x := by
  intro x
  cases e <;> first | rfl | cases h
end M
end

section
set_option Elab.async false
set_option linter.all false
set_option maxRecDepth 100000
set_option maxHeartbeats 1000000
/-! M6: contexts, calls. -/
namespace M
open PySem PySem.Spec PyProof.Rows L2

/-- what a body's context must be; k: the depth of calls left -/
structure CxOk (g : Ga) (k : Nat) (s : Si) (nm : Nms) (X : Cx) : Prop where
  prog : X.prog = g.prog
  w : X.w = g.w
  K : X.K = g.K
  mg : X.mg = g.mg
  base : X.base = g.base
  N : X.N = s.N
  nd : s.N.Nodup
  calm : X.calm = true
  room : Room k X.A
  gd : X.A.guards = some []
  xe : X.xe = fun _ _ => False
  look : ∀ x kd, nm.lookup x = some kd → X.env.scope.names.lookup x = some kd ∨ (kd = .free ∧ X.env.scope.names.lookup x = some .cell)
  fn : ∀ x, nm.lookup x = some .cell → X.fn x = true
  kind : X.env.scope.kind = .function

section
variable {g : Ga} {k : Nat} {s : Si} {nm : Nms} {X : Cx}
theorem CxOk.mono {j : Nat} (c : CxOk g k s nm X) (h : j ≤ k) : CxOk g j s nm X := { c with room := c.room.mono h }
theorem CxOk.units (c : CxOk g k s nm X) : X.A.units + 65 < cLine := by
  have := c.room.un
  omega
theorem CxOk.vis (c : CxOk g k s nm X) {x : Str} (h : visB nm x = true) : Vis X.env.scope x := by
  unfold visB at h
  split at h
  · rename_i e
    rcases c.look x _ e with z | ⟨z, _⟩
    · exact .inl z
    · cases z
  · rename_i e
    rcases c.look x _ e with z | ⟨z, _⟩
    · exact .inr (.inl z)
    · cases z
  · rename_i e
    rcases c.look x _ e with z | ⟨_, z⟩
    · exact .inr (.inr z)
    · exact .inr (.inl z)
  · cases h
theorem CxOk.loc (c : CxOk g k s nm X) {x : Str} (h : locB nm x = true) : Loc X.env.scope x ∧ (X.fn x = true ∨ X.env.scope.names.lookup x = some .local) := by
  unfold locB at h
  split at h
  · rename_i e
    rcases c.look x _ e with z | ⟨z, _⟩
    · exact ⟨.inl z, .inr z⟩
    · cases z
  · rename_i e
    rcases c.look x _ e with z | ⟨z, _⟩
    · exact ⟨.inr z, .inl (c.fn x e)⟩
    · cases z
  · cases h
theorem CxOk.gl (c : CxOk g k s nm X) {x : Str} (h : glB nm x = true) : Gl X x := by
  unfold glB at h
  split at h
  · rename_i e
    rcases c.look x _ e with z | ⟨z, _⟩
    · exact z
    · cases z
  · cases h
end

/-- a def keeps its promise: called with so many arguments by place -/
def Fok (g : Ga) (k : Nat) (f : Addr) (np : Nat) (sp : Sp) : Prop :=
  ∀ (A : Around) (outer : List PySem.Env) (s : Shared) (H : Hp) (us : List Value) (vs : List V) (Q : VK), Room k A → A.guards = some [] → Env0 g.prog g.w g.K g.mg g.base A outer s H → us.length = np → Vals vs us → sp vs H Q E0 →
    codeAny (model g.prog g.w) A (.call (.ref f) ⟨us, []⟩) (CR CX0 outer g.prog g.w H s Q E0) s
/-- the same, the last one by its keyword -/
def FokK (g : Ga) (k : Nat) (f : Addr) (np : Nat) (y : Str) (sp : Sp) : Prop :=
  ∀ (A : Around) (outer : List PySem.Env) (s : Shared) (H : Hp) (us : List Value) (w : Value) (vs : List V) (Q : VK), Room k A → A.guards = some [] → Env0 g.prog g.w g.K g.mg g.base A outer s H → us.length + 1 = np → Vals vs (us ++ [w]) → sp vs H Q E0 →
    codeAny (model g.prog g.w) A (.call (.ref f) ⟨us, [(y, w)]⟩) (CR CX0 outer g.prog g.w H s Q E0) s
theorem Fok.mono {g : Ga} {j k : Nat} {f : Addr} {np : Nat} {sp : Sp} (F : Fok g j f np sp) (h : j ≤ k) : Fok g k f np sp := fun A outer s H us vs Q hr => F A outer s H us vs Q (hr.mono h)

section
variable {g : Ga} {k : Nat} {s : Si} {nm : Nms} {X : Cx} {pins : List (Addr × Obj)} {σ : L2.St} {H : Hp} {sh : Shared} {Q : VK}
theorem CxOk.env0 (c : CxOk g k s nm X) (I : Inv X pins σ H sh) : Env0 g.prog g.w g.K g.mg g.base X.A X.stack sh H := by
  have e := I.env0
  rw [c.prog, c.w, c.K, c.mg, c.base] at e
  exact e
theorem call_fok (c : CxOk g k s nm X) {f : Addr} {np : Nat} {sp : Sp} {us : List Value} {vs : List V} (F : Fok g k f np sp) (I : Inv X pins σ H sh) (hl : us.length = np) (r : Vals vs us) (h : sp vs H Q E0) :
    wpAny (model X.prog X.w) X.A (call (.ref f) us) (EP X pins σ Q) X.xe sh := by
  have z := F X.A X.stack sh H us vs Q c.room c.gd (c.env0 I) hl r h
  rw [← c.prog, ← c.w] at z
  refine wpAny_call (codeAny_mono z fun r' s' hq => ?_)
  cases r' with
  | error e => exact False.elim hq
  | ok fl =>
    cases fl with
    | ret u => exact I.after hq
    | next => exact False.elim hq
    | brk => exact False.elim hq
    | cont => exact False.elim hq
theorem call_fokk (c : CxOk g k s nm X) {f : Addr} {np : Nat} {y : Str} {sp : Sp} {us : List Value} {w : Value} {vs : List V} (F : FokK g k f np y sp) (I : Inv X pins σ H sh) (hl : us.length + 1 = np) (r : Vals vs (us ++ [w])) (h : sp vs H Q E0) :
    wpAny (model X.prog X.w) X.A (call (.ref f) us [(y, w)]) (EP X pins σ Q) X.xe sh := by
  have z := F X.A X.stack sh H us w vs Q c.room c.gd (c.env0 I) hl r h
  rw [← c.prog, ← c.w] at z
  refine wpAny_call (codeAny_mono z fun r' s' hq => ?_)
  cases r' with
  | error e => exact False.elim hq
  | ok fl =>
    cases fl with
    | ret u => exact I.after hq
    | next => exact False.elim hq
    | brk => exact False.elim hq
    | cont => exact False.elim hq
theorem guards_make {A : Around} {C : Addr} {us : List Value} {kw : List (Str × Value)} : (A.under (.builtin "type.__call__" ⟨.ref C :: us, kw⟩)).guards = A.guards := by
  first
    | rfl
    | simp [Around.under, Code.guards, Code.isGuard, guardIds, pushGuards]
theorem make_fok (c : CxOk g (k + 1) s nm X) {C f : Addr} {np : Nat} {sp : Sp} {us : List Value} {vs : List V} (M : Mk g.K C f) (F : Fok g k f np sp) (I : Inv X pins σ H sh) (hl : us.length + 1 = np) (r : Vals vs us)
    (h : ∀ x dx, H x = none → H dx = none → dx ≠ x → sp (.ref x :: vs) (upd (upd H dx (.own x)) x (.ins C dx [])) (fun v H2 => v = .non ∧ Q (.ref x) H2) E0) : wpAny (model X.prog X.w) X.A (call (.ref C) us) (EP X pins σ Q) X.xe sh := by
  have hq := h (sh.heap.objs.size + 1) sh.heap.objs.size (I.hok.fresh (Nat.le_succ _)) (I.hok.fresh (Nat.le_refl _)) (Nat.ne_of_lt (Nat.lt_succ_self _))
  have I2 := Inv.made (C := C) I
  have e0 := (c.env0 I2).make C us []
  have z := F (X.A.under (.builtin "type.__call__" ⟨.ref C :: us, []⟩)) X.stack _ _ (Value.ref (sh.heap.objs.size + 1) :: us) (V.ref (sh.heap.objs.size + 1) :: vs) _ (c.room.make C us []) (guards_make.trans c.gd) e0 (by rw [List.length_cons]; exact hl) (.cons rfl r) hq
  rw [← c.prog, ← c.w] at z
  have KX : g.K.In sh.heap := by
    rw [← c.K]
    exact I.kIn
  refine wpAny_call (make_map (f := f) KX M.makes M.init (beq_iff_eq.mp M.fn) (codeAny_mono z fun r' s' hq' => ?_))
  cases r' with
  | error e => exact False.elim hq'
  | ok fl =>
    cases fl with
    | ret u =>
      obtain ⟨v, H', I3, rv, ev, q3⟩ := I2.after hq'
      subst ev
      exact ⟨rv, ⟨V.ref (sh.heap.objs.size + 1), H', I3, rfl, q3⟩⟩
    | next => exact False.elim hq'
    | brk => exact False.elim hq'
    | cont => exact False.elim hq'
/-- a known value is called with values -/
def cr (X : Cx) (f : Value) (σ : L2.St) (vs : List V) (H : Hp) (Q : VK) : Prop := ∀ (pins : List (Addr × Obj)) (sh : Shared) (us : List Value), Inv X pins σ H sh → Vals vs us → wpAny (model X.prog X.w) X.A (call f us) (EP X pins σ Q) X.xe sh
theorem okN1 {x : Str} (h : okN x = true) : (x == ("__debug__" : Str)) = false ∧ (x == ("__classdict__" : Str)) = false ∧ x ≠ "__name__" := by
  unfold okN at h
  simp only [Bool.and_eq_true, Bool.not_eq_true', beq_eq_false_iff_ne, ne_eq] at h
  exact ⟨beq_eq_false_iff_ne.mpr h.1.1.1, beq_eq_false_iff_ne.mpr h.1.1.2, h.1.2⟩
theorem okN2 {x : Str} (h : okN x = true) : x ≠ "" := by
  unfold okN at h
  simp only [Bool.and_eq_true, Bool.not_eq_true', beq_eq_false_iff_ne, ne_eq] at h
  exact h.2
/-- arguments; none is no run -/
def waL (X : Cx) (es : List Expr) (σ : L2.St) (H : Hp) (R : List V → Hp → Prop) : Prop := wa X es σ H R ∧ (es = [] → R [] H)
/-- f(es) where the name gives a thing that is kept -/
theorem we_callv (c : CxOk g k s nm X) {x : Str} {p pos : Pos} {f : Addr} {es : List Expr} {m : Es} (hg : glB nm x = true) (hk : okN x = true) (hm : g.mg x = some (.ref f)) (kp : PySem.W.keepIn g.K (.ref f) = true) (he : chkEs s nm m es = true)
    (ha : waL X es σ H fun vs H1 => cr X (.ref f) σ vs H1 Q) : we X (.Call (.Name x p) es [] pos) σ H Q := by
  intro pins sh I
  refine wpAny_Call_Name_kw (ld_glob I (c.gl hg) (by rw [c.mg]; exact hm) ?_ (okN1 hk).1)
  have kp' : PySem.W.keepIn X.K (.ref f) = true := by rw [c.K]; exact kp
  cases es with
  | nil =>
    exact PySem.W.callWith_K0 I.kIn kp' (ha.2 rfl pins sh [] I .nil)
  | cons e es =>
    cases m with
    | nil => unfold chkEs at he; cases he
    | cons y r =>
      unfold chkEs at he
      rw [Bool.and_eq_true] at he
      refine PySem.W.callWith_K (h₀ := X.base) I.ok.mod.kin kp' (thn (ha.1 pos pins sh I) fun us s1 ⟨vs, H1, I1, rr, q⟩ => ⟨I1.kIn, q pins s1 us I1 rr⟩) (star_cons (chk_shape he.1).1) (star_plain he.2).1

/-- a known value is called with values, the last by its keyword -/
def crk (X : Cx) (f : Value) (y : Str) (σ : L2.St) (vs : List V) (v : V) (H : Hp) (Q : VK) : Prop := ∀ (pins : List (Addr × Obj)) (sh : Shared) (us : List Value) (w : Value), Inv X pins σ H sh → Vals vs us → L2.RelV v w → wpAny (model X.prog X.w) X.A (call f us [(y, w)]) (EP X pins σ Q) X.xe sh
theorem we_callk (c : CxOk g k s nm X) {x y : Str} {p pos kp : Pos} {f : Addr} {e ek : Expr} {es : List Expr} {m : Es} (hg : glB nm x = true) (hk : okN x = true) (hm : g.mg x = some (.ref f)) (kp0 : PySem.W.keepIn g.K (.ref f) = true) (he : chkEs s nm m (e :: es) = true)
    (ha : wa X (e :: es) σ H fun vs H1 => we X ek σ H1 fun v H2 => crk X (.ref f) y σ vs v H2 Q) : we X (.Call (.Name x p) (e :: es) [⟨some y, ek, kp⟩] pos) σ H Q := by
  intro pins sh I
  refine wpAny_Call_Name_kw (ld_glob I (c.gl hg) (by rw [c.mg]; exact hm) ?_ (okN1 hk).1)
  have kp' : PySem.W.keepIn X.K (.ref f) = true := by rw [c.K]; exact kp0
  cases m with
  | nil => unfold chkEs at he; cases he
  | cons z r =>
    unfold chkEs at he
    rw [Bool.and_eq_true] at he
    have h1 := star_cons (es := es) (env := X.env) (chk_shape he.1).1
    have h2 := (star_plain (env := X.env) (pos := pos) he.2).1
    refine PySem.W.callWith_KW (h₀ := X.base) I.ok.mod.kin kp' (by rfl) (thn (ha pos pins sh I) fun us s1 ⟨vs, H1, I1, rr, q⟩ => ?_) ?_ h1
    · refine thn ((pk_cons (X := X) (nm := some y) (kpos := kp) pe_we pk_nil).run pos pins s1 σ H1 (fun ws H2 => ∃ v, ws = [v] ∧ crk X (.ref f) y σ vs v H2 Q) I1 ?_) fun ws s2 ⟨zs, H2, I2, rz, v, ez, q2⟩ => ⟨I2.kIn, ?_⟩
      · exact we_mono q fun v H2 q2 => ⟨v, rfl, q2⟩
      · subst ez
        cases rz with
        | cons rz rn =>
          cases rn
          exact q2 pins s2 us _ I2 rr rz
    · rw [h1]
      show ((((false, _) : Bool × Sem Value) :: backTo pos (starEach es X.env)).any (·.1) || _) = false
      rw [List.any_cons, h2]
      rfl
/-- f(es), f a built-in function or type by its name -/
theorem we_callb (c : CxOk g k s nm X) {x : Str} {p pos : Pos} {f : Value} {e : Expr} {es : List Expr} {m : Es} (hf : (∃ id, f = .builtin id) ∨ ∃ T, f = .type T) (hg : glB nm x = true) (hk : okN x = true)
    (hm : (g.mg x = none ∧ bootBuiltins x = some f) ∨ (∃ id, f = .builtin id) ∧ g.mg x = some f) (he : chkEs s nm m (e :: es) = true)
    (ha : wa X (e :: es) σ H fun vs H1 => callq X f vs H1 Q) : we X (.Call (.Name x p) (e :: es) [] pos) σ H Q := by
  cases m with
  | nil => unfold chkEs at he; cases he
  | cons y r =>
    unfold chkEs at he
    rw [Bool.and_eq_true] at he
    have h1 := star_cons (es := es) (env := X.env) (chk_shape he.1).1
    have h2 := (star_plain (env := X.env) (pos := pos) he.2).1
    obtain ⟨n1, _, n3⟩ := okN1 hk
    intro pins sh I
    refine wpAny_Call_Name_kw ?_
    have go : wpAny (model X.prog X.w) X.A (callWith pos f [] (backTo pos (starEach (e :: es) X.env)) (backToKw pos (keywordEach [] X.env))) (EP X pins σ Q) X.xe sh := by
      rcases hf with ⟨id, rfl⟩ | ⟨T, rfl⟩
      · exact PyProof.Rows.callWith_builtin1 (thn (ha pos pins sh I) fun us s1 ⟨vs, H1, I1, r1, q1⟩ => callq_R pins s1 σ H1 vs us Q I1 r1 q1) h1 h2
      · exact PyProof.Rows.callWith_type1 (thn (ha pos pins sh I) fun us s1 ⟨vs, H1, I1, r1, q1⟩ => callq_R pins s1 σ H1 vs us Q I1 r1 q1) h1 h2
    rcases hm with ⟨hm, hb⟩ | ⟨_, hm⟩
    · exact ld_blt I (c.gl hg) (by rw [c.mg]; exact hm) hb go n3 n1
    · exact ld_glob I (c.gl hg) (by rw [c.mg]; exact hm) go n1
/-- the arm of a method's call -/
theorem meth_arm {o : Expr} {m : Str} {ap pos : Pos} {args : List Expr} {env : PySem.Env} (h1 : noSup o = true) (h2 : (backTo pos (starEach args env)).all (fun x => !x.1) = true) (h3 : args.length < 20) (h4 : (ap.endLine == pos.line) = true) :
    eval (.Call (.Attribute o m ap) args [] pos) env = (do
      let ov ← eval o env
      standAt ap.atName
      let (f, first) ← holding [ov] (getMethod ov m (do return (← importBound o env).getD true))
      callWith pos f first (backTo pos (starEach args env)) (backToKw pos (keywordEach [] env))) := by
  show (do
    let ov ← attributeBase o m env (eval o env)
    standAt ap.atName
    methodCall o m ap pos env ov (args.length + 0) (backTo pos (starEach args env)) (backToKw pos (keywordEach [] env))) = _
  rw [no_sup h1]
  have e1 : methodCallForm (args.length + 0) (backTo pos (starEach args env)) (backToKw pos (keywordEach [] env)) = true := by
    unfold methodCallForm
    rw [h2]
    show (true && true && decide (args.length + 0 + 0 < 30)) = true
    rw [decide_eq_true (by omega)]
    rfl
  have e2 : ∀ ov, methodCall o m ap pos env ov (args.length + 0) (backTo pos (starEach args env)) (backToKw pos (keywordEach [] env)) = (do
      let (f, first) ← holding [ov] (getMethod ov m (do return (← importBound o env).getD true))
      callWith pos f first (backTo pos (starEach args env)) (backToKw pos (keywordEach [] env))) := by
    intro ov
    unfold methodCall
    rw [e1]
    have e3 : methodCallPos true o env ap pos = pure pos := by
      unfold methodCallPos
      rw [h4]
      rfl
    rw [e3]
    rfl
  simp only [e2]
/-- o.m(es), o an instance of some class -/
theorem we_methv (c : CxOk g k s nm X) {o : Expr} {m : Str} {ap pos : Pos} {es : List Expr} {z : Es} (h1 : noSup o = true) (h3 : es.length < 20) (h4 : (ap.endLine == pos.line) = true) (he : chkEs s nm z es = true)
    (ho : we X o σ H fun x H1 => ∃ a C dx fs f, x = .ref a ∧ H1 a = some (.ins C dx fs) ∧ fs.lookup m = none ∧ Cls X.K C ∧ Meth X.K C m f ∧ waL X es σ H1 fun vs H2 => cr X (.ref f) σ (.ref a :: vs) H2 Q) :
    we X (.Call (.Attribute o m ap) es [] pos) σ H Q := by
  intro pins sh I
  refine PySem.W.methodCall_KW (pl := (do return (← importBound o X.env).getD true)) (thn (ho pins sh I) fun u s1 ⟨x, H1, I1, rx, a, C, dx, fs, f, ex, ea, l, hc, hm, hq⟩ => ?_) (meth_arm h1 (star_plain he).2 h3 h4)
  subst ex
  obtain rfl : u = Value.ref a := rx
  refine getmeth_ok I1 ea hc hm l ?_
  cases es with
  | nil => exact PySem.W.callWith_K0 (first := [.ref a]) I1.kIn hm.kp (hq.2 rfl pins s1 [.ref a] I1 (.cons rfl .nil))
  | cons e es =>
    cases z with
    | nil => unfold chkEs at he; cases he
    | cons y r =>
      unfold chkEs at he
      rw [Bool.and_eq_true] at he
      exact PySem.W.callWith_K (first := [.ref a]) (h₀ := X.base) I1.ok.mod.kin hm.kp (thn (hq.1 pos pins s1 I1) fun us s2 ⟨vs, H2, I2, rr, q⟩ => ⟨I2.kIn, q pins s2 (.ref a :: us) I2 (.cons rfl rr)⟩) (star_cons (chk_shape he.1).1) (star_plain he.2).1
end
end M
end

section
set_option Elab.async false
set_option linter.all false
set_option maxRecDepth 100000
set_option maxHeartbeats 1000000
/-! M7: what is walked: zip of two and three, enumerate, over lists and tuples in any mix. -/
namespace M
open PySem PySem.Spec PyProof.Rows L2

/-- n turns, at turn i a new tuple of L i -/
def ItN (n : Nat) (G : Hp → Prop) (L : Nat → List V) : It :=
  ⟨fun i H => i < n ∧ G H, fun i H v H' => ∃ T, v = .ref T ∧ H T = none ∧ H' = upd H T (.tup (L i)), fun i H => i = n ∧ G H⟩
theorem turn_goes {P : Program} {w : World} {K : PySem.W.Frag} {tg : Expr} {n : Nat} {fp wr : List Addr} {it : Addr} {tn : Nat → Heap → Prop} {G : Hp → Prop} {L : Nat → List V} (mem : it ∈ fp) (sub : ∀ b ∈ wr, b ∈ fp) (small : ∀ i, (L i).length ≤ 3)
    (obj : ∀ i h, tn i h → ∀ b ∈ fp, ∃ o, h.get? b = some o ∧ ∀ v, o.data ≠ .cell v)
    (keep : ∀ i h h', tn i h → (∀ b ∈ fp, ∀ o, h.get? b = some o → h'.get? b = some o) → tn i h')
    (self : ∀ (A : Around) (i : Nat) (s : Shared) (Q E : Value → Shared → Prop), tn i s.heap → Q (.ref it) s → wpAny (model P w) A (pyIter (.ref it)) Q E s)
    (run : ∀ (X : Cx), X.prog = P → X.w = w → X.K = K → X.calm = true → ∀ (i : Nat) (pins : List (Addr × Obj)) (s : Shared) (σ : L2.St) (H : Hp), Inv X pins σ H s → tn i s.heap → G H →
      ∃ (fp' : List Addr) (Y : Nat → Heap → Value → Heap → Prop) (Z : Nat → Heap → Prop), GoesN P w X.A tg it fp' wr n Y Z ∧ Z i s.heap ∧ (∀ j h, Z j h → tn j h) ∧ (i < n → ∀ h₀ v h, Y i h₀ v h → ∃ T us, v = .ref T ∧ h₀.objs.size ≤ T ∧ Vals (L i) us ∧ h.IsTuple T us.toArray)) :
    Turn P w K tg (ItN n G L) fp it tn where
  mem := mem
  obj := obj
  keep := keep
  self := self
  item := by
    intro X hP hw hK hc i pins s σ H E I hf st hg
    obtain ⟨hi, hG⟩ := hg
    obtain ⟨fp', Y, Z, W, z, back, hY⟩ := run X hP hw hK hc i pins s σ H I st hG
    refine W.goes i s _ E hi z fun v h' tk y z' old _ => ?_
    obtain ⟨T, us, rfl, hT, rv, ht⟩ := hY hi _ _ _ y
    have lt : ∀ b ∈ fp, b ≠ T := fun b hb e => by
      obtain ⟨o, ho, _⟩ := obj i _ st b hb
      have := Heap.lt_size ho
      rw [e] at this
      exact Nat.lt_irrefl _ (Nat.lt_of_lt_of_le this hT)
    have new : ObjOk X.prog X.w (upd H T (.tup (L i))) h' T (.tup (L i)) := ⟨Nat.le_trans (small i) (by rw [sizeLine_eq]; decide), us, rv, ht⟩
    have I1 : Inv X pins σ (upd H T (.tup (L i))) { s with heap := h', toks := tk } := I.turnedNew (ch := fp) (fun b o hb e => old b o (fun q => hb (sub b q)) e) hf hT new
    exact ⟨.ref T, _, I1, rfl, ⟨T, rfl, I.hok.fresh hT, rfl⟩, back _ _ z', fun b hb => by rw [upd_ne (lt b hb)]; exact (hf b hb).1⟩
  done := by
    intro X hP hw hK hc i pins s σ H E I hf st hg
    obtain ⟨hi, hG⟩ := hg
    obtain ⟨fp', Y, Z, W, z, back, hY⟩ := run X hP hw hK hc i pins s σ H I st hG
    subst hi
    exact W.stops s _ E z fun h' tk old _ => I.turnedL (ch := fp) (fun b o hb e => old b o (fun q => hb (sub b q)) e) hf

/-- a sequence of either kind -/
inductive SqA (K : PySem.W.Frag) (H : Hp) (a : Addr) (xs : List V) : Bool → Prop where
  | lst : SqL K H a xs → SqA K H a xs false
  | tup : SqT K H a xs → SqA K H a xs true
def ItAt (b : Bool) (h : Heap) (it a : Addr) (i : Nat) : Prop := if b = true then h.IsTupleIter it a i else h.IsListIter it a i
def IsSq (b : Bool) (h : Heap) (a : Addr) (its : Array Value) : Prop := if b = true then h.IsTuple a its else h.IsList a its
def itO (b : Bool) (a : Addr) : Obj := if b = true then { cls := .type "tuple_iterator", data := .fields #[.ref a, .int 0 0] } else { cls := .type "list_iterator", data := .fields #[.ref a, .int 0 0] }
section
variable {X : Cx} {pins : List (Addr × Obj)} {σ : L2.St} {H : Hp} {s : Shared} {a : Addr} {xs : List V} {b : Bool}
theorem SqA.its (q : SqA X.K H a xs b) (I : Inv X pins σ H s) : ∃ its : List Value, Vals xs its ∧ IsSq b s.heap a its.toArray ∧ a < s.heap.objs.size := by
  cases q with
  | lst q =>
    obtain ⟨its, r, p, _⟩ := I.list q
    exact ⟨its, r, p.isList, p.lt⟩
  | tup q =>
    obtain ⟨its, r, p, _⟩ := I.tuple q
    exact ⟨its, r, show s.heap.IsTuple a its.toArray from p, p.lt⟩
theorem begins_sq (b : Bool) (a : Addr) (its : Array Value) : Begins (.ref a) (itO b a) fun h => IsSq b h a its := by
  cases b with
  | false => exact begins_list a its
  | true => exact begins_tuple a its
theorem draws_sq {prog : Program} {w : World} {A : Around} (hh : A.handled = none) (b : Bool) (it a : Addr) (hne : a ≠ it) (its : Array Value) : Draws prog w A it [it, a] its.size (fun i v => its[i]? = some v) (fun i h => ItAt b h it a i ∧ IsSq b h a its) := by
  cases b with
  | false => exact Draws.list hh it a hne its
  | true => exact Draws.tuple hh it a hne its
theorem itAt_obj {b : Bool} {h : Heap} {it a : Addr} {i : Nat} (z : ItAt b h it a i) : ∃ o, h.get? it = some o ∧ ∀ v, o.data ≠ .cell v := by
  cases b with
  | false =>
    obtain ⟨o, e, _, d⟩ := (show h.IsListIter it a i from z)
    exact ⟨o, e, fun v q => by rw [d] at q; cases q⟩
  | true =>
    obtain ⟨o, e, _, d⟩ := (show h.IsTupleIter it a i from z)
    exact ⟨o, e, fun v q => by rw [d] at q; cases q⟩
theorem itAt_at {b : Bool} {h h' : Heap} {it a : Addr} {i : Nat} (z : ItAt b h it a i) (k : ∀ o, h.get? it = some o → h'.get? it = some o) : ItAt b h' it a i := by
  cases b with
  | false => exact (show h.IsListIter it a i from z).at k
  | true => exact (show h.IsTupleIter it a i from z).at k
theorem itAt_new {b : Bool} {h : Heap} {it a : Addr} (e : h.get? it = some (itO b a)) : ItAt b h it a 0 := by
  cases b with
  | false => exact ⟨_, e, rfl, rfl⟩
  | true => exact ⟨_, e, rfl, rfl⟩
theorem vals_at {xs : List V} {its : List Value} (r : Vals xs its) {i : Nat} {u : Value} (e : its.toArray[i]? = some u) : ∃ x, xs[i]? = some x ∧ RelV x u := by
  have e' : its[i]? = some u := by simpa using e
  have hi : i < its.length := (List.getElem?_eq_some_iff.mp e').1
  have hx : i < xs.length := by rw [r.length]; exact hi
  obtain ⟨u', h1, h2⟩ := r.get (i := i) (x := xs[i]) (by simp [hx])
  rw [e'] at h1
  cases h1
  exact ⟨_, by simp [hx], h2⟩
end
/-- the items, by place -/
def rowAt (ls : List (List V)) (i : Nat) : List V := ls.filterMap fun l => l[i]?
theorem rowAt_len (ls : List (List V)) (i : Nat) : (rowAt ls i).length ≤ ls.length := by
  unfold rowAt
  exact List.length_filterMap_le ..
theorem row2 {xs ys : List V} {i : Nat} {x y : V} (h1 : xs[i]? = some x) (h2 : ys[i]? = some y) : rowAt [xs, ys] i = [x, y] := by
  simp [rowAt, h1, h2]
theorem row3 {xs ys zs : List V} {i : Nat} {x y z : V} (h1 : xs[i]? = some x) (h2 : ys[i]? = some y) (h3 : zs[i]? = some z) : rowAt [xs, ys, zs] i = [x, y, z] := by
  simp [rowAt, h1, h2, h3]
theorem small3 {ls : List (List V)} (h : ls.length ≤ 3) (i : Nat) : (rowAt ls i).length ≤ 3 := Nat.le_trans (rowAt_len ls i) h
def Zip2G (K : PySem.W.Frag) (a1 a2 : Addr) (xs ys : List V) (b1 b2 : Bool) : Hp → Prop := fun H => SqA K H a1 xs b1 ∧ SqA K H a2 ys b2
theorem turn_zip2 {P : Program} {w : World} {K : PySem.W.Frag} {elts : List Expr} {kk : Nat} {tpos : Pos} {a1 a2 z TI TO i1 i2 : Addr} {b1 b2 : Bool} {xs ys : List V} (S : ZipSep2 z TI TO i1 i2 [i1, a1] [i2, a2]) (n1 : a1 ≠ i1) (n2 : a2 ≠ i2) :
    Turn P w K (.Tuple elts kk tpos) (ItN (min xs.length ys.length) (Zip2G K a1 a2 xs ys b1 b2) (rowAt [xs, ys])) [z, TI, TO, i1, i2] z
      (fun i h => IsZip h z TI TO .none ∧ IsTupOf2 h TI (.ref i1) (.ref i2) ∧ (∃ x y, IsTupOf2 h TO x y) ∧ ItAt b1 h i1 a1 i ∧ ItAt b2 h i2 a2 i) := by
  refine turn_goes (wr := [z, TO, i1, i2]) (by simp) (fun b hb => ?_) (fun i => small3 (by show 2 ≤ 3; decide) i) (fun i h st c hc => ?_) (fun i h h' st k => ?_) (fun A i s Q E st hq => ?_) ?_
  · simp only [List.mem_cons, List.not_mem_nil, or_false] at hb ⊢
    rcases hb with e | e | e | e <;> simp [e]
  · obtain ⟨hz, hTI, ⟨x, y, hTO⟩, h1, h2⟩ := st
    simp only [List.mem_cons, List.not_mem_nil, or_false] at hc
    rcases hc with q | q | q | q | q
    · rw [q]; exact ⟨_, hz, fun v q => nomatch q⟩
    · rw [q]; exact ⟨_, hTI, fun v q => nomatch q⟩
    · rw [q]; exact ⟨_, hTO, fun v q => nomatch q⟩
    · rw [q]; exact itAt_obj h1
    · rw [q]; exact itAt_obj h2
  · obtain ⟨hz, hTI, ⟨x, y, hTO⟩, h1, h2⟩ := st
    exact ⟨k z (by simp) _ hz, k TI (by simp) _ hTI, ⟨x, y, k TO (by simp) _ hTO⟩, itAt_at h1 (k i1 (by simp)), itAt_at h2 (k i2 (by simp))⟩
  · exact wpAny_pyIter_zip st.1 hq
  · intro X hP hw hK hc i pins s σ H I st hG
    subst hP hw hK
    obtain ⟨its1, r1, p1, _⟩ := hG.1.its I
    obtain ⟨its2, r2, p2, _⟩ := hG.2.its I
    obtain ⟨hz, hTI, hTO, h1, h2⟩ := st
    have hh : X.A.in1.handled = none := I.ok.hd hc
    have W := GoesN.zip2 (elts := elts) (x1 := kk) (pos := tpos) S (draws_sq (prog := X.prog) (w := X.w) hh b1 i1 a1 n1 its1.toArray) (draws_sq (prog := X.prog) (w := X.w) hh b2 i2 a2 n2 its2.toArray)
    rw [List.size_toArray, List.size_toArray, ← r1.length, ← r2.length] at W
    refine ⟨_, _, _, W, ⟨hz, hTI, hTO, ⟨h1, p1⟩, ⟨h2, p2⟩⟩, fun j h ⟨q1, q2, q3, q4, q5⟩ => ⟨q1, q2, q3, q4.1, q5.1⟩, fun hi h₀ v h ⟨T, x, y, e, hT, e1, e2, hh⟩ => ?_⟩
    obtain ⟨v1, f1, g1⟩ := vals_at r1 e1
    obtain ⟨v2, f2, g2⟩ := vals_at r2 e2
    exact ⟨T, [x, y], e, hT, by rw [row2 f1 f2]; exact .cons g1 (.cons g2 .nil), hh⟩
def Zip3G (K : PySem.W.Frag) (a1 a2 a3 : Addr) (xs ys zs : List V) (b1 b2 b3 : Bool) : Hp → Prop := fun H => SqA K H a1 xs b1 ∧ SqA K H a2 ys b2 ∧ SqA K H a3 zs b3
theorem turn_zip3 {P : Program} {w : World} {K : PySem.W.Frag} {elts : List Expr} {kk : Nat} {tpos : Pos} {a1 a2 a3 z TI TO i1 i2 i3 : Addr} {b1 b2 b3 : Bool} {xs ys zs : List V} (S : ZipSep3 z TI TO i1 i2 i3 [i1, a1] [i2, a2] [i3, a3]) (n1 : a1 ≠ i1) (n2 : a2 ≠ i2) (n3 : a3 ≠ i3) :
    Turn P w K (.Tuple elts kk tpos) (ItN (min (min xs.length ys.length) zs.length) (Zip3G K a1 a2 a3 xs ys zs b1 b2 b3) (rowAt [xs, ys, zs])) [z, TI, TO, i1, i2, i3] z
      (fun i h => IsZip h z TI TO .none ∧ IsTupOf3 h TI (.ref i1) (.ref i2) (.ref i3) ∧ (∃ x y u, IsTupOf3 h TO x y u) ∧ ItAt b1 h i1 a1 i ∧ ItAt b2 h i2 a2 i ∧ ItAt b3 h i3 a3 i) := by
  refine turn_goes (wr := [z, TO, i1, i2, i3]) (by simp) (fun b hb => ?_) (fun i => small3 (by show 3 ≤ 3; decide) i) (fun i h st c hc => ?_) (fun i h h' st k => ?_) (fun A i s Q E st hq => ?_) ?_
  · simp only [List.mem_cons, List.not_mem_nil, or_false] at hb ⊢
    rcases hb with e | e | e | e | e <;> simp [e]
  · obtain ⟨hz, hTI, ⟨x, y, u, hTO⟩, h1, h2, h3⟩ := st
    simp only [List.mem_cons, List.not_mem_nil, or_false] at hc
    rcases hc with q | q | q | q | q | q
    · rw [q]; exact ⟨_, hz, fun v q => nomatch q⟩
    · rw [q]; exact ⟨_, hTI, fun v q => nomatch q⟩
    · rw [q]; exact ⟨_, hTO, fun v q => nomatch q⟩
    · rw [q]; exact itAt_obj h1
    · rw [q]; exact itAt_obj h2
    · rw [q]; exact itAt_obj h3
  · obtain ⟨hz, hTI, ⟨x, y, u, hTO⟩, h1, h2, h3⟩ := st
    exact ⟨k z (by simp) _ hz, k TI (by simp) _ hTI, ⟨x, y, u, k TO (by simp) _ hTO⟩, itAt_at h1 (k i1 (by simp)), itAt_at h2 (k i2 (by simp)), itAt_at h3 (k i3 (by simp))⟩
  · exact wpAny_pyIter_zip st.1 hq
  · intro X hP hw hK hc i pins s σ H I st hG
    subst hP hw hK
    obtain ⟨its1, r1, p1, _⟩ := hG.1.its I
    obtain ⟨its2, r2, p2, _⟩ := hG.2.1.its I
    obtain ⟨its3, r3, p3, _⟩ := hG.2.2.its I
    obtain ⟨hz, hTI, hTO, h1, h2, h3⟩ := st
    have hh : X.A.in1.handled = none := I.ok.hd hc
    have W := GoesN.zip3 (elts := elts) (x1 := kk) (pos := tpos) S (draws_sq (prog := X.prog) (w := X.w) hh b1 i1 a1 n1 its1.toArray) (draws_sq (prog := X.prog) (w := X.w) hh b2 i2 a2 n2 its2.toArray) (draws_sq (prog := X.prog) (w := X.w) hh b3 i3 a3 n3 its3.toArray)
    rw [List.size_toArray, List.size_toArray, List.size_toArray, ← r1.length, ← r2.length, ← r3.length] at W
    refine ⟨_, _, _, W, ⟨hz, hTI, hTO, ⟨h1, p1⟩, ⟨h2, p2⟩, ⟨h3, p3⟩⟩, fun j h ⟨q1, q2, q3, q4, q5, q6⟩ => ⟨q1, q2, q3, q4.1, q5.1, q6.1⟩, fun hi h₀ v h ⟨T, x, y, u, e, hT, e1, e2, e3, hh⟩ => ?_⟩
    obtain ⟨v1, f1, g1⟩ := vals_at r1 e1
    obtain ⟨v2, f2, g2⟩ := vals_at r2 e2
    obtain ⟨v3, f3, g3⟩ := vals_at r3 e3
    exact ⟨T, [x, y, u], e, hT, by rw [row3 f1 f2 f3]; exact .cons g1 (.cons g2 (.cons g3 .nil)), hh⟩
def EnumG (K : PySem.W.Frag) (a1 : Addr) (xs : List V) (b1 : Bool) : Hp → Prop := fun H => SqA K H a1 xs b1
def rowE (xs : List V) (i : Nat) : List V := .int (i : Nat) :: (xs[i]?).toList
theorem turn_enumA {P : Program} {w : World} {K : PySem.W.Frag} {elts : List Expr} {kk : Nat} {tpos : Pos} {a1 e i1 : Addr} {b1 : Bool} {xs : List V} (n1 : a1 ≠ i1) (h1 : e ≠ i1) (h2 : e ≠ a1) :
    Turn P w K (.Tuple elts kk tpos) (ItN xs.length (EnumG K a1 xs b1) (rowE xs)) [e, i1] e (fun i h => (∃ old, IsEnum h e i1 (0 + (i : Int)) old) ∧ ItAt b1 h i1 a1 i) := by
  refine turn_goes (wr := [e, i1]) (by simp) (fun b hb => hb) (fun i => ?_) (fun i h st c hc => ?_) (fun i h h' st k => ?_) (fun A i s Q E st hq => ?_) ?_
  · unfold rowE
    cases xs[i]? <;> simp
  · obtain ⟨⟨old, hz⟩, h1⟩ := st
    simp only [List.mem_cons, List.not_mem_nil, or_false] at hc
    rcases hc with q | q
    · rw [q]; exact ⟨_, hz, fun v q => nomatch q⟩
    · rw [q]; exact itAt_obj h1
  · obtain ⟨⟨old, hz⟩, h1⟩ := st
    exact ⟨⟨old, k e (by simp) _ hz⟩, itAt_at h1 (k i1 (by simp))⟩
  · obtain ⟨old, hz⟩ := st.1
    exact wpAny_pyIter_enum hz hq
  · intro X hP hw hK hc i pins s σ H I st hG
    subst hP hw hK
    obtain ⟨its1, r1, p1, _⟩ := SqA.its hG I
    obtain ⟨hz, hi1⟩ := st
    have hh : X.A.in1.handled = none := I.ok.hd hc
    have W := GoesN.enumFrom (elts := elts) (x1 := kk) (pos := tpos) 0 (draws_sq (prog := X.prog) (w := X.w) hh b1 i1 a1 n1 its1.toArray) e h1 (by simp [h1, h2]) (by simp)
    rw [List.size_toArray, ← r1.length] at W
    refine ⟨_, _, _, W, ⟨hz, ⟨hi1, p1⟩⟩, fun j h ⟨q1, q2⟩ => ⟨q1, q2.1⟩, fun hi h₀ v h ⟨T, t, x, e, hT, e1, hh⟩ => ?_⟩
    obtain ⟨v1, f1, g1⟩ := vals_at r1 e1
    refine ⟨T, [.int (0 + (i : Int)) t, x], e, hT, ?_, hh⟩
    unfold rowE
    rw [f1]
    refine .cons ⟨t, ?_⟩ (.cons g1 .nil)
    rw [Int.zero_add]

theorem enum_new1 {v : Value} {o : Obj} {Hh : Heap → Prop} (B : Begins v o Hh) : Meets (Builtin.«enumerate.__new__» ⟨[.type "enumerate", v], []⟩) (fun _ R s => Hh s.heap ∧
      R (.ok (.ret (.ref (s.heap.push o).objs.size))) { s with heap := (s.heap.push o).push { cls := .type "enumerate", data := .fields #[.none, .bool false, .ref s.heap.objs.size, rawInt 0, .none, .none] } }) :=
  .of_wp fun prog w A R s hh => by
    obtain ⟨hp, g, d, tk, os⟩ := s
    obtain ⟨h1, h⟩ := hh
    have hsub := sub_enumerate
    have q1 : ∀ {A' : Around} {E : Value → Shared → Prop} {Q : Value → Shared → Prop}, Q (.ref hp.objs.size) ⟨hp.push o, g, d, tk, os⟩ → wpAny (model prog w) A' (pyIter v) Q E ⟨hp, g, d, tk, os⟩ := fun q => B.iter prog w _ _ ⟨hp, g, d, tk, os⟩ _ h1 q
    wp_walk using q1
    refine wpAny_stack_any fun st => wpAny_pure ?_
    split
    · rename_i c _ _ _ _ _
      cases (c == Value.type "enumerate")
      all_goals (wp_walk using q1; exact ⟨_, rfl, h⟩)
    · wp_walk using q1
      exact ⟨_, rfl, h⟩
theorem enum_begins1 {prog : Program} {w : World} {A : Around} {E : Value → Shared → Prop} {s : Shared} {v : Value} {o : Obj} {Hh : Heap → Prop} {Q : Value → Shared → Prop} (B : Begins v o Hh) (h1 : Hh s.heap)
    (h : ∀ h', IsEnum h' (s.heap.objs.size + 1) s.heap.objs.size 0 .none → h'.get? s.heap.objs.size = some o → (∀ b o, s.heap.get? b = some o → h'.get? b = some o) → Q (.ref (s.heap.objs.size + 1)) { s with heap := h' }) :
    wpAny (model prog w) A (call (.type "enumerate") [v]) Q E s := by
  refine callType_new F.called_enumerate (by decide) (F.typeCall_enumerate_1 _) (F.newCall_enumerate_1 _) (fun obj => F.args_object_init_2 obj _) F.entry_enumerate_new (enum_new1 B) ⟨h1, ?_⟩
  have hz : (s.heap.push o).objs.size = s.heap.objs.size + 1 := by rw [Heap.size_push]
  have he : IsEnum ((s.heap.push o).push { cls := .type "enumerate", data := .fields #[.none, .bool false, .ref s.heap.objs.size, rawInt 0, .none, .none] }) (s.heap.objs.size + 1) s.heap.objs.size 0 .none := by
    rw [← hz]
    exact Heap.get?_push_size _ rfl
  rw [hz]
  exact ⟨⟨_, he, rfl⟩, h _ he (Heap.get?_push_of_some _ (Heap.get?_push_size _ B.free)) fun b o x => Heap.get?_push_of_some _ (Heap.get?_push_of_some _ x)⟩

/-! ### the sources of a loop -/
/-- what a loop walks, by what it means -/
def wi (X : Cx) (tg iter : Expr) : TI := fun σ H R => ∀ pins s, Inv X pins σ H s → wpAny (model X.prog X.w) X.A (eval iter X.env) (fun v s1 => wpAny (model X.prog X.w) X.A (pyIter v) (PIE X pins σ tg R) X.xe s1) X.xe s
theorem pi_wi {X : Cx} {tg iter : Expr} : PI X tg iter (wi X tg iter) := ⟨fun pins s _ _ _ I h => h pins s I⟩
theorem _root_.L2.PI.wi' {X : Cx} {tg iter : Expr} {σ : L2.St} {H : Hp} {t : TI} (h : PI X tg iter t) {R : It → Hp → Prop} (q : t σ H R) : wi X tg iter σ H R := fun pins s I => h.run pins s σ H R I q
section
variable {X : Cx} {tg : Expr} {σ : L2.St} {H : Hp} {R : It → Hp → Prop}
/-- a list or a tuple -/
theorem wi_seq {iter : Expr} (h : we X iter σ H fun x H1 => ∃ a, x = .ref a ∧ (((∃ xs, SqL X.K H1 a xs) ∧ R (Itl X.K a) H1) ∨ ((∃ xs, SqT X.K H1 a xs) ∧ R (Itt X.K a) H1))) : wi X tg iter σ H R := by
  intro pins s I
  refine thn (h pins s I) fun v s1 ⟨x, H1, I1, r1, a, ex, q⟩ => ?_
  subst ex
  cases r1
  have fr : ∀ b ∈ [s1.heap.objs.size], FpOk X pins H1 b := fun b hb => by
    rw [List.mem_singleton.mp hb]
    exact I1.fpOk (Nat.le_refl _) (I1.hok.fresh (Nat.le_refl _))
  rcases q with ⟨⟨xs, hq⟩, q⟩ | ⟨⟨xs, hq⟩, q⟩
  · obtain ⟨its, _, p, _⟩ := I1.list hq
    exact wpAny_pyIter_list p.isList ⟨_, [s1.heap.objs.size], _, _, H1, rfl, I1.kept (t' := s1.toks) fun b o e => Heap.get?_push_of_some _ e, turn_list a _, ⟨_, Heap.get?_push_size _ rfl, rfl, rfl⟩, fr, q⟩
  · obtain ⟨its, _, p, _⟩ := I1.tuple hq
    exact wpAny_pyIter_tuple (show s1.heap.IsTuple a its.toArray from p) ⟨_, [s1.heap.objs.size], _, _, H1, rfl, I1.kept (t' := s1.toks) fun b o e => Heap.get?_push_of_some _ e, turn_tuple a _, ⟨_, Heap.get?_push_size _ rfl, rfl, rfl⟩, fr, q⟩
theorem fresh_all {pins : List (Addr × Obj)} {s1 : Shared} {H1 : Hp} (I1 : Inv X pins σ H1 s1) (l : List Addr) (h : ∀ c ∈ l, s1.heap.objs.size ≤ c) : ∀ c ∈ l, FpOk X pins H1 c := fun c hc => I1.fpOk (h c hc) (I1.hok.fresh (h c hc))
/-- zip of two made sequences -/
theorem run_zip2 {elts : List Expr} {kk : Nat} {tpos : Pos} {pins : List (Addr × Obj)} {s1 : Shared} {H1 : Hp} {a1 a2 : Addr} {xs ys : List V} {b1 b2 : Bool} (I1 : Inv X pins σ H1 s1) (h1 : SqA X.K H1 a1 xs b1) (h2 : SqA X.K H1 a2 ys b2)
    (q : R (ItN (min xs.length ys.length) (Zip2G X.K a1 a2 xs ys b1 b2) (rowAt [xs, ys])) H1) : wpAny (model X.prog X.w) X.A (call (.type "zip") [.ref a1, .ref a2]) (fun v s2 => wpAny (model X.prog X.w) X.A (pyIter v) (PIE X pins σ (.Tuple elts kk tpos) R) X.xe s2) X.xe s1 := by
  obtain ⟨its1, r1, p1, l1⟩ := h1.its I1
  obtain ⟨its2, r2, p2, l2⟩ := h2.its I1
  refine zip_begins2 (begins_sq b1 a1 its1.toArray) (begins_sq b2 a2 its2.toArray) p1 p2 fun h' hz hTI hTO e1 e2 hsz hk => wpAny_pyIter_zip hz ?_
  have I2 : Inv X pins σ H1 { s1 with heap := h' } := I1.kept (t' := s1.toks) hk
  have S := zip_sep2 (N := s1.heap.objs.size) (fp1 := [a1]) (fp2 := [a2]) (fun b hb => by rw [List.mem_singleton.mp hb]; exact l1) (fun b hb => by rw [List.mem_singleton.mp hb]; exact l2)
  refine ⟨_, [s1.heap.objs.size + 4, s1.heap.objs.size + 2, s1.heap.objs.size + 3, s1.heap.objs.size, s1.heap.objs.size + 1], _, _, H1, rfl, I2, turn_zip2 S (Nat.ne_of_lt l1) (Nat.ne_of_lt (Nat.lt_succ_of_lt l2)), ⟨hz, hTI, ⟨_, _, hTO⟩, itAt_new e1, itAt_new e2⟩, fresh_all I1 _ fun c hc => ?_, q⟩
  simp only [List.mem_cons, List.not_mem_nil, or_false] at hc
  rcases hc with e | e | e | e | e <;> rw [e] <;> omega
theorem run_zip3 {elts : List Expr} {kk : Nat} {tpos : Pos} {pins : List (Addr × Obj)} {s1 : Shared} {H1 : Hp} {a1 a2 a3 : Addr} {xs ys zs : List V} {b1 b2 b3 : Bool} (I1 : Inv X pins σ H1 s1) (h1 : SqA X.K H1 a1 xs b1) (h2 : SqA X.K H1 a2 ys b2) (h3 : SqA X.K H1 a3 zs b3)
    (q : R (ItN (min (min xs.length ys.length) zs.length) (Zip3G X.K a1 a2 a3 xs ys zs b1 b2 b3) (rowAt [xs, ys, zs])) H1) : wpAny (model X.prog X.w) X.A (call (.type "zip") [.ref a1, .ref a2, .ref a3]) (fun v s2 => wpAny (model X.prog X.w) X.A (pyIter v) (PIE X pins σ (.Tuple elts kk tpos) R) X.xe s2) X.xe s1 := by
  obtain ⟨its1, r1, p1, l1⟩ := h1.its I1
  obtain ⟨its2, r2, p2, l2⟩ := h2.its I1
  obtain ⟨its3, r3, p3, l3⟩ := h3.its I1
  refine zip_begins3 (begins_sq b1 a1 its1.toArray) (begins_sq b2 a2 its2.toArray) (begins_sq b3 a3 its3.toArray) p1 p2 p3 fun h' hz hTI hTO e1 e2 e3 hsz hk => wpAny_pyIter_zip hz ?_
  have I2 : Inv X pins σ H1 { s1 with heap := h' } := I1.kept (t' := s1.toks) hk
  have S := zip_sep3 (N := s1.heap.objs.size) (fp1 := [a1]) (fp2 := [a2]) (fp3 := [a3]) (fun b hb => by rw [List.mem_singleton.mp hb]; exact l1) (fun b hb => by rw [List.mem_singleton.mp hb]; exact l2) (fun b hb => by rw [List.mem_singleton.mp hb]; exact l3)
  refine ⟨_, [s1.heap.objs.size + 5, s1.heap.objs.size + 3, s1.heap.objs.size + 4, s1.heap.objs.size, s1.heap.objs.size + 1, s1.heap.objs.size + 2], _, _, H1, rfl, I2, turn_zip3 S (Nat.ne_of_lt l1) (Nat.ne_of_lt (Nat.lt_succ_of_lt l2)) (Nat.ne_of_lt (Nat.lt_succ_of_lt (Nat.lt_succ_of_lt l3))), ⟨hz, hTI, ⟨_, _, _, hTO⟩, itAt_new e1, itAt_new e2, itAt_new e3⟩, fresh_all I1 _ fun c hc => ?_, q⟩
  simp only [List.mem_cons, List.not_mem_nil, or_false] at hc
  rcases hc with e | e | e | e | e | e <;> rw [e] <;> omega
theorem run_enum {elts : List Expr} {kk : Nat} {tpos : Pos} {pins : List (Addr × Obj)} {s1 : Shared} {H1 : Hp} {a1 : Addr} {xs : List V} {b1 : Bool} (I1 : Inv X pins σ H1 s1) (h1 : SqA X.K H1 a1 xs b1)
    (q : R (ItN xs.length (EnumG X.K a1 xs b1) (rowE xs)) H1) : wpAny (model X.prog X.w) X.A (call (.type "enumerate") [.ref a1]) (fun v s2 => wpAny (model X.prog X.w) X.A (pyIter v) (PIE X pins σ (.Tuple elts kk tpos) R) X.xe s2) X.xe s1 := by
  obtain ⟨its1, r1, p1, l1⟩ := h1.its I1
  refine enum_begins1 (begins_sq b1 a1 its1.toArray) p1 fun h' he e1 hk => wpAny_pyIter_enum he ?_
  have I2 : Inv X pins σ H1 { s1 with heap := h' } := I1.kept (t' := s1.toks) hk
  refine ⟨_, [s1.heap.objs.size + 1, s1.heap.objs.size], _, _, H1, rfl, I2, turn_enumA (Nat.ne_of_lt l1) (Nat.ne_of_gt (Nat.lt_succ_self _)) (Nat.ne_of_gt (Nat.lt_succ_of_lt l1)), ⟨⟨_, he⟩, itAt_new e1⟩, fresh_all I1 _ fun c hc => ?_, q⟩
  simp only [List.mem_cons, List.not_mem_nil, or_false] at hc
  rcases hc with e | e <;> rw [e] <;> omega
end
end M
end

section
set_option Elab.async false
set_option linter.all false
set_option maxRecDepth 100000
set_option maxHeartbeats 1000000
/-! M8: slots, targets, what is walked, the text's table. -/
namespace M
open PySem PySem.Spec PyProof.Rows L2

theorem bindM_good {α β : Type} {c : Mo α} {f : α → Mo β} {h : VH} {P : β × VH → Prop} : (bindM c f h).Good P ↔ (c h).Good fun r => (f r.1 r.2).Good P := by
  unfold bindM
  exact T.good_bind
theorem lift_good {α : Type} {o : Option α} {h : VH} {P : α × VH → Prop} : (lift o h).Good P ↔ ∃ a, o = some a ∧ P (a, h) := by
  unfold lift
  cases o with
  | none => exact ⟨fun z => False.elim z, fun ⟨_, z, _⟩ => nomatch z⟩
  | some a => exact ⟨fun z => ⟨a, rfl, z⟩, fun ⟨b, e, z⟩ => by cases e; exact z⟩

/-- the slots -/
structure Slo (g : Ga) (W : Wd) (a : Sl) (σ : L2.St) : Prop where
  len : a.length ≤ σ.length
  at_ : ∀ (i : Nat) (v : Val), a[i]? = some (some v) → ∃ w, σ[i]? = some (some w) ∧ Rep g W v w
section
variable {g : Ga} {W W' : Wd} {a : Sl} {σ : L2.St}
theorem Slo.mono0 (e : W.le0 W') (h : Slo g W a σ) : Slo g W' a σ := ⟨h.len, fun i v q => let ⟨w, x, r⟩ := h.at_ i v q; ⟨w, x, r.mono0 e⟩⟩
theorem Slo.mono (e : W.le W') (h : Slo g W a σ) : Slo g W' a σ := h.mono0 e.tole0
theorem Slo.set (h : Slo g W a σ) {i : Nat} {v : Val} {w : V} (r : Rep g W v w) : Slo g W (a.set i (some v)) (σ.set i (some w)) := by
  refine ⟨by rw [List.length_set, List.length_set]; exact h.len, fun j u q => ?_⟩
  by_cases e : i = j
  · subst e
    by_cases l : i < a.length
    · rw [List.getElem?_set_self l] at q
      cases q
      exact ⟨w, List.getElem?_set_self (Nat.lt_of_lt_of_le l h.len), r⟩
    · rw [List.getElem?_eq_none (by rw [List.length_set]; omega)] at q
      cases q
  · rw [List.getElem?_set_ne e] at q ⊢
    exact h.at_ j u q
theorem Slo.clear (h : Slo g W a σ) {i : Nat} {o : Option V} : Slo g W (a.set i none) (σ.set i o) := by
  refine ⟨by rw [List.length_set, List.length_set]; exact h.len, fun j u q => ?_⟩
  by_cases e : i = j
  · subst e
    by_cases l : i < a.length
    · rw [List.getElem?_set_self l] at q
      cases q
    · rw [List.getElem?_eq_none (by rw [List.length_set]; omega)] at q
      cases q
  · rw [List.getElem?_set_ne e] at q ⊢
    exact h.at_ j u q
theorem Slo.wipe (h : Slo g W a σ) : ∀ vs : List Nat, Slo g W (M.wipe a vs) (L2.wipe σ vs)
  | [] => h
  | v :: vs => (Slo.wipe h vs).clear
end

/-! ### targets -/
mutual
def gT (K : PySem.W.Frag) : Tg → TG
  | .nm i => gName i
  | .nil => gTup K 0 gNil
  | .cons t r => gTup K (tlen r + 1) (gCons (gT K t) (gTs K r))
def gTs (K : PySem.W.Frag) : Tg → TGs
  | .nm _ => fun _ _ _ _ => False
  | .nil => gNil
  | .cons t r => gCons (gT K t) (gTs K r)
def tlen : Tg → Nat
  | .nm _ => 0
  | .nil => 0
  | .cons _ r => tlen r + 1
end
section
variable {g : Ga} {k : Nat} {s : Si} {nm : Nms} {X : Cx}
theorem tg_form {t : Tg} {e : Expr} (h : chkT s nm t e = true) : ∀ (es : List Expr) (env : PySem.Env), assignEach (e :: es) env = (false, assign e env) :: assignEach es env := by
  cases t with
  | nm i =>
    unfold chkT at h
    split at h
    · intro es env
      rfl
    · cases h
  | nil =>
    unfold chkT at h
    split at h
    · intro es env
      rfl
    · cases h
  | cons t r =>
    unfold chkT at h
    split at h
    · intro es env
      rfl
    · cases h
mutual
theorem pgT (c : CxOk g k s nm X) : ∀ (t : Tg) {e : Expr}, chkT s nm t e = true → PG X e (gT X.K t)
  | .nm i, e, h => by
    unfold chkT at h
    split at h
    · rename_i x p
      simp only [Bool.and_eq_true, decide_eq_true_eq] at h
      obtain ⟨h1, h2⟩ := c.loc h.2
      unfold gT
      exact pg_name (by rw [c.N]; exact c.nd) (by rw [c.N]; exact h.1) h1 h2
    · cases h
  | .nil, e, h => by
    unfold chkT at h
    split at h
    · unfold gT
      exact pg_tup c.calm pgs_nil
    · cases h
  | .cons t r, e, h => by
    unfold chkT at h
    split at h
    · rename_i x xs kk p
      rw [Bool.and_eq_true] at h
      obtain ⟨q, l, f⟩ := pgsT c r (es := xs) (kk := kk) (p := p) h.2
      unfold gT
      refine pg_tup c.calm (pgs_cons (pgT c t h.1) q ?_) ?_ ?_
      · rw [tg_form h.1]
        rfl
      · rw [tg_form h.1, List.length_cons, l]
      · rw [tg_form h.1, List.findIdx?_cons, f]
        rfl
    · cases h
theorem pgsT (c : CxOk g k s nm X) : ∀ (t : Tg) {es : List Expr} {kk : Nat} {p : Pos}, chkT s nm t (.Tuple es kk p) = true → PGs X es (gTs X.K t) ∧ (assignEach es X.env).length = tlen t ∧ (assignEach es X.env).findIdx? (·.1) = none
  | .nm i, es, kk, p, h => by
    unfold chkT at h
    cases h
  | .nil, es, kk, p, h => by
    unfold chkT at h
    split at h
    · rename_i e
      cases e
      unfold gTs tlen
      exact ⟨pgs_nil, rfl, rfl⟩
    · cases h
  | .cons t r, es, kk, p, h => by
    unfold chkT at h
    split at h
    · rename_i x xs _ _ e
      cases e
      rw [Bool.and_eq_true] at h
      obtain ⟨q, l, f⟩ := pgsT c r (es := xs) (kk := kk) (p := p) h.2
      unfold gTs tlen
      refine ⟨pgs_cons (pgT c t h.1) q ?_, ?_, ?_⟩
      · rw [tg_form h.1]
        rfl
      · rw [tg_form h.1, List.length_cons, l]
      · rw [tg_form h.1, List.findIdx?_cons, f]
        rfl
    · cases h
end
/-- what a target leaves -/
def Keep (t : Tg) (σ σ' : L2.St) : Prop := σ'.length = σ.length ∧ ∀ j, j ∉ tgIx t → σ'[j]? = σ[j]?
theorem Keep.rfl' {t : Tg} {σ : L2.St} : Keep t σ σ := ⟨rfl, fun _ _ => rfl⟩
theorem setTg_nil {v : Val} {a a' : Sl} (h : setTg .nil v a = some a') : v = .tup [] ∧ a' = a := by
  unfold setTg at h
  split at h
  · rename_i e
    cases e
  · cases h
    exact ⟨rfl, rfl⟩
  · rename_i e
    cases e
  · cases h
theorem setTg_cons {t r : Tg} {v : Val} {a a' : Sl} (h : setTg (.cons t r) v a = some a') : ∃ x xs b, v = .tup (x :: xs) ∧ setTg t x a = some b ∧ setTg r (.tup xs) b = some a' := by
  unfold setTg at h
  split at h
  · rename_i e
    cases e
  · rename_i e
    cases e
  · rename_i e
    cases e
    obtain ⟨b, e1, e2⟩ := bind_some h
    exact ⟨_, _, b, rfl, e1, e2⟩
  · cases h
mutual
theorem gT_ok {W : Wd} {h : VH} {H : Hp} (S : Sim g W h H) : ∀ (t : Tg) {e : Expr} {v : Val} {w : V} {a a' : Sl} {σ : L2.St} {Q : L2.St → Hp → Prop}, chkT s nm t e = true → setTg t v a = some a' → Rep g W v w → Slo g W a σ →
    (∀ σ', Slo g W a' σ' → Keep t σ σ' → Q σ' H) → gT g.K t w σ H Q
  | .nm i, e, v, w, a, a', σ, Q, hc, hs, r, sl, q => by
    unfold setTg at hs
    cases hs
    unfold gT
    refine q _ (sl.set r) ⟨List.length_set, fun j hj => ?_⟩
    rw [List.getElem?_set_ne]
    intro z
    exact hj (by rw [← z]; exact List.mem_singleton.mpr rfl)
  | .nil, e, v, w, a, a', σ, Q, hc, hs, r, sl, q => by
    obtain ⟨rfl, rfl⟩ := setTg_nil hs
    cases r with
    | tup t rr =>
      cases rr
      unfold gT
      exact ⟨_, [], rfl, S.sqT t, rfl, rfl, q _ sl .rfl'⟩
  | .cons t r, e, v, w, a, a', σ, Q, hc, hs, rv, sl, q => by
    obtain ⟨x, xs, b, rfl, hs1, hs2⟩ := setTg_cons hs
    cases rv with
    | tup tt rr =>
      cases rr with
      | @cons _ y _ ys r1 r2 =>
        unfold chkT at hc
        split at hc
        · rename_i ex exs kk p
          rw [Bool.and_eq_true] at hc
          unfold gT
          refine ⟨_, y :: ys, rfl, S.sqT tt, ?_, y, ys, rfl, gT_ok S t hc.1 hs1 r1 sl fun σ1 s1 k1 => ?_⟩
          · rw [List.length_cons, ← r2.length, setTg_len r hc.2 hs2]
          · refine gTs_ok S r hc.2 hs2 r2 s1 fun σ2 s2 k2 => q σ2 s2 ⟨k2.1.trans k1.1, fun j hj => ?_⟩
            have hj' : j ∉ tgIx t ++ tgIx r := hj
            rw [List.mem_append, not_or] at hj'
            exact (k2.2 j hj'.2).trans (k1.2 j hj'.1)
        · cases hc
theorem gTs_ok {W : Wd} {h : VH} {H : Hp} (S : Sim g W h H) : ∀ (t : Tg) {es : List Expr} {kk : Nat} {p : Pos} {v : List Val} {w : List V} {a a' : Sl} {σ : L2.St} {Q : L2.St → Hp → Prop}, chkT s nm t (.Tuple es kk p) = true → setTg t (.tup v) a = some a' → Reps g W v w → Slo g W a σ →
    (∀ σ', Slo g W a' σ' → Keep t σ σ' → Q σ' H) → gTs g.K t w σ H Q
  | .nm i, es, kk, p, v, w, a, a', σ, Q, hc, hs, r, sl, q => by
    unfold chkT at hc
    cases hc
  | .nil, es, kk, p, v, w, a, a', σ, Q, hc, hs, r, sl, q => by
    obtain ⟨e1, rfl⟩ := setTg_nil hs
    cases e1
    cases r
    unfold gTs
    exact ⟨rfl, q _ sl .rfl'⟩
  | .cons t r, es, kk, p, v, w, a, a', σ, Q, hc, hs, rv, sl, q => by
    obtain ⟨x, xs, b, e1, hs1, hs2⟩ := setTg_cons hs
    cases e1
    cases rv with
    | @cons _ y _ ys r1 r2 =>
      unfold chkT at hc
      split at hc
      · rename_i ex exs kk p e0
        cases e0
        rw [Bool.and_eq_true] at hc
        unfold gTs
        refine ⟨y, ys, rfl, gT_ok S t hc.1 hs1 r1 sl fun σ1 s1 k1 => ?_⟩
        refine gTs_ok S r hc.2 hs2 r2 s1 fun σ2 s2 k2 => q σ2 s2 ⟨k2.1.trans k1.1, fun j hj => ?_⟩
        have hj' : j ∉ tgIx t ++ tgIx r := hj
        rw [List.mem_append, not_or] at hj'
        exact (k2.2 j hj'.2).trans (k1.2 j hj'.1)
      · cases hc
theorem setTg_len : ∀ (r : Tg) {es : List Expr} {kk : Nat} {p : Pos} {xs : List Val} {a a' : Sl}, chkT s nm r (.Tuple es kk p) = true → setTg r (.tup xs) a = some a' → xs.length = tlen r
  | .nm i, _, _, _, _, _, _, h, _ => by
    unfold chkT at h
    cases h
  | .nil, es, kk, p, xs, a, a', hc, h => by
    obtain ⟨e, _⟩ := setTg_nil h
    cases e
    rfl
  | .cons t r, es, kk, p, xs, a, a', hc, h => by
    obtain ⟨y, ys, b, e, h1, h2⟩ := setTg_cons h
    cases e
    unfold chkT at hc
    split at hc
    · rename_i e0
      cases e0
      rw [Bool.and_eq_true] at hc
      unfold tlen
      rw [List.length_cons]
      exact congrArg (· + 1) (setTg_len r hc.2 h2)
    · cases hc
end
/-- the slots of a block are forgotten again -/
theorem wipe_at (σ : L2.St) : ∀ (vs : List Nat) (j : Nat), (L2.wipe σ vs)[j]? = if j ∈ vs ∧ j < σ.length then some none else σ[j]?
  | [], j => by
    unfold L2.wipe
    simp
  | v :: vs, j => by
    unfold L2.wipe
    have ih := wipe_at σ vs j
    have l := L2.wipe_length σ vs
    by_cases e : v = j
    · subst e
      by_cases h : v < σ.length
      · rw [List.getElem?_set_self (by rw [l]; exact h), if_pos ⟨List.mem_cons_self, h⟩]
      · rw [if_neg (fun z => h z.2), List.getElem?_eq_none (by rw [List.length_set, l]; omega), List.getElem?_eq_none (by omega)]
    · rw [List.getElem?_set_ne e, ih]
      have : (j ∈ v :: vs ∧ j < σ.length) ↔ (j ∈ vs ∧ j < σ.length) := by
        rw [List.mem_cons]
        constructor
        · rintro ⟨a | a, b⟩
          · exact absurd a.symm e
          · exact ⟨a, b⟩
        · rintro ⟨a, b⟩
          exact ⟨.inr a, b⟩
      simp only [this]
theorem wipe_keep {t : Tg} {σ σ' : L2.St} {vs : List Nat} (h : Keep t (L2.wipe σ vs) σ') (hv : ∀ i ∈ tgIx t, i ∈ vs) : L2.wipe σ' vs = L2.wipe σ vs := by
  have l : σ'.length = σ.length := h.1.trans (L2.wipe_length _ _)
  refine List.ext_getElem? fun j => ?_
  rw [wipe_at, wipe_at, l]
  by_cases e : j ∈ vs ∧ j < σ.length
  · rw [if_pos e, if_pos e]
  · rw [if_neg e, if_neg e]
    by_cases m : j ∈ vs
    · have hj : ¬ j < σ.length := fun z => e ⟨m, z⟩
      rw [List.getElem?_eq_none (by omega), List.getElem?_eq_none (by omega)]
    · rw [h.2 j (fun z => m (hv j z)), wipe_at, if_neg e]
end

/-! ### what is walked -/
def Sv.lo : Sv → Nat → Prop
  | .fix xs, i => i ≤ xs.length
  | _, _ => True
/-- an iterator walks these items -/
def RepI (g : Ga) (W : Wd) (sv : Sv) (J : It) : Prop := ∀ (W' : Wd) (h : VH) (H : Hp) (i : Nat), W.le0 W' → Sim g W' h H → sv.lo i → match sv.item h i with
  | none => True
  | some none => J.stop i H
  | some (some v) => J.go i H ∧ ∀ x H', J.yld i H x H' → ∃ W2, W'.le W2 ∧ Sim g W2 h H' ∧ Rep g W2 v x
theorem RepI.mono {g : Ga} {W W' : Wd} {sv : Sv} {J : It} (h : RepI g W sv J) (l : W.le0 W') : RepI g W' sv J := fun W2 hh H i l2 => h W2 hh H i (l.trans l2)
theorem lo_next {sv : Sv} {h : VH} {i : Nat} {v : Val} (l : sv.lo i) (e : sv.item h i = some (some v)) : sv.lo (i + 1) := by
  cases sv with
  | fix xs =>
    have e' : some xs[i]? = some (some v) := e
    have e2 : xs[i]? = some v := Option.some.inj e'
    exact (List.getElem?_eq_some_iff.mp e2).1
  | rng a b c => exact trivial
  | dyn j => exact trivial
section
variable {g : Ga} {W : Wd}
theorem Reps.none' {xs : List Val} {ys : List V} (r : Reps g W xs ys) {i : Nat} (e : xs[i]? = none) : ys.length ≤ i := by
  rw [← r.length]
  exact List.getElem?_eq_none_iff.mp e
theorem repI_list {K : PySem.W.Frag} (hK : K = g.K) {a : Addr} {xs : List Val} {ys : List V} (t : SqL g.K W.G a ys) (r : Reps g W xs ys) : RepI g W (.fix xs) (Itl K a) := by
  subst hK
  intro W' h H i l S lo
  have hq : SqL g.K H a ys := sqL_mono (fun p o e => S.sub p o (l.g p o e)) t
  show match some xs[i]? with
    | none => True
    | some none => _
    | some (some v) => _
  cases e : xs[i]? with
  | none => exact ⟨ys, hq, r.none' e⟩
  | some v =>
    obtain ⟨y, ey, ry⟩ := r.get e
    refine ⟨⟨ys, y, hq, ey⟩, fun x H' ⟨e1, e2⟩ => ?_⟩
    subst e1
    have := e2 ys hq
    rw [ey] at this
    cases this
    exact ⟨W', .rfl', S, ry.mono0 l⟩
theorem repI_tup {K : PySem.W.Frag} (hK : K = g.K) {a : Addr} {xs : List Val} {ys : List V} (t : SqT g.K W.G a ys) (r : Reps g W xs ys) : RepI g W (.fix xs) (Itt K a) := by
  subst hK
  intro W' h H i l S lo
  have hq : SqT g.K H a ys := sqT_mono (fun p o e => S.sub p o (l.g p o e)) t
  show match some xs[i]? with
    | none => True
    | some none => _
    | some (some v) => _
  cases e : xs[i]? with
  | none => exact ⟨ys, hq, r.none' e⟩
  | some v =>
    obtain ⟨y, ey, ry⟩ := r.get e
    refine ⟨⟨ys, y, hq, ey⟩, fun x H' ⟨e1, e2⟩ => ?_⟩
    subst e1
    have := e2 ys hq
    rw [ey] at this
    cases this
    exact ⟨W', .rfl', S, ry.mono0 l⟩
theorem repI_dyn {K : PySem.W.Frag} (hK : K = g.K) {a : Addr} {j : Nat} (m : W.m j = some a) : RepI g W (.dyn j) (Itl K a) := by
  subst hK
  intro W' h H i l S lo
  show match (match h.get j with
    | some (.lst xs) => some xs[i]?
    | _ => none) with
    | none => True
    | some none => _
    | some (some v) => _
  cases q : h.get j with
  | none => exact trivial
  | some o =>
    obtain ⟨a', u, m', n, np, hh, ro⟩ := S.ob j o q
    have e := l.m _ _ m
    rw [m'] at e
    cases e
    cases ro with
    | ins _ r => exact trivial
    | dK r => exact trivial
    | pen r => exact trivial
    | @lst xs ys r =>
      show match some xs[i]? with
        | none => True
        | some none => _
        | some (some v) => _
      cases e : xs[i]? with
      | none => exact ⟨ys, .of hh, r.none' e⟩
      | some v =>
        obtain ⟨y, ey, ry⟩ := r.get e
        refine ⟨⟨ys, y, .of hh, ey⟩, fun x H' ⟨e1, e2⟩ => ?_⟩
        subst e1
        have := e2 ys (.of hh)
        rw [ey] at this
        cases this
        exact ⟨W', .rfl', S, ry⟩
theorem repI_rngU {lo : Int} {n : Nat} : RepI g W (.rng lo 1 n) (Itr lo n) := by
  intro W' h H i l S _
  show match some (if i < n then some (Val.int (lo + (i : Nat) * 1)) else none) with
    | none => True
    | some none => _
    | some (some v) => _
  by_cases e : i < n
  · rw [if_pos e]
    refine ⟨e, fun x H' ⟨e1, e2⟩ => ?_⟩
    subst e1 e2
    refine ⟨W', .rfl', S, ?_⟩
    rw [Int.mul_one]
    exact .int _
  · rw [if_neg e]
    exact Nat.le_of_not_lt e
theorem repI_rngC {lo c : Int} {n : Nat} : RepI g W (.rng lo c n) (Itc lo c n) := by
  intro W' h H i l S _
  show match some (if i < n then some (Val.int (lo + (i : Nat) * c)) else none) with
    | none => True
    | some none => _
    | some (some v) => _
  by_cases e : i < n
  · rw [if_pos e]
    refine ⟨e, fun x H' ⟨e1, e2⟩ => ?_⟩
    subst e1 e2
    exact ⟨W', .rfl', S, .int _⟩
  · rw [if_neg e]
    exact Nat.le_of_not_lt e
/-- a sequence that can't change -/
theorem fseq_at {x : Val} {w : V} {xs : List Val} (r : Rep g W x w) (e : fseq x = some xs) : ∃ a ys b, w = .ref a ∧ SqA g.K W.G a ys b ∧ Reps g W xs ys := by
  cases r with
  | tup t r => cases e; exact ⟨_, _, true, rfl, .tup t, r⟩
  | lst t r => cases e; exact ⟨_, _, false, rfl, .lst (.of t), r⟩
  | scr t => cases e; exact ⟨_, _, false, rfl, .lst t, Reps.of_ints _⟩
  | non => cases e
  | bl b => cases e
  | int i => cases e
  | str s => cases e
  | obj _ t r => cases e
  | pen t => cases e
  | ref m => cases e
theorem SqA.mono {K : PySem.W.Frag} {G G' : Hp} {a : Addr} {xs : List V} {b : Bool} (h : SqA K G a xs b) (e : ∀ p o, G p = some o → G' p = some o) : SqA K G' a xs b := by
  cases h with
  | lst q => exact .lst (sqL_mono e q)
  | tup q => exact .tup (sqT_mono e q)
theorem zip2_at : ∀ (xs ys : List Val) (i : Nat), (zip2 xs ys)[i]? = match xs[i]?, ys[i]? with
    | some x, some y => some (.tup [x, y])
    | _, _ => none
  | [], _, i => by
    unfold zip2
    simp
  | x :: xs, [], i => by
    unfold zip2
    simp
  | x :: xs, y :: ys, 0 => by
    unfold zip2
    simp
  | x :: xs, y :: ys, i + 1 => by
    unfold zip2
    have := zip2_at xs ys i
    simpa using this
theorem zip3_at : ∀ (xs ys zs : List Val) (i : Nat), (zip3 xs ys zs)[i]? = match xs[i]?, ys[i]?, zs[i]? with
    | some x, some y, some z => some (.tup [x, y, z])
    | _, _, _ => none
  | [], _, _, i => by
    unfold zip3
    simp
  | x :: xs, [], _, i => by
    unfold zip3
    simp
  | x :: xs, y :: ys, [], i => by
    unfold zip3
    simp
  | x :: xs, y :: ys, z :: zs, 0 => by
    unfold zip3
    simp
  | x :: xs, y :: ys, z :: zs, i + 1 => by
    unfold zip3
    have := zip3_at xs ys zs i
    simpa using this
theorem enum_at : ∀ (k : Nat) (xs : List Val) (i : Nat), (enumL k xs)[i]? = match xs[i]? with
    | some x => some (.tup [.int ((k + i : Nat) : Int), x])
    | none => none
  | k, [], i => by
    unfold enumL
    simp
  | k, x :: xs, 0 => by
    unfold enumL
    simp
  | k, x :: xs, i + 1 => by
    unfold enumL
    have := enum_at (k + 1) xs i
    have e : k + 1 + i = k + (i + 1) := by omega
    rw [e] at this
    simpa using this
theorem zip2_len (xs ys : List Val) : (zip2 xs ys).length = min xs.length ys.length := by
  induction xs generalizing ys with
  | nil => unfold zip2; simp
  | cons x xs ih =>
    cases ys with
    | nil => unfold zip2; simp
    | cons y ys =>
      unfold zip2
      rw [List.length_cons, ih, List.length_cons, List.length_cons]
      omega
theorem zip3_len (xs ys zs : List Val) : (zip3 xs ys zs).length = min (min xs.length ys.length) zs.length := by
  induction xs generalizing ys zs with
  | nil => unfold zip3; simp
  | cons x xs ih =>
    cases ys with
    | nil => unfold zip3; simp
    | cons y ys =>
      cases zs with
      | nil => unfold zip3; simp
      | cons z zs =>
        unfold zip3
        rw [List.length_cons, ih, List.length_cons, List.length_cons, List.length_cons]
        omega
theorem enum_len (k : Nat) (xs : List Val) : (enumL k xs).length = xs.length := by
  induction xs generalizing k with
  | nil => rfl
  | cons x xs ih =>
    unfold enumL
    rw [List.length_cons, ih, List.length_cons]
/-- a new tuple at each turn -/
theorem repI_new {n : Nat} {G : Hp → Prop} {L : Nat → List V} {xs : List Val} (hn : xs.length = n) (hG : ∀ (W' : Wd) (h : VH) (H : Hp), W.le0 W' → Sim g W' h H → G H)
    (hx : ∀ i v, xs[i]? = some v → ∃ ys, v = .tup ys ∧ Reps g W ys (L i)) : RepI g W (.fix xs) (ItN n G L) := by
  intro W' h H i l S lo
  have lo' : i ≤ xs.length := lo
  show match some xs[i]? with
    | none => True
    | some none => _
    | some (some v) => _
  cases e : xs[i]? with
  | none => exact ⟨by have := List.getElem?_eq_none_iff.mp e; omega, hG W' h H l S⟩
  | some v =>
    refine ⟨⟨by have := (List.getElem?_eq_some_iff.mp e).1; omega, hG W' h H l S⟩, fun x H' ⟨T, e1, e2, e3⟩ => ?_⟩
    subst e1 e3
    obtain ⟨ys, rfl, r⟩ := hx i v e
    have l2 := Wd.put_le (o := .tup (L i)) (S.free e2)
    exact ⟨_, l2, S.put e2, .tup (.of upd_same) (r.mono0 (l.trans l2.tole0))⟩
theorem repI_zip2 {K : PySem.W.Frag} (hK : K = g.K) {a1 a2 : Addr} {xs ys : List Val} {us vs : List V} {b1 b2 : Bool} (h1 : SqA g.K W.G a1 us b1) (h2 : SqA g.K W.G a2 vs b2) (r1 : Reps g W xs us) (r2 : Reps g W ys vs) :
    RepI g W (.fix (zip2 xs ys)) (ItN (min us.length vs.length) (Zip2G K a1 a2 us vs b1 b2) (rowAt [us, vs])) := by
  subst hK
  refine repI_new (by rw [zip2_len, r1.length, r2.length]) (fun W' h H l S => ⟨h1.mono fun p o e => S.sub p o (l.g p o e), h2.mono fun p o e => S.sub p o (l.g p o e)⟩) fun i v e => ?_
  rw [zip2_at] at e
  split at e
  · rename_i x y ex ey
    cases e
    obtain ⟨u, eu, ru⟩ := r1.get ex
    obtain ⟨w, ew, rw'⟩ := r2.get ey
    refine ⟨_, rfl, ?_⟩
    rw [row2 eu ew]
    exact .cons ru (.cons rw' .nil)
  · cases e
theorem repI_zip3 {K : PySem.W.Frag} (hK : K = g.K) {a1 a2 a3 : Addr} {xs ys zs : List Val} {us vs ws : List V} {b1 b2 b3 : Bool} (h1 : SqA g.K W.G a1 us b1) (h2 : SqA g.K W.G a2 vs b2) (h3 : SqA g.K W.G a3 ws b3) (r1 : Reps g W xs us) (r2 : Reps g W ys vs) (r3 : Reps g W zs ws) :
    RepI g W (.fix (zip3 xs ys zs)) (ItN (min (min us.length vs.length) ws.length) (Zip3G K a1 a2 a3 us vs ws b1 b2 b3) (rowAt [us, vs, ws])) := by
  subst hK
  refine repI_new (by rw [zip3_len, r1.length, r2.length, r3.length]) (fun W' h H l S => ⟨h1.mono fun p o e => S.sub p o (l.g p o e), h2.mono fun p o e => S.sub p o (l.g p o e), h3.mono fun p o e => S.sub p o (l.g p o e)⟩) fun i v e => ?_
  rw [zip3_at] at e
  split at e
  · rename_i x y z ex ey ez
    cases e
    obtain ⟨u, eu, ru⟩ := r1.get ex
    obtain ⟨w, ew, rw'⟩ := r2.get ey
    obtain ⟨q, eq, rq⟩ := r3.get ez
    refine ⟨_, rfl, ?_⟩
    rw [row3 eu ew eq]
    exact .cons ru (.cons rw' (.cons rq .nil))
  · cases e
theorem repI_enum {K : PySem.W.Frag} (hK : K = g.K) {a1 : Addr} {xs : List Val} {us : List V} {b1 : Bool} (h1 : SqA g.K W.G a1 us b1) (r1 : Reps g W xs us) :
    RepI g W (.fix (enumL 0 xs)) (ItN us.length (EnumG K a1 us b1) (rowE us)) := by
  subst hK
  refine repI_new (by rw [enum_len, r1.length]) (fun W' h H l S => h1.mono fun p o e => S.sub p o (l.g p o e)) fun i v e => ?_
  rw [enum_at] at e
  split at e
  · rename_i x ex
    cases e
    obtain ⟨u, eu, ru⟩ := r1.get ex
    refine ⟨_, rfl, ?_⟩
    unfold rowE
    rw [eu, Nat.zero_add]
    exact .cons (.int _) (.cons ru .nil)
  · cases e
end

/-! ### the text's table -/
def spC (g : Ga) (C : Nat → List Val → Mo Val) (n : Nat) : Sp := fun ws H Q _ => ∃ W h vs P, Sim g W h H ∧ Reps g W vs ws ∧ (C n vs h).Good P ∧ ∀ r, P r → Want g W r Q
def plainNs : List String := ["NoneType", "bool", "int", "str", "tuple", "list"]
structure TbOk (g : Ga) (k : Nat) (s : Si) (T : Tb) (C : Nat → List Val → Mo Val) (fa : Nat → Addr) (ar : Nat → Nat) : Prop where
  nc : g.nc = T.cls.length
  ga : GaOk g g.nc s.fld.length
  fldN : ∀ i, i < s.fld.length → s.fld[i]? = some (g.fld i)
  fok : ∀ n, Fok g k (fa n) (ar n) (spC g C n)
  arg : ∀ n vs h P, (C n vs h).Good P → vs.length = ar n
  fokk : ∀ (n : Nat) (y : Str), s.kwn[n]? = some y → y ≠ ("" : Str) → FokK g k (fa n) (ar n) y (spC g C n)
  fns : ∀ (n : Nat) (x : Str), s.fns[n]? = some x → x ≠ "" → g.mg x = some (.ref (fa n)) ∧ PySem.W.keepIn g.K (.ref (fa n)) = true
  cls : ∀ (c : Nat) (x : Str), s.cln[c]? = some x → x ≠ "" → c < T.cls.length ∧ g.mg x = some (.ref (g.cls c)) ∧ PySem.W.keepIn g.K (.ref (g.cls c)) = true
  mak : ∀ c n fz ms eq fl, T.cls[c]? = some ⟨some n, fz, ms, eq, fl⟩ → Mk g.K (g.cls c) (fa n)
  meth : ∀ (c m n : Nat) (x : Str), methOf T c m = some n → s.mth[m]? = some x → Meth g.K (g.cls c) x (fa n) ∧ ∀ i, g.has c i = true → g.fld i ≠ x
  glo : ∀ (n : Nat) (v : Val) (x : Str), T.globs[n]? = some v → s.gl[n]? = some x → ∃ u w, g.mg x = some u ∧ RelV w u ∧ ∀ W, Rep g W v w
  bis : ∀ b ∈ s.bis, (g.mg (biN b) = none ∧ bootBuiltins (biN b) = some (biF b)) ∨ (∃ id, biF b = .builtin id) ∧ g.mg (biN b) = some (biF b)
  hasT : ∀ c f, hasF T c f = true → g.has c f = true
  eqo : ∀ c kk f, T.cls[c]? = some kk → kk.eqf = some f → PySem.W.findIn g.K (.ref (g.cls c)) "__eq__" = some (some (.ref (fa f))) ∧ PySem.W.isFn g.K (.ref (fa f)) = true ∧ PySem.W.findIn g.K (.ref (g.cls c)) "__ne__" = some (some (.builtin "object.__ne__"))
  eqn : ∀ c kk, T.cls[c]? = some kk → kk.eqf = none → PySem.W.findIn g.K (.ref (g.cls c)) "__eq__" = some (some (.builtin "object.__eq__"))
  nfr : ∀ c, c < g.nc → ∀ n ∈ plainNs, PySem.W.notFirst g.K (g.cls c) (.type n) = true
  isi : g.mg "isinstance" = none
  rng : g.mg "range" = none
  zip : g.mg "zip" = none
  enu : g.mg "enumerate" = none
  tys : g.mg "int" = none ∧ g.mg "bool" = none ∧ g.mg "str" = none ∧ g.mg "tuple" = none ∧ g.mg "list" = none ∧ g.mg "dict" = none
end M
end

section
set_option Elab.async false
set_option linter.all false
set_option maxRecDepth 100000
set_option maxHeartbeats 1000000
/-! X3: == and != of two instances of one class: by its own __eq__ (any answer), or by what they are. -/
namespace M
open PySem PySem.Spec PyProof.Rows L2

section
variable {Mo : Model} {prog : Program} {w : World} {A : Around} {E : Value → Shared → Prop} {s : Shared} {K : PySem.W.Frag} {x y C f : Addr} {ox oy : Obj} {od od' : Option Obj}
/-- the slot of object, bound -/
theorem ifBound_ne {args : List Value} {Q : Option Value → Shared → Prop} (inK : K.In s.heap) (I : PySem.W.InstAt s.heap x ox C od) (hs : PySem.W.findIn K (.ref C) "__ne__" = some (some (.builtin "object.__ne__")))
    (h : wpAny Mo A (call (.builtin "object.__ne__") (.ref x :: args)) (fun v => Q (some v)) E s) : wpAny Mo A (callSpecialIfBound? (.ref x) "__ne__" args) Q E s := by
  have done : wpAny Mo A (call (.builtin "object.__ne__") ([.ref x] ++ args) >>= fun v => pure (some v)) Q E s := wpAny_bind (wpAny_mono h (fun v s' q => wpAny_pure q) fun _ _ e => e)
  simp only [callSpecialIfBound?, bindSpecialIfBound?]
  refine wpAny_holding (wpAny_bind (wpAny_bind (wpAny_bind (I.type.here ((PySem.W.looks_findIn inK hs).here (wpAny_bind (wpAny_askSetting (wpAny_ite ?_))))))))
  split
  · exact wpAny_bind (wpAny_of_eq (F.cmp_object.ne.bind _) (wpAny_pure (by exact done)))
  · exact wpAny_tryCatch (wpAny_bind (wpAny_of_eq (F.cmp_object.ne.bind _) (wpAny_pure (by exact done))))
/-- object's != asks the own == -/
theorem ne_entry {b : Value} {Q : Fin → Shared → Prop} (inK : K.In s.heap) (I : PySem.W.InstAt s.heap x ox C od) (hu : A.units < cLine) (hs : PySem.W.findIn K (.ref C) "__eq__" = some (some (.ref f))) (hf : PySem.W.isFn K (.ref f) = true)
    (h : wpAny Mo A (call (.ref f) [.ref x, b]) (fun v s' => ∃ r, v = .bool r ∧ Q (.done (.ret (.bool (!r)))) s') E s) : wpAny Mo A (Builtin.«object.__ne__» ⟨[.ref x, b], []⟩) Q E s := by
  unfold Builtin.«object.__ne__»
  have step : wpAny Mo A (callSpecialIfBound? (.ref x) "__eq__" [b]) (fun v s' => ∃ r, v = some (.bool r) ∧ Q (.done (.ret (.bool (!r)))) s') E s :=
    PySem.W.ifBound_K inK I hs hf (wpAny_mono h (fun v s' ⟨r, e, q⟩ => ⟨r, by rw [e], q⟩) fun _ _ e => e)
  repeat (first
    | with_reducible refine wpAny_cRoomFor hu ?_
    | (refine wpAny_bind (m := callSpecialIfBound? (.ref x) (Str.ofString "__eq__") [b]) (wpAny_mono step (fun v s' hv => ?_) fun _ _ e => e); obtain ⟨r, rfl, hv⟩ := hv)
    | (refine wpAny_bind (m := truthy (.bool _)) (wpAny_truthy_bool ?_))
    | exact hv
    | exact wpAny_pure hv
    | wp_step)
theorem call_ne {b : Value} {Q : Value → Shared → Prop} (inK : K.In s.heap) (I : PySem.W.InstAt s.heap x ox C od) (hm : PySem.W.mroIn K C (.type "object") = some true) (hu : A.in1.units < cLine) (hs : PySem.W.findIn K (.ref C) "__eq__" = some (some (.ref f))) (hf : PySem.W.isFn K (.ref f) = true)
    (h : wpAny (model prog w) A.in1 (call (.ref f) [.ref x, b]) (fun v s' => ∃ r, v = .bool r ∧ Q (.bool (!r)) s') E s) : wpAny (model prog w) A (call (.builtin "object.__ne__") [.ref x, b]) Q E s :=
  wpAny_call (codeAny_call_builtin F.cmp_object.ne.plain F.cmpEntry_ne (PySem.W.check_slot F.cmpKind_ne F.cmpSplit_ne (I.type.andThen (PySem.W.looks_mroIn inK hm)) (F.cmpArgs_ne _ _) (ne_entry inK I hu hs hf h)))
/-- x != y, both of one class -/
theorem rc_neOwn {Q : Value → Shared → Prop} (inK : K.In s.heap) (I : PySem.W.InstAt s.heap x ox C od) (J : PySem.W.InstAt s.heap y oy C od') (hm : PySem.W.mroIn K C (.type "object") = some true) (hu : A.units + 1 < cLine)
    (hn : PySem.W.findIn K (.ref C) "__ne__" = some (some (.builtin "object.__ne__"))) (hs : PySem.W.findIn K (.ref C) "__eq__" = some (some (.ref f))) (hf : PySem.W.isFn K (.ref f) = true)
    (h : wpAny (model prog w) A.in1 (call (.ref f) [.ref x, .ref y]) (fun v s' => ∃ r, v = .bool r ∧ Q (.bool (!r)) s') E s) : wpAny (model prog w) A (richCompare .NotEq (.ref x) (.ref y)) Q E s := by
  have one : wpAny (model prog w) A (tryCompare (.ref x) "__ne__" (.ref y)) (fun r s' => ∃ v, r = some (.bool v) ∧ Q (.bool v) s') E s := by
    unfold tryCompare
    refine wpAny_bind (ifBound_ne inK I hn (call_ne inK I hm hu hs hf (wpAny_mono h (fun v s' ⟨r, e, q⟩ => ⟨r, e, wpAny_pure ⟨_, rfl, q⟩⟩) fun _ _ e => e)))
  unfold richCompare
  simp only [oneThing_ref]
  refine wpAny_holding (wpAny_bind (wpAny_cRoomFor (Nat.lt_of_succ_lt hu) ?_))
  refine wpAny_bind (I.type.here (wpAny_bind (J.type.here ?_)))
  rw [show (Value.ref C != Value.ref C) = false from by simp]
  simp only [Bool.false_eq_true, if_false]
  refine wpAny_bind (wpAny_pure ?_)
  simp only [Bool.false_eq_true, if_false]
  refine wpAny_bind (wpAny_mono one (fun r s' z => ?_) fun _ _ e => e)
  obtain ⟨v, rfl, q⟩ := z
  exact wpAny_pure q
/-! ### by what they are -/
theorem call_eqSame {Q : Value → Shared → Prop} (inK : K.In s.heap) (I : PySem.W.InstAt s.heap x ox C od) (hm : PySem.W.mroIn K C (.type "object") = some true) (q : Q (.bool true) s) : wpAny (model prog w) A (call (.builtin "object.__eq__") [.ref x, .ref x]) Q E s :=
  wpAny_call (codeAny_call_builtin F.cmp_object.eq.plain F.cmpEntry_eq (PySem.W.check_slot F.cmpKind_eq F.cmpSplit_eq (I.type.andThen (PySem.W.looks_mroIn inK hm)) (F.cmpArgs_eq _ _) (objEq_entry_same q)))
theorem call_eqOther {Q : Value → Shared → Prop} (inK : K.In s.heap) (I : PySem.W.InstAt s.heap x ox C od) (hm : PySem.W.mroIn K C (.type "object") = some true) (hx : s.heap.get? x = some ox) (hc : ox.cls = .ref C) (hy : s.heap.get? y = some oy) (hxy : x ≠ y) (q : Q .notImplemented s) : wpAny (model prog w) A (call (.builtin "object.__eq__") [.ref x, .ref y]) Q E s :=
  wpAny_call (codeAny_call_builtin F.cmp_object.eq.plain F.cmpEntry_eq (PySem.W.check_slot F.cmpKind_eq F.cmpSplit_eq (I.type.andThen (PySem.W.looks_mroIn inK hm)) (F.cmpArgs_eq _ _) (objEq_entry_other hxy hx hy (by rw [hc]; intro e; cases e) q)))
theorem rc_eqSame {Q : Value → Shared → Prop} (inK : K.In s.heap) (I : PySem.W.InstAt s.heap x ox C od) (hm : PySem.W.mroIn K C (.type "object") = some true) (hu : A.units < cLine) (hs : PySem.W.findIn K (.ref C) "__eq__" = some (some (.builtin "object.__eq__"))) (q : Q (.bool true) s) :
    wpAny (model prog w) A (richCompare .Eq (.ref x) (.ref x)) Q E s := by
  have one : wpAny (model prog w) A (tryCompare (.ref x) "__eq__" (.ref x)) (fun r s' => r = some (.bool true) ∧ Q (.bool true) s') E s := by
    unfold tryCompare
    exact wpAny_bind (HN.ifBound_objEq inK I hs (call_eqSame inK I hm (wpAny_pure ⟨rfl, q⟩)))
  unfold richCompare
  simp only [oneThing_ref]
  refine wpAny_holding (wpAny_bind (wpAny_cRoomFor hu ?_))
  refine wpAny_bind (I.type.here (wpAny_bind (I.type.here ?_)))
  rw [show (Value.ref C != Value.ref C) = false from by simp]
  simp only [Bool.false_eq_true, if_false]
  refine wpAny_bind (wpAny_pure ?_)
  simp only [Bool.false_eq_true, if_false]
  refine wpAny_bind (wpAny_mono one (fun r s' z => ?_) fun _ _ e => e)
  obtain ⟨rfl, q⟩ := z
  exact wpAny_pure q
theorem rc_eqOther {Q : Value → Shared → Prop} (inK : K.In s.heap) (I : PySem.W.InstAt s.heap x ox C od) (J : PySem.W.InstAt s.heap y oy C od') (hm : PySem.W.mroIn K C (.type "object") = some true) (hu : A.units < cLine) (hs : PySem.W.findIn K (.ref C) "__eq__" = some (some (.builtin "object.__eq__")))
    (hx : s.heap.get? x = some ox) (hc : ox.cls = .ref C) (hy : s.heap.get? y = some oy) (hcy : oy.cls = .ref C) (hxy : x ≠ y) (q : Q (.bool false) s) :
    wpAny (model prog w) A (richCompare .Eq (.ref x) (.ref y)) Q E s := by
  have one : wpAny (model prog w) A (tryCompare (.ref x) "__eq__" (.ref y)) (fun r s' => r = none ∧ s' = s) E s := by
    unfold tryCompare
    exact wpAny_bind (HN.ifBound_objEq inK I hs (call_eqOther inK I hm hx hc hy hxy (wpAny_pure ⟨rfl, rfl⟩)))
  have two : wpAny (model prog w) A (tryCompare (.ref y) "__eq__" (.ref x)) (fun r s' => r = none ∧ s' = s) E s := by
    unfold tryCompare
    exact wpAny_bind (HN.ifBound_objEq inK J hs (call_eqOther inK J hm hy hcy hx (Ne.symm hxy) (wpAny_pure ⟨rfl, rfl⟩)))
  simp only [richCompare, cmpInfo_Eq, oneThing_ref]
  refine wpAny_holding (wpAny_bind (wpAny_cRoomFor hu ?_))
  refine wpAny_bind (I.type.here (wpAny_bind (J.type.here ?_)))
  rw [show (Value.ref C != Value.ref C) = false from by simp]
  simp only [Bool.false_eq_true, if_false]
  refine wpAny_bind (wpAny_pure ?_)
  simp only [Bool.false_eq_true, if_false, Bool.not_false, if_true]
  refine wpAny_bind (m := tryCompare (.ref x) _ (.ref y)) (wpAny_mono one (fun r s1 z => ?_) fun _ _ e => e)
  obtain ⟨rfl, rfl⟩ := z
  refine wpAny_bind (m := tryCompare (.ref y) _ (.ref x)) (wpAny_mono two (fun r s2 z => ?_) fun _ _ e => e)
  obtain ⟨rfl, rfl⟩ := z
  refine wpAny_bind (wpAny_rule (wpAny_bind (wpAny_isSame_ref_other hxy hx hy (by rw [hc]; intro e; cases e) (wpAny_pure q))))
end
end M
end

section
set_option Elab.async false
set_option linter.all false
set_option maxRecDepth 100000
set_option maxHeartbeats 1000000
/-! X4: objects compared. -/
namespace M
open PySem PySem.Spec PyProof.Rows L2

section
variable {g : Ga} {k : Nat} {s : Si} {nm : Nms} {X : Cx} {pins : List (Addr × Obj)} {σ : L2.St} {H : Hp} {sh : Shared} {Q : VK}
theorem CxOk.up (c : CxOk g k s nm X) : X.A.units + 1 < cLine := by
  have := c.units
  omega
/-- one frame of C further in -/
theorem call_fok1 (c : CxOk g (k + 1) s nm X) {f : Addr} {np : Nat} {sp : Sp} {us : List Value} {vs : List V} (F : Fok g k f np sp) (I : Inv X pins σ H sh) (hl : us.length = np) (r : Vals vs us) (h : sp vs H Q E0) :
    wpAny (model X.prog X.w) X.A.in1 (call (.ref f) us) (EP X pins σ Q) X.xe sh := by
  have z := F X.A.in1 X.stack sh H us vs Q c.room.in1 c.gd (c.env0 I).in1 hl r h
  rw [← c.prog, ← c.w] at z
  refine wpAny_call (codeAny_mono z fun r' s' hq => ?_)
  cases r' with
  | error e => exact False.elim hq
  | ok fl =>
    cases fl with
    | ret u => exact I.after hq
    | next => exact False.elim hq
    | brk => exact False.elim hq
    | cont => exact False.elim hq
end
theorem clsOf_at' {g : Ga} {W : Wd} {h : VH} {H : Hp} (S : Sim g W h H) {x : Val} {w : V} {c : Nat} (r : Rep g W x w) (e : clsOf h x = some c) : c < g.nc ∧ ∃ a dx gs, w = .ref a ∧ H a = some (.ins (g.cls c) dx gs) := by
  unfold clsOf at e
  split at e
  · cases e
    cases r with
    | obj lt t rr => exact ⟨lt.1, _, _, _, rfl, S.sub _ _ t⟩
  · rename_i i
    cases r with
    | ref m =>
      split at e
      · rename_i cc fs hg
        cases e
        obtain ⟨a, u, m', n, np, hh, ro⟩ := S.ob _ _ hg
        rw [m] at m'
        cases m'
        cases ro with
        | ins lt rr => exact ⟨lt.1, _, _, _, rfl, hh⟩
      · cases e
  · cases e
/-- the type of a plain value -/
theorem plain_type {g : Ga} {W : Wd} {h : VH} {H : Hp} {X : Cx} {pins : List (Addr × Obj)} {σ : L2.St} {sh : Shared} (K : X.K = g.K) (S : Sim g W h H) (I : Inv X pins σ H sh) {y : Val} {w : V} {u : Value} (r : Rep g W y w) (hp : plainV y = true) (ru : L2.RelV w u) :
    ∃ n ∈ plainNs, PySem.W.Looks (model X.prog X.w) sh.heap (typeOf u) (.type n) := by
  cases r with
  | non =>
    obtain rfl : u = Value.none := ru
    exact ⟨"NoneType", by decide, .of_pure rfl⟩
  | bl b =>
    obtain rfl : u = Value.bool b := ru
    exact ⟨"bool", by decide, .of_pure rfl⟩
  | int b =>
    obtain ⟨t, rfl⟩ := ru
    exact ⟨"int", by decide, .of_pure rfl⟩
  | str b =>
    obtain ⟨t, rfl⟩ := ru
    exact ⟨"str", by decide, .of_pure rfl⟩
  | tup t rr =>
    obtain rfl : u = Value.ref _ := ru
    have t' := S.sqT t
    rw [← K] at t'
    obtain ⟨its, r2, ⟨o, e, ec, _⟩, _⟩ := I.tuple t'
    refine ⟨"tuple", by decide, ?_⟩
    rw [← ec]
    exact (PySem.W.Looks.ld e).andThen .now
  | lst t rr =>
    obtain rfl : u = Value.ref _ := ru
    obtain ⟨its, r2, ⟨o, n, e, ec, _⟩, _⟩ := I.list (.inl (.inl (S.sub _ _ t)))
    refine ⟨"list", by decide, ?_⟩
    rw [← ec]
    exact (PySem.W.Looks.ld e).andThen .now
  | obj _ _ _ => cases hp
  | ref _ => cases hp
  | pen _ => cases hp
  | scr _ => cases hp
section
variable {g : Ga} {k : Nat} {s : Si} {T : Tb} {C : Nat → List Val → Mo Val} {fa : Nat → Addr} {ar : Nat → Nat} {nm : Nms} {X : Cx} {W : Wd} {h : VH} {H : Hp} {P : Bool × VH → Prop} {Q : VK}
theorem cmpO_ok (tb : TbOk g k s T C fa ar) (c : CxOk g (k + 1) s nm X) (S : Sim g W h H) {ne : Bool} {x y : Val} {x' y' : V} (rx : Rep g W x x') (ry : Rep g W y y') (hg : (cmpO T C ne x y h).Good P)
    (q : ∀ r, P r → ∀ W' H', W.le W' → Sim g W' r.2 H' → Q (.bl r.1) H') : opq X (compareOp (if ne then .NotEq else .Eq)) x' y' H Q := by
  unfold cmpO at hg
  cases e1 : clsOf h x with
  | none =>
    rw [e1] at hg
    dsimp only at hg
    cases e2 : eqH h x y with
    | none =>
      rw [e2] at hg
      exact hg.elim
    | some b =>
      rw [e2] at hg
      have z := eqH_ok c.K (by have := c.units; omega) S rx ry e2
      have hw := q _ hg W H Wd.le.rfl' S
      cases ne with
      | false => exact z.1 Q hw
      | true => exact z.2 Q hw
  | some cc =>
    rw [e1] at hg
    dsimp only at hg
    obtain ⟨lt, a, dx, gs, rfl, ha⟩ := clsOf_at' S rx e1
    cases e2 : T.cls[cc]? with
    | none =>
      rw [e2] at hg
      exact hg.elim
    | some kk =>
      rw [e2] at hg
      dsimp only at hg
      have mro := tb.ga.mro cc lt
      cases e3 : kk.eqf with
      | some f =>
        rw [e3] at hg
        dsimp only at hg
        obtain ⟨f1, f2, f3⟩ := tb.eqo cc kk f e2 e3
        split at hg
        · rename_i hy
          have hg' := M.T.good_bind.mp hg
          have hl := tb.arg _ _ _ _ hg'
          have spc : ∀ Q2 : VK, (∀ r : Val × VH, ((match r.1 with | .bl b => M.T.ret (if ne then !b else b, r.2) | _ => .stuck : M.T (Bool × VH)).Good P) → Want g W r Q2) → spC g C f [.ref a, y'] H Q2 E0 := fun Q2 hw =>
            ⟨W, h, [x, y], _, S, .cons rx (.cons ry .nil), hg', hw⟩
          refine ⟨fun u v H1 Q1 => u = .ref a ∧ v = y' ∧ H1 = H ∧ Q1 = Q, fun pins sh σ H1 u v u' v' Q1 I ru rv hh => ?_, rfl, rfl, rfl, rfl⟩
          obtain ⟨rfl, rfl, rfl, rfl⟩ := hh
          obtain rfl : u' = Value.ref a := ru
          obtain ⟨mA, J, _⟩ := ins_get I.hok ha
          obtain ⟨od, J, _⟩ := J.look
          obtain ⟨m, hF⟩ := I.fr
          have KX := I.kIn
          rw [c.K] at KX
          have kin := I.ok.mod.kin
          rw [c.K] at kin
          cases ne with
          | false =>
            have hlk : ∃ t, PySem.W.Looks (model X.prog X.w) sh.heap (typeOf v') t ∧ PySem.W.notFirst g.K (g.cls cc) t = true := by
              rcases hy with hy | ⟨_, hy⟩
              · obtain ⟨_, b, dy, gs', rfl, hb⟩ := clsOf_at' S ry hy
                obtain rfl : v' = Value.ref b := rv
                obtain ⟨mB, J', _⟩ := ins_get I.hok hb
                obtain ⟨od', J', _⟩ := J'.look
                exact ⟨_, J'.type, by simp [PySem.W.notFirst]⟩
              · obtain ⟨n, hn, lk⟩ := plain_type c.K S I ry hy rv
                exact ⟨_, lk, tb.nfr cc lt n hn⟩
            obtain ⟨t, lk, nf⟩ := hlk
            refine PySem.W.cmp_K (op := .Eq) (tb := t) (by have := c.up; omega) hF kin J lk nf f1 f2 ?_
            refine wpAny_mono (call_fok (c.mono (Nat.le_succ k)) (tb.fok f) I (by simpa using hl) (.cons (show L2.RelV (.ref a) (.ref a) from rfl) (.cons rv .nil)) (spc (fun v H' => ∃ b, v = .bl b ∧ Q1 (.bl b) H') fun r hr W' w H' l' S' R' => ?_)) (fun u s' hq => ?_) fun _ _ z => z
            · obtain ⟨r1, r2⟩ := r
              cases r1 <;> first | exact hr.elim | skip
              cases R'
              exact ⟨_, rfl, q _ hr W' H' l' S'⟩
            · obtain ⟨z, H', I', rz, b, ez, hq⟩ := hq
              subst ez
              obtain rfl : u = Value.bool b := rz
              exact ⟨V.bl b, H', I', rfl, hq⟩
          | true =>
            rcases hy with hy | ⟨z, _⟩
            · obtain ⟨_, b, dy, gs', rfl, hb⟩ := clsOf_at' S ry hy
              obtain rfl : v' = Value.ref b := rv
              obtain ⟨mB, J', _⟩ := ins_get I.hok hb
              obtain ⟨od', J', _⟩ := J'.look
              refine rc_neOwn KX J J' mro c.up f3 f1 f2 ?_
              refine wpAny_mono (call_fok1 c (tb.fok f) I (by simpa using hl) (.cons (show L2.RelV (.ref a) (.ref a) from rfl) (.cons (show L2.RelV (.ref b) (.ref b) from rfl) .nil)) (spc (fun v H' => ∃ b, v = .bl b ∧ Q1 (.bl (!b)) H') fun r hr W' w H' l' S' R' => ?_)) (fun u s' hq => ?_) fun _ _ z => z
              · obtain ⟨r1, r2⟩ := r
                cases r1 <;> first | exact hr.elim | skip
                cases R'
                exact ⟨_, rfl, q _ hr W' H' l' S'⟩
              · obtain ⟨z, H', I', rz, b, ez, hq⟩ := hq
                subst ez
                obtain rfl : u = Value.bool b := rz
                exact ⟨b, rfl, V.bl (!b), H', I', rfl, hq⟩
            · cases z
        · exact hg.elim
      | none =>
        rw [e3] at hg
        dsimp only at hg
        have f1 := tb.eqn cc kk e2 e3
        split at hg
        · rename_i i j
          split at hg
          · rename_i hy
            obtain ⟨hy, rfl⟩ := hy
            obtain ⟨_, b, dy, gs', rfl, hb⟩ := clsOf_at' S ry hy
            have hij : decide (i = j) = decide (a = b) := by
              cases rx with
              | ref m1 =>
                cases ry with
                | ref m2 =>
                  have hi : (h.get i).isSome := by
                    unfold clsOf at e1
                    dsimp only at e1
                    cases z : h.get i with
                    | none =>
                      rw [z] at e1
                      cases e1
                    | some o => rfl
                  have hj : (h.get j).isSome := by
                    unfold clsOf at hy
                    dsimp only at hy
                    cases z : h.get j with
                    | none =>
                      rw [z] at hy
                      cases hy
                    | some o => rfl
                  by_cases ij : i = j
                  · subst ij
                    rw [m1] at m2
                    cases m2
                    simp
                  · have : a ≠ b := fun z => ij (by
                      subst z
                      exact S.inj i j _ hi hj m1 m2)
                    simp [ij, this]
            rw [hij] at hg
            refine ⟨fun u v H1 Q1 => u = .ref a ∧ v = .ref b ∧ H1 = H ∧ Q1 = Q, fun pins sh σ H1 u v u' v' Q1 I ru rv hh => ?_, rfl, rfl, rfl, rfl⟩
            obtain ⟨rfl, rfl, rfl, rfl⟩ := hh
            obtain rfl : u' = Value.ref a := ru
            obtain rfl : v' = Value.ref b := rv
            have KX := I.kIn
            rw [c.K] at KX
            obtain ⟨mA, J, _⟩ := ins_get I.hok ha
            obtain ⟨ox, J, _⟩ := J.look
            obtain ⟨mB, J', _⟩ := ins_get I.hok hb
            obtain ⟨oy, J', _⟩ := J'.look
            by_cases ab : a = b
            · subst ab
              rw [decide_eq_true rfl] at hg
              exact rc_eqSame KX J mro (by have := c.up; omega) f1 ⟨V.bl true, H1, I, rfl, q _ hg W H1 .rfl' S⟩
            · rw [decide_eq_false ab] at hg
              exact rc_eqOther KX J J' mro (by have := c.up; omega) f1 J.at_ rfl J'.at_ rfl ab ⟨V.bl false, H1, I, rfl, q _ hg W H1 .rfl' S⟩
          · exact hg.elim
        · exact hg.elim
theorem cmpM_ok (tb : TbOk g k s T C fa ar) (c : CxOk g (k + 1) s nm X) (S : Sim g W h H) {op : Cop} {x y : Val} {x' y' : V} (rx : Rep g W x x') (ry : Rep g W y y') (hg : (cmpM T C op x y h).Good P)
    (q : ∀ r, P r → ∀ W' H', W.le W' → Sim g W' r.2 H' → Q (.bl r.1) H') : opq X (compareOp (copO op)) x' y' H Q := by
  unfold cmpM at hg
  cases e : cmpV op x y with
  | some r =>
    rw [e] at hg
    exact cmpV_ok c.K c.room.units S rx ry e (q _ hg W H .rfl' S)
  | none =>
    rw [e] at hg
    cases op <;> first | exact cmpO_ok tb c S rx ry hg q | exact False.elim hg
end
end M
end

section
set_option Elab.async false
set_option linter.all false
set_option maxRecDepth 100000
set_option maxHeartbeats 1000000
/-! M9: expressions: what the evaluator says, the code does. -/
namespace M
open PySem PySem.Spec PyProof.Rows L2

abbrev WantT (g : Ga) (W : Wd) (r : Bool × VH) (Q : Bool → Hp → Prop) : Prop := ∀ W' H', W.le W' → Sim g W' r.2 H' → Q r.1 H'
abbrev WantL (g : Ga) (W : Wd) (r : List Val × VH) (Q : List V → Hp → Prop) : Prop := ∀ W' ws H', W.le W' → Sim g W' r.2 H' → Reps g W' r.1 ws → Q ws H'
theorem Want.le {g : Ga} {W W' : Wd} {r : Val × VH} {Q : VK} (l : W.le W') (q : Want g W r Q) : Want g W' r Q := fun W2 w H' l2 => q W2 w H' (l.trans l2)
/-- a part of a slice -/
def tO (X : Cx) : Option Expr → TO
  | none => tNoPart
  | some e => tPart (we X e)
theorem po_tO {X : Cx} : ∀ {e : Option Expr}, PO X e (tO X e)
  | none => po_none
  | some e => po_some pe_we

section
variable (g : Ga) (k : Nat) (s : Si) (T : Tb) (C : Nat → List Val → Mo Val)
def SndE (m : Ex) : Prop := ∀ (nm : Nms) (X : Cx) (e : Expr), CxOk g (k + 1) s nm X → chkE s nm m e = true → ∀ (a : Sl) (σ : L2.St) (W : Wd) (h : VH) (H : Hp) (P : Val × VH → Prop) (Q : VK),
  Sim g W h H → Slo g W a σ → (evE T C a m h).Good P → (∀ r, P r → Want g W r Q) → we X e σ H Q
def SndT (m : Ex) : Prop := ∀ (nm : Nms) (X : Cx) (e : Expr), CxOk g (k + 1) s nm X → chkE s nm m e = true → ∀ (a : Sl) (σ : L2.St) (W : Wd) (h : VH) (H : Hp) (P : Val × VH → Prop) (Q : Bool → Hp → Prop),
  Sim g W h H → Slo g W a σ → (evE T C a m h).Good P → (∀ r, P r → ∃ b, r.1 = .bl b ∧ WantT g W (b, r.2) Q) → wt X e σ H Q
def SndEs (m : Es) : Prop := ∀ (nm : Nms) (X : Cx) (es : List Expr), CxOk g (k + 1) s nm X → chkEs s nm m es = true → ∀ (a : Sl) (σ : L2.St) (W : Wd) (h : VH) (H : Hp) (P : List Val × VH → Prop) (Q : List V → Hp → Prop),
  Sim g W h H → Slo g W a σ → (evEs T C a m h).Good P → (∀ r, P r → WantL g W r Q) → waL X es σ H Q
def SndO (m : Option Ex) : Prop := ∀ (nm : Nms) (X : Cx) (e : Option Expr), CxOk g (k + 1) s nm X → chkO s nm m e = true → ∀ (a : Sl) (σ : L2.St) (W : Wd) (h : VH) (H : Hp) (P : Option Int × VH → Prop) (Q : Option Int → Hp → Prop),
  Sim g W h H → Slo g W a σ → (evO T C a m h).Good P → (∀ r, P r → ∀ W' H', W.le W' → Sim g W' r.2 H' → Q r.1 H') → tO X e σ H Q
def SndX (m : Sx) : Prop := ∀ (nm : Nms) (X : Cx) (e tg : Expr), CxOk g (k + 1) s nm X → chkX s nm m e tg = true → ∀ (a : Sl) (σ : L2.St) (W : Wd) (h : VH) (H : Hp) (P : Sv × VH → Prop) (R : It → Hp → Prop),
  Sim g W h H → Slo g W a σ → (evX T C a m h).Good P → (∀ r, P r → ∀ W' H' J, W.le W' → Sim g W' r.2 H' → RepI g W' r.1 J → R J H') → wi X tg e σ H R
end

section
variable {g : Ga} {k : Nat} {s : Si} {T : Tb} {C : Nat → List Val → Mo Val} {fa : Nat → Addr} {ar : Nat → Nat}
section
variable {nm : Nms} {X : Cx} {e : Expr} {es : List Expr} {eo : Option Expr} {as : Sl} {σ : L2.St} {W : Wd} {h : VH} {H : Hp} {β : Type}
theorem seqE {m : Ex} {f : Val → Mo β} {P : β × VH → Prop} {Q : VK} (hs : SndE g k s T C m) (c : CxOk g (k + 1) s nm X) (hc : chkE s nm m e = true) (S : Sim g W h H) (sl : Slo g W as σ) (hg : (bindM (evE T C as m) f h).Good P)
    (q : ∀ W1 x h1 w H1, W.le W1 → Sim g W1 h1 H1 → Rep g W1 x w → (f x h1).Good P → Q w H1) : we X e σ H Q :=
  hs nm X e c hc as σ W h H (fun r => (f r.1 r.2).Good P) Q S sl (bindM_good.mp hg) fun r hr W1 w H1 l S1 R1 => q W1 r.1 r.2 w H1 l S1 R1 hr
theorem seqT {m : Ex} {f : Val → Mo β} {P : β × VH → Prop} {Q : Bool → Hp → Prop} (hs : SndT g k s T C m) (c : CxOk g (k + 1) s nm X) (hc : chkE s nm m e = true) (S : Sim g W h H) (sl : Slo g W as σ) (hg : (bindM (evE T C as m) f h).Good P)
    (hb : ∀ x h1, (f x h1).Good P → ∃ b, x = .bl b) (q : ∀ W1 b h1 H1, W.le W1 → Sim g W1 h1 H1 → (f (.bl b) h1).Good P → Q b H1) : wt X e σ H Q :=
  hs nm X e c hc as σ W h H (fun r => (f r.1 r.2).Good P) Q S sl (bindM_good.mp hg) fun r hr => by
    obtain ⟨b, e⟩ := hb r.1 r.2 hr
    exact ⟨b, e, fun W1 H1 l S1 => q W1 b r.2 H1 l S1 (by rw [← e]; exact hr)⟩
theorem seqEs {m : Es} {f : List Val → Mo β} {P : β × VH → Prop} {Q : List V → Hp → Prop} (hs : SndEs g k s T C m) (c : CxOk g (k + 1) s nm X) (hc : chkEs s nm m es = true) (S : Sim g W h H) (sl : Slo g W as σ) (hg : (bindM (evEs T C as m) f h).Good P)
    (q : ∀ W1 x h1 w H1, W.le W1 → Sim g W1 h1 H1 → Reps g W1 x w → (f x h1).Good P → Q w H1) : waL X es σ H Q :=
  hs nm X es c hc as σ W h H (fun r => (f r.1 r.2).Good P) Q S sl (bindM_good.mp hg) fun r hr W1 w H1 l S1 R1 => q W1 r.1 r.2 w H1 l S1 R1 hr
theorem seqO {m : Option Ex} {f : Option Int → Mo β} {P : β × VH → Prop} {Q : Option Int → Hp → Prop} (hs : SndO g k s T C m) (c : CxOk g (k + 1) s nm X) (hc : chkO s nm m eo = true) (S : Sim g W h H) (sl : Slo g W as σ) (hg : (bindM (evO T C as m) f h).Good P)
    (q : ∀ W1 x h1 H1, W.le W1 → Sim g W1 h1 H1 → (f x h1).Good P → Q x H1) : tO X eo σ H Q :=
  hs nm X eo c hc as σ W h H (fun r => (f r.1 r.2).Good P) Q S sl (bindM_good.mp hg) fun r hr W1 H1 l S1 => q W1 r.1 r.2 H1 l S1 hr
theorem seqX {m : Sx} {tg : Expr} {f : Sv → Mo β} {P : β × VH → Prop} {R : It → Hp → Prop} (hs : SndX g k s T C m) (c : CxOk g (k + 1) s nm X) (hc : chkX s nm m e tg = true) (S : Sim g W h H) (sl : Slo g W as σ) (hg : (bindM (evX T C as m) f h).Good P)
    (q : ∀ W1 sv h1 J H1, W.le W1 → Sim g W1 h1 H1 → RepI g W1 sv J → (f sv h1).Good P → R J H1) : wi X tg e σ H R :=
  hs nm X e tg c hc as σ W h H (fun r => (f r.1 r.2).Good P) R S sl (bindM_good.mp hg) fun r hr W1 H1 J l S1 r1 => q W1 r.1 r.2 J H1 l S1 r1 hr
end

/-! ### plain ones -/
theorem snd_var (i : Nat) : SndE g k s T C (.var i) := by
  intro nm X e c hc as σ W h H P Q S sl hg q
  unfold chkE at hc
  split at hc
  · rename_i x p
    simp only [Bool.and_eq_true, decide_eq_true_eq] at hc
    obtain ⟨n1, n2, _⟩ := okN1 hc.2
    unfold evE at hg
    split at hg
    · rename_i v ev
      obtain ⟨w, ew, rw'⟩ := sl.at_ i v ev
      exact (pe_var (by rw [c.N]; exact hc.1.1) (c.vis hc.1.2) n1 n2).we' ⟨w, ew, q _ hg W w H .rfl' S rw'⟩
    · exact hg.elim
  · cases hc
theorem snd_int (i : Int) : SndE g k s T C (.int i) := by
  intro nm X e c hc as σ W h H P Q S sl hg q
  unfold chkE at hc
  split at hc
  · cases of_decide_eq_true hc
    unfold evE at hg
    exact pe_int.we' (q _ hg W _ H .rfl' S (.int i))
  · cases hc
theorem snd_str (i : Str) : SndE g k s T C (.str i) := by
  intro nm X e c hc as σ W h H P Q S sl hg q
  unfold chkE at hc
  split at hc
  · cases of_decide_eq_true hc
    unfold evE at hg
    exact pe_str.we' (q _ hg W _ H .rfl' S (.str i))
  · cases hc
theorem snd_bl (i : Bool) : SndE g k s T C (.bl i) := by
  intro nm X e c hc as σ W h H P Q S sl hg q
  unfold chkE at hc
  split at hc
  · cases of_decide_eq_true hc
    unfold evE at hg
    exact pe_bl.we' (q _ hg W _ H .rfl' S (.bl i))
  · cases hc
theorem snd_non : SndE g k s T C .non := by
  intro nm X e c hc as σ W h H P Q S sl hg q
  unfold chkE at hc
  split at hc
  · unfold evE at hg
    exact pe_non.we' (q _ hg W _ H .rfl' S .non)
  · cases hc
theorem snd_glob (tb : TbOk g k s T C fa ar) (n : Nat) : SndE g k s T C (.glob n) := by
  intro nm X e c hc as σ W h H P Q S sl hg q
  unfold chkE at hc
  obtain ⟨y, p, rfl, e1, h1, h2⟩ := glob_shape hc
  unfold evE at hg
  obtain ⟨v, ev, pv⟩ := lift_good.mp hg
  obtain ⟨u, w, hm, r, rp⟩ := tb.glo n v y ev e1
  exact (pe_glob (c.gl h1) (by rw [c.mg]; exact hm) r (okN1 h2).1).we' (q _ pv W w H .rfl' S (rp W))
theorem snd_bin {m : Bool} {op : Bop} {a b : Ex} (ha : SndE g k s T C a) (hb : SndE g k s T C b) : SndE g k s T C (.bin m op a b) := by
  intro nm X e c hc as σ W h H P Q S sl hg q
  unfold chkE at hc
  split at hc
  · rename_i a' op' b' p
    simp only [Bool.and_eq_true] at hc
    have e1 : bopO op = op' := of_decide_eq_true hc.1.1
    subst e1
    unfold evE at hg
    refine (pe_op opq_R pe_we pe_we).we' ?_
    refine seqE ha c hc.1.2 S sl hg fun W1 x h1 w H1 l1 S1 R1 g1 => ?_
    refine seqE hb c hc.2 S1 (sl.mono l1) g1 fun W2 y h2 u H2 l2 S2 R2 g2 => ?_
    split at g2
    · rename_i r er
      rw [out_eq] at g2
      exact binV_ok c.K S2 (R1.mono l2) R2 er ((q _ g2).le (l1.trans l2))
    · exact g2.elim
  · cases hc
theorem cop_mark {op : Cop} {b : Expr} (h1 : op ≠ .in_) (h2 : op ≠ .notin) : behindInMarks (copO op) b = false := by
  refine nomark b ?_ ?_
  · intro z
    cases op <;> first | exact h1 rfl | cases z
  · intro z
    cases op <;> first | exact h2 rfl | cases z
theorem copB_ok {op : Cop} {o : CmpOp} (h : copB op o = true) : copO op = o ∧ ∀ b, behindInMarks (copO op) b = false := by
  unfold copB at h
  simp only [Bool.and_eq_true, Bool.not_eq_true', decide_eq_true_eq, decide_eq_false_iff_not] at h
  exact ⟨h.1.1, fun b => cop_mark h.1.2 h.2⟩
theorem snd_cmp (tb : TbOk g k s T C fa ar) {op : Cop} {a b : Ex} (ha : SndE g k s T C a) (hb : SndE g k s T C b) : SndE g k s T C (.cmp op a b) := by
  intro nm X e c hc as σ W h H P Q S sl hg q
  unfold chkE at hc
  split at hc
  · rename_i a' op' b' p
    simp only [Bool.and_eq_true] at hc
    obtain ⟨e1, e2⟩ := copB_ok hc.1.1
    subst e1
    unfold evE at hg
    refine (pe_cmpR opq_R pe_we pe_we (e2 _)).we' ?_
    refine seqE ha c hc.1.2 S sl hg fun W1 x h1 w H1 l1 S1 R1 g1 => ?_
    refine seqE hb c hc.2 S1 (sl.mono l1) g1 fun W2 y h2 u H2 l2 S2 R2 g2 => ?_
    exact cmpM_ok tb c S2 (R1.mono l2) R2 (bindM_good.mp g2) fun r g3 W3 H3 l3 S3 => q _ g3 W3 _ H3 ((l1.trans l2).trans l3) S3 (.bl r.1)
  · cases hc
theorem snt_cmp (tb : TbOk g k s T C fa ar) {op : Cop} {a b : Ex} (ha : SndE g k s T C a) (hb : SndE g k s T C b) : SndT g k s T C (.cmp op a b) := by
  intro nm X e c hc as σ W h H P Q S sl hg q
  unfold chkE at hc
  split at hc
  · rename_i a' op' b' p
    simp only [Bool.and_eq_true] at hc
    obtain ⟨e1, e2⟩ := copB_ok hc.1.1
    subst e1
    unfold evE at hg
    refine (pt_cmpR opq_R pe_we pe_we (e2 _)).wt' ?_
    refine seqE ha c hc.1.2 S sl hg fun W1 x h1 w H1 l1 S1 R1 g1 => ?_
    refine seqE hb c hc.2 S1 (sl.mono l1) g1 fun W2 y h2 u H2 l2 S2 R2 g2 => ?_
    refine cmpM_ok tb c S2 (R1.mono l2) R2 (bindM_good.mp g2) fun r g3 W3 H3 l3 S3 => ?_
    obtain ⟨d, ed, wd⟩ := q _ g3
    cases ed
    exact ⟨_, rfl, wd W3 H3 ((l1.trans l2).trans l3) S3⟩
  · cases hc
theorem snd_chain {op op2 : Cop} {a b d : Ex} (ha : SndE g k s T C a) (hb : SndE g k s T C b) (hd : SndE g k s T C d) : SndE g k s T C (.chain op op2 a b d) := by
  intro nm X e c hc as σ W h H P Q S sl hg q
  unfold chkE at hc
  split at hc
  · rename_i a' op' op2' b' d' p
    simp only [Bool.and_eq_true] at hc
    obtain ⟨e1, e2⟩ := copB_ok hc.1.1.1.1
    obtain ⟨f1, f2⟩ := copB_ok hc.1.1.1.2
    subst e1 f1
    unfold evE at hg
    refine (pe_chain opq_R opq_R pe_we pe_we pe_we (f2 _)).we' ?_
    refine seqE ha c hc.1.1.2 S sl hg fun W1 x h1 w H1 l1 S1 R1 g1 => ?_
    refine seqE hb c hc.1.2 S1 (sl.mono l1) g1 fun W2 y h2 u H2 l2 S2 R2 g2 => ?_
    obtain ⟨r, er, g3⟩ := lift_good.mp (bindM_good.mp g2)
    refine cmpV_ok c.K c.room.units S2 (R1.mono l2) R2 er ⟨r, rfl, ?_⟩
    cases r with
    | false =>
      rw [if_neg (by decide)]
      exact q _ g3 W2 _ H2 (l1.trans l2) S2 (.bl false)
    | true =>
      rw [if_pos rfl]
      refine seqE hd c hc.2 S2 (sl.mono (l1.trans l2)) g3 fun W3 z h3 v H3 l3 S3 R3 g4 => ?_
      obtain ⟨r, er, g5⟩ := lift_good.mp (bindM_good.mp g4)
      exact cmpV_ok c.K c.room.units S3 (R2.mono l3) R3 er (q _ g5 W3 _ H3 ((l1.trans l2).trans l3) S3 (.bl r))
  · cases hc
theorem snt_chain {op op2 : Cop} {a b d : Ex} (ha : SndE g k s T C a) (hb : SndE g k s T C b) (hd : SndE g k s T C d) : SndT g k s T C (.chain op op2 a b d) := by
  intro nm X e c hc as σ W h H P Q S sl hg q
  unfold chkE at hc
  split at hc
  · rename_i a' op' op2' b' d' p
    simp only [Bool.and_eq_true] at hc
    obtain ⟨e1, e2⟩ := copB_ok hc.1.1.1.1
    obtain ⟨f1, f2⟩ := copB_ok hc.1.1.1.2
    subst e1 f1
    unfold evE at hg
    refine (pt_chain opq_R opq_R pe_we pe_we pe_we (f2 _)).wt' ?_
    refine seqE ha c hc.1.1.2 S sl hg fun W1 x h1 w H1 l1 S1 R1 g1 => ?_
    refine seqE hb c hc.1.2 S1 (sl.mono l1) g1 fun W2 y h2 u H2 l2 S2 R2 g2 => ?_
    obtain ⟨r, er, g3⟩ := lift_good.mp (bindM_good.mp g2)
    refine cmpV_ok c.K c.room.units S2 (R1.mono l2) R2 er ⟨r, rfl, ?_⟩
    cases r with
    | false =>
      rw [if_neg (by decide)]
      obtain ⟨d, ed, wd⟩ := q _ g3
      cases ed
      exact ⟨_, rfl, wd W2 H2 (l1.trans l2) S2⟩
    | true =>
      rw [if_pos rfl]
      refine seqE hd c hc.2 S2 (sl.mono (l1.trans l2)) g3 fun W3 z h3 v H3 l3 S3 R3 g4 => ?_
      obtain ⟨r, er, g5⟩ := lift_good.mp (bindM_good.mp g4)
      obtain ⟨d, ed, wd⟩ := q _ g5
      cases ed
      exact cmpV_ok c.K c.room.units S3 (R2.mono l3) R3 er ⟨_, rfl, wd W3 H3 ((l1.trans l2).trans l3) S3⟩
  · cases hc
theorem snd_and {a b : Ex} (ha : SndE g k s T C a) (hb : SndE g k s T C b) : SndE g k s T C (.and a b) := by
  intro nm X e c hc as σ W h H P Q S sl hg q
  have key : ∀ x y rest p, e = .BoolOp .And (x :: y :: rest) p → chkE s nm a x = true → (∀ σ H Q, we X (.BoolOp .And (y :: rest) p) σ H Q ↔ we X (.BoolOp .And (y :: rest) p) σ H Q) → (∀ σ H Q, (rest = [] ∧ we X y σ H Q) ∨ we X (.BoolOp .And (y :: rest) p) σ H Q → we X (.BoolOp .And (y :: rest) p) σ H Q) := by
    intro x y rest p e1 h1 _ σ H Q hh
    rcases hh with ⟨e2, hh⟩ | hh
    · subst e2
      exact (pe_one pe_we).we' hh
    · exact hh
  unfold evE at hg
  unfold chkE at hc
  have go : ∀ x y rest p, e = .BoolOp .And (x :: y :: rest) p → chkE s nm a x = true → (∀ as σ W h H Q, Sim g W h H → Slo g W as σ → (evE T C as b h).Good P → (∀ r, P r → Want g W r Q) → we X (.BoolOp .And (y :: rest) p) σ H Q) → we X e σ H Q := by
    intro x y rest p e1 h1 hr
    subst e1
    refine (pe_and pe_we pe_we).we' ?_
    refine seqE ha c h1 S sl hg fun W1 x h1 w H1 l1 S1 R1 g1 => ?_
    split at g1
    · cases R1
      exact ⟨true, rfl, by rw [if_pos rfl]; exact hr as σ W1 h1 H1 Q S1 (sl.mono l1) g1 fun r pr => (q r pr).le l1⟩
    · cases R1
      exact ⟨false, rfl, by rw [if_neg (by decide)]; exact q _ g1 W1 _ H1 l1 S1 (.bl false)⟩
    · exact g1.elim
  split at hc
  · rename_i x y p
    rw [Bool.and_eq_true] at hc
    exact go x y [] p rfl hc.1 fun as σ W h H Q S sl hg q => (pe_one pe_we).we' (hb nm X y c hc.2 as σ W h H P Q S sl hg q)
  · rename_i x y z r p
    rw [Bool.and_eq_true] at hc
    exact go x y (z :: r) p rfl hc.1 fun as σ W h H Q S sl hg q => hb nm X _ c hc.2 as σ W h H P Q S sl hg q
  · cases hc
theorem snd_or {a b : Ex} (ha : SndE g k s T C a) (hb : SndE g k s T C b) : SndE g k s T C (.or a b) := by
  intro nm X e c hc as σ W h H P Q S sl hg q
  unfold evE at hg
  unfold chkE at hc
  have go : ∀ x y rest p, e = .BoolOp .Or (x :: y :: rest) p → chkE s nm a x = true → (∀ as σ W h H Q, Sim g W h H → Slo g W as σ → (evE T C as b h).Good P → (∀ r, P r → Want g W r Q) → we X (.BoolOp .Or (y :: rest) p) σ H Q) → we X e σ H Q := by
    intro x y rest p e1 h1 hr
    subst e1
    refine (pe_or pe_we pe_we).we' ?_
    refine seqE ha c h1 S sl hg fun W1 x h1 w H1 l1 S1 R1 g1 => ?_
    split at g1
    · cases R1
      exact ⟨true, rfl, by rw [if_pos rfl]; exact q _ g1 W1 _ H1 l1 S1 (.bl true)⟩
    · cases R1
      exact ⟨false, rfl, by rw [if_neg (by decide)]; exact hr as σ W1 h1 H1 Q S1 (sl.mono l1) g1 fun r pr => (q r pr).le l1⟩
    · exact g1.elim
  split at hc
  · rename_i x y p
    rw [Bool.and_eq_true] at hc
    exact go x y [] p rfl hc.1 fun as σ W h H Q S sl hg q => (pe_one pe_we).we' (hb nm X y c hc.2 as σ W h H P Q S sl hg q)
  · rename_i x y z r p
    rw [Bool.and_eq_true] at hc
    exact go x y (z :: r) p rfl hc.1 fun as σ W h H Q S sl hg q => hb nm X _ c hc.2 as σ W h H P Q S sl hg q
  · cases hc
theorem wt_pw_and {X : Cx} {y : Expr} {rest : List Expr} {p : Pos} : PW X (.BoolOp .And (y :: rest) p) (wt X (.BoolOp .And (y :: rest) p)) := ⟨fun wh pins s σ H Q I h => h pins s I⟩
theorem wt_pw_or {X : Cx} {y : Expr} {rest : List Expr} {p : Pos} : PW X (.BoolOp .Or (y :: rest) p) (wt X (.BoolOp .Or (y :: rest) p)) := ⟨fun wh pins s σ H Q I h => h pins s I⟩
theorem snt_and {a b : Ex} (ha : SndT g k s T C a) (hb : SndT g k s T C b) : SndT g k s T C (.and a b) := by
  intro nm X e c hc as σ W h H P Q S sl hg q
  unfold evE at hg
  unfold chkE at hc
  have go : ∀ x y rest p, e = .BoolOp .And (x :: y :: rest) p → chkE s nm a x = true → (∀ as σ W h H Q, Sim g W h H → Slo g W as σ → (evE T C as b h).Good P → (∀ r, P r → ∃ b, r.1 = .bl b ∧ WantT g W (b, r.2) Q) → wt X (.BoolOp .And (y :: rest) p) σ H Q) → wt X e σ H Q := by
    intro x y rest p e1 h1 hr
    subst e1
    refine (pw_and pt_wt wt_pw_and).pt.wt' ?_
    refine seqT ha c h1 S sl hg (fun x h1 g1 => ?_) fun W1 d h1 H1 l1 S1 g1 => ?_
    · split at g1
      · exact ⟨true, rfl⟩
      · exact ⟨false, rfl⟩
      · exact g1.elim
    · cases d with
      | true =>
        rw [if_pos rfl]
        exact hr as σ W1 h1 H1 Q S1 (sl.mono l1) g1 fun r pr => let ⟨b, e, w⟩ := q r pr; ⟨b, e, fun W' H' l => w W' H' (l1.trans l)⟩
      | false =>
        rw [if_neg (by decide)]
        obtain ⟨b, e, w⟩ := q _ g1
        cases e
        exact w W1 H1 l1 S1
  split at hc
  · rename_i x y p
    rw [Bool.and_eq_true] at hc
    exact go x y [] p rfl hc.1 fun as σ W h H Q S sl hg q => (pw_and1 pt_wt).pt.wt' (hb nm X y c hc.2 as σ W h H P Q S sl hg q)
  · rename_i x y z r p
    rw [Bool.and_eq_true] at hc
    exact go x y (z :: r) p rfl hc.1 fun as σ W h H Q S sl hg q => hb nm X _ c hc.2 as σ W h H P Q S sl hg q
  · cases hc
theorem snt_or {a b : Ex} (ha : SndT g k s T C a) (hb : SndT g k s T C b) : SndT g k s T C (.or a b) := by
  intro nm X e c hc as σ W h H P Q S sl hg q
  unfold evE at hg
  unfold chkE at hc
  have go : ∀ x y rest p, e = .BoolOp .Or (x :: y :: rest) p → chkE s nm a x = true → (∀ as σ W h H Q, Sim g W h H → Slo g W as σ → (evE T C as b h).Good P → (∀ r, P r → ∃ b, r.1 = .bl b ∧ WantT g W (b, r.2) Q) → wt X (.BoolOp .Or (y :: rest) p) σ H Q) → wt X e σ H Q := by
    intro x y rest p e1 h1 hr
    subst e1
    refine (pw_or pt_wt wt_pw_or).pt.wt' ?_
    refine seqT ha c h1 S sl hg (fun x h1 g1 => ?_) fun W1 d h1 H1 l1 S1 g1 => ?_
    · split at g1
      · exact ⟨true, rfl⟩
      · exact ⟨false, rfl⟩
      · exact g1.elim
    · cases d with
      | true =>
        rw [if_pos rfl]
        obtain ⟨b, e, w⟩ := q _ g1
        cases e
        exact w W1 H1 l1 S1
      | false =>
        rw [if_neg (by decide)]
        exact hr as σ W1 h1 H1 Q S1 (sl.mono l1) g1 fun r pr => let ⟨b, e, w⟩ := q r pr; ⟨b, e, fun W' H' l => w W' H' (l1.trans l)⟩
  split at hc
  · rename_i x y p
    rw [Bool.and_eq_true] at hc
    exact go x y [] p rfl hc.1 fun as σ W h H Q S sl hg q => (pw_or1 pt_wt).pt.wt' (hb nm X y c hc.2 as σ W h H P Q S sl hg q)
  · rename_i x y z r p
    rw [Bool.and_eq_true] at hc
    exact go x y (z :: r) p rfl hc.1 fun as σ W h H Q S sl hg q => hb nm X _ c hc.2 as σ W h H P Q S sl hg q
  · cases hc
theorem snd_not {a : Ex} (ha : SndE g k s T C a) : SndE g k s T C (.not a) := by
  intro nm X e c hc as σ W h H P Q S sl hg q
  unfold chkE at hc
  split at hc
  · unfold evE at hg
    refine (pe_not pe_we).we' ?_
    refine seqE ha c hc S sl hg fun W1 x h1 w H1 l1 S1 R1 g1 => ?_
    split at g1
    · cases R1
      exact ⟨_, rfl, q _ g1 W1 _ H1 l1 S1 (.bl _)⟩
    · exact g1.elim
  · cases hc
theorem snt_not {a : Ex} (ha : SndT g k s T C a) : SndT g k s T C (.not a) := by
  intro nm X e c hc as σ W h H P Q S sl hg q
  unfold chkE at hc
  split at hc
  · unfold evE at hg
    refine (pt_not pt_wt).wt' ?_
    refine seqT ha c hc S sl hg (fun x h1 g1 => ?_) fun W1 d h1 H1 l1 S1 g1 => ?_
    · split at g1
      · exact ⟨_, rfl⟩
      · exact g1.elim
    · obtain ⟨b, e, w⟩ := q _ g1
      cases e
      exact w W1 H1 l1 S1
  · cases hc
theorem snd_neg {a : Ex} (ha : SndE g k s T C a) : SndE g k s T C (.neg a) := by
  intro nm X e c hc as σ W h H P Q S sl hg q
  unfold chkE at hc
  split at hc
  · unfold evE at hg
    refine (pe_un un_neg pe_we).we' ?_
    refine seqE ha c hc S sl hg fun W1 x h1 w H1 l1 S1 R1 g1 => ?_
    split at g1
    · cases R1
      exact ⟨_, rfl, q _ g1 W1 _ H1 l1 S1 (.int _)⟩
    · exact g1.elim
  · cases hc
theorem snd_ifx {d a b : Ex} (hd : SndT g k s T C d) (ha : SndE g k s T C a) (hb : SndE g k s T C b) : SndE g k s T C (.ifx d a b) := by
  intro nm X e c hc as σ W h H P Q S sl hg q
  unfold chkE at hc
  split at hc
  · simp only [Bool.and_eq_true] at hc
    unfold evE at hg
    refine (pe_ifExp pt_wt pe_we pe_we).we' ?_
    refine seqT hd c hc.1.1 S sl hg (fun x h1 g1 => ?_) fun W1 d h1 H1 l1 S1 g1 => ?_
    · split at g1
      · exact ⟨true, rfl⟩
      · exact ⟨false, rfl⟩
      · exact g1.elim
    · cases d with
      | true =>
        rw [if_pos rfl]
        exact ha nm X _ c hc.1.2 as σ W1 h1 H1 P Q S1 (sl.mono l1) g1 fun r pr => (q r pr).le l1
      | false =>
        rw [if_neg (by decide)]
        exact hb nm X _ c hc.2 as σ W1 h1 H1 P Q S1 (sl.mono l1) g1 fun r pr => (q r pr).le l1
  · cases hc
theorem snt_ifx {d a b : Ex} (hd : SndT g k s T C d) (ha : SndT g k s T C a) (hb : SndT g k s T C b) : SndT g k s T C (.ifx d a b) := by
  intro nm X e c hc as σ W h H P Q S sl hg q
  unfold chkE at hc
  split at hc
  · rename_i c' a' b' p
    simp only [Bool.and_eq_true] at hc
    unfold evE at hg
    have step : wt X c' σ H fun d H1 => if d = true then wt X a' σ H1 Q else wt X b' σ H1 Q := by
      refine seqT hd c hc.1.1 S sl hg (fun x h1 g1 => ?_) fun W1 d h1 H1 l1 S1 g1 => ?_
      · split at g1
        · exact ⟨true, rfl⟩
        · exact ⟨false, rfl⟩
        · exact g1.elim
      · cases d with
        | true =>
          rw [if_pos rfl]
          exact ha nm X _ c hc.1.2 as σ W1 h1 H1 P Q S1 (sl.mono l1) g1 fun r pr => let ⟨b, e, w⟩ := q r pr; ⟨b, e, fun W' H' l => w W' H' (l1.trans l)⟩
        | false =>
          rw [if_neg (by decide)]
          exact hb nm X _ c hc.2 as σ W1 h1 H1 P Q S1 (sl.mono l1) g1 fun r pr => let ⟨b, e, w⟩ := q r pr; ⟨b, e, fun W' H' l => w W' H' (l1.trans l)⟩
    intro pins sh I
    show wpAny (model X.prog X.w) X.A (do
      if ← isTrue c' X.env (eval c' X.env) then isTrue a' X.env (eval a' X.env) else isTrue b' X.env (eval b' X.env)) _ _ _
    refine wpAny_bind (thn (step pins sh I) fun d s1 ⟨H1, I1, q1⟩ => ?_)
    cases d with
    | true =>
      rw [if_pos rfl] at q1 ⊢
      exact q1 pins s1 I1
    | false =>
      rw [if_neg (by decide)] at q1 ⊢
      exact q1 pins s1 I1
  · cases hc
theorem snd_tup {es : Es} (hs : SndEs g k s T C es) : SndE g k s T C (.tup es) := by
  intro nm X e c hc as σ W h H P Q S sl hg q
  unfold chkE at hc
  split at hc
  · unfold evE at hg
    refine (pe_tup pa_wa).we' ?_
    refine (seqEs hs c hc S sl hg fun W1 x h1 w H1 l1 S1 R1 g1 => ?_).1
    split at g1
    · rename_i hz
      exact ⟨by rw [← R1.length]; exact sz_line hz, new_tup S1 R1 ((q _ g1).le l1)⟩
    · exact g1.elim
  · cases hc
theorem snd_lst {m : Bool} {es : Es} (hs : SndEs g k s T C es) : SndE g k s T C (.lst m es) := by
  intro nm X e c hc as σ W h H P Q S sl hg q
  unfold chkE at hc
  split at hc
  · unfold evE at hg
    refine (pe_lst pa_wa).we' ?_
    refine (seqEs hs c hc S sl hg fun W1 x h1 w H1 l1 S1 R1 g1 => ?_).1
    split at g1
    · rename_i hz
      rw [out_eq] at g1
      exact ⟨by rw [← R1.length]; exact sz_line hz, new_list S1 R1 ((q _ g1).le l1)⟩
    · exact g1.elim
  · cases hc
theorem snd_sub {a i : Ex} (ha : SndE g k s T C a) (hi : SndE g k s T C i) : SndE g k s T C (.sub a i) := by
  intro nm X e c hc as σ W h H P Q S sl hg q
  unfold chkE at hc
  split at hc
  · rw [Bool.and_eq_true] at hc
    unfold evE at hg
    refine (pe_ix ixq_R pe_we pe_we (plain_ix (chk_shape hc.2).2.1)).we' ?_
    refine seqE ha c hc.1 S sl hg fun W1 x h1 w H1 l1 S1 R1 g1 => ?_
    refine seqE hi c hc.2 S1 (sl.mono l1) g1 fun W2 y h2 u H2 l2 S2 R2 g2 => ?_
    split at g2
    · rename_i r er
      exact subV_ok c.K c.room.units S2 (R1.mono l2) R2 er fun w rw' => q _ g2 W2 w H2 (l1.trans l2) S2 rw'
    · exact g2.elim
  · cases hc
theorem snd_slc {m : Bool} {a : Ex} {lo hi : Option Ex} (ha : SndE g k s T C a) (hl : SndO g k s T C lo) (hh : SndO g k s T C hi) : SndE g k s T C (.slc m a lo hi) := by
  intro nm X e c hc as σ W h H P Q S sl hg q
  unfold chkE at hc
  split at hc
  · simp only [Bool.and_eq_true] at hc
    unfold evE at hg
    refine (pe_slice slq_R pe_we po_tO po_tO).we' ?_
    refine seqE ha c hc.1.1 S sl hg fun W1 x h1 w H1 l1 S1 R1 g1 => ?_
    refine seqO hl c hc.1.2 S1 (sl.mono l1) g1 fun W2 y h2 H2 l2 S2 g2 => ?_
    refine seqO hh c hc.2 S2 (sl.mono (l1.trans l2)) g2 fun W3 z h3 H3 l3 S3 g3 => ?_
    split at g3
    · rename_i r er
      rw [out_eq] at g3
      exact slcV_ok c.K S3 (R1.mono (l2.trans l3)) er ((q _ g3).le (l1.trans (l2.trans l3)))
    · exact g3.elim
  · cases hc
theorem snd_rev {m : Bool} {a : Ex} (ha : SndE g k s T C a) : SndE g k s T C (.rev m a) := by
  intro nm X e c hc as σ W h H P Q S sl hg q
  unfold chkE at hc
  split at hc
  · unfold evE at hg
    refine (pe_revA pe_we).we' ?_
    refine seqE ha c hc S sl hg fun W1 x h1 w H1 l1 S1 R1 g1 => ?_
    split at g1
    · rename_i r er
      rw [out_eq] at g1
      have q1 := (q _ g1).le l1
      unfold revV at er
      split at er
      · cases er
        cases R1 with
        | tup t rr => exact ⟨_, _, rfl, .inr ⟨by rw [c.K]; exact S1.sqT t, new_tup S1 rr.reverse q1⟩⟩
      · rename_i nt
        obtain ⟨xs, ex, er⟩ := map_some er
        cases er
        obtain ⟨p, ys, ew, hq, rr⟩ := seq_list c.K S1 R1 ex (fun z e => nt z e)
        exact ⟨p, ys, ew, .inl ⟨hq, new_list S1 rr.reverse q1⟩⟩
    · exact g1.elim
  · cases hc
theorem snd_fld (tb : TbOk g k s T C fa ar) {a : Ex} {f : Nat} (ha : SndE g k s T C a) : SndE g k s T C (.fld a f) := by
  intro nm X e c hc as σ W h H P Q S sl hg q
  unfold chkE at hc
  split at hc
  · rename_i a' f' p
    simp only [Bool.and_eq_true, decide_eq_true_eq] at hc
    have hf : f < s.fld.length := (List.getElem?_eq_some_iff.mp hc.1.2).1
    have ef := tb.fldN f hf
    rw [hc.1.2] at ef
    have ef := Option.some.inj ef
    subst ef
    unfold evE at hg
    refine (pe_fld pe_we (no_sup hc.1.1)).we' ?_
    refine seqE ha c hc.2 S sl hg fun W1 x h1 w H1 l1 S1 R1 g1 => ?_
    split at g1
    · rename_i v ev
      obtain ⟨p, cc, dx, gs, u, rfl, hh, hl, ru, _, hlt, hhas⟩ := fldV_ok tb.ga S1 R1 ev hf
      exact ⟨p, _, dx, gs, u, rfl, hh, by rw [c.K]; exact tb.ga.cls cc hlt, by rw [c.K]; exact tb.ga.noat cc f hlt hhas, hl, q _ g1 W1 u H1 l1 S1 ru⟩
    · exact g1.elim
  · cases hc
theorem snd_frz {a : Ex} (ha : SndE g k s T C a) : SndE g k s T C (.frz a) := by
  intro nm X e c hc as σ W h H P Q S sl hg q
  unfold chkE at hc
  rw [Bool.and_eq_true] at hc
  unfold evE at hg
  refine seqE ha c hc.2 S sl hg fun W1 x h1 w H1 l1 S1 R1 g1 => ?_
  unfold frzV at g1
  split at g1
  · rename_i i
    cases R1 with
    | ref m =>
      split at g1
      · rename_i xs hx
        obtain ⟨p, u, m', hh, ro, l2, S2⟩ := S1.frz hx
        rw [m] at m'
        cases m'
        cases ro with
        | lst r => exact q _ g1 _ _ H1 (l1.trans l2) S2 (.lst upd_same (r.mono l2))
      · rename_i cc fs hx
        obtain ⟨p, u, m', hh, ro, l2, S2⟩ := S1.frz hx
        rw [m] at m'
        cases m'
        cases ro with
        | ins lt r => exact q _ g1 _ _ H1 (l1.trans l2) S2 (.obj lt upd_same (r.mono l2))
      · exact g1.elim
  · exact q _ g1 W1 w H1 l1 S1 R1
  · exact q _ g1 W1 w H1 l1 S1 R1
  · exact g1.elim
theorem snt_frz {a : Ex} (ha : SndT g k s T C a) : SndT g k s T C (.frz a) := by
  intro nm X e c hc as σ W h H P Q S sl hg q
  unfold chkE at hc
  rw [Bool.and_eq_true] at hc
  unfold evE at hg
  refine ha nm X e c hc.2 as σ W h H (fun _ => False) Q S sl (M.T.good_mono (fun r hr => ?_) (bindM_good.mp hg)) fun r hr => hr.elim
  unfold frzV at hr
  split at hr
  · split at hr
    · obtain ⟨b, e, _⟩ := q _ hr
      cases e
    · obtain ⟨b, e, _⟩ := q _ hr
      cases e
    · exact hr
  · obtain ⟨b, e, _⟩ := q _ hr
    cases e
  · obtain ⟨b, e, _⟩ := q _ hr
    cases e
  · exact hr
end
end M
end

section
set_option Elab.async false
set_option linter.all false
set_option maxRecDepth 100000
set_option maxHeartbeats 1000000
/-! M10: calls, built-in calls, isinstance, methods of lists, comprehensions, sources; all expressions together. -/
namespace M
open PySem PySem.Spec PyProof.Rows L2

section
variable {g : Ga} {k : Nat} {s : Si} {T : Tb} {C : Nat → List Val → Mo Val} {fa : Nat → Addr} {ar : Nat → Nat}
theorem snd_call (tb : TbOk g k s T C fa ar) {n : Nat} {es : Es} (hs : SndEs g k s T C es) : SndE g k s T C (.call n es) := by
  intro nm X e c hc as σ W h H P Q S sl hg q
  unfold chkE at hc
  split at hc
  · rename_i fn es' p
    rw [Bool.and_eq_true] at hc
    obtain ⟨y, pp, rfl, e1, h1, h2⟩ := glob_shape hc.1
    obtain ⟨m1, m2⟩ := tb.fns n y e1 (okN2 h2)
    unfold evE at hg
    refine we_callv c h1 h2 m1 m2 hc.2 (seqEs hs c hc.2 S sl hg fun W1 vs h1 ws H1 l1 S1 R1 g1 => ?_)
    intro pins sh us I rr
    refine call_fok (c.mono (Nat.le_succ k)) (tb.fok n) I ?_ rr ⟨W1, h1, vs, P, S1, R1, g1, fun r pr => (q r pr).le l1⟩
    rw [← rr.length, ← R1.length]
    exact tb.arg _ _ _ _ g1
  · cases hc
theorem snd_callk (tb : TbOk g k s T C fa ar) {n : Nat} {es : Es} {x : Ex} (hs : SndEs g k s T C es) (hx : SndE g k s T C x) : SndE g k s T C (.callk n es x) := by
  intro nm X e c hc as σ W h H P Q S sl hg q
  unfold chkE at hc
  split at hc
  · rename_i fn es' y e' kp p
    simp only [Bool.and_eq_true, decide_eq_true_eq, Bool.not_eq_true', List.isEmpty_eq_false_iff] at hc
    obtain ⟨⟨⟨⟨⟨c1, c2⟩, c3⟩, c4⟩, c5⟩, c6⟩ := hc
    obtain ⟨y0, pp, rfl, e1, h1, h2⟩ := glob_shape c1
    obtain ⟨m1, m2⟩ := tb.fns n y0 e1 (okN2 h2)
    unfold evE at hg
    cases es' with
    | nil => exact absurd rfl c4
    | cons a es' =>
      refine we_callk c h1 h2 m1 m2 c5 (seqEs hs c c5 S sl hg fun W1 vs h1 ws H1 l1 S1 R1 g1 => ?_).1
      refine seqE hx c c6 S1 (sl.mono l1) g1 fun W2 v h2 w H2 l2 S2 R2 g2 => ?_
      intro pins sh us u I rr ru
      refine call_fokk (c.mono (Nat.le_succ k)) (tb.fokk n y c2 c3) I ?_ (rr.append (.cons ru .nil)) ⟨W2, h2, vs ++ [v], P, S2, (R1.mono l2).append (.cons R2 .nil), g2, fun r pr => (q r pr).le (l1.trans l2)⟩
      rw [← rr.length, ← R1.length]
      have := tb.arg _ _ _ _ g2
      simpa using this
  · cases hc
theorem frz_good {W : Wd} {h : VH} {H : Hp} {x : Val} {w : V} {P : Val × VH → Prop} (S : Sim g W h H) (r : Rep g W x w) (hp : (frzV T x h).Good P) : ∃ W2 v h2, W.le W2 ∧ Sim g W2 h2 H ∧ Rep g W2 v w ∧ P (v, h2) := by
  cases r with
  | @ref i a m =>
    have hp : (match h.get i with
      | some (.lst xs) => .ret (.lst xs, h.erase i)
      | some (.ins c fs) => .ret (.obj c fs, h.erase i)
      | _ => .stuck : M.T (Val × VH)).Good P := hp
    split at hp
    · rename_i xs hx
      obtain ⟨p, u, m', hh, ro, l, S2⟩ := S.frz hx
      rw [m] at m'
      cases m'
      cases ro with
      | lst r => exact ⟨_, _, _, l, S2, .lst upd_same (r.mono l), hp⟩
    · rename_i cc fs hx
      obtain ⟨p, u, m', hh, ro, l, S2⟩ := S.frz hx
      rw [m] at m'
      cases m'
      cases ro with
      | ins lt r => exact ⟨_, _, _, l, S2, .obj lt upd_same (r.mono l), hp⟩
    · exact hp.elim
  | tup t r => exact ⟨W, _, _, .rfl', S, .tup t r, hp⟩
  | lst t r => exact ⟨W, _, _, .rfl', S, .lst t r, hp⟩
  | _ => exact False.elim hp
theorem snd_mk (tb : TbOk g k s T C fa ar) {m : Bool} {n : Nat} {es : Es} (hs : SndEs g k s T C es) : SndE g k s T C (.mk m n es) := by
  intro nm X e c hc as σ W h H P Q S sl hg q
  unfold chkE at hc
  split at hc
  · rename_i fn es' p
    rw [Bool.and_eq_true] at hc
    obtain ⟨y, pp, rfl, e1, h1, h2⟩ := glob_shape hc.1
    obtain ⟨lt, m1, m2⟩ := tb.cls n y e1 (okN2 h2)
    unfold evE at hg
    refine we_callv c h1 h2 m1 m2 hc.2 (seqEs hs c hc.2 S sl hg fun W1 vs h1 ws H1 l1 S1 R1 g1 => ?_)
    unfold mkV at g1
    split at g1
    · rename_i k0 fz ms eq fl hcls
      have mk := tb.mak n k0 fz ms eq fl hcls
      have g2 := M.T.good_bind.mp g1
      have hl := tb.arg _ _ _ _ g2
      intro pins sh us I rr
      refine make_fok c mk (tb.fok k0) I (by rw [← rr.length, ← R1.length]; exact hl) rr fun x dx hx hdx ne => ?_
      have hx' : upd H1 dx (.own x) x = none := by
        rw [upd_ne (Ne.symm ne)]
        exact hx
      have S2 := S1.put (o := .own x) hdx
      have l2 := Wd.put_le (o := .own x) (S1.free hdx)
      have l3 := Wd.lay_le (p := x) (S2.nx h1.next (Nat.le_refl _))
      have S3 := S2.lay (o := .ins n []) (u := .ins (g.cls n) dx []) hx' (.ins ⟨by rw [tb.nc]; exact lt, fun _ z => nomatch z⟩ .nil)
      have l4 := l1.trans (l2.trans l3)
      have rx : Rep g ((W1.put dx (.own x)).lay h1.next x) (.ref h1.next) (.ref x) := .ref (by
        show (if h1.next = h1.next then some x else _) = some x
        rw [if_pos rfl])
      refine ⟨_, _, _, _, S3, .cons rx (R1.mono (l2.trans l3)), g2, fun r pr W4 w H4 l5 S4 R4 => ?_⟩
      have pr : (match r.1 with
        | .non => if (fz && !m) = true then frzV T (.ref h1.next) r.2 else M.T.ret (.ref h1.next, r.2)
        | _ => .stuck).Good P := pr
      split at pr
      · rename_i e0
        rw [e0] at R4
        cases R4
        refine ⟨rfl, ?_⟩
        have rx' := rx.mono l5
        split at pr
        · obtain ⟨W5, v, h5, l6, S5, R5, p5⟩ := frz_good S4 rx' pr
          exact q _ p5 W5 _ H4 (l4.trans (l5.trans l6)) S5 R5
        · exact q _ pr W4 _ H4 (l4.trans l5) S4 rx'
      · exact pr.elim
    · exact g1.elim
  · cases hc
theorem clsOf_at {W : Wd} {h : VH} {H : Hp} (S : Sim g W h H) {x : Val} {w : V} {c : Nat} (r : Rep g W x w) (e : clsOf h x = some c) : c < g.nc ∧ ∃ a dx fs gs, w = .ref a ∧ H a = some (.ins (g.cls c) dx gs) ∧ RepF g W fs gs ∧ ∀ p ∈ fs, g.has c p.1 = true := by
  unfold clsOf at e
  split at e
  · cases e
    cases r with
    | obj lt t rr => exact ⟨lt.1, _, _, _, _, rfl, S.sub _ _ t, rr, lt.2⟩
  · rename_i i
    cases r with
    | ref m =>
      split at e
      · rename_i cc fs hg
        cases e
        obtain ⟨a, u, m', n, np, hh, ro⟩ := S.ob _ _ hg
        rw [m] at m'
        cases m'
        cases ro with
        | ins lt rr => exact ⟨lt.1, _, _, _, _, rfl, hh, rr, lt.2⟩
      · cases e
  · cases e
theorem snd_meth (tb : TbOk g k s T C fa ar) {a : Ex} {n : Nat} {es : Es} (ha : SndE g k s T C a) (hs : SndEs g k s T C es) : SndE g k s T C (.meth a n es) := by
  intro nm X e c hc as σ W h H P Q S sl hg q
  unfold chkE at hc
  split at hc
  · rename_i a' m' ap es' p
    simp only [Bool.and_eq_true, decide_eq_true_eq] at hc
    obtain ⟨⟨⟨⟨⟨c1, c2⟩, c3⟩, c4⟩, c5⟩, c6⟩ := hc
    unfold evE at hg
    refine we_methv c c1 c4 c3 c6 (seqE ha c c5 S sl hg fun W1 x h1 w H1 l1 S1 R1 g1 => ?_)
    split at g1
    · rename_i k0 ek
      obtain ⟨cc, e1, e2⟩ := bind_some ek
      obtain ⟨lt, a, dx, fs, gs, rfl, hh, rf, hhas⟩ := clsOf_at S1 R1 e1
      obtain ⟨mt, nf⟩ := tb.meth cc n k0 m' e2 c2
      refine ⟨a, _, dx, gs, fa k0, rfl, hh, rf.lookup_none tb.ga.inj (fun p hp => nf p.1 (hhas p hp)), by rw [c.K]; exact tb.ga.cls cc lt, by rw [c.K]; exact mt, ?_⟩
      refine seqEs hs c c6 S1 (sl.mono l1) g1 fun W2 vs h2 ws H2 l2 S2 R2 g2 => ?_
      intro pins sh us I rr
      cases rr with
      | cons r1 r2 =>
        have hl := tb.arg _ _ _ _ g2
        refine call_fok (c.mono (Nat.le_succ k)) (tb.fok k0) I ?_ (.cons r1 r2) ⟨W2, h2, x :: vs, P, S2, .cons (R1.mono l2) R2, g2, fun r pr => (q r pr).le (l1.trans l2)⟩
        rw [List.length_cons] at hl ⊢
        rw [← r2.length, ← R2.length]
        exact hl
    · exact g1.elim
  · cases hc
theorem snd_bi (tb : TbOk g k s T C fa ar) {m : Bool} {b : Bi} {es : Es} (hs : SndEs g k s T C es) : SndE g k s T C (.bi m b es) := by
  intro nm X e c hc as σ W h H P Q S sl hg q
  unfold chkE at hc
  split at hc
  · rename_i fn es' p
    simp only [Bool.and_eq_true] at hc
    obtain ⟨⟨c1, c2⟩, c3⟩ := hc
    obtain ⟨y, pp, rfl, e1, h1, h2⟩ := glob_shape c1
    cases e1
    have hb := tb.bis b (List.contains_iff_mem.mp c2)
    unfold evE at hg
    have key := seqEs (Q := fun ws H1 => callq X (biF b) ws H1 Q) hs c c3 S sl hg fun W1 vs h1 ws H1 l1 S1 R1 g1 => by
      split at g1
      · rename_i r er
        rw [out_eq] at g1
        exact biV_ok c.K c.calm c.gd c.room.units S1 R1 er ((q _ g1).le l1)
      · exact g1.elim
    cases es' with
    | nil =>
      exfalso
      cases es with
      | nil =>
        unfold evEs at hg
        have hg : (match biV h b [] with
          | some r => out m r h
          | none => .stuck).Good P := hg
        split at hg
        · rename_i er
          unfold biV at er
          cases b <;> simp at er
        · exact hg
      | cons e r =>
        unfold chkEs at c3
        cases c3
    | cons e es' =>
      refine we_callb c ?_ h1 h2 hb c3 key.1
      cases b <;> first | exact .inl ⟨_, rfl⟩ | exact .inr ⟨_, rfl⟩
  · cases hc

/-! ### isinstance -/
theorem we_ty (tb : TbOk g k s T C fa ar) {nm : Nms} {X : Cx} (c : CxOk g (k + 1) s nm X) {t : Ty} {e : Expr} (h : tyB s nm t e = true) {σ : L2.St} {H : Hp} {Q : VK} (q : Q (tyW g t) H) : we X e σ H Q ∧ ClsV (tyW g t) (tyV' g t) ∧ starE e = false ∧ ∀ c, t = .own c → c < g.nc := by
  have bl : ∀ {x : Str} {n : String}, glob? nm e (some x) = true → g.mg x = none → bootBuiltins x = some (.type n) → Q (.ty n) H → we X e σ H Q ∧ starE e = false := fun {x n} h hm hv q => by
    obtain ⟨y, p, rfl, e1, h1, h2⟩ := glob_shape h
    cases e1
    obtain ⟨n1, _, n3⟩ := okN1 h2
    exact ⟨(pe_bltn (c.gl h1) (by rw [c.mg]; exact hm) hv (show L2.RelV (.ty n) (.type n) from rfl) n3 n1).we' q, rfl⟩
  obtain ⟨m1, m2, m3, m4, m5, m6⟩ := tb.tys
  cases t with
  | int => exact ⟨(bl h m1 boot_int q).1, .ty _, (bl h m1 boot_int q).2, fun _ z => nomatch z⟩
  | bool => exact ⟨(bl h m2 boot_bool q).1, .ty _, (bl h m2 boot_bool q).2, fun _ z => nomatch z⟩
  | str => exact ⟨(bl h m3 boot_str q).1, .ty _, (bl h m3 boot_str q).2, fun _ z => nomatch z⟩
  | tuple => exact ⟨(bl h m4 boot_tuple q).1, .ty _, (bl h m4 boot_tuple q).2, fun _ z => nomatch z⟩
  | list => exact ⟨(bl h m5 boot_list q).1, .ty _, (bl h m5 boot_list q).2, fun _ z => nomatch z⟩
  | dict => exact ⟨(bl h m6 boot_dict q).1, .ty _, (bl h m6 boot_dict q).2, fun _ z => nomatch z⟩
  | own cc =>
    unfold tyB at h
    obtain ⟨y, p, rfl, e1, h1, h2⟩ := glob_shape h
    obtain ⟨lt, a1, a2⟩ := tb.cls cc y e1 (okN2 h2)
    exact ⟨(pe_glob (c.gl h1) (by rw [c.mg]; exact a1) (show L2.RelV (.ref (g.cls cc)) (.ref (g.cls cc)) from rfl) (okN1 h2).1).we' q, .own _, rfl, fun d z => by cases z; rw [tb.nc]; exact lt⟩
theorem wa_tys (tb : TbOk g k s T C fa ar) {nm : Nms} {X : Cx} (c : CxOk g (k + 1) s nm X) {σ : L2.St} {H : Hp} : ∀ {ts : List Ty} {es : List Expr}, tysB s nm ts es = true → ∀ {Q : List V → Hp → Prop}, Q (ts.map (tyW g)) H →
    wa X es σ H Q ∧ Paired ClsV (ts.map (tyW g)) (ts.map (tyV' g)) ∧ ∀ u ∈ ts, ∀ c, u = .own c → c < g.nc
  | [], [], _, Q, q => ⟨pa_nil.wa' q, .nil, fun _ z => nomatch z⟩
  | t :: ts, e :: es, h, Q, q => by
    unfold tysB at h
    rw [Bool.and_eq_true] at h
    obtain ⟨_, h2, h3, h4⟩ := we_ty (σ := σ) (H := H) (Q := fun _ _ => True) tb c h.1 trivial
    obtain ⟨_, i2, i3⟩ := wa_tys (σ := σ) (H := H) (Q := fun _ _ => True) tb c h.2 trivial
    refine ⟨(pa_cons pe_we pa_wa (star_cons h3)).wa' ?_, .cons h2 i2, fun u hu => ?_⟩
    · exact (we_ty (Q := fun x H1 => wa X es σ H1 fun xs H2 => Q (x :: xs) H2) tb c h.1 (wa_tys (Q := fun xs H2 => Q (tyW g t :: xs) H2) tb c h.2 q).1).1
    · rcases List.mem_cons.mp hu with z | z
      · rw [z]; exact h4
      · exact i3 u z
  | [], _ :: _, h, _, _ => by
    unfold tysB at h
    cases h
  | _ :: _, [], h, _, _ => by
    unfold tysB at h
    cases h
theorem isin_ty (tb : TbOk g k s T C fa ar) {W : Wd} {h : VH} {H : Hp} (S : Sim g W h H) {x : Val} {w : V} {ts : List Ty} {b : Bool} (r : Rep g W x w) (e : isinV h x ts = some b) (hts : ∀ u ∈ ts, ∀ c, u = .own c → c < g.nc) :
    ∃ t, TyX g.K H w t ∧ PySem.W.kitAny g.K t (ts.map (tyV' g)) = some b ∧ (∀ u, ts = [u] → PySem.W.kitOne g.K t (tyV' g u) = some b) := by
  unfold isinV at e
  split at e
  · cases e
    cases r
    refine ⟨_, .base .non, kitAnyN_ok tb.ga ts hts, fun u hu => ?_⟩
    subst hu
    exact tb.ga.kitN u (hts u List.mem_cons_self)
  · obtain ⟨t, e1, e2⟩ := map_some e
    obtain ⟨h1, h2⟩ := Rep.tyx tb.ga S r e1
    refine ⟨_, h1, by rw [kitAny_ok tb.ga h2 ts hts, e2], fun u hu => ?_⟩
    subst hu
    rw [tb.ga.kit t u h2 (hts u List.mem_cons_self)]
    rw [← e2]
    simp
theorem star1 {a b : Expr} {env : PySem.Env} {pos : Pos} (h1 : starE a = false) (h2 : starE b = false) : starEach [a, b] env = (false, eval a env) :: starEach [b] env ∧ (backTo pos (starEach [b] env)).any (·.1) = false := by
  refine ⟨star_cons h1, ?_⟩
  rw [star_cons h2]
  rfl
theorem we_isin (tb : TbOk g k s T C fa ar) {nm : Nms} {X : Cx} (c : CxOk g (k + 1) s nm X) {x : Str} {p pos : Pos} {a b : Expr} {σ : L2.St} {H : Hp} {Q : VK} (hx : x = "isinstance") (hg : glB nm x = true) (hk : okN x = true) (s1 : starE a = false) (s2 : starE b = false)
    (q : we X a σ H fun v H1 => we X b σ H1 fun u H2 => callq X (.builtin "isinstance") [v, u] H2 Q) : we X (.Call (.Name x p) [a, b] [] pos) σ H Q := by
  subst hx
  obtain ⟨n1, _, n3⟩ := okN1 hk
  have ha : wa X [a, b] σ H fun vs H1 => callq X (.builtin "isinstance") vs H1 Q := (pa_cons pe_we (pa_cons pe_we pa_nil (star_cons s2)) (star_cons s1)).wa' q
  intro pins sh I
  refine wpAny_Call_Name_kw (ld_blt I (c.gl hg) (by rw [c.mg]; exact tb.isi) boot_isinstance ?_ n3 n1)
  exact PyProof.Rows.callWith_builtin1 (thn (ha pos pins sh I) fun us s1 ⟨vs, H1, I1, r1, q1⟩ => callq_R pins s1 σ H1 vs us Q I1 r1 q1) (star1 (pos := pos) s1 s2).1 (star1 s1 s2).2
theorem snd_isin (tb : TbOk g k s T C fa ar) {a : Ex} {ts : List Ty} (ha : SndE g k s T C a) : SndE g k s T C (.isin a ts) := by
  intro nm X e c hc as σ W h H P Q S sl hg q
  unfold chkE at hc
  unfold evE at hg
  split at hc
  · rename_i fn a' ts' p1 p2 p3
    simp only [Bool.and_eq_true] at hc
    obtain ⟨y, pp, rfl, e1, h1, h2⟩ := glob_shape hc.1.1.1
    cases e1
    refine we_isin tb c rfl h1 h2 (chk_shape hc.1.1.2).1 rfl (seqE ha c hc.1.1.2 S sl hg fun W1 x h1 w H1 l1 S1 R1 g1 => ?_)
    split at g1
    · rename_i r er
      refine (pe_tup pa_wa).we' ?_
      obtain ⟨_, i2, i3⟩ := wa_tys (σ := σ) (H := H1) (Q := fun _ _ => True) tb c hc.2 trivial
      refine (wa_tys tb c hc.2 ⟨?_, fun p hp => ?_⟩).1
      · rw [List.length_map]
        exact sz_line (decide_eq_true (by have := of_decide_eq_true hc.1.2; omega))
      · have l2 := Wd.put_le (o := .tup (ts.map (tyW g))) (S1.free hp)
        obtain ⟨t, t1, t2, _⟩ := isin_ty tb (S1.put hp) (R1.mono l2) er i3
        exact ⟨_, call_isiT, w, p, _, t, _, r, rfl, upd_same, i2, by rw [c.K]; exact t1, by rw [c.K]; exact t2, q _ g1 _ _ _ (l1.trans l2) (S1.put hp) (.bl r)⟩
    · exact g1.elim
  · rename_i fn a' t' p1 p2 nt
    simp only [Bool.and_eq_true] at hc
    obtain ⟨y, pp, rfl, e1, h1, h2⟩ := glob_shape hc.1.1
    cases e1
    split at hc
    · rename_i t
      obtain ⟨_, i2, i3, i4⟩ := we_ty (σ := σ) (H := H) (Q := fun _ _ => True) tb c hc.2 trivial
      refine we_isin tb c rfl h1 h2 (chk_shape hc.1.2).1 i3 (seqE ha c hc.1.2 S sl hg fun W1 x h1 w H1 l1 S1 R1 g1 => ?_)
      split at g1
      · rename_i r er
        obtain ⟨t, t1, _, t2⟩ := isin_ty tb S1 R1 er (fun u hu => by cases List.mem_singleton.mp hu; exact i4)
        refine (we_ty tb c hc.2 ?_).1
        exact ⟨_, call_isi, w, _, t, _, r, rfl, i2, by rw [c.K]; exact t1, by rw [c.K]; exact t2 _ rfl, q _ g1 W1 _ H1 l1 S1 (.bl r)⟩
      · exact g1.elim
    · simp at hc
  · cases hc

/-! ### methods of lists -/
theorem isL_ty {W : Wd} {h : VH} {H : Hp} (S : Sim g W h H) {x : Val} {w : V} (r : Rep g W x w) (e : isL h x = true) : tyV g.K "list" w H := by
  unfold isL at e
  split at e
  · cases r with
    | lst t _ => exact .inl ⟨rfl, _, .of (S.sub _ _ t)⟩
  · cases r with
    | scr t => exact .inl ⟨rfl, _, S.sqL t⟩
  · rename_i i
    cases r with
    | ref m =>
      split at e
      · rename_i xs hg
        obtain ⟨a, u, m', n, np, hh, ro⟩ := S.ob _ _ hg
        rw [m] at m'
        cases m'
        cases ro with
        | lst rr => exact .inl ⟨rfl, _, .of hh⟩
      · cases e
  · cases e
theorem get_lst {W : Wd} {h : VH} {H : Hp} (S : Sim g W h H) {i : Nat} {a : Addr} {xs : List Val} (m : W.m i = some a) (e : h.get i = some (.lst xs)) : ∃ ys, H a = some (.lst ys) ∧ Reps g W xs ys := by
  obtain ⟨a', u, m', n, np, hh, ro⟩ := S.ob _ _ e
  rw [m] at m'
  cases m'
  cases ro with
  | lst rr => exact ⟨_, hh, rr⟩
def LmOk (g : Ga) (X : Cx) (id : String) (f : Val → List Val → Mo Val) : Prop := ∃ r, MtR X id r ∧ ∀ (W : Wd) (h : VH) (H : Hp) (x : Val) (w : V) (vs : List Val) (ws : List V) (P : Val × VH → Prop) (Q : VK), Sim g W h H → Rep g W x w → Reps g W vs ws → (f x vs h).Good P → (∀ r, P r → Want g W r Q) → r w ws H Q
section
variable {X : Cx}
theorem lm_append : LmOk g X "list.append" lmAppend := by
  refine ⟨_, mt_append, fun W h H x w vs ws P Q S r rs hg q => ?_⟩
  unfold lmAppend at hg
  split at hg
  · rename_i i y
    cases r with
    | ref m =>
      cases rs with
      | cons r1 r2 =>
        cases r2
        split at hg
        · rename_i xs hx
          split at hg
          · rename_i hz
            obtain ⟨ys, hh, rr⟩ := get_lst S m hx
            refine ⟨_, ys, _, rfl, rfl, hh, ?_, ?_⟩
            · rw [← rr.length]
              exact Nat.lt_of_le_of_lt (sz_le hz) line6
            · exact q _ hg W _ _ .rfl' (S.set hx m (.lst (rr.append (.cons r1 .nil)))) .non
          · exact hg.elim
        · exact hg.elim
  · exact hg.elim
theorem lm_extend : LmOk g X "list.extend" lmExtend := by
  refine ⟨_, mt_extend, fun W h H x w vs ws P Q S r rs hg q => ?_⟩
  unfold lmExtend at hg
  split at hg
  · rename_i i y
    cases r with
    | ref m =>
      cases rs with
      | cons r1 r2 =>
        cases r2
        split at hg
        · rename_i xs hx
          split at hg
          · rename_i hz
            obtain ⟨us, hh, rr⟩ := get_lst S m hx
            cases r1 with
            | lst t1 rr1 =>
              refine ⟨_, _, us, _, rfl, rfl, hh, S.sub _ _ t1, ?_, ?_⟩
              · rw [← rr.length, ← rr1.length]
                exact sz_line hz
              · exact q _ hg W _ _ .rfl' (S.set hx m (.lst (rr.append rr1))) .non
          · exact hg.elim
        · exact hg.elim
  · exact hg.elim
theorem lm_pop : LmOk g X "list.pop" lmPop := by
  refine ⟨_, mt_pop, fun W h H x w vs ws P Q S r rs hg q => ?_⟩
  unfold lmPop at hg
  split at hg
  · rename_i i
    cases r with
    | ref m =>
      cases rs
      split at hg
      · rename_i xs hx
        split at hg
        · rename_i y hy
          obtain ⟨us, hh, rr⟩ := get_lst S m hx
          obtain ⟨u, eu, ru⟩ := rr.get hy
          exact ⟨_, us, u, rfl, rfl, hh, by rw [← rr.length]; exact eu, q _ hg W _ _ .rfl' (S.set hx m (.lst rr.dropLast)) ru⟩
        · exact hg.elim
      · exact hg.elim
  · exact hg.elim
theorem lm_index (K : X.K = g.K) (hu : X.A.units + 65 < cLine) : LmOk g X "list.index" lmIndex := by
  refine ⟨_, mt_indexD hu, fun W h H x w vs ws P Q S r rs hg q => ?_⟩
  unfold lmIndex at hg
  split at hg
  · rename_i y
    cases rs with
    | cons r1 r2 =>
      cases r2
      split at hg
      · rename_i ds d e1 e2
        obtain ⟨xs, ex, ed⟩ := bind_some e1
        split at hg
        · rename_i hs
          rw [Bool.and_eq_true] at hs
          split at hg
          · rename_i j hj
            obtain ⟨a, ys, ew, hq, rr⟩ := lseq_list K S r ex
            subst ew
            obtain ⟨hl, hz, hn⟩ := List.findIdx?_eq_some_iff_getElem.mp hj
            refine ⟨a, _, d, ds, j, ds[j], rfl, rfl, ?_, ?_, hs.1, hs.2, by simp [hl], hz, fun m z hm ez => ?_, q _ hg W _ _ .rfl' S (.int _)⟩
            · rw [K] at hq ⊢
              exact .lst hq (Reps.dp S rr ed)
            · rw [K]
              exact Rep.dp S r1 e2
            · have hml : m < ds.length := (List.getElem?_eq_some_iff.mp ez).1
              have := hn m hm
              rw [List.getElem?_eq_getElem hml] at ez
              cases ez
              simpa using this
          · exact hg.elim
        · exact hg.elim
      · exact hg.elim
  · exact hg.elim
end
theorem snd_lm {a : Ex} {b : Lm} {es : Es} (ha : SndE g k s T C a) (hs : SndEs g k s T C es) : SndE g k s T C (.lm a b es) := by
  intro nm X e c hc as σ W h H P Q S sl hg q
  unfold chkE at hc
  split at hc
  · rename_i a' m' ap es' p
    simp only [Bool.and_eq_true, decide_eq_true_eq] at hc
    obtain ⟨⟨⟨⟨⟨c1, c2⟩, c3⟩, c4⟩, c5⟩, c6⟩ := hc
    subst c2
    unfold evE at hg
    have go : ∀ (id : String) (f : Val → List Val → Mo Val), (lmV b = f) → Slot "list" (lmN b) id → typeOf (.builtin id) = pure (.type "method_descriptor") → LmOk g X id f → we X (.Call (.Attribute a' (lmN b) ap) es' [] p) σ H Q := by
      intro id f ef slot hty ok
      obtain ⟨r, hr, rule⟩ := ok
      have step : we X a' σ H fun x H1 => tyV X.K "list" x H1 ∧ waL X es' σ H1 fun xs H2 => r x xs H2 Q := by
        refine seqE ha c c5 S sl hg fun W1 x h1 w H1 l1 S1 R1 g1 => ?_
        split at g1
        · rename_i hL
          refine ⟨by rw [c.K]; exact isL_ty S1 R1 hL, ?_⟩
          refine seqEs hs c c6 S1 (sl.mono l1) g1 fun W2 vs h2 ws H2 l2 S2 R2 g2 => ?_
          rw [ef] at g2
          exact rule W2 h2 H2 x w vs ws P Q S2 (R1.mono l2) R2 g2 fun r pr => (q r pr).le (l1.trans l2)
        · exact g1.elim
      cases es' with
      | nil => exact (pe_bm0 PySem.F.plainAttrs_list slot hty hr pe_we (no_sup c1) c3).we' (we_mono step fun v H' ⟨t1, t2⟩ => ⟨t1, t2.2 rfl⟩)
      | cons e1 es' =>
        cases es with
        | nil =>
          unfold chkEs at c6
          cases c6
        | cons z zs =>
          have c7 := c6
          unfold chkEs at c7
          rw [Bool.and_eq_true] at c7
          refine (pe_bm PySem.F.plainAttrs_list slot hty hr pe_we pa_wa (no_sup c1) ?_ c3 (star_cons (chk_shape c7.1).1) (star_plain c7.2).1).we' (we_mono step fun v H' ⟨t1, t2⟩ => ⟨t1, t2.1⟩)
          rw [(star_plain c6).2]
          show (true && true && decide ((e1 :: es').length + 0 + 0 < 30)) = true
          rw [decide_eq_true (by omega)]
          rfl
    cases b with
    | append => exact go _ _ rfl PySem.F.slot_list_append PySem.F.type_list_append lm_append
    | extend => exact go _ _ rfl PySem.F.slot_list_extend PySem.F.type_list_extend lm_extend
    | pop => exact go _ _ rfl PySem.F.slot_list_pop PySem.F.type_list_pop lm_pop
    | index => exact go _ _ rfl PySem.F.slot_list_index PySem.F.type_list_index (lm_index c.K (by have := c.room.un; omega))
    | remove => exact go _ _ rfl PySem.F.slot_list_remove PySem.F.type_list_remove ⟨fun _ _ _ _ => False, fun _ _ _ _ _ _ _ _ _ _ _ _ z => z.elim, fun _ _ _ _ _ _ _ _ _ _ _ _ z _ => z⟩
  · cases hc

/-! ### argument lists, parts of slices -/
theorem snd_nil : SndEs g k s T C .nil := by
  intro nm X es c hc as σ W h H P Q S sl hg q
  unfold chkEs at hc
  split at hc
  · unfold evEs at hg
    have := q _ hg W [] H .rfl' S .nil
    exact ⟨pa_nil.wa' this, fun _ => this⟩
  · cases hc
theorem snd_cons {e : Ex} {r : Es} (he : SndE g k s T C e) (hr : SndEs g k s T C r) : SndEs g k s T C (.cons e r) := by
  intro nm X es c hc as σ W h H P Q S sl hg q
  unfold chkEs at hc
  split at hc
  · rename_i y ys
    rw [Bool.and_eq_true] at hc
    unfold evEs at hg
    refine ⟨(pa_cons pe_we pa_wa (star_cons (chk_shape hc.1).1)).wa' ?_, fun z => nomatch z⟩
    refine seqE he c hc.1 S sl hg fun W1 x h1 w H1 l1 S1 R1 g1 => ?_
    refine (seqEs hr c hc.2 S1 (sl.mono l1) g1 fun W2 xs h2 ws H2 l2 S2 R2 g2 => ?_).1
    exact q _ g2 W2 _ H2 (l1.trans l2) S2 (.cons (R1.mono l2) R2)
  · cases hc
theorem snd_none : SndO g k s T C none := by
  intro nm X e c hc as σ W h H P Q S sl hg q
  unfold chkO at hc
  split at hc
  · unfold evO at hg
    exact q _ hg W H .rfl' S
  · cases hc
theorem snd_some {a : Ex} (ha : SndE g k s T C a) : SndO g k s T C (some a) := by
  intro nm X e c hc as σ W h H P Q S sl hg q
  unfold chkO at hc
  split at hc
  · rename_i e
    unfold evO at hg
    show we X e σ H fun x H1 => ∃ i, x = .int i ∧ Q (some i) H1
    refine seqE ha c hc S sl hg fun W1 x h1 w H1 l1 S1 R1 g1 => ?_
    split at g1
    · cases R1
      exact ⟨_, rfl, q _ g1 W1 H1 l1 S1⟩
    · exact g1.elim
  · cases hc

/-! ### x in a list, dict displays -/
theorem inV_ok {W : Wd} {h : VH} {H : Hp} {X : Cx} (K : X.K = g.K) (u : X.A.units + 65 < cLine) (S : Sim g W h H) {x y : Val} {x' y' : V} {b : Bool} (rx : Rep g W x x') (ry : Rep g W y y') (e : inV h x y = some b) :
    (∀ Q : VK, Q (.bl b) H → opq X (compareOp .In) x' y' H Q) ∧ (∀ Q : VK, Q (.bl (!b)) H → opq X (compareOp .NotIn) x' y' H Q) := by
  unfold inV at e
  split at e
  · rename_i ds d e1 e2
    obtain ⟨xs, ex, ed⟩ := bind_some e1
    split at e
    · rename_i hs
      rw [Bool.and_eq_true] at hs
      cases e
      obtain ⟨a, ys, rfl, hq, rr⟩ := lseq_list K S ry ex
      have p1 : Dp X.K H x' d := by
        rw [K]
        exact Rep.dp S rx e2
      have p2 : Dp X.K H (.ref a) (.list ds) := by
        rw [K] at hq ⊢
        exact .lst hq (Reps.dp S rr ed)
      exact ⟨fun Q q => ⟨_, op_inD u, d, ds, p1, p2, hs.1, hs.2, q⟩, fun Q q => ⟨_, op_notInD u, d, ds, p1, p2, hs.1, hs.2, q⟩⟩
    · cases e
  · cases e
theorem snd_inl {neg : Bool} {a b : Ex} (ha : SndE g k s T C a) (hb : SndE g k s T C b) : SndE g k s T C (.inl neg a b) := by
  intro nm X e c hc as σ W h H P Q S sl hg q
  unfold chkE at hc
  split at hc
  · rename_i a' op' b' p
    simp only [Bool.and_eq_true] at hc
    obtain ⟨⟨c1, c2⟩, c3⟩ := hc
    unfold evE at hg
    have go : ∀ op, (∀ (W1 : Wd) (h1 : VH) (H1 : Hp) (x y : Val) (w u : V) (r : Bool) (Q : VK), Sim g W1 h1 H1 → Rep g W1 x w → Rep g W1 y u → inV h1 x y = some r → Q (.bl (if neg then !r else r)) H1 → opq X (compareOp op) w u H1 Q) → we X (.Compare a' [op] [b'] p) σ H Q := by
      intro op rule
      refine (pe_cmpR opq_R pe_we pe_we (no_set (chk_shape c3).2.2)).we' ?_
      refine seqE ha c c2 S sl hg fun W1 x h1 w H1 l1 S1 R1 g1 => ?_
      refine seqE hb c c3 S1 (sl.mono l1) g1 fun W2 y h2 u H2 l2 S2 R2 g2 => ?_
      split at g2
      · rename_i r er
        exact rule W2 h2 H2 x y w u r Q S2 (R1.mono l2) R2 er (q _ g2 W2 _ H2 (l1.trans l2) S2 (.bl _))
      · exact g2.elim
    have un : X.A.units + 65 < cLine := by have := c.room.un; omega
    split at c1
    · refine go _ fun W1 h1 H1 x y w u r Q S1 rx ry er q => ?_
      have hn : neg = false := by simpa using c1
      subst hn
      exact (inV_ok c.K un S1 rx ry er).1 Q q
    · refine go _ fun W1 h1 H1 x y w u r Q S1 rx ry er q => ?_
      subst c1
      exact (inV_ok c.K un S1 rx ry er).2 Q q
    · cases c1
  · cases hc
theorem snt_inl {neg : Bool} {a b : Ex} (ha : SndE g k s T C a) (hb : SndE g k s T C b) : SndT g k s T C (.inl neg a b) := by
  intro nm X e c hc as σ W h H P Q S sl hg q
  unfold chkE at hc
  split at hc
  · rename_i a' op' b' p
    simp only [Bool.and_eq_true] at hc
    obtain ⟨⟨c1, c2⟩, c3⟩ := hc
    unfold evE at hg
    have go : ∀ op, (∀ (W1 : Wd) (h1 : VH) (H1 : Hp) (x y : Val) (w u : V) (r : Bool) (Q : VK), Sim g W1 h1 H1 → Rep g W1 x w → Rep g W1 y u → inV h1 x y = some r → Q (.bl (if neg then !r else r)) H1 → opq X (compareOp op) w u H1 Q) → wt X (.Compare a' [op] [b'] p) σ H Q := by
      intro op rule
      refine (pt_cmpR opq_R pe_we pe_we (no_set (chk_shape c3).2.2)).wt' ?_
      refine seqE ha c c2 S sl hg fun W1 x h1 w H1 l1 S1 R1 g1 => ?_
      refine seqE hb c c3 S1 (sl.mono l1) g1 fun W2 y h2 u H2 l2 S2 R2 g2 => ?_
      split at g2
      · rename_i r er
        obtain ⟨d, ed, wd⟩ := q _ g2
        have ed : (if neg = true then !r else r) = d := by cases ed; rfl
        exact rule W2 h2 H2 x y w u r _ S2 (R1.mono l2) R2 er ⟨d, by rw [ed], wd W2 H2 (l1.trans l2) S2⟩
      · exact g2.elim
    have un : X.A.units + 65 < cLine := by have := c.room.un; omega
    split at c1
    · refine go _ fun W1 h1 H1 x y w u r Q S1 rx ry er q => ?_
      have hn : neg = false := by simpa using c1
      subst hn
      exact (inV_ok c.K un S1 rx ry er).1 Q q
    · refine go _ fun W1 h1 H1 x y w u r Q S1 rx ry er q => ?_
      subst c1
      exact (inV_ok c.K un S1 rx ry er).2 Q q
    · cases c1
  · cases hc
/-- the pairs of a display -/
def trsOf (X : Cx) : List L2.Key → List Expr → List (TE × TE)
  | k :: ks, e :: es => (tC (kV k), we X e) :: trsOf X ks es
  | _, _ => []
theorem pps_trs {X : Cx} {pos : Pos} : ∀ {ks : List L2.Key} {keys : List (Option Expr)} {vs : List Expr}, keysB ks keys = true → keys.length = vs.length → PPs X pos keys vs (trsOf X ks vs)
  | [], [], [], _, _ => pps_nil
  | .inl i :: ks, some (.Constant (.int j) _ _) :: keys, v :: vs, h, hl => by
    unfold keysB at h
    rw [Bool.and_eq_true] at h
    have e : i = j := of_decide_eq_true h.1
    subst e
    exact pps_cons pe_int pe_we (pps_trs h.2 (Nat.succ.inj hl))
  | .inr i :: ks, some (.Constant (.str j) _ _) :: keys, v :: vs, h, hl => by
    unfold keysB at h
    rw [Bool.and_eq_true] at h
    have e : i = j := of_decide_eq_true h.1
    subst e
    exact pps_cons pe_str pe_we (pps_trs h.2 (Nat.succ.inj hl))
  | [], _ :: _, _, h, _ => by simp [keysB] at h
  | k :: ks, [], _, h, _ => by cases k <;> simp [keysB] at h
  | _, [], _ :: _, _, hl => by cases hl
  | _, _ :: _, [], _, hl => by cases hl
  | .inl i :: ks, e :: keys, v :: vs, h, hl => by
    unfold keysB at h
    split at h
    · rename_i z1 z2
      cases z2
    · rename_i z1 z2
      cases z1
      cases z2
      rw [Bool.and_eq_true] at h
      have e : i = _ := of_decide_eq_true h.1
      subst e
      exact pps_cons pe_int pe_we (pps_trs h.2 (Nat.succ.inj hl))
    · rename_i z1 z2
      cases z1
    · cases h
  | .inr i :: ks, e :: keys, v :: vs, h, hl => by
    unfold keysB at h
    split at h
    · rename_i z1 z2
      cases z2
    · rename_i z1 z2
      cases z1
    · rename_i z1 z2
      cases z1
      cases z2
      rw [Bool.and_eq_true] at h
      have e : i = _ := of_decide_eq_true h.1
      subst e
      exact pps_cons pe_str pe_we (pps_trs h.2 (Nat.succ.inj hl))
    · cases h
theorem keysB_all : ∀ {ks : List L2.Key} {keys : List (Option Expr)}, keysB ks keys = true → keys.all (·.isSome) = true ∧ keys.length = ks.length
  | [], [], _ => ⟨rfl, rfl⟩
  | [], _ :: _, h => by simp [keysB] at h
  | k :: ks, [], h => by cases k <;> simp [keysB] at h
  | k :: ks, e :: keys, h => by
    unfold keysB at h
    split at h
    · rename_i z1 z2
      cases z2
    · rename_i z1 z2
      cases z1
      cases z2
      rw [Bool.and_eq_true] at h
      obtain ⟨a, b⟩ := keysB_all h.2
      exact ⟨by rw [List.all_cons, a]; rfl, by rw [List.length_cons, List.length_cons, b]⟩
    · rename_i z1 z2
      cases z1
      cases z2
      rw [Bool.and_eq_true] at h
      obtain ⟨a, b⟩ := keysB_all h.2
      exact ⟨by rw [List.all_cons, a]; rfl, by rw [List.length_cons, List.length_cons, b]⟩
    · cases h
/-- the values of a display, one by one -/
def SndPs (g : Ga) (k : Nat) (s : Si) (T : Tb) (C : Nat → List Val → Mo Val) (m : Es) : Prop := ∀ (nm : Nms) (X : Cx) (es : List Expr), CxOk g (k + 1) s nm X → chkEs s nm m es = true → ∀ (ks : List L2.Key) (a : Sl) (σ : L2.St) (W : Wd) (h : VH) (H : Hp) (P : List Val × VH → Prop) (Q : List (V × V) → Hp → Prop),
  ks.length = es.length → Sim g W h H → Slo g W a σ → (evEs T C a m h).Good P → (∀ r, P r → WantL g W r fun ws H' => Q ((ks.map kV).zip ws) H') → tPairs (trsOf X ks es) σ H Q
theorem snp_nil : SndPs g k s T C .nil := by
  intro nm X es c hc ks as σ W h H P Q hl S sl hg q
  unfold chkEs at hc
  split at hc
  · cases ks with
    | nil =>
      unfold evEs at hg
      exact q _ hg W [] H .rfl' S .nil
    | cons k ks => cases hl
  · cases hc
theorem snp_cons {e : Ex} {r : Es} (he : SndE g k s T C e) (hr : SndPs g k s T C r) : SndPs g k s T C (.cons e r) := by
  intro nm X es c hc ks as σ W h H P Q hl S sl hg q
  unfold chkEs at hc
  split at hc
  · rename_i y ys
    rw [Bool.and_eq_true] at hc
    cases ks with
    | nil => cases hl
    | cons k0 ks =>
      unfold evEs at hg
      show we X y σ H fun v H2 => tPairs (trsOf X ks ys) σ H2 fun ps H3 => Q ((kV k0, v) :: ps) H3
      refine seqE he c hc.1 S sl hg fun W1 x h1 w H1 l1 S1 R1 g1 => ?_
      refine hr nm X ys c hc.2 ks as σ W1 h1 H1 _ _ (Nat.succ.inj hl) S1 (sl.mono l1) (bindM_good.mp g1) fun rr pr W2 ws H2 l2 S2 R2 => ?_
      exact q _ pr W2 (w :: ws) H2 (l1.trans l2) S2 (.cons (R1.mono l2) R2)
  · cases hc
theorem repK_fold {W : Wd} : ∀ {ks : List L2.Key} {vs : List Val} {ws : List V} {x : List (L2.Key × Val)} {y : List (L2.Key × V)}, Reps g W vs ws → RepK g W x y →
    RepK g W ((ks.zip vs).foldl (fun acc kv => putKV acc kv.1 kv.2) x) (mergeK y (ks.zip ws))
  | [], _, _, _, _, _, h => by simpa [mergeK] using h
  | _ :: _, _, _, _, _, .nil, h => by simpa [mergeK] using h
  | k :: ks, _, _, _, _, .cons r rr, h => by
    rw [List.zip_cons_cons, List.zip_cons_cons, List.foldl_cons]
    show RepK g W _ (mergeK (L2.putK _ k _) (ks.zip _))
    exact repK_fold rr (h.put r)
theorem zip_kV : ∀ (ks : List L2.Key) (ws : List V), (ks.map kV).zip ws = (ks.zip ws).map fun kv => (kV kv.1, kv.2)
  | [], _ => by simp
  | _ :: _, [] => by simp
  | k :: ks, w :: ws => by
    rw [List.map_cons, List.zip_cons_cons, List.zip_cons_cons, List.map_cons, zip_kV ks ws]
theorem snd_dct {ks : List (Sum Int Str)} {es : Es} (hs : SndPs g k s T C es) : SndE g k s T C (.dct ks es) := by
  intro nm X e c hc as σ W h H P Q S sl hg q
  unfold chkE at hc
  split at hc
  · rename_i keys vs p
    simp only [Bool.and_eq_true, decide_eq_true_eq, Bool.not_eq_true'] at hc
    obtain ⟨⟨⟨⟨c1, c2⟩, c4⟩, c5⟩, c3⟩ := hc
    obtain ⟨a1, a2⟩ := keysB_all c1
    unfold evE at hg
    refine (pe_disp (pps_trs c1 c2) a1 c2 (by rintro rfl; rw [List.eq_nil_of_length_eq_zero a2.symm] at c5; cases c5) (by omega)).we' ?_
    intro p hp
    refine hs nm X vs c c3 ks as σ _ h _ _ _ (a2.symm.trans c2) (S.held hp) (sl.mono0 Wd.hold_le0) (bindM_good.mp hg) fun r hr W2 ws H2 l2 S2 R2 => ?_
    obtain ⟨xs, h2⟩ := r
    have ex : W2.x = upd W.x p (.dK []) := l2.x
    have exp : W2.x p = some (.dK []) := by rw [ex, upd_same]
    refine ⟨(S2.xk p _ exp).1, ks.zip ws, zip_kV ks ws, ?_, ?_⟩
    · rw [List.length_zip]
      omega
    · have S3 := S2.hset (o' := .dK (mergeK [] (ks.zip ws))) exp
      have nx : ∀ q v, W.x q = some v → q ≠ p := fun q v z e => by
        obtain ⟨hh, _⟩ := S.xk q v z
        rw [e, hp] at hh
        cases hh
      have rk : RepK g (W2.hold (upd W2.x p (.dK (mergeK [] (ks.zip ws))))) ((ks.zip xs).foldl (fun acc kv => putKV acc kv.1 kv.2) []) (mergeK [] (ks.zip ws)) := (repK_fold R2 .nil).mono0 Wd.hold_le0
      have S4 := S3.hlay (x := W.x) (show upd W2.x p _ p = _ from upd_same) (fun q v z => ⟨by
        show upd W2.x p _ q = some v
        rw [upd_ne (nx q v z), ex, upd_ne (nx q v z)]
        exact z, nx q v z⟩) (.dK rk)
      have l4 : W.le (((W2.hold (upd W2.x p (.dK (mergeK [] (ks.zip ws))))).lay h2.next p).hold W.x) :=
        ⟨Wd.hold_le0.trans (l2.tole0.trans (Wd.hold_le0.trans ((Wd.lay_le (S3.nx h2.next (Nat.le_refl _))).tole0.trans Wd.hold_le0))), rfl⟩
      exact q _ hr _ _ _ l4 S4 (.ref (by
        show (if h2.next = h2.next then some p else _) = some p
        rw [if_pos rfl]))
  · cases hc
end
end M
end

section
set_option Elab.async false
set_option linter.all false
set_option maxRecDepth 100000
set_option maxHeartbeats 1000000
/-! M11: sources, comprehensions; all expressions together. -/
namespace M
open PySem PySem.Spec PyProof.Rows L2

section
variable {g : Ga} {k : Nat} {s : Si} {T : Tb} {C : Nat → List Val → Mo Val} {fa : Nat → Addr} {ar : Nat → Nat}

theorem snx_seq {e : Ex} (he : SndE g k s T C e) : SndX g k s T C (.seq e) := by
  intro nm X e' tg c hc as σ W h H P R S sl hg q
  unfold chkX at hc
  unfold evX at hg
  refine wi_seq (seqE he c hc S sl hg fun W1 x h1 w H1 l1 S1 R1 g1 => ?_)
  split at g1
  · rename_i xs e1
    obtain ⟨a, ys, b, ew, hq, rr⟩ := fseq_at R1 e1
    cases hq with
    | lst t => exact ⟨a, ew, .inl ⟨⟨ys, by rw [c.K]; exact S1.sqL t⟩, q _ g1 W1 H1 _ l1 S1 (repI_list c.K t rr)⟩⟩
    | tup t => exact ⟨a, ew, .inr ⟨⟨ys, by rw [c.K]; exact S1.sqT t⟩, q _ g1 W1 H1 _ l1 S1 (repI_tup c.K t rr)⟩⟩
  · rename_i i e1
    cases R1 with
    | @ref _ a m =>
      split at g1
      · rename_i xs hx
        obtain ⟨ys, hh, rr⟩ := get_lst S1 m hx
        exact ⟨a, rfl, .inl ⟨⟨ys, .of hh⟩, q _ g1 W1 H1 _ l1 S1 (repI_dyn c.K m)⟩⟩
      · exact g1.elim
  · exact g1.elim
theorem okR_ok {i : Int} (h : okR i = true) : -(2 ^ 62) ≤ i ∧ i < 2 ^ 62 := by
  unfold okR at h
  simp only [Bool.and_eq_true, decide_eq_true_eq] at h
  omega
theorem rngU_ok {lo hi : Int} {sv : Sv} (h : rngU lo hi = some sv) : sv = .rng lo 1 (hi - lo).toNat ∧ okR lo = true ∧ okR hi = true := by
  unfold rngU at h
  split at h
  · rename_i e
    rw [Bool.and_eq_true] at e
    cases h
    exact ⟨rfl, e.1, e.2⟩
  · cases h
theorem rngD_ok {lo hi st : Int} {sv : Sv} (h : rngD lo hi st = some sv) : sv = .rng lo (-1) (lo - hi).toNat ∧ okR lo = true ∧ okR hi = true ∧ st = -1 := by
  unfold rngD at h
  split at h
  · rename_i e
    rw [Bool.and_eq_true, Bool.and_eq_true] at e
    cases h
    exact ⟨rfl, e.1.1, e.1.2, of_decide_eq_true e.2⟩
  · cases h
theorem asInt_ok {x : Val} {i : Int} (h : asInt x = some i) : x = .int i := by
  unfold asInt at h
  split at h
  · cases h
    rfl
  · cases h
theorem snx_rng1 (tb : TbOk g k s T C fa ar) {a : Ex} (ha : SndE g k s T C a) : SndX g k s T C (.rng1 a) := by
  intro nm X e tg c hc as σ W h H P R S sl hg q
  unfold chkX at hc
  split at hc
  · rename_i fn a' p
    rw [Bool.and_eq_true] at hc
    obtain ⟨y, pp, rfl, e1, h1, h2⟩ := glob_shape hc.1
    cases e1
    unfold evX at hg
    have sa := star_cons (es := []) (env := X.env) (chk_shape hc.2).1
    refine (pi_range1 (c.gl h1) (by rw [c.mg]; exact tb.rng) (pa_cons pe_we pa_nil sa) sa).wi' ?_
    refine seqE ha c hc.2 S sl hg fun W1 x h1 w H1 l1 S1 R1 g1 => ?_
    obtain ⟨sv, e2, pv⟩ := lift_good.mp g1
    obtain ⟨i, e3, e4⟩ := bind_some e2
    cases asInt_ok e3
    cases R1
    obtain ⟨rfl, o1, o2⟩ := rngU_ok e4
    rw [Int.sub_zero] at pv
    exact ⟨i, rfl, (okR_ok o2).1, (okR_ok o2).2, q _ pv W1 H1 _ l1 S1 repI_rngU⟩
  · cases hc
theorem snx_rng2 (tb : TbOk g k s T C fa ar) {a b : Ex} (ha : SndE g k s T C a) (hb : SndE g k s T C b) : SndX g k s T C (.rng2 a b) := by
  intro nm X e tg c hc as σ W h H P R S sl hg q
  unfold chkX at hc
  split at hc
  · rename_i fn a' b' p
    simp only [Bool.and_eq_true] at hc
    obtain ⟨y, pp, rfl, e1, h1, h2⟩ := glob_shape hc.1.1
    cases e1
    unfold evX at hg
    have sa := star_cons (es := [b']) (env := X.env) (chk_shape hc.1.2).1
    have sb := star_cons (es := []) (env := X.env) (chk_shape hc.2).1
    refine (pi_range2 (c.gl h1) (by rw [c.mg]; exact tb.rng) (pa_cons pe_we (pa_cons pe_we pa_nil sb) sa) (by rw [sa, sb]; rfl) sb).wi' ?_
    refine seqE ha c hc.1.2 S sl hg fun W1 x h1 w H1 l1 S1 R1 g1 => ?_
    refine seqE hb c hc.2 S1 (sl.mono l1) g1 fun W2 y h2 u H2 l2 S2 R2 g2 => ?_
    obtain ⟨sv, e2, pv⟩ := lift_good.mp g2
    obtain ⟨i, e3, e4⟩ := bind_some e2
    obtain ⟨j, e5, e6⟩ := bind_some e4
    cases asInt_ok e3
    cases asInt_ok e5
    cases R1
    cases R2
    obtain ⟨rfl, o1, o2⟩ := rngU_ok e6
    exact ⟨i, j, rfl, ⟨(okR_ok o1).1, (okR_ok o1).2, (okR_ok o2).1, (okR_ok o2).2⟩, q _ pv W2 H2 _ (l1.trans l2) S2 repI_rngU⟩
  · cases hc
theorem snx_rng3 (tb : TbOk g k s T C fa ar) {a b d : Ex} (ha : SndE g k s T C a) (hb : SndE g k s T C b) (hd : SndE g k s T C d) : SndX g k s T C (.rng3 a b d) := by
  intro nm X e tg c hc as σ W h H P R S sl hg q
  unfold chkX at hc
  split at hc
  · rename_i fn a' b' d' p
    simp only [Bool.and_eq_true] at hc
    obtain ⟨y, pp, rfl, e1, h1, h2⟩ := glob_shape hc.1.1.1
    cases e1
    unfold evX at hg
    have sa := star_cons (es := [b', d']) (env := X.env) (chk_shape hc.1.1.2).1
    have sb := star_cons (es := [d']) (env := X.env) (chk_shape hc.1.2).1
    have sd := star_cons (es := []) (env := X.env) (chk_shape hc.2).1
    refine (pi_range3 (c.gl h1) (by rw [c.mg]; exact tb.rng) (pa_cons pe_we (pa_cons pe_we (pa_cons pe_we pa_nil sd) sb) sa) sa (by rw [sb, sd]; rfl)).wi' ?_
    refine seqE ha c hc.1.1.2 S sl hg fun W1 x h1 w H1 l1 S1 R1 g1 => ?_
    refine seqE hb c hc.1.2 S1 (sl.mono l1) g1 fun W2 y h2 u H2 l2 S2 R2 g2 => ?_
    refine seqE hd c hc.2 S2 (sl.mono (l1.trans l2)) g2 fun W3 z h3 v H3 l3 S3 R3 g3 => ?_
    obtain ⟨sv, e2, pv⟩ := lift_good.mp g3
    obtain ⟨i, e3, e4⟩ := bind_some e2
    obtain ⟨j, e5, e6⟩ := bind_some e4
    obtain ⟨r, e7, e8⟩ := bind_some e6
    cases asInt_ok e3
    cases asInt_ok e5
    cases asInt_ok e7
    cases R1
    cases R2
    cases R3
    obtain ⟨rfl, o1, o2, rfl⟩ := rngD_ok e8
    exact ⟨i, j, -1, _, rfl, RgC.neg (okR_ok o1).1 (okR_ok o1).2 (okR_ok o2).1 (okR_ok o2).2, q _ pv W3 H3 _ (l1.trans (l2.trans l3)) S3 repI_rngC⟩
  · cases hc
theorem SqA.toH {W : Wd} {h : VH} {H : Hp} {a : Addr} {xs : List V} {b : Bool} (t : SqA g.K W.G a xs b) (S : Sim g W h H) : SqA g.K H a xs b := t.mono S.sub
theorem snx_zip (tb : TbOk g k s T C fa ar) {a b : Ex} (ha : SndE g k s T C a) (hb : SndE g k s T C b) : SndX g k s T C (.zip a b) := by
  intro nm X e tg c hc as σ W h H P R S sl hg q
  unfold chkX at hc
  split at hc
  · rename_i fn a' b' p
    simp only [Bool.and_eq_true] at hc
    obtain ⟨⟨⟨c1, c2⟩, c3⟩, c4⟩ := hc
    obtain ⟨y, pp, rfl, e1, h1, h2⟩ := glob_shape c1
    cases e1
    split at c4
    · rename_i elts kk tpos
      unfold evX at hg
      have sa := star_cons (es := [b']) (env := X.env) (chk_shape c2).1
      have sb := star_cons (es := []) (env := X.env) (chk_shape c3).1
      have step : wa X [a', b'] σ H fun vs H1 => ∃ a1 a2 xs ys b1 b2, vs = [.ref a1, .ref a2] ∧ SqA X.K H1 a1 xs b1 ∧ SqA X.K H1 a2 ys b2 ∧ R (ItN (min xs.length ys.length) (Zip2G X.K a1 a2 xs ys b1 b2) (rowAt [xs, ys])) H1 := by
        refine (pa_cons pe_we (pa_cons pe_we pa_nil sb) sa).wa' ?_
        refine seqE ha c c2 S sl hg fun W1 x h1 w H1 l1 S1 R1 g1 => ?_
        refine seqE hb c c3 S1 (sl.mono l1) g1 fun W2 y h2 u H2 l2 S2 R2 g2 => ?_
        obtain ⟨sv, e2, pv⟩ := lift_good.mp g2
        obtain ⟨xs, e3, e4⟩ := bind_some e2
        obtain ⟨ys, e5, e6⟩ := map_some e4
        cases e6
        obtain ⟨a1, us, b1, rfl, t1, r1⟩ := fseq_at (R1.mono l2) e3
        obtain ⟨a2, vs, b2, rfl, t2, r2⟩ := fseq_at R2 e5
        exact ⟨a1, a2, us, vs, b1, b2, rfl, by rw [c.K]; exact t1.toH S2, by rw [c.K]; exact t2.toH S2, q _ pv W2 H2 _ (l1.trans l2) S2 (repI_zip2 c.K t1 t2 r1 r2)⟩
      intro pins sh I
      obtain ⟨n1, _, n3⟩ := okN1 h2
      refine Call_ (ld_blt I (c.gl h1) (by rw [c.mg]; exact tb.zip) boot_zip (PyProof.Rows.callWith_type1 (thn (step p pins sh I) fun us s1 ⟨vs, H1, I1, r1, a1, a2, xs, ys, b1, b2, ev, q1, q2, q3⟩ => ?_) sa (by rw [sb]; rfl)) n3 n1)
      subst ev
      cases r1 with
      | cons r1 r2 =>
        cases r2 with
        | cons r2 r3 =>
          cases r3
          cases r1
          cases r2
          exact run_zip2 I1 q1 q2 q3
    · cases c4
  · cases hc
theorem snx_zip3 (tb : TbOk g k s T C fa ar) {a b d : Ex} (ha : SndE g k s T C a) (hb : SndE g k s T C b) (hd : SndE g k s T C d) : SndX g k s T C (.zip3 a b d) := by
  intro nm X e tg c hc as σ W h H P R S sl hg q
  unfold chkX at hc
  split at hc
  · rename_i fn a' b' d' p
    simp only [Bool.and_eq_true] at hc
    obtain ⟨⟨⟨⟨c1, c2⟩, c3⟩, c5⟩, c4⟩ := hc
    obtain ⟨y, pp, rfl, e1, h1, h2⟩ := glob_shape c1
    cases e1
    split at c4
    · rename_i elts kk tpos
      unfold evX at hg
      have sa := star_cons (es := [b', d']) (env := X.env) (chk_shape c2).1
      have sb := star_cons (es := [d']) (env := X.env) (chk_shape c3).1
      have sd := star_cons (es := []) (env := X.env) (chk_shape c5).1
      have step : wa X [a', b', d'] σ H fun vs H1 => ∃ a1 a2 a3 xs ys zs b1 b2 b3, vs = [.ref a1, .ref a2, .ref a3] ∧ SqA X.K H1 a1 xs b1 ∧ SqA X.K H1 a2 ys b2 ∧ SqA X.K H1 a3 zs b3 ∧ R (ItN (min (min xs.length ys.length) zs.length) (Zip3G X.K a1 a2 a3 xs ys zs b1 b2 b3) (rowAt [xs, ys, zs])) H1 := by
        refine (pa_cons pe_we (pa_cons pe_we (pa_cons pe_we pa_nil sd) sb) sa).wa' ?_
        refine seqE ha c c2 S sl hg fun W1 x h1 w H1 l1 S1 R1 g1 => ?_
        refine seqE hb c c3 S1 (sl.mono l1) g1 fun W2 y h2 u H2 l2 S2 R2 g2 => ?_
        refine seqE hd c c5 S2 (sl.mono (l1.trans l2)) g2 fun W3 z h3 v H3 l3 S3 R3 g3 => ?_
        obtain ⟨sv, e2, pv⟩ := lift_good.mp g3
        obtain ⟨xs, e3, e4⟩ := bind_some e2
        obtain ⟨ys, e5, e6⟩ := bind_some e4
        obtain ⟨zs, e7, e8⟩ := map_some e6
        cases e8
        obtain ⟨a1, us, b1, rfl, t1, r1⟩ := fseq_at (R1.mono (l2.trans l3)) e3
        obtain ⟨a2, vs, b2, rfl, t2, r2⟩ := fseq_at (R2.mono l3) e5
        obtain ⟨a3, ws, b3, rfl, t3, r3⟩ := fseq_at R3 e7
        exact ⟨a1, a2, a3, us, vs, ws, b1, b2, b3, rfl, by rw [c.K]; exact t1.toH S3, by rw [c.K]; exact t2.toH S3, by rw [c.K]; exact t3.toH S3, q _ pv W3 H3 _ (l1.trans (l2.trans l3)) S3 (repI_zip3 c.K t1 t2 t3 r1 r2 r3)⟩
      intro pins sh I
      obtain ⟨n1, _, n3⟩ := okN1 h2
      refine Call_ (ld_blt I (c.gl h1) (by rw [c.mg]; exact tb.zip) boot_zip (PyProof.Rows.callWith_type1 (thn (step p pins sh I) fun us s1 ⟨vs, H1, I1, r1, a1, a2, a3, xs, ys, zs, b1, b2, b3, ev, q1, q2, q3, q4⟩ => ?_) sa (by rw [sb, sd]; rfl)) n3 n1)
      subst ev
      cases r1 with
      | cons r1 r2 =>
        cases r2 with
        | cons r2 r3 =>
          cases r3 with
          | cons r3 r4 =>
            cases r4
            cases r1
            cases r2
            cases r3
            exact run_zip3 I1 q1 q2 q3 q4
    · cases c4
  · cases hc
theorem snx_enum (tb : TbOk g k s T C fa ar) {a : Ex} (ha : SndE g k s T C a) : SndX g k s T C (.enum a) := by
  intro nm X e tg c hc as σ W h H P R S sl hg q
  unfold chkX at hc
  split at hc
  · rename_i fn a' p
    simp only [Bool.and_eq_true] at hc
    obtain ⟨⟨c1, c2⟩, c4⟩ := hc
    obtain ⟨y, pp, rfl, e1, h1, h2⟩ := glob_shape c1
    cases e1
    split at c4
    · rename_i elts kk tpos
      unfold evX at hg
      have sa := star_cons (es := []) (env := X.env) (chk_shape c2).1
      have step : wa X [a'] σ H fun vs H1 => ∃ a1 xs b1, vs = [.ref a1] ∧ SqA X.K H1 a1 xs b1 ∧ R (ItN xs.length (EnumG X.K a1 xs b1) (rowE xs)) H1 := by
        refine (pa_cons pe_we pa_nil sa).wa' ?_
        refine seqE ha c c2 S sl hg fun W1 x h1 w H1 l1 S1 R1 g1 => ?_
        obtain ⟨sv, e2, pv⟩ := lift_good.mp g1
        obtain ⟨xs, e3, e4⟩ := map_some e2
        cases e4
        obtain ⟨a1, us, b1, rfl, t1, r1⟩ := fseq_at R1 e3
        exact ⟨a1, us, b1, rfl, by rw [c.K]; exact t1.toH S1, q _ pv W1 H1 _ l1 S1 (repI_enum c.K t1 r1)⟩
      intro pins sh I
      obtain ⟨n1, _, n3⟩ := okN1 h2
      refine Call_ (ld_blt I (c.gl h1) (by rw [c.mg]; exact tb.enu) boot_enumerate (PyProof.Rows.callWith_type1 (thn (step p pins sh I) fun us s1 ⟨vs, H1, I1, r1, a1, xs, b1, ev, q1, q2⟩ => ?_) sa rfl) n3 n1)
      subst ev
      cases r1 with
      | cons r1 r2 =>
        cases r2
        cases r1
        exact run_enum I1 q1 q2
    · cases c4
  · cases hc

/-! ### comprehensions -/
theorem look_rel {sc : Scope} : ∀ {names : List (Str × NameKind)} {x : Str} {kd : NameKind}, names.lookup x = some kd →
    (names.map fun (n, k) => if (k == NameKind.free && sc.kind == .function && sc.names.lookup n == some .cell) then (n, NameKind.cell) else (n, k)).lookup x = some kd ∨
    (kd = .free ∧ (names.map fun (n, k) => if (k == NameKind.free && sc.kind == .function && sc.names.lookup n == some .cell) then (n, NameKind.cell) else (n, k)).lookup x = some .cell)
  | [], _, _, h => by simp at h
  | (n, k₀) :: r, x, kd, h => by
    have ih := @look_rel sc r x kd
    show (List.lookup x ((if (k₀ == NameKind.free && sc.kind == .function && sc.names.lookup n == some .cell) = true then (n, NameKind.cell) else (n, k₀)) :: (r.map _)) = some kd) ∨ (kd = .free ∧ List.lookup x ((if (k₀ == NameKind.free && sc.kind == .function && sc.names.lookup n == some .cell) = true then (n, NameKind.cell) else (n, k₀)) :: (r.map _)) = some .cell)
    cases hx : x == n with
    | true =>
      simp only [List.lookup_cons, hx] at h
      cases h
      by_cases hc : (k₀ == NameKind.free && sc.kind == .function && sc.names.lookup n == some .cell) = true
      · rw [if_pos hc]
        simp only [Bool.and_eq_true, beq_iff_eq] at hc
        simp only [List.lookup_cons, hx]
        exact .inr ⟨hc.1.1, trivial⟩
      · rw [if_neg hc]
        simp only [List.lookup_cons, hx]
        exact .inl trivial
    | false =>
      simp only [List.lookup_cons, hx] at h
      by_cases hc : (k₀ == NameKind.free && sc.kind == .function && sc.names.lookup n == some .cell) = true
      · rw [if_pos hc]
        simp only [List.lookup_cons, hx]
        exact ih h
      · rw [if_neg hc]
        simp only [List.lookup_cons, hx]
        exact ih h
theorem blk_ok {nm : Nms} {X : Cx} {scope : Scope} {own : List (Str × Nat)} (c : CxOk g k s nm X) (h : blkC s.N ⟨.function, nm, false, false, []⟩ scope own = true) : BlkOk X.N X.env.scope scope own := by
  have b := blkOk_by h
  refine ⟨b.kind, b.uniq, by rw [c.N]; exact b.ix, fun y hy e => ?_, by rw [c.N]; exact b.own⟩
  rcases b.free y hy e with z | z
  · rcases c.look _ _ z with q | ⟨q, _⟩
    · exact .inl q
    · cases q
  · rcases c.look _ _ z with q | ⟨_, q⟩
    · exact .inr q
    · exact .inl q
theorem CxOk.blk {nm : Nms} {X : Cx} {scope : Scope} {own : List (Str × Nat)} (c : CxOk g k s nm X) (b : BlkOk X.N X.env.scope scope own) (sh : Shared) (H : Hp) (C' : Addr) (cl : List (Str × Addr)) (fp : List Addr) : CxOk g k s scope.names (X.blk sh H scope (compEnvC scope cl C' X.env) fp) where
  prog := c.prog
  w := c.w
  K := c.K
  mg := c.mg
  base := c.base
  N := c.N
  nd := c.nd
  calm := c.calm
  room := c.room
  gd := c.gd
  xe := rfl
  look := fun x kd e => look_rel (sc := X.env.scope) e
  fn := fun x e => by
    show (scope.names.lookup x == some .cell) = true
    rw [e]
    rfl
  kind := b.kind
/-- a clause's tests -/
def wts (X : Cx) : List Expr → TT
  | [], _, H, Q => Q true H
  | [c], σ, H, Q => wt X c σ H Q
  | _, _, _, _ => False
theorem pts_wts {X : Cx} : ∀ {l : List Expr}, PTs X l (wts X l)
  | [] => pts_nil
  | [c] => pts_one pt_wt
  | _ :: _ :: _ => ⟨fun _ _ _ _ _ _ h => h.elim⟩
/-- a comprehension's loop from a turn on -/
def LC (sv : Sv) (body : Val → Mo (Option Val)) (Pe : List Val × VH → Prop) (i m : Nat) (acc : List Val) (h : VH) : Prop := match sv with
  | .fix xs => m = xs.length - i ∧ (cloopL body (xs.drop i) acc h).Good Pe
  | sv => (cloop (fun h k => sv.item h k) body m i acc h).Good Pe
theorem LC.start {sv : Sv} {body : Val → Mo (Option Val)} {Pe : List Val × VH → Prop} {h : VH} (hg : (walkC sv body h).Good Pe) : ∃ m, LC sv body Pe 0 m [] h := by
  cases sv with
  | fix xs => exact ⟨xs.length - 0, rfl, hg⟩
  | rng a b c => exact ⟨_, hg⟩
  | dyn j => exact ⟨_, hg⟩
def NextC (sv : Sv) (body : Val → Mo (Option Val)) (Pe : List Val × VH → Prop) (i m : Nat) (acc : List Val) (r : Option Val × VH) : Prop := match r.1 with
  | some y => sz acc.length = true ∧ ∃ m', m' < m ∧ LC sv body Pe (i + 1) m' (acc ++ [y]) r.2
  | none => ∃ m', m' < m ∧ LC sv body Pe (i + 1) m' acc r.2
theorem LC.step {sv : Sv} {body : Val → Mo (Option Val)} {Pe : List Val × VH → Prop} {i m : Nat} {acc : List Val} {h : VH} (l : LC sv body Pe i m acc h) (lo : sv.lo i) :
    (sv.item h i = some none ∧ Pe (acc, h)) ∨ ∃ v, sv.item h i = some (some v) ∧ (body v h).Good (NextC sv body Pe i m acc) := by
  have dyn : ∀ {sv : Sv}, (∀ i m acc h, LC sv body Pe i m acc h ↔ (cloop (fun h k => sv.item h k) body m i acc h).Good Pe) → LC sv body Pe i m acc h → (sv.item h i = some none ∧ Pe (acc, h)) ∨ ∃ v, sv.item h i = some (some v) ∧ (body v h).Good (NextC sv body Pe i m acc) := fun {sv} hiff l => by
    have l := (hiff i m acc h).mp l
    cases m with
    | zero => exact False.elim l
    | succ m =>
      unfold cloop at l
      split at l
      · exact False.elim l
      · rename_i e
        exact .inl ⟨e, l⟩
      · rename_i v e
        refine .inr ⟨v, e, M.T.good_mono (fun r hr => ?_) (M.T.good_bind.mp l)⟩
        obtain ⟨r1, h1⟩ := r
        unfold NextC
        cases r1 with
        | none => exact ⟨m, Nat.lt_succ_self m, (hiff _ _ _ _).mpr hr⟩
        | some y =>
          have hr : (if sz acc.length = true then cloop (fun h k => sv.item h k) body m (i + 1) (acc ++ [y]) h1 else M.T.stuck).Good Pe := hr
          split at hr
          · rename_i hz
            exact ⟨hz, m, Nat.lt_succ_self m, (hiff _ _ _ _).mpr hr⟩
          · exact False.elim hr
  cases sv with
  | fix xs =>
    obtain ⟨em, l⟩ := l
    have lo : i ≤ xs.length := lo
    by_cases hi : i < xs.length
    · refine .inr ⟨xs[i], ?_, ?_⟩
      · show some xs[i]? = some (some xs[i])
        rw [List.getElem?_eq_getElem hi]
      · rw [List.drop_eq_getElem_cons hi] at l
        unfold cloopL at l
        refine M.T.good_mono (fun r hr => ?_) (M.T.good_bind.mp l)
        obtain ⟨r1, h1⟩ := r
        unfold NextC
        cases r1 with
        | none => exact ⟨xs.length - (i + 1), by omega, rfl, hr⟩
        | some y =>
          have hr : (if sz acc.length = true then cloopL body (xs.drop (i + 1)) (acc ++ [y]) h1 else M.T.stuck).Good Pe := hr
          split at hr
          · rename_i hz
            exact ⟨hz, xs.length - (i + 1), by omega, rfl, hr⟩
          · exact False.elim hr
    · left
      refine ⟨?_, ?_⟩
      · show some xs[i]? = some none
        rw [List.getElem?_eq_none (by omega)]
      · rw [List.drop_eq_nil_of_le (by omega)] at l
        exact l
  | rng a b c => exact dyn (fun _ _ _ _ => Iff.rfl) l
  | dyn j => exact dyn (fun _ _ _ _ => Iff.rfl) l

def optT (T : Tb) (C : Nat → List Val → Mo Val) (ifs : Option Ex) : Option (Sl → Mo Val) := match ifs with
  | none => none
  | some c => some fun σ' => evE T C σ' c
/-- a comprehension by any of the readings of one -/
theorem comp_by {m : Bool} {elt : Ex} {tg : Tg} {src : Sx} {ifs : Option Ex} {own : List Nat} (hx : SndX g k s T C src) (he : SndE g k s T C elt) (hi : ∀ d, ifs = some d → SndT g k s T C d) {nm : Nms} {X : Cx} {e : Expr} (c : CxOk g (k + 1) s nm X) (hc : chkE s nm (.comp m elt tg src ifs own) e = true)
    {as : Sl} {σ : L2.St} {W : Wd} {h : VH} {H : Hp} {P : Val × VH → Prop} {Q : VK} (S : Sim g W h H) (sl : Slo g W as σ) (hg : (evE T C as (.comp m elt tg src ifs own) h).Good P) (q : ∀ r, P r → Want g W r Q) :
    ∃ elt' tg' it' ifs' scope p own' wi' g' tt' te', e = .ListComp elt' [⟨tg', it', ifs', 0⟩] scope p ∧ PI X tg' it' wi' ∧ BlkOk X.N X.env.scope scope own' ∧
      (∀ (sh : Shared) (H : Hp) (C' : Addr) (cl : List (Str × Addr)) (fp : List Addr), PG (X.blk sh H scope (compEnvC scope cl C' X.env) fp) tg' g') ∧ (∀ (sh : Shared) (H : Hp) (C' : Addr) (cl : List (Str × Addr)) (fp : List Addr), PTs (X.blk sh H scope (compEnvC scope cl C' X.env) fp) ifs' tt') ∧
      (∀ (sh : Shared) (H : Hp) (C' : Addr) (cl : List (Str × Addr)) (fp : List Addr), PE (X.blk sh H scope (compEnvC scope cl C' X.env) fp) elt' te') ∧ (∀ x, foldedSetIterable it' X.env x = pure x) ∧ tLc wi' g' tt' te' (own'.map (·.2)) σ H Q := by
  unfold chkE at hc
  split at hc
  · rename_i elt' tg' it' ifs' ia scope p
    simp only [Bool.and_eq_true] at hc
    obtain ⟨⟨⟨⟨⟨⟨⟨c1, c2⟩, c3⟩, c4⟩, c5⟩, c6⟩, c7⟩, c8⟩ := hc
    have eia : ia = 0 := of_decide_eq_true c1
    subst eia
    have ok := blk_ok c c2
    have eown : ((own.map fun i => s.N.getD i "?").zip own).map (·.2) = own := by
      rw [List.map_snd_zip]
      simp
    have hsub : ∀ i ∈ tgIx tg, i ∈ own := fun i hi => List.contains_iff_mem.mp (List.all_eq_true.mp c4 i hi)
    unfold evE at hg
    refine ⟨elt', tg', it', ifs', scope, p, _, wi X tg' it', gT X.K tg, fun σ H Q => ∀ sh H0 C' cl fp, wts (X.blk sh H0 scope (compEnvC scope cl C' X.env) fp) ifs' σ H Q,
      fun σ H Q => ∀ sh H0 C' cl fp, we (X.blk sh H0 scope (compEnvC scope cl C' X.env) fp) elt' σ H Q, rfl, pi_wi, ok,
      fun sh H0 C' cl fp => pgT (c.blk ok sh H0 C' cl fp) tg c6, fun sh H0 C' cl fp => ⟨fun pins s' σ H Q I hw => pts_wts.run pins s' σ H Q I (hw sh H0 C' cl fp)⟩,
      fun sh H0 C' cl fp => ⟨fun pins s' σ H Q I hw => pe_we.run pins s' σ H Q I (hw sh H0 C' cl fp)⟩, ?_, ?_⟩
    · refine fold_set ?_
      cases src with
      | seq a =>
        unfold chkX at c5
        exact (chk_shape c5).2.2
      | _ =>
        unfold chkX at c5
        split at c5 <;> first | rfl | cases c5
    rw [eown]
    refine seqX hx c c5 S sl hg fun W1 sv h1 J H1 l1 S1 RI g1 => ?_
    intro D hD
    obtain ⟨tt, htt, g1⟩ : ∃ tt : Option (Sl → Mo Val), tt = optT T C ifs ∧ ((walkC sv (compB tg (wipe as own) tt (fun σ' => evE T C σ' elt)) h1).bind fun r => out m (.nl r.1) r.2).Good P := ⟨_, rfl, by cases ifs <;> exact g1⟩
    generalize hbody : compB tg (wipe as own) tt (fun σ' => evE T C σ' elt) = body at g1
    have g2 := M.T.good_bind.mp g1
    obtain ⟨m0, l0⟩ := LC.start g2
    have nx1 : ∀ q v, W1.x q = some v → q ≠ D := fun q v z e => by
      obtain ⟨hh, _⟩ := S1.xk q v z
      rw [e, hD] at hh
      cases hh
    refine ⟨fun i m1 H' => ∃ W' h' acc ys, W1.le0 W' ∧ W'.x = upd W1.x D (.lst ys) ∧ Sim g W' h' H' ∧ Reps g W' acc ys ∧ sv.lo i ∧ LC sv body (fun r => (out m (.nl r.1) r.2).Good P) i m1 acc h', ⟨m0, ?_⟩, ?_⟩
    · refine ⟨_, h1, [], [], Wd.hold_le0, rfl, S1.held hD, .nil, ?_, l0⟩
      cases sv <;> first | exact Nat.zero_le _ | exact trivial
    rintro i m1 H2 ⟨W2, h2, acc, ys, le2, ex2, S2, R2, lo2, lc2⟩
    have hri := RI W2 h2 H2 i le2 S2 lo2
    rcases lc2.step lo2 with ⟨e1, pe⟩ | ⟨v, e1, gb⟩
    · rw [e1] at hri
      refine .inl ⟨hri, ?_⟩
      rw [out_eq] at pe
      have exD : W2.x D = some (.lst ys) := by rw [ex2, upd_same]
      have nx2 : ∀ q v, W1.x q = some v → W2.x q = some v ∧ q ≠ D := fun q v z => ⟨by rw [ex2, upd_ne (nx1 q v z)]; exact z, nx1 q v z⟩
      obtain ⟨_, nG, _, _⟩ := S2.xk D _ exD
      cases m with
      | false =>
        have lf : W2.le0 ((W2.put D (.lst ys)).hold W1.x) := (Wd.put_le nG).tole0.trans Wd.hold_le0
        exact q _ pe ((W2.put D (.lst ys)).hold W1.x) _ H2 (l1.trans ⟨le2.trans lf, rfl⟩) (S2.hput exD nx2) (.lst upd_same (R2.mono0 lf))
      | true =>
        have lf : W2.le0 ((W2.lay h2.next D).hold W1.x) := (Wd.lay_le (S2.nx h2.next (Nat.le_refl _))).tole0.trans Wd.hold_le0
        exact q _ pe ((W2.lay h2.next D).hold W1.x) _ H2 (l1.trans ⟨le2.trans lf, rfl⟩) (S2.hlay exD nx2 (.lst R2)) (.ref (by
          show (if h2.next = h2.next then some D else _) = some D
          rw [if_pos rfl]))
    · rw [e1] at hri
      obtain ⟨hgo, hy⟩ := hri
      refine .inr ⟨hgo, fun H' => ∃ m', m' < m1 ∧ ∃ W' h' acc ys, W1.le0 W' ∧ W'.x = upd W1.x D (.lst ys) ∧ Sim g W' h' H' ∧ Reps g W' acc ys ∧ sv.lo (i + 1) ∧ LC sv body (fun r => (out m (.nl r.1) r.2).Good P) (i + 1) m' acc h', fun _ z => z, fun x H3 hyl => ?_⟩
      obtain ⟨W3, l3, S3, R3⟩ := hy x H3 hyl
      have lo3 := lo_next lo2 e1
      have le3 : W1.le0 W3 := le2.trans l3.tole0
      have slw : Slo g W3 (wipe as own) (L2.wipe σ own) := ((sl.mono l1).mono0 le3).wipe own
      have gb : (compB tg (wipe as own) tt (fun σ' => evE T C σ' elt) v h2).Good (NextC sv body (fun r => (out m (.nl r.1) r.2).Good P) i m1 acc) := by rw [hbody]; exact gb
      unfold compB at gb
      cases hset : setTg tg v (wipe as own) with
      | none =>
        rw [hset] at gb
        exact gb.elim
      | some a' =>
        rw [hset] at gb
        rw [c.K]
        refine gT_ok S3 tg c6 hset R3 slw fun σ2 sl2 kp => ⟨wipe_keep kp hsub, fun sh H0 C' cl fp => ?_⟩
        have cb := c.blk ok sh H0 C' cl fp
        -- the item is taken
        have take : ∀ {W4 : Wd} {h4 : VH} {H4 : Hp}, W3.le W4 → Sim g W4 h4 H4 → Slo g W4 a' σ2 → ((bindM (evE T C a' elt) fun y => fun h => .ret (some y, h)) h4).Good (NextC sv body (fun r => (out m (.nl r.1) r.2).Good P) i m1 acc) →
            ∀ sh H0 C' cl fp, we (X.blk sh H0 scope (compEnvC scope cl C' X.env) fp) elt' σ2 H4 fun y H5 => ∃ acc', H5 D = some (.lst acc') ∧ acc'.length < sizeLine ∧ (∃ m', m' < m1 ∧ ∃ W' h' acc ys, W1.le0 W' ∧ W'.x = upd W1.x D (.lst ys) ∧ Sim g W' h' (upd H5 D (.lst (acc' ++ [y]))) ∧ Reps g W' acc ys ∧ sv.lo (i + 1) ∧ LC sv body (fun r => (out m (.nl r.1) r.2).Good P) (i + 1) m' acc h') := by
          intro W4 h4 H4 l4 S4 sl4 g4 sh H0 C' cl fp
          refine seqE he (c.blk ok sh H0 C' cl fp) c7 S4 sl4 g4 fun W5 y h5 w H5 l5 S5 R5 g5 => ?_
          have g5 : sz acc.length = true ∧ ∃ m', m' < m1 ∧ LC sv body (fun r => (out m (.nl r.1) r.2).Good P) (i + 1) m' (acc ++ [y]) h5 := g5
          obtain ⟨hz, m', hm, lc⟩ := g5
          have ex5 : W5.x = upd W1.x D (.lst ys) := by rw [l5.x, l4.x, l3.x, ex2]
          have exD : W5.x D = some (.lst ys) := by rw [ex5, upd_same]
          refine ⟨ys, (S5.xk D _ exD).1, ?_, m', hm, _, h5, acc ++ [y], ys ++ [w], ?_, ?_, S5.hset exD, ?_, lo3, lc⟩
          · rw [← R2.length]
            exact Nat.lt_of_le_of_lt (sz_le hz) line6
          · exact (le3.trans (l4.trans l5).tole0).trans Wd.hold_le0
          · show upd W5.x D _ = _
            rw [ex5, upd_upd]
          · exact (((R2.mono0 (l3.trans (l4.trans l5)).tole0).append (.cons R5 .nil))).mono0 Wd.hold_le0
        cases ifs with
        | none =>
          subst htt
          unfold chkI at c8
          split at c8
          · simp only [wts, if_true]
            exact take .rfl' S3 sl2 gb
          · cases c8
        | some d =>
          subst htt
          unfold chkI at c8
          split at c8
          · rename_i d'
            unfold wts
            refine seqT (hi d rfl) cb c8 S3 sl2 gb (fun x h1 g1 => ?_) fun W4 b h4 H4 l4 S4 g4 => ?_
            · split at g1
              · exact ⟨true, rfl⟩
              · exact ⟨false, rfl⟩
              · exact g1.elim
            · cases b with
              | true =>
                rw [if_pos rfl]
                exact take l4 S4 (sl2.mono l4) g4
              | false =>
                rw [if_neg (by decide)]
                obtain ⟨m', hm, lc⟩ := (show ∃ m', m' < m1 ∧ LC sv body (fun r => (out m (.nl r.1) r.2).Good P) (i + 1) m' acc h4 from g4)
                exact ⟨m', hm, W4, h4, acc, ys, le3.trans l4.tole0, by rw [l4.x, l3.x, ex2], S4, R2.mono0 (l3.trans l4).tole0, lo3, lc⟩
          · cases c8
  · cases hc
theorem snd_comp {m : Bool} {elt : Ex} {tg : Tg} {src : Sx} {ifs : Option Ex} {own : List Nat} (hx : SndX g k s T C src) (he : SndE g k s T C elt) (hi : ∀ d, ifs = some d → SndT g k s T C d) : SndE g k s T C (.comp m elt tg src ifs own) := by
  intro nm X e c hc as σ W h H P Q S sl hg q
  obtain ⟨elt', tg', it', ifs', scope, p, own', wi', g', tt', te', rfl, h1, h2, h3, h4, h5, h6, h7⟩ := comp_by hx he hi c hc S sl hg q
  exact (pe_lc c.calm (by rw [c.N]; exact c.nd) h1 h2 h3 h4 h5 h6).we' h7
end
end M
end

section
set_option Elab.async false
set_option linter.all false
set_option maxRecDepth 100000
set_option maxHeartbeats 1000000
/-! M12: all expressions together. -/
namespace M
open PySem PySem.Spec PyProof.Rows L2

def spcE : Expr → Bool
  | .UnaryOp .Not _ _ => true
  | .BoolOp _ _ _ => true
  | .IfExp _ _ _ _ => true
  | .Compare _ _ _ _ => true
  | _ => false
theorem spc_plain {e : Expr} (h : spcE e = false) : ∀ (env : PySem.Env) whole, isTrue e env whole = (do let v ← whole; standAt e.pos; holding [v] (truthy v)) := by
  intro env whole
  cases e with
  | UnaryOp op a p => cases op <;> first | rfl | cases h
  | _ => first | rfl | cases h
section
variable {g : Ga} {k : Nat} {s : Si} {T : Tb} {C : Nat → List Val → Mo Val} {fa : Nat → Addr} {ar : Nat → Nat}
theorem sndT_of {m : Ex} (hs : SndE g k s T C m) (hsp : ∀ nm e, chkE s nm m e = true → spcE e = false) : SndT g k s T C m := by
  intro nm X e c hc as σ W h H P Q S sl hg q
  refine (pt_val pe_we (spc_plain (hsp nm e hc) X.env)).wt' ?_
  show we X e σ H fun x H1 => ∃ c, x = .bl c ∧ Q c H1
  refine hs nm X e c hc as σ W h H P _ S sl hg fun r hr W' w H' l S' R => ?_
  obtain ⟨b, e, wt⟩ := q r hr
  rw [e] at R
  cases R
  exact ⟨b, rfl, wt W' H' l S'⟩
mutual
theorem sndE (tb : TbOk g k s T C fa ar) : ∀ m : Ex, SndE g k s T C m ∧ SndT g k s T C m
  | .var i => ⟨snd_var i, sndT_of (snd_var i) (by (intro nm e h; unfold chkE at h; split at h <;> first | rfl | cases h))⟩
  | .int i => ⟨snd_int i, sndT_of (snd_int i) (by (intro nm e h; unfold chkE at h; split at h <;> first | rfl | cases h))⟩
  | .str i => ⟨snd_str i, sndT_of (snd_str i) (by (intro nm e h; unfold chkE at h; split at h <;> first | rfl | cases h))⟩
  | .bl i => ⟨snd_bl i, sndT_of (snd_bl i) (by (intro nm e h; unfold chkE at h; split at h <;> first | rfl | cases h))⟩
  | .non => ⟨snd_non, sndT_of snd_non (by (intro nm e h; unfold chkE at h; split at h <;> first | rfl | cases h))⟩
  | .glob n => ⟨snd_glob tb n, sndT_of (snd_glob tb n) (by intro nm e h; unfold chkE at h; obtain ⟨y, p, rfl, _⟩ := glob_shape h; rfl)⟩
  | .bin m op a b => ⟨snd_bin (sndE tb a).1 (sndE tb b).1, sndT_of (snd_bin (sndE tb a).1 (sndE tb b).1) (by (intro nm e h; unfold chkE at h; split at h <;> first | rfl | cases h))⟩
  | .cmp op a b => ⟨snd_cmp tb (sndE tb a).1 (sndE tb b).1, snt_cmp tb (sndE tb a).1 (sndE tb b).1⟩
  | .chain op op2 a b d => ⟨snd_chain (sndE tb a).1 (sndE tb b).1 (sndE tb d).1, snt_chain (sndE tb a).1 (sndE tb b).1 (sndE tb d).1⟩
  | .and a b => ⟨snd_and (sndE tb a).1 (sndE tb b).1, snt_and (sndE tb a).2 (sndE tb b).2⟩
  | .or a b => ⟨snd_or (sndE tb a).1 (sndE tb b).1, snt_or (sndE tb a).2 (sndE tb b).2⟩
  | .not a => ⟨snd_not (sndE tb a).1, snt_not (sndE tb a).2⟩
  | .neg a => ⟨snd_neg (sndE tb a).1, sndT_of (snd_neg (sndE tb a).1) (by (intro nm e h; unfold chkE at h; split at h <;> first | rfl | cases h))⟩
  | .ifx d a b => ⟨snd_ifx (sndE tb d).2 (sndE tb a).1 (sndE tb b).1, snt_ifx (sndE tb d).2 (sndE tb a).2 (sndE tb b).2⟩
  | .tup es => ⟨snd_tup (sndEs tb es), sndT_of (snd_tup (sndEs tb es)) (by (intro nm e h; unfold chkE at h; split at h <;> first | rfl | cases h))⟩
  | .lst m es => ⟨snd_lst (sndEs tb es), sndT_of (snd_lst (sndEs tb es)) (by (intro nm e h; unfold chkE at h; split at h <;> first | rfl | cases h))⟩
  | .sub a i => ⟨snd_sub (sndE tb a).1 (sndE tb i).1, sndT_of (snd_sub (sndE tb a).1 (sndE tb i).1) (by (intro nm e h; unfold chkE at h; split at h <;> first | rfl | cases h))⟩
  | .slc m a lo hi => ⟨snd_slc (sndE tb a).1 (sndO tb lo) (sndO tb hi), sndT_of (snd_slc (sndE tb a).1 (sndO tb lo) (sndO tb hi)) (by (intro nm e h; unfold chkE at h; split at h <;> first | rfl | cases h))⟩
  | .rev m a => ⟨snd_rev (sndE tb a).1, sndT_of (snd_rev (sndE tb a).1) (by (intro nm e h; unfold chkE at h; split at h <;> first | rfl | cases h))⟩
  | .fld a f => ⟨snd_fld tb (sndE tb a).1, sndT_of (snd_fld tb (sndE tb a).1) (by (intro nm e h; unfold chkE at h; split at h <;> first | rfl | cases h))⟩
  | .call n es => ⟨snd_call tb (sndEs tb es), sndT_of (snd_call tb (sndEs tb es)) (by (intro nm e h; unfold chkE at h; split at h <;> first | rfl | cases h))⟩
  | .callk n es x => ⟨snd_callk tb (sndEs tb es) (sndE tb x).1, sndT_of (snd_callk tb (sndEs tb es) (sndE tb x).1) (by (intro nm e h; unfold chkE at h; split at h <;> first | rfl | cases h))⟩
  | .mk m n es => ⟨snd_mk tb (sndEs tb es), sndT_of (snd_mk tb (sndEs tb es)) (by (intro nm e h; unfold chkE at h; split at h <;> first | rfl | cases h))⟩
  | .meth a n es => ⟨snd_meth tb (sndE tb a).1 (sndEs tb es), sndT_of (snd_meth tb (sndE tb a).1 (sndEs tb es)) (by (intro nm e h; unfold chkE at h; split at h <;> first | rfl | cases h))⟩
  | .bi m b es => ⟨snd_bi tb (sndEs tb es), sndT_of (snd_bi tb (sndEs tb es)) (by (intro nm e h; unfold chkE at h; split at h <;> first | rfl | cases h))⟩
  | .isin a ts => ⟨snd_isin tb (sndE tb a).1, sndT_of (snd_isin tb (sndE tb a).1) (by (intro nm e h; unfold chkE at h; split at h <;> first | rfl | cases h))⟩
  | .lm a b es => ⟨snd_lm (sndE tb a).1 (sndEs tb es), sndT_of (snd_lm (sndE tb a).1 (sndEs tb es)) (by (intro nm e h; unfold chkE at h; split at h <;> first | rfl | cases h))⟩
  | .comp m elt tg src ifs own => 
    have hi : ∀ d, ifs = some d → SndT g k s T C d := fun d e => sndI tb ifs d e
    ⟨snd_comp (sndX tb src) (sndE tb elt).1 hi, sndT_of (snd_comp (sndX tb src) (sndE tb elt).1 hi) (by (intro nm e h; unfold chkE at h; split at h <;> first | rfl | cases h))⟩
  | .frz a => ⟨snd_frz (sndE tb a).1, snt_frz (sndE tb a).2⟩
  | .dct ks es => ⟨snd_dct (sndPs tb es), sndT_of (snd_dct (sndPs tb es)) (by (intro nm e h; unfold chkE at h; split at h <;> first | rfl | cases h))⟩
  | .inl neg a b => ⟨snd_inl (sndE tb a).1 (sndE tb b).1, snt_inl (sndE tb a).1 (sndE tb b).1⟩
theorem sndEs (tb : TbOk g k s T C fa ar) : ∀ m : Es, SndEs g k s T C m
  | .nil => snd_nil
  | .cons e r => snd_cons (sndE tb e).1 (sndEs tb r)
theorem sndPs (tb : TbOk g k s T C fa ar) : ∀ m : Es, SndPs g k s T C m
  | .nil => snp_nil
  | .cons e r => snp_cons (sndE tb e).1 (sndPs tb r)
theorem sndO (tb : TbOk g k s T C fa ar) : ∀ m : Option Ex, SndO g k s T C m
  | none => snd_none
  | some a => snd_some (sndE tb a).1
theorem sndI (tb : TbOk g k s T C fa ar) : ∀ (m : Option Ex) (d : Ex), m = some d → SndT g k s T C d
  | none, _, h => nomatch h
  | some a, d, h => Option.some.inj h ▸ (sndE tb a).2
theorem sndX (tb : TbOk g k s T C fa ar) : ∀ m : Sx, SndX g k s T C m
  | .seq e => snx_seq (sndE tb e).1
  | .rng1 a => snx_rng1 tb (sndE tb a).1
  | .rng2 a b => snx_rng2 tb (sndE tb a).1 (sndE tb b).1
  | .rng3 a b d => snx_rng3 tb (sndE tb a).1 (sndE tb b).1 (sndE tb d).1
  | .zip a b => snx_zip tb (sndE tb a).1 (sndE tb b).1
  | .zip3 a b d => snx_zip3 tb (sndE tb a).1 (sndE tb b).1 (sndE tb d).1
  | .enum a => snx_enum tb (sndE tb a).1
end
end
end M
end

section
set_option Elab.async false
set_option linter.all false
set_option maxRecDepth 100000
set_option maxHeartbeats 1000000
/-! M13: statements: what the evaluator says, the code does. -/
namespace M
open PySem PySem.Spec PyProof.Rows L2

/-! ### does a compact statement say what the syntax says? -/
def lcE : Expr → Bool
  | .ListComp _ _ _ _ => true
  | .SetComp _ _ _ _ => true
  | .DictComp _ _ _ _ _ => true
  | _ => false
/-- a comprehension stores its name itself -/
def swB (nm : Nms) (y : Str) (py : Pos) : Expr → Bool
  | .ListComp _ _ scope pos => (nm.lookup y == some .local) && (py.line == pos.line) && !(scope.names.any fun (n, k) => n == y && (k == .local || k == .cell))
  | _ => false
def nameE : Expr → Option Str
  | .Name x _ => some x
  | _ => none
def tupE : Expr → Option (List Expr)
  | .Tuple es _ _ => some es
  | _ => none
/-- plain local names on one line -/
def parB (s : Si) (nm : Nms) (l : Nat) : List Nat → List Expr → Bool
  | [], [] => true
  | i :: is, e :: es => (match e with
    | .Name x p => decide (s.N[i]? = some x) && (nm.lookup x == some .local) && (p.line == l)
    | _ => false) && parB s nm l is es
  | _, _ => false
def lineOf (ts : List Expr) : Nat := (ts.head?.map (·.pos.line)).getD 0
def parNames (ts : List Expr) : List Str := ts.filterMap nameE
def chkPar (s : Si) (nm : Nms) (is : List Nat) (ts vs : List Expr) : Bool :=
  (ts.length == 2 || ts.length == 3) && (vs.length == ts.length) && parB s nm (lineOf ts) is ts && ((parNames ts).eraseDups.length == (parNames ts).length) && !(vs.all (foldedForSure 8)) && !(vs.all (constantsAlone 8))
/-- the stores are not swapped -/
def noSwap (ts : List Expr) (e : Expr) : Bool := match e with
  | .Tuple vs _ _ => !(ts.length == 2 || ts.length == 3) || (ts.any fun t => (nameE t).isNone) || vs.all (foldedForSure 8)
  | _ => true
mutual
def chkS (s : Si) (nm : Nms) : Sm → Stmt → Bool
  | .skip, st => match st with
    | .Pass _ => true
    | .Expr (.Constant (.str _) _ _) _ => true
    | _ => false
  | .ex e, st => match st with
    | .Expr e' _ => chkE s nm e e' && !lcE e'
    | _ => false
  | .set i e, st => match st with
    | .Assign [.Name x _] e' _ => decide (s.N[i]? = some x) && locB nm x && chkE s nm e e'
    | _ => false
  | .par is es, st => match st with
    | .Assign [.Tuple ts _ _] (.Tuple vs _ _) _ => chkPar s nm is ts vs && chkEs s nm es vs
    | _ => false
  | .unt tg e, st => match st with
    | .Assign [.Tuple ts kk p] e' _ => chkT s nm tg (.Tuple ts kk p) && chkE s nm e e' && noSwap ts e' && !lcE e'
    | _ => false
  | .ssub a i e, st => match st with
    | .Assign [.Subscript a' i' _] e' _ => chkE s nm a a' && chkE s nm i i' && chkE s nm e e'
    | _ => false
  | .sfld a f e, st => match st with
    | .Assign [.Attribute a' f' _] e' _ => decide (s.fld[f]? = some f') && chkE s nm a a' && chkE s nm e e'
    | _ => false
  | .aug _ _ _, _ => false
  | .asub _ _ _ _, _ => false
  | .afld _ _ _ _, _ => false
  | .ite c t e, st => match st with
    | .If c' t' e' _ => chkE s nm c c' && chkSs s nm t t' && chkSs s nm e e'
    | _ => false
  | .for_ tg src b, st => match st with
    | .For tg' it' b' [] _ => chkT s nm tg tg' && chkX s nm src it' tg' && chkSs s nm b b'
    | _ => false
  | .while_ c b, st => match st with
    | .While c' b' [] _ => chkE s nm c c' && chkSs s nm b b'
    | _ => false
  | .ret e, st => match st with
    | .Return (some e') _ => chkE s nm e e'
    | _ => false
  | .retN, st => match st with
    | .Return none _ => true
    | _ => false
  | .brk, st => match st with
    | .Break _ => true
    | _ => false
  | .cnt, st => match st with
    | .Continue _ => true
    | _ => false
  | .wall, _ => true
def chkSs (s : Si) (nm : Nms) : Ss → List Stmt → Bool
  | .nil, st => match st with
    | [] => true
    | _ => false
  | .cons x r, st => match st with
    | y :: ys => chkS s nm x y && chkSs s nm r ys
    | _ => false
end

def WantF (g : Ga) (W : Wd) (r : Fl × VH) (D : Ends) : Prop := match r.1 with
  | .nx a => ∀ W' σ' H', W.le W' → Sim g W' r.2 H' → Slo g W' a σ' → D.nx σ' H'
  | .rt v => ∀ W' w H', W.le W' → Sim g W' r.2 H' → Rep g W' v w → D.rt w H'
  | .bk a => ∀ W' σ' H', W.le W' → Sim g W' r.2 H' → Slo g W' a σ' → D.bk σ' H'
  | .ct a => ∀ W' σ' H', W.le W' → Sim g W' r.2 H' → Slo g W' a σ' → D.ct σ' H'
theorem WantF.le {g : Ga} {W W' : Wd} {r : Fl × VH} {D : Ends} (l : W.le W') (q : WantF g W r D) : WantF g W' r D := by
  obtain ⟨f, h⟩ := r
  cases f with
  | nx a => exact fun W2 σ' H' l2 => q W2 σ' H' (l.trans l2)
  | rt a => exact fun W2 σ' H' l2 => q W2 σ' H' (l.trans l2)
  | bk a => exact fun W2 σ' H' l2 => q W2 σ' H' (l.trans l2)
  | ct a => exact fun W2 σ' H' l2 => q W2 σ' H' (l.trans l2)
section
variable (g : Ga) (k : Nat) (s : Si) (T : Tb) (C : Nat → List Val → Mo Val)
def SndS (m : Sm) : Prop := ∀ (nm : Nms) (X : Cx) (st : Stmt), CxOk g (k + 1) s nm X → chkS s nm m st = true → ∀ (a : Sl) (σ : L2.St) (W : Wd) (h : VH) (H : Hp) (P : Fl × VH → Prop) (D : Ends),
  Sim g W h H → Slo g W a σ → (evS T C a m h).Good P → (∀ r, P r → WantF g W r D) → ws X st D σ H
def SndSs (m : Ss) : Prop := ∀ (nm : Nms) (X : Cx) (st : List Stmt), CxOk g (k + 1) s nm X → chkSs s nm m st = true → ∀ (a : Sl) (σ : L2.St) (W : Wd) (h : VH) (H : Hp) (P : Fl × VH → Prop) (D : Ends),
  Sim g W h H → Slo g W a σ → (evSs T C a m h).Good P → (∀ r, P r → WantF g W r D) → wss X st D σ H
end
section
variable {g : Ga} {k : Nat} {s : Si} {T : Tb} {C : Nat → List Val → Mo Val} {fa : Nat → Addr} {ar : Nat → Nat}
theorem sns_skip : SndS g k s T C .skip := by
  intro nm X st c hc as σ W h H P D S sl hg q
  unfold chkS at hc
  unfold evS at hg
  split at hc
  · exact ps_pass.ws' (q _ hg W σ H .rfl' S sl)
  · exact ps_doc.ws' (q _ hg W σ H .rfl' S sl)
  · cases hc
theorem sw_none {e : Expr} {t : Option Expr} {l : Nat} {env : PySem.Env} (h : lcE e = false) : swapsWith e t l env = pure false := by
  cases e <;> first | rfl | cases h
theorem sns_ex {e : Ex} (he : SndE g k s T C e) : SndS g k s T C (.ex e) := by
  intro nm X st c hc as σ W h H P D S sl hg q
  unfold chkS at hc
  split at hc
  · simp only [Bool.and_eq_true, Bool.not_eq_true'] at hc
    unfold evS at hg
    refine (ps_expr pe_we (sw_none hc.2)).ws' ?_
    show we X _ σ H fun _ H1 => D.nx σ H1
    refine seqE he c hc.1 S sl hg fun W1 x h1 w H1 l1 S1 R1 g1 => ?_
    exact q _ g1 W1 σ H1 l1 S1 (sl.mono l1)
  · cases hc
theorem lc_shape {m : Ex} {nm : Nms} {e : Expr} (h : chkE s nm m e = true) : lcE e = false ∨ ((∃ a b c d f i, m = .comp a b c d f i) ∨ ∃ a, m = .frz a) := by
  cases m with
  | comp a b c d f i => exact .inr (.inl ⟨_, _, _, _, _, _, rfl⟩)
  | frz a => exact .inr (.inr ⟨_, rfl⟩)
  | glob n =>
    unfold chkE at h
    obtain ⟨y, p, rfl, _⟩ := glob_shape h
    exact .inl rfl
  | _ =>
    unfold chkE at h
    split at h <;> first | exact .inl rfl | cases h
/-- name = e, whatever e is -/
theorem set_any {e : Ex} (he : SndE g k s T C e) (hcomp : ∀ nm X e', CxOk g (k + 1) s nm X → chkE s nm e e' = true → ∀ as σ W h H P Q, Sim g W h H → Slo g W as σ → (evE T C as e h).Good P → (∀ r, P r → Want g W r Q) → lcE e' = true →
    ∃ elt' tg' it' ifs' scope p own' wi' g' tt' te', e' = .ListComp elt' [⟨tg', it', ifs', 0⟩] scope p ∧ PI X tg' it' wi' ∧ BlkOk X.N X.env.scope scope own' ∧
      (∀ (sh : Shared) (H : Hp) (C' : Addr) (cl : List (Str × Addr)) (fp : List Addr), PG (X.blk sh H scope (compEnvC scope cl C' X.env) fp) tg' g') ∧ (∀ (sh : Shared) (H : Hp) (C' : Addr) (cl : List (Str × Addr)) (fp : List Addr), PTs (X.blk sh H scope (compEnvC scope cl C' X.env) fp) ifs' tt') ∧
      (∀ (sh : Shared) (H : Hp) (C' : Addr) (cl : List (Str × Addr)) (fp : List Addr), PE (X.blk sh H scope (compEnvC scope cl C' X.env) fp) elt' te') ∧ (∀ x, foldedSetIterable it' X.env x = pure x) ∧ tLc wi' g' tt' te' (own'.map (·.2)) σ H Q) (i : Nat) : SndS g k s T C (.set i e) := by
  intro nm X st c hc as σ W h H P D S sl hg q
  unfold chkS at hc
  split at hc
  · rename_i x px e' pos
    simp only [Bool.and_eq_true, decide_eq_true_eq] at hc
    obtain ⟨⟨c1, c2⟩, c3⟩ := hc
    obtain ⟨l1, l2⟩ := c.loc c2
    unfold evS at hg
    have hg2 := bindM_good.mp hg
    have want : ∀ r : Val × VH, ((fun h => M.T.ret (Fl.nx (as.set i (some r.1)), h) : Mo Fl) r.2).Good P → Want g W r (fun y H1 => D.nx (σ.set i (some y)) H1) := fun r hr W1 w H1 le S1 R1 => q _ hr W1 _ H1 le S1 ((sl.mono le).set R1)
    by_cases hl : lcE e' = true
    · obtain ⟨elt', tg', it', ifs', scope, p, own', wi', g', tt', te', rfl, h1, h2, h3, h4, h5, h6, h7⟩ := hcomp nm X e' c c3 as σ W h H _ _ S sl hg2 want hl
      have eb : swapsWith (.ListComp elt' [⟨tg', it', ifs', 0⟩] scope p) (some (.Name x px)) pos.line X.env = pure (X.env.blockKind == .function && X.env.kindOf x == some .local && px.line == p.line && !(scope.names.any fun (n, k) => n == x && (k == .local || k == .cell))) := rfl
      generalize hb : (X.env.blockKind == .function && X.env.kindOf x == some .local && px.line == p.line && !(scope.names.any fun (n, k) => n == x && (k == .local || k == .cell))) = b at eb
      cases b with
      | true =>
        simp only [Bool.and_eq_true] at hb
        have hloc : X.env.scope.names.lookup x = some .local := beq_iff_eq.mp hb.1.1.2
        exact (ps_setLc c.calm (by rw [c.N]; exact c.nd) (by rw [c.N]; exact c1) hloc eb h1 h2 h3 h4 h5 h6).ws' h7
      | false => exact (ps_set (by rw [c.N]; exact c.nd) (by rw [c.N]; exact c1) l1 (pe_lc c.calm (by rw [c.N]; exact c.nd) h1 h2 h3 h4 h5 h6) eb l2).ws' h7
    · have hl' : lcE e' = false := by simpa using hl
      exact (ps_set (by rw [c.N]; exact c.nd) (by rw [c.N]; exact c1) l1 pe_we (sw_none hl') l2).ws' (he nm X e' c c3 as σ W h H _ _ S sl hg2 want)
  · cases hc

theorem comp_any (tb : TbOk g k s T C fa ar) (e : Ex) {nm : Nms} {X : Cx} {e' : Expr} (c : CxOk g (k + 1) s nm X) (hc : chkE s nm e e' = true) {as : Sl} {σ : L2.St} {W : Wd} {h : VH} {H : Hp} {P : Val × VH → Prop} {Q : VK} (S : Sim g W h H) (sl : Slo g W as σ) (hg : (evE T C as e h).Good P) (q : ∀ r, P r → Want g W r Q) (hl : lcE e' = true) :
    ∃ elt' tg' it' ifs' scope p own' wi' g' tt' te', e' = .ListComp elt' [⟨tg', it', ifs', 0⟩] scope p ∧ PI X tg' it' wi' ∧ BlkOk X.N X.env.scope scope own' ∧
      (∀ (sh : Shared) (H : Hp) (C' : Addr) (cl : List (Str × Addr)) (fp : List Addr), PG (X.blk sh H scope (compEnvC scope cl C' X.env) fp) tg' g') ∧ (∀ (sh : Shared) (H : Hp) (C' : Addr) (cl : List (Str × Addr)) (fp : List Addr), PTs (X.blk sh H scope (compEnvC scope cl C' X.env) fp) ifs' tt') ∧
      (∀ (sh : Shared) (H : Hp) (C' : Addr) (cl : List (Str × Addr)) (fp : List Addr), PE (X.blk sh H scope (compEnvC scope cl C' X.env) fp) elt' te') ∧ (∀ x, foldedSetIterable it' X.env x = pure x) ∧ tLc wi' g' tt' te' (own'.map (·.2)) σ H Q := by
  cases e with
  | comp m elt tg src ifs own => exact comp_by (sndX tb src) (sndE tb elt).1 (fun d e => (sndE tb d).2) c hc S sl hg q
  | frz a =>
    unfold chkE at hc
    rw [Bool.and_eq_true] at hc
    unfold evE at hg
    cases a with
    | comp m elt tg src ifs own =>
      refine comp_by (sndX tb src) (sndE tb elt).1 (fun d e => (sndE tb d).2) c hc.2 S sl (bindM_good.mp hg) fun r hr W1 w H1 l1 S1 R1 => ?_
      obtain ⟨W2, v, h2, l2, S2, R2, p2⟩ := frz_good S1 R1 hr
      exact q _ p2 W2 w H1 (l1.trans l2) S2 R2
    | frz b => cases hc.1
    | _ =>
      rcases lc_shape hc.2 with z | ⟨⟨_, _, _, _, _, _, z⟩ | ⟨_, z⟩⟩
      · rw [z] at hl
        cases hl
      · cases z
      · cases z
  | _ =>
    rcases lc_shape hc with z | ⟨⟨_, _, _, _, _, _, z⟩ | ⟨_, z⟩⟩
    · rw [z] at hl
      cases hl
    · cases z
    · cases z
/-- name = e -/
theorem sns_set (tb : TbOk g k s T C fa ar) (i : Nat) (e : Ex) : SndS g k s T C (.set i e) :=
  set_any (sndE tb e).1 (fun nm X e' c hc as σ W h H P Q S sl hg q hl => comp_any tb e c hc S sl hg q hl) i

/-! ### several stores -/
def setAllV : List Nat → List V → L2.St → Option L2.St
  | [], [], σ => some σ
  | i :: is, v :: vs, σ => (setAllV is vs σ).map fun σ' => σ'.set i (some v)
  | _, _, _ => none
theorem setAll_ok {W : Wd} : ∀ {is : List Nat} {vs : List Val} {ws : List V} {a a' : Sl} {σ : L2.St}, Reps g W vs ws → Slo g W a σ → setAll is vs a = some a' → ∃ σ', setAllV is ws σ = some σ' ∧ Slo g W a' σ'
  | [], [], _, a, a', σ, .nil, sl, h => by
    cases h
    exact ⟨σ, rfl, sl⟩
  | i :: is, v :: vs, _, a, a', σ, .cons r rr, sl, h => by
    unfold setAll at h
    obtain ⟨b, e1, e2⟩ := map_some h
    obtain ⟨σ1, e3, s1⟩ := setAll_ok rr sl e1
    subst e2
    refine ⟨_, ?_, s1.set r⟩
    unfold setAllV
    rw [e3]
    rfl
  | [], _ :: _, _, _, _, _, _, _, h => by
    unfold setAll at h
    cases h
  | _ :: _, [], _, _, _, _, _, _, h => by
    unfold setAll at h
    cases h
abbrev Sto := Nat × Str × Value × V
def stoV (l : List Sto) (σ : L2.St) : L2.St := l.foldr (fun t σ => σ.set t.1 (some t.2.2.2)) σ
def StoOk (X : Cx) (t : Sto) : Prop := X.N[t.1]? = some t.2.1 ∧ X.env.scope.names.lookup t.2.1 = some .local ∧ L2.RelV t.2.2.2 t.2.2.1
theorem par_list {nm : Nms} {X : Cx} (c : CxOk g k s nm X) {l : Nat} : ∀ {is : List Nat} {ts : List Expr} {us : List Value} {ws : List V} {σ σ' : L2.St}, parB s nm l is ts = true → Vals ws us → setAllV is ws σ = some σ' →
    ∃ z : List Sto, parNames ts = z.map (·.2.1) ∧ us = z.map (·.2.2.1) ∧ (∀ t ∈ z, StoOk X t) ∧ σ' = stoV z σ ∧ (∀ (m : Nat), m = l → ts.filterMap (fun | .Name id pos => if X.env.kindOf id == some .local && pos.line == m then some id else none | _ => none) = z.map (·.2.1)) ∧ ts.length = z.length
  | [], [], us, ws, σ, σ', h, r, e => by
    cases ws with
    | nil =>
      cases r
      cases e
      exact ⟨[], rfl, rfl, fun _ z => (nomatch z), rfl, fun _ _ => rfl, rfl⟩
    | cons w ws => cases e
  | i :: is, t :: ts, us, ws, σ, σ', h, r, e => by
    unfold parB at h
    rw [Bool.and_eq_true] at h
    obtain ⟨h1, h2⟩ := h
    split at h1
    · rename_i x p
      simp only [Bool.and_eq_true, decide_eq_true_eq, beq_iff_eq] at h1
      obtain ⟨⟨a1, a2⟩, a3⟩ := h1
      cases ws with
      | nil => cases e
      | cons w ws =>
        cases r with
        | cons r1 r2 =>
          rename_i u us
          unfold setAllV at e
          obtain ⟨σ1, e1, e2⟩ := map_some e
          obtain ⟨z, b1, b2, b3, b4, b5, b6⟩ := par_list c h2 r2 e1
          have hloc : X.env.scope.names.lookup x = some .local := by
            rcases c.look x _ a2 with q | ⟨q, _⟩
            · exact q
            · cases q
          refine ⟨(i, x, u, w) :: z, ?_, ?_, fun t ht => ?_, ?_, fun m hm => ?_, ?_⟩
          · show x :: parNames ts = x :: _
            rw [b1]
          · rw [b2]
            rfl
          · rcases List.mem_cons.mp ht with q | q
            · rw [q]
              exact ⟨by rw [c.N]; exact a1, hloc, r1⟩
            · exact b3 t q
          · rw [← e2, b4]
            rfl
          · rw [List.filterMap_cons]
            have hk : (X.env.kindOf x == some NameKind.local) = true := beq_iff_eq.mpr hloc
            simp only [hk, hm, a3, beq_self_eq_true, Bool.and_self, if_true]
            rw [b5 l rfl]
            rfl
          · rw [List.length_cons, List.length_cons, b6]
    · cases h1
  | [], _ :: _, _, _, _, _, h, _, _ => by
    unfold parB at h
    cases h
  | _ :: _, [], _, _, _, _, h, _, _ => by
    unfold parB at h
    cases h
theorem stores_ok {X : Cx} {pins : List (Addr × Obj)} {H : Hp} {Mo : Model} {A : Around} {E : Value → Shared → Prop} (hN : X.N.Nodup) : ∀ {z : List Sto} {σ : L2.St} {sh : Shared}, (∀ t ∈ z, StoOk X t) → Inv X pins σ H sh →
    wpAny Mo A (assignInOrder (z.map fun t => fun v => bindName X.env t.2.1 v) (z.map (·.2.2.1))) (fun _ s' => Inv X pins (z.foldl (fun σ t => σ.set t.1 (some t.2.2.2)) σ) H s') E sh
  | [], σ, sh, _, I => assignInOrder_nil I
  | t :: z, σ, sh, h, I => by
    obtain ⟨h1, h2, h3⟩ := h t List.mem_cons_self
    refine assignInOrder_cons (wpAny_bindName (store_ok I hN h1 (.inl h2) h3 (fun s2 I2 => ?_) (.inr h2)))
    exact stores_ok hN (fun t' ht' => h t' (List.mem_cons_of_mem _ ht')) I2
theorem no_star {nm : Nms} : ∀ {vs : List Expr} {es : Es}, chkEs s nm es vs = true → vs.any (fun | .Starred .. => true | _ => false) = false
  | [], _, _ => rfl
  | v :: vs, es, h => by
    cases es with
    | nil =>
      unfold chkEs at h
      cases h
    | cons e r =>
      unfold chkEs at h
      rw [Bool.and_eq_true] at h
      rw [List.any_cons, no_star h.2]
      have := (chk_shape h.1).1
      cases v <;> first | rfl | cases this
theorem swap_eq {nm : Nms} {X : Cx} (c : CxOk g k s nm X) {is : List Nat} {ts vs : List Expr} {es : Es} {kt : Nat} {pt : Pos} {k2 : Nat} {pt2 : Pos} {z : List Sto} (h : chkPar s nm is ts vs = true) (he : chkEs s nm es vs = true) (b1 : parNames ts = z.map (·.2.1))
    (b5 : ∀ (m : Nat), m = lineOf ts → ts.filterMap (fun | .Name id pos => if X.env.kindOf id == some .local && pos.line == m then some id else none | _ => none) = z.map (·.2.1)) (b6 : ts.length = z.length) :
    swappedStores [.Tuple ts kt pt] (.Tuple vs k2 pt2) X.env = pure (some (z.map (·.2.1))) := by
  unfold chkPar at h
  simp only [Bool.and_eq_true, Bool.not_eq_true', beq_iff_eq] at h
  obtain ⟨⟨⟨⟨⟨h1, h2⟩, h3⟩, h4⟩, h5⟩, h6⟩ := h
  have hk : X.env.blockKind = .function := by
    unfold Env.blockKind
    rw [c.kind]
    rfl
  have b5' := b5 (lineOf ts) rfl
  unfold lineOf at b5'
  have hst := no_star he
  have e4 : ((z.map (·.2.1)).length != ts.length || (z.map (·.2.1)).eraseDups.length != (z.map (·.2.1)).length) = false := by
    rw [← b1, h4, bne_self_eq_false, Bool.or_false, b1, List.length_map, b6, bne_self_eq_false]
  unfold swappedStores
  simp only []
  generalize hn : List.filterMap _ ts = names
  have hn' : names = z.map (·.2.1) := hn.symm.trans b5'
  subst hn'
  have e1 : (!(ts.length == 2 || ts.length == 3) || vs.length != ts.length || X.env.blockKind != ScopeKind.function) = false := by
    rw [hk, h2, h1, bne_self_eq_false]
    rfl
  rw [e1, e4, h5, h6]
  generalize hv : vs.any _ = b
  have hb : b = false := hv.symm.trans hst
  subst hb
  rfl
theorem few_names {env : PySem.Env} {ln : Nat} : ∀ {ts : List Expr}, (ts.any fun t => (nameE t).isNone) = true → (ts.filterMap (fun | Expr.Name id pos => if (env.kindOf id == some NameKind.local && pos.line == ln) = true then some id else none | _ => none)).length < ts.length
  | [], h => nomatch h
  | t :: ts, h => by
    have hle : (ts.filterMap (fun | Expr.Name id pos => if (env.kindOf id == some NameKind.local && pos.line == ln) = true then some id else none | _ => none)).length ≤ ts.length := List.length_filterMap_le ..
    rw [List.any_cons, Bool.or_eq_true] at h
    by_cases hn : (nameE t).isNone = true
    · rw [List.filterMap_cons]
      cases t with
      | Name x p => cases hn
      | _ =>
        simp only [List.length_cons]
        omega
    · have ih := few_names (env := env) (ln := ln) (h.resolve_left hn)
      rw [List.filterMap_cons]
      split
      · rw [List.length_cons]
        omega
      · rw [List.length_cons, List.length_cons]
        omega
/-- the target is stored as it is written -/
theorem noSwap_eq {nm : Nms} {X : Cx} (c : CxOk g k s nm X) {ts : List Expr} {e' : Expr} {kk : Nat} {p : Pos} (h : noSwap ts e' = true) (hs : ∀ vs k2 p2, e' = .Tuple vs k2 p2 → vs.any (fun | .Starred .. => true | _ => false) = false) : swappedStores [.Tuple ts kk p] e' X.env = pure none := by
  unfold noSwap at h
  split at h
  · rename_i vs k2 p2
    have hst := hs vs k2 p2 rfl
    simp only [Bool.or_eq_true, Bool.not_eq_true'] at h
    unfold swappedStores
    simp only []
    generalize hn : List.filterMap _ ts = names
    generalize hv : vs.any _ = b
    have hb : b = false := hv.symm.trans hst
    subst hb
    rcases h with (h | h) | h
    · have e1 : (!(ts.length == 2 || ts.length == 3) || vs.length != ts.length || X.env.blockKind != ScopeKind.function) = true := by
        rw [h]
        rfl
      rw [e1]
      rfl
    · have hlt : names.length < ts.length := by
        rw [← hn]
        exact few_names h
      have e2 : (names.length != ts.length || names.eraseDups.length != names.length) = true := by
        rw [Bool.or_eq_true]
        exact .inl (bne_iff_ne.mpr (Nat.ne_of_lt hlt))
      rw [e2]
      split <;> rfl
    · rw [h]
      split
      · rfl
      · show (if (names.length != ts.length || names.eraseDups.length != names.length) = true then pure none else pure none) = _
        split <;> rfl
  · rename_i hne
    unfold swappedStores
    cases e' with
    | Tuple vs k2 p2 => exact absurd rfl (hne vs k2 p2)
    | _ => rfl
end
end M
end

section
set_option Elab.async false
set_option linter.all false
set_option maxRecDepth 100000
set_option maxHeartbeats 1000000
/-! M14: the other statements; all statements together. -/
namespace M
open PySem PySem.Spec PyProof.Rows L2

section
variable {g : Ga} {k : Nat} {s : Si} {T : Tb} {C : Nat → List Val → Mo Val} {fa : Nat → Addr} {ar : Nat → Nat}
theorem assignStores_some {env : PySem.Env} {v : Value} {names : List Str} {stores : List (Value → Sem Unit)} : assignStores env v (some names) stores = (do rule "assign.swapped-stores"; let items ← unpackItems v names.length none; assignInOrder (names.reverse.map fun n => fun v => bindName env n v) items.reverse; pure Flow.next) := rfl
theorem sns_par {is : List Nat} {es : Es} (he : SndEs g k s T C es) : SndS g k s T C (.par is es) := by
  intro nm X st c hc as σ W h H P D S sl hg q
  unfold chkS at hc
  split at hc
  · rename_i ts kt pt vs k2 pt2 pos
    rw [Bool.and_eq_true] at hc
    unfold evS at hg
    have ha := (seqEs (Q := fun ws H1 => ∃ σ', setAllV is ws σ = some σ' ∧ D.nx σ' H1) he c hc.2 S sl hg fun W1 xs h1 ws H1 l1 S1 R1 g1 => by
      obtain ⟨a', e1, p1⟩ := lift_good.mp (bindM_good.mp g1)
      obtain ⟨σ', e2, s2⟩ := setAll_ok R1 (sl.mono l1) e1
      exact ⟨σ', e2, q _ p1 W1 σ' H1 l1 S1 s2⟩).1
    have hpar := hc.1
    unfold chkPar at hpar
    simp only [Bool.and_eq_true] at hpar
    have hp3 := hpar.1.1.1.2
    intro pins sh I
    rw [exec_Assign_arm]
    refine wpAny_bind (wpAny_standAt ?_)
    have hs : swapsWithSole [.Tuple ts kt pt] (.Tuple vs k2 pt2) pos.line X.env = pure false := rfl
    rw [hs]
    refine wpAny_bind (wpAny_pure ?_)
    rw [if_neg (by decide)]
    refine wpAny_bind (Tuple_ (thn (ha _ pins sh I) fun us s1 ⟨ws, H1, I1, r1, σ', e1, q1⟩ => ?_))
    obtain ⟨z, b1, b2, b3, b4, b5, b6⟩ := par_list c hp3 r1 e1
    have hw := swap_eq (kt := kt) (pt := pt) (k2 := k2) (pt2 := pt2) c hc.1 hc.2 b1 b5 b6
    have zl : z.length ≤ 3 := by
      have hl := hpar.1.1.1.1.1
      rw [Bool.or_eq_true, beq_iff_eq, beq_iff_eq] at hl
      omega
    have ul : us.length = z.length := by rw [b2, List.length_map]
    refine wpAny_newObj_type ?_ (show us.toArray.size ≤ sizeLine by rw [List.size_toArray, ul]; exact Nat.le_trans zl (by rw [sizeLine_eq]; decide))
    have I2 : Inv X pins σ H1 { s1 with heap := s1.heap.push { cls := .type "tuple", data := .seq us.toArray } } := I1.kept (t' := s1.toks) fun b o e => Heap.get?_push_of_some _ e
    rw [hw]
    refine wpAny_bind (wpAny_pure ?_)
    rw [assignStores_some]
    refine wpAny_bind (wpAny_rule (wpAny_bind ?_))
    rw [List.length_map, ← ul]
    have hsz : us.length = us.toArray.size := by simp
    rw [hsz]
    refine unpackItems_tuple (items := us.toArray) (I.ok.hd c.calm) (IsTup.new s1.heap _) fun h' hx' => ?_
    have I3 := I2.kept (h' := h') (t' := s1.toks) fun b o e => hx' b o (Nat.ne_of_lt (Heap.lt_size e)) e
    have st := stores_ok (z := z.reverse) (Mo := model X.prog X.w) (A := X.A) (E := X.xe) (by rw [c.N]; exact c.nd) (fun t ht => b3 t (List.mem_reverse.mp ht)) I3
    refine wpAny_bind ?_
    have e4 : ((z.map (·.2.1)).reverse.map fun n => fun v => bindName X.env n v) = z.reverse.map fun t => fun v => bindName X.env t.2.1 v := by
      rw [← List.map_reverse, List.map_map]
      rfl
    have e5 : us.toArray.toList.reverse = z.reverse.map (·.2.2.1) := by
      rw [List.toList_toArray, b2, List.map_reverse]
    rw [e4, e5]
    refine thn st fun _ s3 I4 => wpAny_pure ?_
    rw [List.foldl_reverse] at I4
    have I5 : Inv X pins σ' H1 s3 := by rw [b4]; exact I4
    exact ⟨σ', H1, I5, q1⟩
  · cases hc
theorem tup_es {m : Ex} {nm : Nms} {vs : List Expr} {k2 : Nat} {p2 : Pos} (h : chkE s nm m (.Tuple vs k2 p2) = true) : ∃ es, chkEs s nm es vs = true := by
  cases m with
  | tup es =>
    unfold chkE at h
    exact ⟨es, h⟩
  | frz a =>
    unfold chkE at h
    rw [Bool.and_eq_true] at h
    cases a with
    | tup es =>
      have h2 := h.2
      unfold chkE at h2
      exact ⟨es, h2⟩
    | frz b => cases h.1
    | glob n =>
      have h2 := h.2
      unfold chkE at h2
      obtain ⟨y, p, e, _⟩ := glob_shape h2
      cases e
    | _ =>
      have h2 := h.2
      unfold chkE at h2
      cases h2
  | glob n =>
    unfold chkE at h
    obtain ⟨y, p, e, _⟩ := glob_shape h
    cases e
  | _ =>
    unfold chkE at h
    cases h
theorem sns_unt {tg : Tg} {e : Ex} (he : SndE g k s T C e) : SndS g k s T C (.unt tg e) := by
  intro nm X st c hc as σ W h H P D S sl hg q
  unfold chkS at hc
  split at hc
  · rename_i ts kk p e' pos
    simp only [Bool.and_eq_true, Bool.not_eq_true'] at hc
    obtain ⟨⟨⟨c1, c2⟩, c3⟩, c4⟩ := hc
    unfold evS at hg
    have hst : ∀ vs k2 p2, e' = .Tuple vs k2 p2 → vs.any (fun | .Starred .. => true | _ => false) = false := by
      intro vs k2 p2 ee
      subst ee
      obtain ⟨es, h⟩ := tup_es c2
      exact no_star h
    refine (ps_asg pe_we (pgT c tg c1) ?_ (noSwap_eq c c3 hst) rfl).ws' ?_
    · show swapsWith e' (some (.Tuple ts kk p)) pos.line X.env = pure false
      exact sw_none c4
    · show we X e' σ H fun x H1 => gT X.K tg x σ H1 D.nx
      refine seqE he c c2 S sl hg fun W1 x h1 w H1 l1 S1 R1 g1 => ?_
      obtain ⟨a', e1, p1⟩ := lift_good.mp (bindM_good.mp g1)
      rw [c.K]
      exact gT_ok S1 tg c1 e1 R1 (sl.mono l1) fun σ' s2 _ => q _ p1 W1 σ' H1 l1 S1 s2
  · cases hc
theorem store_good {W : Wd} {h : VH} {H : Hp} {x ky v : Val} {x' i' v' : V} {P : Unit × VH → Prop} {Q : Hp → Prop} (S : Sim g W h H) (rx : Rep g W x x') (ri : Rep g W ky i') (rv : Rep g W v v') (hg : (storeV x ky v h).Good P)
    (q : ∀ h2 H2, P ((), h2) → Sim g W h2 H2 → Q H2) : rSetL x' i' v' H Q ∨ rSetD x' i' v' H Q := by
  unfold storeV at hg
  split at hg
  · rename_i r
    cases rx with
    | @ref _ a m =>
      split at hg
      · rename_i xs hx
        split at hg
        · rename_i kk
          cases ri
          split at hg
          · rename_i j hj
            obtain ⟨ys, hh, rr⟩ := get_lst S m hx
            exact .inl ⟨_, ys, kk, j, rfl, rfl, hh, by rw [← rr.length]; exact hj, q _ _ hg (S.set hx m (.lst (rr.set j rv)))⟩
          · exact hg.elim
        · exact hg.elim
      · rename_i kvs hx
        split at hg
        · rename_i k ek
          split at hg
          · rename_i hl
            obtain ⟨a', u, m', n, np, hh, ro⟩ := S.ob _ _ hx
            rw [m] at m'
            cases m'
            cases ro with
            | dK rr =>
              have := keyOf_ok ri ek
              subst this
              refine .inr ⟨a, _, rfl, .inl ⟨_, k, hh, rfl, ?_, rfl⟩, q _ _ hg (S.set hx m (.dK (rr.put rv)))⟩
              rw [← rr.length, sizeLine_eq]
              omega
          · exact hg.elim
        · exact hg.elim
      · exact hg.elim
  · exact hg.elim
theorem set_either {X : Cx} (u : X.A.units + 1 < cLine) : PSet X (fun o i v H Q => rSetL o i v H Q ∨ rSetD o i v H Q) := by
  intro pins s σ H o i v ov iv w Q I ro ri rv h
  rcases h with h | h
  · exact set_list pins s σ H o i v ov iv w Q I ro ri rv h
  · exact set_dict u pins s σ H o i v ov iv w Q I ro ri rv h
theorem sns_ssub {a i e : Ex} (ha : SndE g k s T C a) (hi : SndE g k s T C i) (he : SndE g k s T C e) : SndS g k s T C (.ssub a i e) := by
  intro nm X st c hc as σ W h H P D S sl hg q
  unfold chkS at hc
  split at hc
  · rename_i a' i' p e' pos
    simp only [Bool.and_eq_true] at hc
    obtain ⟨⟨c1, c2⟩, c3⟩ := hc
    unfold evS at hg
    have hsl := (chk_shape c2).2.1
    have un : X.A.units + 1 < cLine := by have := c.room.un; omega
    refine (ps_asg pe_we (pg_sub pe_we pe_we (set_either un) (by intro v; cases i' <;> first | rfl | cases hsl)) ?_ ?_ rfl).ws' ?_
    · show swapsWith e' (some (.Subscript a' i' p)) pos.line X.env = pure false
      cases e' <;> rfl
    · cases e' <;> rfl
    · show we X e' σ H fun x H1 => we X a' σ H1 fun o H2 => we X i' σ H2 fun j H3 => rSetL o j x H3 (fun H4 => D.nx σ H4) ∨ rSetD o j x H3 fun H4 => D.nx σ H4
      refine seqE he c c3 S sl hg fun W1 x h1 w H1 l1 S1 R1 g1 => ?_
      refine seqE ha c c1 S1 (sl.mono l1) g1 fun W2 o h2 o' H2 l2 S2 R2 g2 => ?_
      refine seqE hi c c2 S2 (sl.mono (l1.trans l2)) g2 fun W3 j h3 j' H3 l3 S3 R3 g3 => ?_
      exact store_good S3 (R2.mono l3) R3 (R1.mono (l2.trans l3)) (bindM_good.mp g3) fun h4 H4 p4 S4 => q _ p4 W3 σ _ (l1.trans (l2.trans l3)) S4 (sl.mono (l1.trans (l2.trans l3)))
  · cases hc
theorem sns_sfld (tb : TbOk g k s T C fa ar) {a e : Ex} {f : Nat} (ha : SndE g k s T C a) (he : SndE g k s T C e) : SndS g k s T C (.sfld a f e) := by
  intro nm X st c hc as σ W h H P D S sl hg q
  unfold chkS at hc
  split at hc
  · rename_i a' f' p e' pos
    simp only [Bool.and_eq_true, decide_eq_true_eq] at hc
    obtain ⟨⟨c1, c2⟩, c3⟩ := hc
    have hf : f < s.fld.length := (List.getElem?_eq_some_iff.mp c1).1
    have ef := tb.fldN f hf
    rw [c1] at ef
    have ef := Option.some.inj ef
    subst ef
    unfold evS at hg
    refine (ps_fld pe_we pe_we ?_).ws' ?_
    · cases e' <;> rfl
    · show we X e' σ H fun y H1 => we X a' σ H1 fun x H2 => ∃ a C dx fs, x = .ref a ∧ H2 a = some (.ins C dx fs) ∧ Cls X.K C ∧ NoAttr X.K C (g.fld f) ∧ fs.length < 1000 ∧ D.nx σ (upd H2 a (.ins C dx (L2.putF (g.fld f) y fs)))
      refine seqE he c c3 S sl hg fun W1 x h1 w H1 l1 S1 R1 g1 => ?_
      refine seqE ha c c2 S1 (sl.mono l1) g1 fun W2 o h2 o' H2 l2 S2 R2 g2 => ?_
      have g3 := bindM_good.mp g2
      unfold sfldV at g3
      split at g3
      · rename_i r
        cases R2 with
        | @ref _ pa m =>
          split at g3
          · rename_i cc fs hx
            split at g3
            · rename_i hcond
              obtain ⟨hlen, hhf⟩ := hcond
              have hhas := tb.hasT _ _ hhf
              obtain ⟨a1, u, m', n, np, hh, ro⟩ := S2.ob _ _ hx
              rw [m] at m'
              cases m'
              cases ro with
              | @ins _ dx _ gs lt rr =>
                refine ⟨pa, _, dx, gs, rfl, hh, by rw [c.K]; exact tb.ga.cls cc lt.1, by rw [c.K]; exact tb.ga.noat cc f lt.1 hhas, by rw [← rr.length]; omega, ?_⟩
                exact q _ g3 W2 σ _ (l1.trans l2) (S2.set hx m (.ins ⟨lt.1, Has.put lt.2 hhas⟩ (rr.put tb.ga.inj (R1.mono l2)))) (sl.mono (l1.trans l2))
            · exact g3.elim
          · exact g3.elim
      · exact g3.elim
  · cases hc
theorem sns_ite {d : Ex} {t e : Ss} (hd : SndT g k s T C d) (ht : SndSs g k s T C t) (he : SndSs g k s T C e) : SndS g k s T C (.ite d t e) := by
  intro nm X st c hc as σ W h H P D S sl hg q
  unfold chkS at hc
  split at hc
  · simp only [Bool.and_eq_true] at hc
    unfold evS at hg
    refine (ps_if pt_wt pss_wss pss_wss).ws' ?_
    show wt X _ σ H fun b H1 => if b = true then wss X _ D σ H1 else wss X _ D σ H1
    refine seqT hd c hc.1.1 S sl hg (fun x h1 g1 => ?_) fun W1 b h1 H1 l1 S1 g1 => ?_
    · split at g1
      · exact ⟨true, rfl⟩
      · exact ⟨false, rfl⟩
      · exact g1.elim
    · cases b with
      | true =>
        rw [if_pos rfl]
        exact ht nm X _ c hc.1.2 as σ W1 h1 H1 P D S1 (sl.mono l1) g1 fun r pr => (q r pr).le l1
      | false =>
        rw [if_neg (by decide)]
        exact he nm X _ c hc.2 as σ W1 h1 H1 P D S1 (sl.mono l1) g1 fun r pr => (q r pr).le l1
  · cases hc
theorem sns_ret {e : Ex} (he : SndE g k s T C e) : SndS g k s T C (.ret e) := by
  intro nm X st c hc as σ W h H P D S sl hg q
  unfold chkS at hc
  split at hc
  · unfold evS at hg
    refine (ps_ret pe_we).ws' ?_
    show we X _ σ H D.rt
    refine seqE he c hc S sl hg fun W1 x h1 w H1 l1 S1 R1 g1 => ?_
    exact q _ g1 W1 w H1 l1 S1 R1
  · cases hc
theorem sns_retN : SndS g k s T C .retN := by
  intro nm X st c hc as σ W h H P D S sl hg q
  unfold chkS at hc
  split at hc
  · unfold evS at hg
    exact ps_retN.ws' (q _ hg W _ H .rfl' S .non)
  · cases hc
theorem sns_brk : SndS g k s T C .brk := by
  intro nm X st c hc as σ W h H P D S sl hg q
  unfold chkS at hc
  split at hc
  · unfold evS at hg
    exact ps_break.ws' (q _ hg W σ H .rfl' S sl)
  · cases hc
theorem sns_cnt : SndS g k s T C .cnt := by
  intro nm X st c hc as σ W h H P D S sl hg q
  unfold chkS at hc
  split at hc
  · unfold evS at hg
    exact ps_continue.ws' (q _ hg W σ H .rfl' S sl)
  · cases hc
theorem sns_wall : SndS g k s T C .wall := by
  intro nm X st c hc as σ W h H P D S sl hg q
  unfold evS at hg
  exact hg.elim
theorem sns_nil : SndSs g k s T C .nil := by
  intro nm X st c hc as σ W h H P D S sl hg q
  unfold chkSs at hc
  split at hc
  · unfold evSs at hg
    exact pss_nil.wss' (q _ hg W σ H .rfl' S sl)
  · cases hc
theorem sns_cons {x : Sm} {r : Ss} (hx : SndS g k s T C x) (hr : SndSs g k s T C r) : SndSs g k s T C (.cons x r) := by
  intro nm X st c hc as σ W h H P D S sl hg q
  unfold chkSs at hc
  split at hc
  · rw [Bool.and_eq_true] at hc
    unfold evSs at hg
    refine (pss_cons ps_ws pss_wss).wss' ?_
    show ws X _ { D with nx := wss X _ D } σ H
    refine hx nm X _ c hc.1 as σ W h H _ _ S sl (M.T.good_bind.mp hg) fun fh hf => ?_
    obtain ⟨f, h1⟩ := fh
    cases f with
    | nx a =>
      intro W1 σ1 H1 l1 S1 s1
      exact hr nm X _ c hc.2 a σ1 W1 h1 H1 P D S1 s1 hf fun r pr => (q r pr).le l1
    | rt v => exact q _ hf
    | bk a => exact q _ hf
    | ct a => exact q _ hf
  · cases hc
end
end M
end

section
set_option Elab.async false
set_option linter.all false
set_option maxRecDepth 100000
set_option maxHeartbeats 1000000
/-! M15: loops; all statements together. -/
namespace M
open PySem PySem.Spec PyProof.Rows L2

section
variable {g : Ga} {k : Nat} {s : Si} {T : Tb} {C : Nat → List Val → Mo Val} {fa : Nat → Addr} {ar : Nat → Nat}
def LF (sv : Sv) (body : Val → Sl → Mo Fl) (P : Fl × VH → Prop) (i m : Nat) (a : Sl) (h : VH) : Prop := match sv with
  | .fix xs => m = xs.length - i ∧ (loopL body (xs.drop i) a h).Good P
  | sv => (loop (fun h k => sv.item h k) body m i a h).Good P
theorem LF.start {sv : Sv} {body : Val → Sl → Mo Fl} {P : Fl × VH → Prop} {a : Sl} {h : VH} (hg : (walkS sv body a h).Good P) : ∃ m, LF sv body P 0 m a h := by
  cases sv with
  | fix xs => exact ⟨xs.length - 0, rfl, hg⟩
  | rng a b c => exact ⟨_, hg⟩
  | dyn j => exact ⟨_, hg⟩
def NextF (sv : Sv) (body : Val → Sl → Mo Fl) (P : Fl × VH → Prop) (i m : Nat) (r : Fl × VH) : Prop := match r.1 with
  | .nx a => ∃ m', m' < m ∧ LF sv body P (i + 1) m' a r.2
  | .ct a => ∃ m', m' < m ∧ LF sv body P (i + 1) m' a r.2
  | .bk a => P (.nx a, r.2)
  | .rt v => P (.rt v, r.2)
theorem LF.step {sv : Sv} {body : Val → Sl → Mo Fl} {P : Fl × VH → Prop} {i m : Nat} {a : Sl} {h : VH} (l : LF sv body P i m a h) (lo : sv.lo i) :
    (sv.item h i = some none ∧ P (.nx a, h)) ∨ ∃ v, sv.item h i = some (some v) ∧ (body v a h).Good (NextF sv body P i m) := by
  have dyn : ∀ {sv : Sv}, (∀ i m a h, LF sv body P i m a h ↔ (loop (fun h k => sv.item h k) body m i a h).Good P) → LF sv body P i m a h → (sv.item h i = some none ∧ P (.nx a, h)) ∨ ∃ v, sv.item h i = some (some v) ∧ (body v a h).Good (NextF sv body P i m) := fun {sv} hiff l => by
    have l := (hiff i m a h).mp l
    cases m with
    | zero => exact False.elim l
    | succ m =>
      unfold loop at l
      split at l
      · exact False.elim l
      · rename_i e
        exact .inl ⟨e, l⟩
      · rename_i v e
        refine .inr ⟨v, e, M.T.good_mono (fun r hr => ?_) (M.T.good_bind.mp l)⟩
        obtain ⟨r1, h1⟩ := r
        unfold NextF
        cases r1 with
        | nx a => exact ⟨m, Nat.lt_succ_self m, (hiff _ _ _ _).mpr hr⟩
        | ct a => exact ⟨m, Nat.lt_succ_self m, (hiff _ _ _ _).mpr hr⟩
        | bk a => exact hr
        | rt v => exact hr
  cases sv with
  | fix xs =>
    obtain ⟨em, l⟩ := l
    have lo : i ≤ xs.length := lo
    by_cases hi : i < xs.length
    · refine .inr ⟨xs[i], ?_, ?_⟩
      · show some xs[i]? = some (some xs[i])
        rw [List.getElem?_eq_getElem hi]
      · rw [List.drop_eq_getElem_cons hi] at l
        unfold loopL at l
        refine M.T.good_mono (fun r hr => ?_) (M.T.good_bind.mp l)
        obtain ⟨r1, h1⟩ := r
        unfold NextF
        cases r1 with
        | nx a => exact ⟨xs.length - (i + 1), by omega, rfl, hr⟩
        | ct a => exact ⟨xs.length - (i + 1), by omega, rfl, hr⟩
        | bk a => exact hr
        | rt v => exact hr
    · left
      refine ⟨?_, ?_⟩
      · show some xs[i]? = some none
        rw [List.getElem?_eq_none (by omega)]
      · rw [List.drop_eq_nil_of_le (by omega)] at l
        exact l
  | rng a b c => exact dyn (fun _ _ _ _ => Iff.rfl) l
  | dyn j => exact dyn (fun _ _ _ _ => Iff.rfl) l
theorem owns {nm : Nms} {X : Cx} (c : CxOk g k s nm X) : PassesOwn (model X.prog X.w) X.A X.env X.xe := by
  rw [c.xe]
  exact PassesOwn.never
theorem src_fold {src : Sx} {nm : Nms} {it tg : Expr} {env : PySem.Env} (h : chkX s nm src it tg = true) : ∀ x, foldedSetIterable it env x = pure x := by
  refine fold_set ?_
  cases src with
  | seq a =>
    unfold chkX at h
    exact (chk_shape h).2.2
  | _ =>
    unfold chkX at h
    split at h <;> first | rfl | cases h
theorem sns_for {tg : Tg} {src : Sx} {b : Ss} (hx : SndX g k s T C src) (hb : SndSs g k s T C b) : SndS g k s T C (.for_ tg src b) := by
  intro nm X st c hc as σ W h H P D S sl hg q
  unfold chkS at hc
  split at hc
  · rename_i tg' it' b' pos
    simp only [Bool.and_eq_true] at hc
    obtain ⟨⟨c1, c2⟩, c3⟩ := hc
    unfold evS at hg
    refine (ps_for (owns c) c.calm pi_wi (pgT c tg c1) pss_wss (src_fold c2)).ws' ?_
    refine seqX hx c c2 S sl hg fun W1 sv h1 J H1 l1 S1 RI g1 => ?_
    generalize hbody : (fun v σ' => match setTg tg v σ' with
      | none => fun _ => .stuck
      | some σ'' => evSs T C σ'' b : Val → Sl → Mo Fl) = body at g1
    obtain ⟨m0, l0⟩ := LF.start g1
    refine ⟨fun i m σ' H' => ∃ W2 h2 a2, W1.le W2 ∧ Sim g W2 h2 H' ∧ Slo g W2 a2 σ' ∧ sv.lo i ∧ LF sv body P i m a2 h2, ⟨m0, W1, h1, as, .rfl', S1, sl.mono l1, ?_, l0⟩, ?_⟩
    · cases sv <;> first | exact Nat.zero_le _ | exact trivial
    rintro i m σ2 H2 ⟨W2, h2, a2, l2, S2, sl2, lo2, lf⟩
    have hri := RI W2 h2 H2 i l2.tole0 S2 lo2
    rcases lf.step lo2 with ⟨e1, pe⟩ | ⟨v, e1, gb⟩
    · rw [e1] at hri
      exact .inl ⟨hri, q _ pe W2 σ2 H2 (l1.trans l2) S2 sl2⟩
    · rw [e1] at hri
      obtain ⟨hgo, hy⟩ := hri
      refine .inr ⟨hgo, fun σ' H' => ∃ m', m' < m ∧ ∃ W2 h2 a2, W1.le W2 ∧ Sim g W2 h2 H' ∧ Slo g W2 a2 σ' ∧ sv.lo (i + 1) ∧ LF sv body P (i + 1) m' a2 h2, fun _ _ z => z, fun x H3 hyl => ?_⟩
      obtain ⟨W3, l3, S3, R3⟩ := hy x H3 hyl
      have lo3 := lo_next lo2 e1
      have gb2 : (match setTg tg v a2 with
        | none => fun _ => .stuck
        | some σ'' => evSs T C σ'' b : Mo Fl) h2 |>.Good (NextF sv body P i m) := by
        have := congrFun (congrFun hbody v) a2
        rw [this]
        exact gb
      cases hset : setTg tg v a2 with
      | none =>
        rw [hset] at gb2
        exact gb2.elim
      | some a3 =>
        rw [hset] at gb2
        rw [c.K]
        refine gT_ok S3 tg c1 hset R3 (sl2.mono l3) fun σ3 sl3 _ => ?_
        refine hb nm X _ c c3 a3 σ3 W3 h2 H3 _ _ S3 sl3 gb2 fun r hr => ?_
        obtain ⟨f, h4⟩ := r
        cases f with
        | nx a => exact fun W5 σ5 H5 l5 S5 s5 => let ⟨m', hm, lf'⟩ := hr; ⟨m', hm, W5, h4, a, l2.trans (l3.trans l5), S5, s5, lo3, lf'⟩
        | ct a => exact fun W5 σ5 H5 l5 S5 s5 => let ⟨m', hm, lf'⟩ := hr; ⟨m', hm, W5, h4, a, l2.trans (l3.trans l5), S5, s5, lo3, lf'⟩
        | bk a => exact fun W5 σ5 H5 l5 S5 s5 => q _ hr W5 σ5 H5 (l1.trans (l2.trans (l3.trans l5))) S5 s5
        | rt u => exact fun W5 w H5 l5 S5 r5 => q _ hr W5 w H5 (l1.trans (l2.trans (l3.trans l5))) S5 r5
  · cases hc
theorem sns_while {d : Ex} {b : Ss} (hd : SndT g k s T C d) (hb : SndSs g k s T C b) : SndS g k s T C (.while_ d b) := by
  intro nm X st c hc as σ W h H P D S sl hg q
  unfold chkS at hc
  split at hc
  · rename_i d' b' pos
    rw [Bool.and_eq_true] at hc
    unfold evS at hg
    refine (ps_while (owns c) pt_wt pss_wss).ws' ?_
    generalize hcond : (fun σ' => bindM (evE T C σ' d) fun x => lift (asBl x) : Sl → Mo Bool) = cond at hg
    generalize hbody : (fun σ' => evSs T C σ' b : Sl → Mo Fl) = body at hg
    refine ⟨fun m σ' H' => ∃ W2 h2 a2, W.le W2 ∧ Sim g W2 h2 H' ∧ Slo g W2 a2 σ' ∧ (wloop cond body m a2 h2).Good P, ⟨_, W, h, as, .rfl', S, sl, hg⟩, ?_⟩
    rintro m σ2 H2 ⟨W2, h2, a2, l2, S2, sl2, gw⟩
    cases m with
    | zero => exact gw.elim
    | succ m =>
      unfold wloop at gw
      have g1 := M.T.good_bind.mp gw
      have hcnd := congrFun hcond a2
      have g1 : ((bindM (evE T C a2 d) fun x => lift (asBl x)) h2).Good fun r => (match r.1 with
        | false => .ret (.nx a2, r.2)
        | true => (body a2 r.2).bind fun (fl, h'') => match fl with
          | .nx σ' => wloop cond body m σ' h''
          | .ct σ' => wloop cond body m σ' h''
          | .bk σ' => .ret (.nx σ', h'')
          | .rt v => .ret (.rt v, h'') : M.T (Fl × VH)).Good P := by
        rw [hcnd]
        exact g1
      refine seqT hd c hc.1 S2 sl2 g1 (fun x h1 g2 => ?_) fun W3 bb h3 H3 l3 S3 g2 => ?_
      · obtain ⟨z, ez, _⟩ := lift_good.mp g2
        unfold asBl at ez
        split at ez
        · exact ⟨_, rfl⟩
        · cases ez
      · obtain ⟨z, ez, p2⟩ := lift_good.mp g2
        cases ez
        cases bb with
        | false =>
          rw [if_neg (by decide)]
          exact q _ p2 W3 σ2 H3 (l2.trans l3) S3 (sl2.mono l3)
        | true =>
          rw [if_pos rfl]
          refine ⟨fun σ' H' => ∃ m', m' < m + 1 ∧ ∃ W2 h2 a2, W.le W2 ∧ Sim g W2 h2 H' ∧ Slo g W2 a2 σ' ∧ (wloop cond body m' a2 h2).Good P, fun _ _ z => z, ?_⟩
          have p3 : (evSs T C a2 b h3).Good fun r => (match r.1 with
            | .nx σ' => wloop cond body m σ' r.2
            | .ct σ' => wloop cond body m σ' r.2
            | .bk σ' => .ret (.nx σ', r.2)
            | .rt v => .ret (.rt v, r.2) : M.T (Fl × VH)).Good P := by
            have := congrFun hbody a2
            rw [this]
            exact M.T.good_bind.mp p2
          refine hb nm X _ c hc.2 a2 σ2 W3 h3 H3 _ _ S3 (sl2.mono l3) p3 fun r hr => ?_
          obtain ⟨f, h4⟩ := r
          cases f with
          | nx a => exact fun W5 σ5 H5 l5 S5 s5 => ⟨m, Nat.lt_succ_self m, W5, h4, a, l2.trans (l3.trans l5), S5, s5, hr⟩
          | ct a => exact fun W5 σ5 H5 l5 S5 s5 => ⟨m, Nat.lt_succ_self m, W5, h4, a, l2.trans (l3.trans l5), S5, s5, hr⟩
          | bk a => exact fun W5 σ5 H5 l5 S5 s5 => q _ hr W5 σ5 H5 (l2.trans (l3.trans l5)) S5 s5
          | rt u => exact fun W5 w H5 l5 S5 r5 => q _ hr W5 w H5 (l2.trans (l3.trans l5)) S5 r5
  · cases hc
theorem sns_no {m : Sm} (h : ∀ nm st, chkS s nm m st = false) : SndS g k s T C m := by
  intro nm X st c hc
  rw [h nm st] at hc
  cases hc
mutual
theorem sndS (tb : TbOk g k s T C fa ar) : ∀ m : Sm, SndS g k s T C m
  | .skip => sns_skip
  | .ex e => sns_ex (sndE tb e).1
  | .set i e => sns_set tb i e
  | .par is es => sns_par (sndEs tb es)
  | .unt tg e => sns_unt (sndE tb e).1
  | .ssub a i e => sns_ssub (sndE tb a).1 (sndE tb i).1 (sndE tb e).1
  | .sfld a f e => sns_sfld tb (sndE tb a).1 (sndE tb e).1
  | .aug i op e => sns_no fun _ _ => by unfold chkS; rfl
  | .asub a i op e => sns_no fun _ _ => by unfold chkS; rfl
  | .afld a f op e => sns_no fun _ _ => by unfold chkS; rfl
  | .ite d t e => sns_ite (sndE tb d).2 (sndSs tb t) (sndSs tb e)
  | .for_ tg src b => sns_for (sndX tb src) (sndSs tb b)
  | .while_ d b => sns_while (sndE tb d).2 (sndSs tb b)
  | .ret e => sns_ret (sndE tb e).1
  | .retN => sns_retN
  | .brk => sns_brk
  | .cnt => sns_cnt
  | .wall => sns_wall
theorem sndSs (tb : TbOk g k s T C fa ar) : ∀ m : Ss, SndSs g k s T C m
  | .nil => sns_nil
  | .cons x r => sns_cons (sndS tb x) (sndSs tb r)
end
end
end M
end

section
set_option Elab.async false
set_option linter.all false
set_option maxRecDepth 100000
set_option maxHeartbeats 1000000
/-! M16: defs, level by level. -/
namespace M
open PySem PySem.Spec PyProof.Rows L2

/-- a def of the text, by its body: fn_of with what the callers guard -/
theorem cod_of {g : Ga} {k : Nat} {f : Addr} {name qual : Str} {params : Arguments} {body : List Stmt} {scope : Scope} {dV kV doc pm cdv ct oc : Value} {an od : Option Addr} {osl : Array (Option Value)} {N ps : List Str} {sp : Sp}
    (lk : g.K.lookup f = some ⟨oc, od, .func (PySem.W.fnOf name qual params body scope dV kV doc pm an cdv ct), osl⟩) (hcd : PySem.W.codeIn g.K cdv qual = true) (S : FnScope N ps scope)
    (hbody : ∀ (A : Around) (outer : List PySem.Env) (s : Shared) (H : Hp) (vs : List V) (Q : VK), Room k (A.deeper (envOfC qual scope s.heap.objs.size f cdv)) → A.guards = some [] → vs.length = ps.length → sp vs H Q E0 →
      wss (cxOf CX0 g.prog g.w g.K g.mg g.base N qual scope f cdv A outer s H E0).nox body { nx := fun _ H' => Q .non H', rt := Q } (L2.start N vs) H) :
    ∀ (A : Around) (outer : List PySem.Env) (s : Shared) (H : Hp) (args : Args) (us : List Value) (vs : List V) (Q : VK), Room (k + 1) A → A.guards = some [] → Env0 g.prog g.w g.K g.mg g.base A outer s H → us.length = ps.length →
      (g.K.In s.heap → BindsTo s (PySem.W.fnOf name qual params body scope dV kV doc pm an cdv ct) args (ps.zip us)) → Vals vs us → sp vs H Q E0 →
      codeAny (model g.prog g.w) A (.call (.ref f) args) (CR CX0 outer g.prog g.w H s Q E0) s := by
  intro A outer s H args us vs Q hr hgd e0 hl hb r hsp
  have hl2 : vs.length = ps.length := r.length.trans hl
  have KX : g.K.In s.heap := e0.mod.kin.keeps fun b o e => (e0.bs b o e).1
  have lim : s.heap.NoLimit := e0.mod.nolimit.keeps fun b o e => (e0.bs b o e).1
  have hb2 := hb KX
  have hkind : ∀ y ∈ ps.zip us, scope.names.lookup y.1 = some .local ∨ (scope.names.lookup y.1 = some .cell ∧ ((cellsFrom (s.heap.objs.size + 1) scope.names []).lookup y.1).isSome = true) := fun ⟨n, v⟩ hy => by
    rcases S.par n (List.of_mem_zip hy).1 with q | q
    · exact .inl q
    · exact .inr ⟨q, PySem.W.cellsFrom_some _ _ _ (.inl q)⟩
  refine codeAny_call_function hr.depth (KX _ _ lk) rfl S.co S.gen rfl (PySem.W.codeRec_of KX hcd) (hb2 _ _ _ _ ?_)
  refine wpAny_newFunctionEnv_cells S.kind hkind fun env he s1 x => ?_
  subst he
  refine ⟨lim.keeps x.toInCall.keep, codeAny_func ?_⟩
  have hq := hbody A outer s H vs Q (hr.deeper _) hgd hl2 hsp
  have I : L2.Inv (cxOf CX0 g.prog g.w g.K g.mg g.base N qual scope f cdv A outer s H E0) [] (L2.start N vs) H s1 := inv_start S hr.hd e0 hl2 r x
  have hrun := pss_wss.nox.run [] s1 (L2.start N vs) H _ I hq
  refine wpAny_mono hrun (fun fl s' hs => ?_) fun e s' hs => hs
  have fin : ∀ {σ' : L2.St} {H' : Hp} {v : V} {u : Value}, L2.Inv (cxOf CX0 g.prog g.w g.K g.mg g.base N qual scope f cdv A outer s H E0) [] σ' H' s' → L2.RelV v u → Q v H' → CE outer g.prog g.w H s Q u s' :=
    fun {σ' H' v u} J rv q => ⟨v, H', J.os, J.bare, J.base, J.hok, rv, q⟩
  cases fl with
  | ret u =>
    obtain ⟨v, σ', H', J, rv, q⟩ := hs
    exact fin J rv q
  | next =>
    obtain ⟨σ', H', J, q⟩ := hs
    exact fin (v := V.non) (u := Value.none) J rfl q
  | brk =>
    obtain ⟨_, _, _, q⟩ := hs
    exact False.elim q
  | cont =>
    obtain ⟨_, _, _, q⟩ := hs
    exact False.elim q

/-- so many parameters are filled by None -/
def nonsV : Nat → List V
  | 0 => []
  | n + 1 => .non :: nonsV n
theorem nonsV_len : ∀ n, (nonsV n).length = n
  | 0 => rfl
  | n + 1 => congrArg Nat.succ (nonsV_len n)
/-- they are set ahead of the body -/
def pad (np : Nat) : Nat → Ss → Ss
  | 0, b => b
  | j + 1, b => .cons (.set np .non) (pad (np + 1) j b)
/-- a def as it stands behind the top, and its compact body -/
structure DefOk (g : Ga) (s : Si) (f : Addr) (np ns : Nat) (body : Ss) (kx : Str) : Prop where
  ex : ∃ (st : Stmt) (x qual : Str) (N ps : List Str) (oc : Value) (od : Option Addr) (dV kV doc pm : Value) (an : Option Addr) (cdv ct : Value) (osl : Array (Option Value)) (ds : List Value) (b0 : Ss),
    g.K.lookup f = some ⟨oc, od, .func (PySem.W.fnOf x qual (defArgs st) (defBody st) (defScope st) dV kV doc pm an cdv ct), osl⟩ ∧ PySem.W.codeIn g.K cdv qual = true ∧ FnScope N ps (defScope st) ∧ ps.length = np + ds.length ∧ N.length = ns ∧
      Binds g.K (PySem.W.fnOf x qual (defArgs st) (defBody st) (defScope st) dV kV doc pm an cdv ct) ps ds ∧ chkSs { s with N := N } (defScope st).names b0 (defBody st) = true ∧ Vals (nonsV ds.length) ds ∧ body = pad np ds.length b0 ∧
      (kx ≠ ("" : Str) → ds = [] ∧ ∀ (sh : Shared) (us : List Value) (w : Value), g.K.In sh.heap → us.length + 1 = np → BindsTo sh (PySem.W.fnOf x qual (defArgs st) (defBody st) (defScope st) dV kV doc pm an cdv ct) ⟨us, [(kx, w)]⟩ (ps.zip (us ++ [w])))
/-- what does not go with the level -/
structure TbS (g : Ga) (s : Si) (T : Tb) (fa : Nat → Addr) : Prop where
  nc : g.nc = T.cls.length
  ga : GaOk g g.nc s.fld.length
  fldN : ∀ i, i < s.fld.length → s.fld[i]? = some (g.fld i)
  fns : ∀ (n : Nat) (x : Str), s.fns[n]? = some x → x ≠ "" → g.mg x = some (.ref (fa n)) ∧ PySem.W.keepIn g.K (.ref (fa n)) = true
  cls : ∀ (c : Nat) (x : Str), s.cln[c]? = some x → x ≠ "" → c < T.cls.length ∧ g.mg x = some (.ref (g.cls c)) ∧ PySem.W.keepIn g.K (.ref (g.cls c)) = true
  mak : ∀ c n fz ms eq fl, T.cls[c]? = some ⟨some n, fz, ms, eq, fl⟩ → Mk g.K (g.cls c) (fa n)
  meth : ∀ (c m n : Nat) (x : Str), methOf T c m = some n → s.mth[m]? = some x → Meth g.K (g.cls c) x (fa n) ∧ ∀ i, g.has c i = true → g.fld i ≠ x
  glo : ∀ (n : Nat) (v : Val) (x : Str), T.globs[n]? = some v → s.gl[n]? = some x → ∃ u w, g.mg x = some u ∧ L2.RelV w u ∧ ∀ W, Rep g W v w
  bis : ∀ b ∈ s.bis, (g.mg (biN b) = none ∧ bootBuiltins (biN b) = some (biF b)) ∨ (∃ id, biF b = .builtin id) ∧ g.mg (biN b) = some (biF b)
  hasT : ∀ c f, hasF T c f = true → g.has c f = true
  eqo : ∀ c kk f, T.cls[c]? = some kk → kk.eqf = some f → PySem.W.findIn g.K (.ref (g.cls c)) "__eq__" = some (some (.ref (fa f))) ∧ PySem.W.isFn g.K (.ref (fa f)) = true ∧ PySem.W.findIn g.K (.ref (g.cls c)) "__ne__" = some (some (.builtin "object.__ne__"))
  eqn : ∀ c kk, T.cls[c]? = some kk → kk.eqf = none → PySem.W.findIn g.K (.ref (g.cls c)) "__eq__" = some (some (.builtin "object.__eq__"))
  nfr : ∀ c, c < g.nc → ∀ n ∈ plainNs, PySem.W.notFirst g.K (g.cls c) (.type n) = true
  isi : g.mg "isinstance" = none
  rng : g.mg "range" = none
  zip : g.mg "zip" = none
  enu : g.mg "enumerate" = none
  tys : g.mg "int" = none ∧ g.mg "bool" = none ∧ g.mg "str" = none ∧ g.mg "tuple" = none ∧ g.mg "list" = none ∧ g.mg "dict" = none
def arOf (T : Tb) (n : Nat) : Nat := match T.defs[n]? with
  | some (.fn np _ _) => np
  | some .draw => 2
  | some .mkpen => 1
  | none => 0
section
variable {g : Ga} {s : Si} {T : Tb} {fa : Nat → Addr}
theorem TbS.with {l : Nat} {C : Nat → List Val → Mo Val} (t : TbS g s T fa) (N : List Str) (fok : ∀ n, Fok g l (fa n) (arOf T n) (spC g C n)) (arg : ∀ n vs h P, (C n vs h).Good P → vs.length = arOf T n)
    (fokk : ∀ (n : Nat) (y : Str), s.kwn[n]? = some y → y ≠ ("" : Str) → FokK g l (fa n) (arOf T n) y (spC g C n)) : TbOk g l { s with N := N } T C fa (arOf T) where
  fokk := fokk
  nc := t.nc
  ga := t.ga
  fldN := t.fldN
  fok := fok
  arg := arg
  fns := t.fns
  cls := t.cls
  mak := t.mak
  meth := t.meth
  glo := t.glo
  bis := t.bis
  hasT := t.hasT
  eqo := t.eqo
  eqn := t.eqn
  nfr := t.nfr
  isi := t.isi
  rng := t.rng
  zip := t.zip
  enu := t.enu
  tys := t.tys
theorem run_arg (l n : Nat) (vs : List Val) (h : VH) (P : Val × VH → Prop) (hg : (run T l n vs h).Good P) : vs.length = arOf T n := by
  cases l with
  | zero => exact hg.elim
  | succ l =>
    unfold run at hg
    unfold arOf
    split at hg
    · rename_i np ns body e
      first | rw [e] | skip
      split at hg
      · assumption
      · exact hg.elim
    · rename_i e
      first | rw [e] | skip
      split at hg
      · rfl
      · exact hg.elim
    · rename_i e
      first | rw [e] | skip
      split at hg
      · rfl
      · exact hg.elim
    · exact hg.elim
/-! ### what a def made for itself is gone behind it -/
theorem upto_get {h' : VH} {n i : Nat} : VH.get ⟨n, h'.upto n⟩ i = if i < n then h'.get i else none := by
  unfold VH.upto VH.get
  generalize h'.obs = l
  induction l with
  | nil => simp
  | cons p l ih =>
    obtain ⟨j, o⟩ := p
    show List.lookup i (List.filter (fun p => decide (p.1 < n)) ((j, o) :: l)) = if i < n then List.lookup i ((j, o) :: l) else none
    rw [List.filter_cons]
    by_cases hj : j < n
    · rw [if_pos (decide_eq_true hj)]
      by_cases e : i = j
      · subst e
        simp [hj]
      · have e' : (i == j) = false := by simpa using e
        simp only [List.lookup_cons, e']
        exact ih
    · rw [if_neg (by simpa using hj)]
      by_cases e : i = j
      · subst e
        rw [if_neg hj]
        rw [if_neg hj] at ih
        exact ih
      · have e' : (i == j) = false := by simpa using e
        simp only [List.lookup_cons, e']
        exact ih
def Wd.upto (W : Wd) (n : Nat) : Wd := ⟨W.G, fun i => if i < n then W.m i else none, W.pen, W.x⟩
section
variable {W W' : Wd} {n : Nat}
mutual
theorem Rep.nor : ∀ {x : Val} {y : V}, x.noref = true → Rep g W' x y → Rep g (W'.upto n) x y
  | _, _, _, .non => .non
  | _, _, _, .bl b => .bl b
  | _, _, _, .int i => .int i
  | _, _, _, .str x => .str x
  | _, _, e, .tup h r => .tup h (Reps.nor (by unfold Val.noref at e; exact e) r)
  | _, _, e, .lst h r => .lst h (Reps.nor (by unfold Val.noref at e; exact e) r)
  | _, _, e, .obj l h r => .obj l h (RepF.nor (by unfold Val.noref at e; exact e) r)
  | _, _, e, .ref h => by cases e
  | _, _, _, .pen h => .pen h
  | _, _, _, .scr h => .scr h
theorem Reps.nor : ∀ {x : List Val} {y : List V}, Val.norefs x = true → Reps g W' x y → Reps g (W'.upto n) x y
  | _, _, _, .nil => .nil
  | _, _, e, .cons h r => by
    unfold Val.norefs at e
    rw [Bool.and_eq_true] at e
    exact .cons (Rep.nor e.1 h) (Reps.nor e.2 r)
theorem RepF.nor : ∀ {x : List (Nat × Val)} {y : List (Str × V)}, Val.noreff x = true → RepF g W' x y → RepF g (W'.upto n) x y
  | _, _, _, .nil => .nil
  | _, _, e, .cons h r => by
    unfold Val.noreff at e
    rw [Bool.and_eq_true] at e
    exact .cons (Rep.nor e.1 h) (RepF.nor e.2 r)
end
mutual
theorem Rep.old (hm : ∀ i p, W.m i = some p → i < n) : ∀ {x : Val} {y y0 : V}, Rep g W x y0 → Rep g W' x y → Rep g (W'.upto n) x y
  | _, _, _, _, .non => .non
  | _, _, _, _, .bl b => .bl b
  | _, _, _, _, .int i => .int i
  | _, _, _, _, .str x => .str x
  | _, _, _, .tup _ r0, .tup h r => .tup h (Reps.old hm r0 r)
  | _, _, _, .lst _ r0, .lst h r => .lst h (Reps.old hm r0 r)
  | _, _, _, .obj _ _ r0, .obj l h r => .obj l h (RepF.old hm r0 r)
  | _, _, _, .ref h0, .ref h => .ref (by
    show (if _ < n then W'.m _ else none) = _
    rw [if_pos (hm _ _ h0)]
    exact h)
  | _, _, _, _, .pen h => .pen h
  | _, _, _, _, .scr h => .scr h
theorem Reps.old (hm : ∀ i p, W.m i = some p → i < n) : ∀ {x : List Val} {y y0 : List V}, Reps g W x y0 → Reps g W' x y → Reps g (W'.upto n) x y
  | _, _, _, _, .nil => .nil
  | _, _, _, .cons h0 r0, .cons h r => .cons (Rep.old hm h0 h) (Reps.old hm r0 r)
theorem RepF.old (hm : ∀ i p, W.m i = some p → i < n) : ∀ {x : List (Nat × Val)} {y y0 : List (Str × V)}, RepF g W x y0 → RepF g W' x y → RepF g (W'.upto n) x y
  | _, _, _, _, .nil => .nil
  | _, _, _, .cons h0 r0, .cons h r => .cons (Rep.old hm h0 h) (RepF.old hm r0 r)
end
theorem RepK.old (hm : ∀ i p, W.m i = some p → i < n) : ∀ {x : List (L2.Key × Val)} {y y0 : List (L2.Key × V)}, RepK g W x y0 → RepK g W' x y → RepK g (W'.upto n) x y
  | _, _, _, _, .nil => .nil
  | _, _, _, .cons h0 r0, .cons h r => .cons (h0.old hm h) (RepK.old hm r0 r)
theorem RepO.old (hm : ∀ i p, W.m i = some p → i < n) {o : Ob} {u u0 : HO} (h0 : RepO g W o u0) (h : RepO g W' o u) : RepO g (W'.upto n) o u := by
  cases h with
  | lst r =>
    cases h0 with
    | lst r0 => exact .lst (r0.old hm r)
  | ins l r =>
    cases h0 with
    | ins _ r0 => exact .ins l (r0.old hm r)
  | dK r =>
    cases h0 with
    | dK r0 => exact .dK (r0.old hm r)
  | pen r => exact .pen r
theorem gc_ok {h h' : VH} {H H' : Hp} {v : Val} {w : V} (S : Sim g W h H) (S' : Sim g W' h' H') (l : W.le W') (r : Rep g W' v w) : ∃ W2, W.le W2 ∧ Sim g W2 (gc h v h') H' ∧ Rep g W2 v w := by
  unfold gc
  by_cases hc : v.noref = true ∧ h.same h'
  · rw [if_pos hc]
    have hm : ∀ i p, W.m i = some p → i < h.next := fun i p e => by
      by_cases z : i < h.next
      · exact z
      · rw [S.nx i (by omega)] at e
        cases e
    have gt : ∀ i o, VH.get ⟨h.next, h'.upto h.next⟩ i = some o → i < h.next ∧ h'.get i = some o := fun i o e => by
      rw [upto_get] at e
      by_cases z : i < h.next
      · rw [if_pos z] at e
        exact ⟨z, e⟩
      · rw [if_neg z] at e
        cases e
    have gs : ∀ i, (VH.get ⟨h.next, h'.upto h.next⟩ i).isSome → i < h.next ∧ (h'.get i).isSome := fun i z => by
      obtain ⟨o, e⟩ := Option.isSome_iff_exists.mp z
      obtain ⟨a, b⟩ := gt i o e
      exact ⟨a, by rw [b]; rfl⟩
    have mm : ∀ i p, (W'.upto h.next).m i = some p → W'.m i = some p := fun i p e => by
      have e' : (if i < h.next then W'.m i else none) = some p := e
      split at e'
      · exact e'
      · cases e'
    refine ⟨W'.upto h.next, ⟨⟨l.g, fun i p e => ?_, l.pen⟩, l.x⟩, ⟨S'.sub, fun i o e => ?_, fun i j a zi zj mi mj => S'.inj i j a (gs i zi).2 (gs j zj).2 (mm _ _ mi) (mm _ _ mj), fun i z => ?_, S'.pn, fun p o z => ?_⟩, r.nor hc.1⟩
    · show (if i < h.next then W'.m i else none) = some p
      rw [if_pos (hm i p e)]
      exact l.m _ _ e
    · obtain ⟨hi, e'⟩ := gt i o e
      obtain ⟨a, u, m, nn, np, hh, ro⟩ := S'.ob i o e'
      refine ⟨a, u, ?_, nn, np, hh, ?_⟩
      · show (if i < h.next then W'.m i else none) = some a
        rw [if_pos hi]
        exact m
      · rcases hc.2 i o hi e' with q | q
        · cases ro with
          | pen r => exact .pen r
          | lst r => cases q
          | ins l r => cases q
          | dK r => cases q
        · obtain ⟨a0, u0, _, _, _, _, ro0⟩ := S.ob i o q
          exact ro0.old hm ro
    · show (if i < h.next then W'.m i else none) = none
      rw [if_neg (by have z' : h.next ≤ i := z; omega)]
    · obtain ⟨a, b, c, d⟩ := S'.xk p o z
      exact ⟨a, b, c, fun i zi mi => d i (gs i zi).2 (mm _ _ mi)⟩
  · rw [if_neg hc]
    exact ⟨W', l, S', r⟩
end
theorem start_slo {W : Wd} {N : List Str} {vs : List Val} {ws : List V} (r : Reps g W vs ws) : Slo g W (begin_ N.length vs) (L2.start N ws) := by
  have hl := r.length
  refine ⟨?_, fun i v e => ?_⟩
  · unfold begin_ L2.start
    rw [List.length_append, List.length_append, List.length_map, List.length_map, List.length_replicate, List.length_replicate, hl]
    exact Nat.le_refl _
  · unfold begin_ at e
    unfold L2.start
    by_cases hi : i < vs.length
    · rw [List.getElem?_append_left (by rw [List.length_map]; exact hi), List.getElem?_map] at e
      rw [List.getElem?_append_left (by rw [List.length_map]; omega), List.getElem?_map]
      cases q : vs[i]? with
      | none =>
        rw [q] at e
        cases e
      | some x =>
        rw [q] at e
        cases e
        obtain ⟨w, ew, rw'⟩ := r.get q
        exact ⟨w, by rw [ew]; rfl, rw'⟩
    · rw [List.getElem?_append_right (by rw [List.length_map]; omega), List.getElem?_replicate] at e
      split at e <;> cases e
theorem begin_set {ns : Nat} {xs : List Val} (h : xs.length < ns) : (begin_ ns xs).set xs.length (some .non) = begin_ ns (xs ++ [.non]) := by
  unfold begin_
  obtain ⟨k, e⟩ : ∃ k, ns - xs.length = k + 1 := ⟨ns - xs.length - 1, by omega⟩
  rw [e, List.set_append_right _ _ (by rw [List.length_map]; exact Nat.le_refl _), List.length_map, Nat.sub_self, List.map_append, List.length_append, List.append_assoc]
  have : ns - (xs.length + [Val.non].length) = k := by
    rw [show [Val.non].length = 1 from rfl]
    omega
  rw [this]
  rfl
theorem pad_run {T : Tb} {C : Nat → List Val → Mo Val} {ns : Nat} {b0 : Ss} : ∀ (j : Nat) (xs : List Val) (h : VH), xs.length + j ≤ ns → evSs T C (begin_ ns xs) (pad xs.length j b0) h = evSs T C (begin_ ns (xs ++ List.replicate j .non)) b0 h
  | 0, xs, h, _ => by
    rw [List.replicate_zero, List.append_nil]
    rfl
  | j + 1, xs, h, hl => by
    have e : evSs T C (begin_ ns xs) (pad xs.length (j + 1) b0) h = evSs T C ((begin_ ns xs).set xs.length (some .non)) (pad (xs.length + 1) j b0) h := by
      show evSs T C (begin_ ns xs) (.cons (.set xs.length .non) (pad (xs.length + 1) j b0)) h = _
      rw [evSs]
      simp only [evS, evE, bindM, M.T.bind]
    rw [e, begin_set (by omega)]
    have z := pad_run (T := T) (C := C) (b0 := b0) (ns := ns) j (xs ++ [.non]) h (by rw [List.length_append]; simp; omega)
    rw [List.length_append] at z
    rw [show xs.length + 1 = xs.length + [Val.non].length from rfl, z, List.append_assoc]
    rfl
theorem nons_reps {g : Ga} {W : Wd} : ∀ j, Reps g W (List.replicate j .non) (nonsV j)
  | 0 => .nil
  | j + 1 => .cons .non (nons_reps j)
/-- every def keeps what the evaluator promises of it -/
theorem run_ok2 (t : TbS g s T fa) (hk : ∀ (n : Nat) (y : Str), s.kwn[n]? = some y → y ≠ ("" : Str) → ∃ np ns body, T.defs[n]? = some (.fn np ns body)) (hd : ∀ n np ns body, T.defs[n]? = some (.fn np ns body) → DefOk g s (fa n) np ns body (s.kwn.getD n "")) (hw : ∀ n, T.defs[n]? = some .draw → ∀ l, Fok g 2 (fa n) 2 (spC g (run T (l + 1)) n)) (hp : ∀ n, T.defs[n]? = some .mkpen → ∀ l, Fok g 2 (fa n) 1 (spC g (run T (l + 1)) n)) :
    ∀ l n, Fok g (2 * l) (fa n) (arOf T n) (spC g (run T l) n) ∧ ∀ y : Str, s.kwn[n]? = some y → y ≠ ("" : Str) → FokK g (2 * l) (fa n) (arOf T n) y (spC g (run T l) n)
  | 0, n => by
    refine ⟨fun A outer sh H us vs Q hr hgd e0 hl r hsp => ?_, fun y _ _ A outer sh H us w vs Q hr hgd e0 hl r hsp => ?_⟩
    · obtain ⟨W, h, xs, P, S, R, hg, q⟩ := hsp
      exact hg.elim
    · obtain ⟨W, h, xs, P, S, R, hg, q⟩ := hsp
      exact hg.elim
  | l + 1, n => by
    have ih := run_ok2 t hk hd hw hp l
    cases e : T.defs[n]? with
    | none =>
      refine ⟨fun A outer sh H us vs Q hr hgd e0 hl r hsp => ?_, fun y h1 h2 => ?_⟩
      · obtain ⟨W, h, xs, P, S, R, hg, q⟩ := hsp
        unfold run at hg
        rw [e] at hg
        exact hg.elim
      · obtain ⟨_, _, _, z⟩ := hk n y h1 h2
        rw [e] at z
        cases z
    | some d =>
      cases d with
      | draw =>
        have : arOf T n = 2 := by
          unfold arOf
          rw [e]
        rw [this]
        refine ⟨(hw n e l).mono (by omega), fun y h1 h2 => ?_⟩
        obtain ⟨_, _, _, z⟩ := hk n y h1 h2
        rw [e] at z
        cases z
      | mkpen =>
        have : arOf T n = 1 := by
          unfold arOf
          rw [e]
        rw [this]
        refine ⟨(hp n e l).mono (by omega), fun y h1 h2 => ?_⟩
        obtain ⟨_, _, _, z⟩ := hk n y h1 h2
        rw [e] at z
        cases z
      | fn np ns body =>
        have ea : arOf T n = np := by
          unfold arOf
          rw [e]
        rw [ea]
        obtain ⟨st, x, qual, N, ps, oc, od, dV, kV, doc, pm, an, cdv, ct, osl, ds, b0, h1, h2, h3, h4, h5, h6, h7, h8, h9, hkx⟩ := (hd n np ns body e).ex
        have hN : ps.length ≤ ns := by
          have := congrArg List.length h3.pre
          rw [List.length_take] at this
          omega
        have key := cod_of (g := g) (f := fa n) (k := 2 * l + 1) (sp := fun vs H Q _ => ∃ ws, vs = ws ++ nonsV ds.length ∧ ws.length = np ∧ spC g (run T (l + 1)) n ws H Q E0) h1 h2 h3 fun A outer sh H vs Q hr hgd hl hsp => ?_
        · refine ⟨fun A outer sh H us vs Q hr hgd e0 hl r hsp => ?_, fun y hy1 hy2 A outer sh H us w vs Q hr hgd e0 hl r hsp => ?_⟩
          · exact key A outer sh H ⟨us, []⟩ (us ++ ds) (vs ++ nonsV ds.length) Q hr hgd e0 (by rw [List.length_append, hl, h4]) (fun KX => h6 sh us KX (by rw [List.length_append, hl, h4])) (r.append h8) ⟨vs, rfl, r.length.trans hl, hsp⟩
          · have ey : s.kwn.getD n "" = y := by
              rw [List.getD_eq_getElem?_getD, hy1]
              rfl
            rw [ey] at hkx
            obtain ⟨hds, hb⟩ := hkx hy2
            subst hds
            have hl2 : (us ++ [w]).length = ps.length := by
              rw [List.length_append, h4]
              simpa using hl
            exact key A outer sh H ⟨us, [(y, w)]⟩ (us ++ [w]) vs Q hr hgd e0 hl2 (fun KX => hb sh us w KX hl) r ⟨vs, by simp [nonsV], by rw [r.length, hl2, h4]; rfl, hsp⟩
        · obtain ⟨ws, rfl, hwl, W, h, xs, P, S, R, hg, q⟩ := hsp
          unfold run at hg
          rw [e] at hg
          have hg : (if xs.length = np then bindM (evSs T (run T l) (begin_ ns xs) body) (fun fl => match fl with
              | .nx _ => fun h' => .ret (.non, gc h .non h')
              | .rt v => fun h' => .ret (v, gc h v h')
              | _ => fun _ => .stuck) h else .stuck).Good P := hg
          have hx : xs.length = np := R.length.trans hwl
          rw [if_pos hx] at hg
          have hg := bindM_good.mp hg
          rw [h9, ← hx, pad_run ds.length xs h (by omega)] at hg
          have c : CxOk g (2 * l + 1) { s with N := N } (defScope st).names (cxOf CX0 g.prog g.w g.K g.mg g.base N qual (defScope st) (fa n) cdv A outer sh H E0).nox := {
            prog := rfl
            w := rfl
            K := rfl
            mg := rfl
            base := rfl
            N := rfl
            nd := h3.nd
            calm := rfl
            room := hr
            gd := hgd
            xe := rfl
            look := fun y kd ek => .inl ek
            fn := fun _ _ => rfl
            kind := h3.kind }
          have tb := t.with N (fun n => (ih n).1) (run_arg l) (fun n y h1 h2 => (ih n).2 y h1 h2)
          rw [← h5] at hg
          refine sndSs tb b0 (defScope st).names _ (defBody st) c h7 _ _ W h H _ _ S (start_slo (R.append (nons_reps ds.length))) hg fun fh hf => ?_
          obtain ⟨f, h8⟩ := fh
          cases f with
          | nx a =>
            intro W' σ' H' l S' _
            obtain ⟨W2, l2, S2, R2⟩ := gc_ok S S' l .non
            exact q _ hf W2 .non H' l2 S2 R2
          | rt v =>
            intro W' w H' l S' r
            obtain ⟨W2, l2, S2, R2⟩ := gc_ok S S' l r
            exact q _ hf W2 w H' l2 S2 R2
          | bk a => exact hf.elim
          | ct a => exact hf.elim
theorem run_ok (t : TbS g s T fa) (hk : ∀ (n : Nat) (y : Str), s.kwn[n]? = some y → y ≠ ("" : Str) → ∃ np ns body, T.defs[n]? = some (.fn np ns body)) (hd : ∀ n np ns body, T.defs[n]? = some (.fn np ns body) → DefOk g s (fa n) np ns body (s.kwn.getD n "")) (hw : ∀ n, T.defs[n]? = some .draw → ∀ l, Fok g 2 (fa n) 2 (spC g (run T (l + 1)) n)) (hp : ∀ n, T.defs[n]? = some .mkpen → ∀ l, Fok g 2 (fa n) 1 (spC g (run T (l + 1)) n)) :
    ∀ l n, Fok g (2 * l) (fa n) (arOf T n) (spC g (run T l) n) := fun l n => (run_ok2 t hk hd hw hp l n).1
end
end M
end

section
set_option Elab.async false
set_option linter.all false
set_option maxRecDepth 100000
set_option maxHeartbeats 1000000
/-! M17: the law's pen. -/
namespace M
open PySem PySem.Spec PyProof.Rows L2

/-! ### the texts -/
def es1 (a : Ex) : Es := .cons a .nil
def es2 (a b : Ex) : Es := .cons a (.cons b .nil)
def pk (k : Str) : Ex := .sub (.var 0) (.str k)
def pks (k : Str) (e : Ex) : Sm := .ssub (.var 0) (.str k) e
def e18 : Ex := .bin false .pow (.int 10) (.int 18)
def ss : List Sm → Ss
  | [] => .nil
  | a :: r => .cons a (ss r)
def drawB : Ss :=
  .cons (pks "count" (.bin false .add (pk "count") (.int 1)))
  (.cons (.ite (.and (.cmp .eq (pk "digits") (.int 0)) (.cmp .lt (pk "at") (.bi false .len (.cons (pk "cells") .nil))))
    (.cons (.set 2 (.sub (pk "cells") (pk "at")))
    (.cons (pks "at" (.bin false .add (pk "at") (.int 1)))
    (.cons (.ite (.cmp .ge (.var 2) e18) (.cons (pks "digits" (.bin false .sub (.var 2) e18)) .nil)
      (.cons (pks "fold" (.bin false .mod (.bi false .int (.cons (.bin false .add (.bin false .mul (pk "fold") (.int 69069)) (.var 2)) .nil)) (.int 2147483587))) .nil)) .nil))) .nil)
  (.cons (.ite (.cmp .gt (pk "digits") (.int 0))
    (.cons (.set 3 (.bin false .mod (.bi false .int (.cons (pk "digits") .nil)) (.var 1)))
    (.cons (pks "digits" (.bin false .fdiv (pk "digits") (.var 1)))
    (.cons (.ret (.var 3)) .nil))) .nil)
  (.cons (.set 4 (.bin false .add (.bin false .add (pk "fold") (.bin false .mul (pk "count") (.int 7907))) (.int 43)))
  (.cons (.ret (.bin false .mod (.bin false .fdiv (.bi false .int (.cons (.bin false .mod (.bin false .pow (.var 4) (.int 17)) (.int 2305843009213693951)) .nil)) (.int 128)) (.var 1))) .nil))))
def penL (cells : List Int) (a dg c f : Int) : List (L2.Key × Val) := [(.inr "cells", .lst (cells.map Val.int)), (.inr "at", .int a), (.inr "digits", .int dg), (.inr "count", .int c), (.inr "fold", .int f)]

theorem val_cells {cells : List Int} {at_ dg c f : Int} : valK (penL cells at_ dg c f) (.inr "cells") = some (.lst (cells.map Val.int)) := by kernel_rfl
theorem val_at {cells : List Int} {at_ dg c f : Int} : valK (penL cells at_ dg c f) (.inr "at") = some (.int at_) := by kernel_rfl
theorem val_digits {cells : List Int} {at_ dg c f : Int} : valK (penL cells at_ dg c f) (.inr "digits") = some (.int dg) := by kernel_rfl
theorem val_count {cells : List Int} {at_ dg c f : Int} : valK (penL cells at_ dg c f) (.inr "count") = some (.int c) := by kernel_rfl
theorem val_fold {cells : List Int} {at_ dg c f : Int} : valK (penL cells at_ dg c f) (.inr "fold") = some (.int f) := by kernel_rfl
theorem put_at {cells : List Int} {at_ dg c f v : Int} : putKV (penL cells at_ dg c f) (.inr "at") (.int v) = penL cells v dg c f := by kernel_rfl
theorem put_digits {cells : List Int} {at_ dg c f v : Int} : putKV (penL cells at_ dg c f) (.inr "digits") (.int v) = penL cells at_ v c f := by kernel_rfl
theorem put_count {cells : List Int} {at_ dg c f v : Int} : putKV (penL cells at_ dg c f) (.inr "count") (.int v) = penL cells at_ dg v f := by kernel_rfl
theorem put_fold {cells : List Int} {at_ dg c f v : Int} : putKV (penL cells at_ dg c f) (.inr "fold") (.int v) = penL cells at_ dg c v := by kernel_rfl
theorem len_pen {cells : List Int} {at_ dg c f : Int} : (penL cells at_ dg c f).length < 1000 := by
  show 5 < 1000
  decide
/-! ### steps -/
section
variable {T : Tb} {C : Nat → List Val → Mo Val} {a : Sl} {h : VH}
theorem g_ret {α : Type} {x : α} {P : α → Prop} : (M.T.ret x).Good P ↔ P x := Iff.rfl
theorem get_set1 {j : Nat} {o o0 : Ob} (hj : h.get j = some o0) : (h.set j o).get j = some o := by
  rw [VH.get_set, if_pos rfl, hj]
  rfl
theorem setL_setL {i : Nat} {o o' : Ob} : ∀ {l : List (Nat × Ob)}, VH.setL i o' (VH.setL i o l) = VH.setL i o' l
  | [] => rfl
  | (j, u) :: r => by
    have e0 : VH.setL i o ((j, u) :: r) = if j = i then (j, o) :: r else (j, u) :: VH.setL i o r := rfl
    have e1 : VH.setL i o' ((j, u) :: r) = if j = i then (j, o') :: r else (j, u) :: VH.setL i o' r := rfl
    rw [e0, e1]
    by_cases e : j = i
    · rw [if_pos e, if_pos e]
      show (if j = i then (j, o') :: r else (j, o) :: VH.setL i o' r) = _
      rw [if_pos e]
    · rw [if_neg e, if_neg e]
      show (if j = i then (j, o') :: VH.setL i o r else (j, u) :: VH.setL i o' (VH.setL i o r)) = _
      rw [if_neg e, setL_setL]
theorem set_set {j : Nat} {o o' : Ob} : (h.set j o).set j o' = h.set j o' := by
  show (⟨h.next, VH.setL j o' (VH.setL j o h.obs)⟩ : VH) = ⟨h.next, VH.setL j o' h.obs⟩
  rw [setL_setL]
theorem eqD_int (i j : Int) : eqD (.int i) (.int j) = some (decide (i = j)) := by
  unfold eqD
  simp only [Val.toD]
  show (if (SeqAt.shaped (.int i) && SeqAt.shaped (.int j)) = true then some (PyData.eqv (.int i) (.int j)) else none) = _
  rw [if_pos (by rfl)]
  have : PyData.eqv (.int i) (.int j) = decide (i = j) := by
    show (i == j) = _
    exact Bool.beq_eq_decide_eq i j
  rw [this]
theorem big_lt {i : Int} {k : Nat} (h1 : 0 ≤ i) (h2 : i < (2 : Int) ^ k) (hk : 0 < k) : big i < k := by
  unfold big
  by_cases e : i.natAbs = 0
  · rw [e]
    exact hk
  · rw [Nat.log2_lt e]
    have : (i.natAbs : Int) < (2 : Int) ^ k := by omega
    exact_mod_cast this
theorem pk_cells {j : Nat} {o : Ob} {cells : List Int} {at_ dg c f : Int} (hj : h.get j = some o) (hv : a[0]? = some (some (.ref j))) : evE T C a (pk "cells") (h.set j (.dK (penL cells at_ dg c f))) = .ret (.lst (cells.map Val.int), h.set j (.dK (penL cells at_ dg c f))) := by
  simp [pk, evE, bindM, M.T.bind, hv, subV, get_set1 hj, keyOf, val_cells]
theorem pk_at {j : Nat} {o : Ob} {cells : List Int} {at_ dg c f : Int} (hj : h.get j = some o) (hv : a[0]? = some (some (.ref j))) : evE T C a (pk "at") (h.set j (.dK (penL cells at_ dg c f))) = .ret (.int at_, h.set j (.dK (penL cells at_ dg c f))) := by
  simp [pk, evE, bindM, M.T.bind, hv, subV, get_set1 hj, keyOf, val_at]
theorem pk_digits {j : Nat} {o : Ob} {cells : List Int} {at_ dg c f : Int} (hj : h.get j = some o) (hv : a[0]? = some (some (.ref j))) : evE T C a (pk "digits") (h.set j (.dK (penL cells at_ dg c f))) = .ret (.int dg, h.set j (.dK (penL cells at_ dg c f))) := by
  simp [pk, evE, bindM, M.T.bind, hv, subV, get_set1 hj, keyOf, val_digits]
theorem pk_count {j : Nat} {o : Ob} {cells : List Int} {at_ dg c f : Int} (hj : h.get j = some o) (hv : a[0]? = some (some (.ref j))) : evE T C a (pk "count") (h.set j (.dK (penL cells at_ dg c f))) = .ret (.int c, h.set j (.dK (penL cells at_ dg c f))) := by
  simp [pk, evE, bindM, M.T.bind, hv, subV, get_set1 hj, keyOf, val_count]
theorem pk_fold {j : Nat} {o : Ob} {cells : List Int} {at_ dg c f : Int} (hj : h.get j = some o) (hv : a[0]? = some (some (.ref j))) : evE T C a (pk "fold") (h.set j (.dK (penL cells at_ dg c f))) = .ret (.int f, h.set j (.dK (penL cells at_ dg c f))) := by
  simp [pk, evE, bindM, M.T.bind, hv, subV, get_set1 hj, keyOf, val_fold]
theorem pks_at {j : Nat} {o : Ob} {cells : List Int} {at_ dg c f v : Int} {e : Ex} (hj : h.get j = some o) (hv : a[0]? = some (some (.ref j))) (he : evE T C a e (h.set j (.dK (penL cells at_ dg c f))) = .ret (.int v, h.set j (.dK (penL cells at_ dg c f)))) :
    evS T C a (pks "at" e) (h.set j (.dK (penL cells at_ dg c f))) = .ret (.nx a, h.set j (.dK (penL cells v dg c f))) := by
  simp [pks, evS, evE, bindM, M.T.bind, hv, he, storeV, get_set1 hj, keyOf, put_at, set_set, len_pen]
theorem pks_digits {j : Nat} {o : Ob} {cells : List Int} {at_ dg c f v : Int} {e : Ex} (hj : h.get j = some o) (hv : a[0]? = some (some (.ref j))) (he : evE T C a e (h.set j (.dK (penL cells at_ dg c f))) = .ret (.int v, h.set j (.dK (penL cells at_ dg c f)))) :
    evS T C a (pks "digits" e) (h.set j (.dK (penL cells at_ dg c f))) = .ret (.nx a, h.set j (.dK (penL cells at_ v c f))) := by
  simp [pks, evS, evE, bindM, M.T.bind, hv, he, storeV, get_set1 hj, keyOf, put_digits, set_set, len_pen]
theorem pks_count {j : Nat} {o : Ob} {cells : List Int} {at_ dg c f v : Int} {e : Ex} (hj : h.get j = some o) (hv : a[0]? = some (some (.ref j))) (he : evE T C a e (h.set j (.dK (penL cells at_ dg c f))) = .ret (.int v, h.set j (.dK (penL cells at_ dg c f)))) :
    evS T C a (pks "count" e) (h.set j (.dK (penL cells at_ dg c f))) = .ret (.nx a, h.set j (.dK (penL cells at_ dg v f))) := by
  simp [pks, evS, evE, bindM, M.T.bind, hv, he, storeV, get_set1 hj, keyOf, put_count, set_set, len_pen]
theorem pks_fold {j : Nat} {o : Ob} {cells : List Int} {at_ dg c f v : Int} {e : Ex} (hj : h.get j = some o) (hv : a[0]? = some (some (.ref j))) (he : evE T C a e (h.set j (.dK (penL cells at_ dg c f))) = .ret (.int v, h.set j (.dK (penL cells at_ dg c f)))) :
    evS T C a (pks "fold" e) (h.set j (.dK (penL cells at_ dg c f))) = .ret (.nx a, h.set j (.dK (penL cells at_ dg c v))) := by
  simp [pks, evS, evE, bindM, M.T.bind, hv, he, storeV, get_set1 hj, keyOf, put_fold, set_set, len_pen]
theorem bin_int {op : Bop} {m : Bool} {e1 e2 : Ex} {i j k : Int} {h1 : VH} (a1 : evE T C a e1 h1 = .ret (.int i, h1)) (a2 : evE T C a e2 h1 = .ret (.int j, h1)) (hb : binI op i j = some (.int k)) : evE T C a (.bin m op e1 e2) h1 = .ret (.int k, h1) := by
  simp [evE, bindM, M.T.bind, a1, a2]
  have : binV h1 op (.int i) (.int j) = some (.v (.int k)) := by
    unfold binV
    cases op <;> simp [hb]
  rw [this]
  rfl
theorem cst_int {i : Int} {h1 : VH} : evE T C a (.int i) h1 = .ret (.int i, h1) := by simp [evE]
theorem int_of {e : Ex} {i : Int} {m : Bool} {h1 : VH} (a1 : evE T C a e h1 = .ret (.int i, h1)) : evE T C a (.bi m .int (.cons e .nil)) h1 = .ret (.int i, h1) := by
  simp [evE, evEs, bindM, M.T.bind, a1, biV, out]
theorem var_at {i : Nat} {v : Val} {h1 : VH} (hv : a[i]? = some (some v)) : evE T C a (.var i) h1 = .ret (v, h1) := by simp [evE, hv]
theorem e18_at {h1 : VH} : evE T C a e18 h1 = .ret (.int 1000000000000000000, h1) := bin_int cst_int cst_int (by simp [binI])
theorem s_cons {s : Sm} {r : Ss} {a' : Sl} {h1 h2 : VH} (e : evS T C a s h1 = .ret (.nx a', h2)) : evSs T C a (.cons s r) h1 = evSs T C a' r h2 := by
  simp [evSs, e, M.T.bind]
theorem s_ret {s : Sm} {r : Ss} {v : Val} {h1 h2 : VH} (e : evS T C a s h1 = .ret (.rt v, h2)) : evSs T C a (.cons s r) h1 = .ret (.rt v, h2) := by
  simp [evSs, e, M.T.bind]
theorem s_set {i : Nat} {e : Ex} {v : Val} {h1 h2 : VH} (he : evE T C a e h1 = .ret (v, h2)) : evS T C a (.set i e) h1 = .ret (.nx (a.set i (some v)), h2) := by simp [evS, bindM, M.T.bind, he]
theorem s_rt {e : Ex} {v : Val} {h1 h2 : VH} (he : evE T C a e h1 = .ret (v, h2)) : evS T C a (.ret e) h1 = .ret (.rt v, h2) := by simp [evS, bindM, M.T.bind, he]
theorem s_if {c : Ex} {t e : Ss} {b : Bool} {h1 h2 : VH} (hc : evE T C a c h1 = .ret (.bl b, h2)) : evS T C a (.ite c t e) h1 = evSs T C a (if b then t else e) h2 := by
  cases b <;> simp [evS, bindM, M.T.bind, hc]
theorem cmp_int {op : Cop} {e1 e2 : Ex} {i j : Int} {b : Bool} {h1 : VH} (a1 : evE T C a e1 h1 = .ret (.int i, h1)) (a2 : evE T C a e2 h1 = .ret (.int j, h1)) (hb : cmpV op (.int i) (.int j) = some b) : evE T C a (.cmp op e1 e2) h1 = .ret (.bl b, h1) := by
  simp [evE, bindM, M.T.bind, a1, a2, hb, lift, cmpM]
theorem and_at {e1 e2 : Ex} {b1 b2 : Bool} {h1 : VH} (a1 : evE T C a e1 h1 = .ret (.bl b1, h1)) (a2 : b1 = true → evE T C a e2 h1 = .ret (.bl b2, h1)) : evE T C a (.and e1 e2) h1 = .ret (.bl (b1 && b2), h1) := by
  cases b1 with
  | true => simp [evE, bindM, M.T.bind, a1, a2 rfl]
  | false => simp [evE, bindM, M.T.bind, a1]
theorem most_lt {d : Nat} {c : Int} (h : d < most) (hc : c ≤ d) : c < 1000000000000 := by
  unfold most at h
  omega
/-- the last part: the blend -/
theorem draw_end {j : Nat} {o : Ob} {cells : List Int} {at_ dg c f n : Int} {x2 x3 x4 : Option Val} (hj : h.get j = some o) (hn : 0 < n) (hn2 : n < 2 ^ 4000) (hc : 0 ≤ c) (hc2 : c ≤ 1000000000000) (hf : 0 ≤ f) (hf2 : f < 4294967296) :
    ∃ i : Nat, (i : Int) < n ∧ evSs T C [some (.ref j), some (.int n), x2, x3, x4]
      (.cons (.set 4 (.bin false .add (.bin false .add (pk "fold") (.bin false .mul (pk "count") (.int 7907))) (.int 43)))
      (.cons (.ret (.bin false .mod (.bin false .fdiv (.bi false .int (.cons (.bin false .mod (.bin false .pow (.var 4) (.int 17)) (.int 2305843009213693951)) .nil)) (.int 128)) (.var 1))) .nil))
      (h.set j (.dK (penL cells at_ dg c f))) = .ret (.rt (.int i), h.set j (.dK (penL cells at_ dg c f))) := by
  have h0 : ([some (.ref j), some (.int n), x2, x3, x4] : Sl)[0]? = some (some (.ref j)) := rfl
  have b1 : binI .mul c 7907 = some (.int (c * 7907)) := by
    have := big_lt (k := 40) hc (by omega) (by decide)
    have e2 : big 7907 < 20 := by decide
    unfold binI
    simp only
    rw [if_pos (by unfold lim; omega)]
  generalize hB : f + c * 7907 + 43 = B
  have hB0 : 0 ≤ B := by omega
  have hB1 : B < 2 ^ 64 := by omega
  have b2 : binI .pow B 17 = some (.int (B ^ 17)) := by
    unfold binI
    simp only
    rw [if_pos ⟨by decide, by decide, by omega⟩]
    rfl
  generalize hM : (B ^ 17).fmod 2305843009213693951 = M
  have b3 : binI .mod (B ^ 17) 2305843009213693951 = some (.int M) := by
    unfold binI
    simp only
    rw [if_neg (by decide), hM]
  have b4 : binI .fdiv M 128 = some (.int (M.fdiv 128)) := by
    unfold binI
    simp only
    rw [if_neg (by decide), if_pos (by decide)]
  have b5 : binI .mod (M.fdiv 128) n = some (.int ((M.fdiv 128).fmod n)) := by
    unfold binI
    simp only
    rw [if_neg (by omega)]
  have r0 : 0 ≤ (M.fdiv 128).fmod n := Int.fmod_nonneg_of_pos _ hn
  have r1 : (M.fdiv 128).fmod n < n := Int.fmod_lt_of_pos _ hn
  refine ⟨((M.fdiv 128).fmod n).toNat, by omega, ?_⟩
  have s1 : evS T C [some (.ref j), some (.int n), x2, x3, x4] (.set 4 (.bin false .add (.bin false .add (pk "fold") (.bin false .mul (pk "count") (.int 7907))) (.int 43))) (h.set j (.dK (penL cells at_ dg c f))) = .ret (.nx [some (.ref j), some (.int n), x2, x3, some (.int B)], h.set j (.dK (penL cells at_ dg c f))) := by
    rw [← hB]
    exact s_set (bin_int (bin_int (pk_fold hj h0) (bin_int (pk_count hj h0) cst_int b1) rfl) cst_int rfl)
  rw [s_cons s1, s_ret (s_rt (bin_int (bin_int (int_of (bin_int (bin_int (var_at rfl) cst_int b2) cst_int b3)) cst_int b4) (var_at rfl) b5))]
  rw [Int.toNat_of_nonneg r0]
abbrev sl5 (j : Nat) (n : Int) (x2 x3 x4 : Option Val) : Sl := [some (.ref j), some (.int n), x2, x3, x4]
def drawE : Ss :=
  .cons (.set 4 (.bin false .add (.bin false .add (pk "fold") (.bin false .mul (pk "count") (.int 7907))) (.int 43)))
  (.cons (.ret (.bin false .mod (.bin false .fdiv (.bi false .int (.cons (.bin false .mod (.bin false .pow (.var 4) (.int 17)) (.int 2305843009213693951)) .nil)) (.int 128)) (.var 1))) .nil)
def drawD : Ss :=
  .cons (.ite (.cmp .gt (pk "digits") (.int 0))
    (.cons (.set 3 (.bin false .mod (.bi false .int (.cons (pk "digits") .nil)) (.var 1)))
    (.cons (pks "digits" (.bin false .fdiv (pk "digits") (.var 1)))
    (.cons (.ret (.var 3)) .nil))) .nil) drawE
theorem big_small {n : Int} (hn : 0 < n) (hn2 : n < 2 ^ 4000) : big n < 9000 := by
  have := big_lt (k := 4000) (Int.le_of_lt hn) hn2 (by decide)
  omega
theorem draw_digits {j : Nat} {o : Ob} {cells : List Int} {at_ dg c f n : Int} {x2 x3 x4 : Option Val} (hj : h.get j = some o) (hn : 0 < n) (hn2 : n < 2 ^ 4000) (hdg : 0 ≤ dg) (hc : 0 ≤ c) (hc2 : c ≤ 1000000000000) (hf : 0 ≤ f) (hf2 : f < 4294967296) :
    ∃ (i : Nat) (dg' : Int), (i : Int) < n ∧ 0 ≤ dg' ∧ evSs T C (sl5 j n x2 x3 x4) drawD (h.set j (.dK (penL cells at_ dg c f))) = .ret (.rt (.int i), h.set j (.dK (penL cells at_ dg' c f))) := by
  have h0 : (sl5 j n x2 x3 x4)[0]? = some (some (.ref j)) := rfl
  by_cases hp : 0 < dg
  · have r0 : 0 ≤ dg.fmod n := Int.fmod_nonneg_of_pos _ hn
    have r1 : dg.fmod n < n := Int.fmod_lt_of_pos _ hn
    have q0 : 0 ≤ dg.fdiv n := Int.fdiv_nonneg hdg (Int.le_of_lt hn)
    have b1 : binI .mod dg n = some (.int (dg.fmod n)) := by
      unfold binI
      simp only
      rw [if_neg (by omega)]
    have b2 : binI .fdiv dg n = some (.int (dg.fdiv n)) := by
      unfold binI
      simp only
      rw [if_neg (by omega), if_pos (big_small hn hn2)]
    have hc : evE T C (sl5 j n x2 x3 x4) (.cmp .gt (pk "digits") (.int 0)) (h.set j (.dK (penL cells at_ dg c f))) = .ret (.bl true, h.set j (.dK (penL cells at_ dg c f))) :=
      cmp_int (pk_digits hj h0) cst_int (by show some (decide (0 < dg)) = _; rw [decide_eq_true hp])
    refine ⟨(dg.fmod n).toNat, dg.fdiv n, by omega, q0, ?_⟩
    have s1 : evS T C (sl5 j n x2 x3 x4) (.set 3 (.bin false .mod (.bi false .int (.cons (pk "digits") .nil)) (.var 1))) (h.set j (.dK (penL cells at_ dg c f))) = .ret (.nx (sl5 j n x2 (some (.int (dg.fmod n))) x4), h.set j (.dK (penL cells at_ dg c f))) :=
      s_set (bin_int (int_of (pk_digits hj h0)) (var_at rfl) b1)
    have s2 : evS T C (sl5 j n x2 (some (.int (dg.fmod n))) x4) (pks "digits" (.bin false .fdiv (pk "digits") (.var 1))) (h.set j (.dK (penL cells at_ dg c f))) = .ret (.nx (sl5 j n x2 (some (.int (dg.fmod n))) x4), h.set j (.dK (penL cells at_ (dg.fdiv n) c f))) :=
      pks_digits hj rfl (bin_int (pk_digits hj rfl) (var_at rfl) b2)
    unfold drawD
    refine s_ret (v := .int ((dg.fmod n).toNat : Nat)) ?_
    rw [s_if hc, if_pos rfl, s_cons s1, s_cons s2, s_ret (s_rt (var_at (v := .int (dg.fmod n)) rfl)), Int.toNat_of_nonneg r0]
  · have hc' : evE T C (sl5 j n x2 x3 x4) (.cmp .gt (pk "digits") (.int 0)) (h.set j (.dK (penL cells at_ dg c f))) = .ret (.bl false, h.set j (.dK (penL cells at_ dg c f))) :=
      cmp_int (pk_digits hj h0) cst_int (by show some (decide (0 < dg)) = _; rw [decide_eq_false hp])
    obtain ⟨i, hi, he⟩ := draw_end (T := T) (C := C) (cells := cells) (at_ := at_) (dg := dg) (x2 := x2) (x3 := x3) (x4 := x4) hj hn hn2 hc hc2 hf hf2
    refine ⟨i, dg, hi, hdg, ?_⟩
    unfold drawD
    rw [s_cons (s := .ite _ _ _) (a' := sl5 j n x2 x3 x4) (h2 := h.set j (.dK (penL cells at_ dg c f))) (by rw [s_if hc', if_neg (by decide)]; simp [evSs])]
    exact he
theorem ixN_nat {n : Nat} {i : Int} (h0 : 0 ≤ i) (h1 : i < n) : M.ixN n i = some i.toNat := by
  unfold M.ixN L2.ixN
  rw [if_pos h0, if_pos h1]
theorem draw_run {j d : Nat} {cells : List Int} {at_ dg c f n : Int} (hj : h.get j = some (.pen d)) (hn : 0 < n) (hn2 : n < 2 ^ 4000) (hd : d < most) (hcl : cells.length ≤ 1000) (hat : 0 ≤ at_) (hdg : 0 ≤ dg) (hc : 0 ≤ c) (hc2 : c ≤ d) (hf : 0 ≤ f) (hf2 : f < 4294967296) :
    ∃ (i : Nat) (at' dg' f' : Int), (i : Int) < n ∧ 0 ≤ at' ∧ 0 ≤ dg' ∧ 0 ≤ f' ∧ f' < 4294967296 ∧
      evSs T C (sl5 j n none none none) drawB (h.set j (.dK (penL cells at_ dg c f))) = .ret (.rt (.int i), h.set j (.dK (penL cells at' dg' (c + 1) f'))) := by
  have hc3 := most_lt hd hc2
  have hc4 : 0 ≤ c + 1 := by omega
  have hc5 : c + 1 ≤ 1000000000000 := by omega
  have h0 : (sl5 j n none none none)[0]? = some (some (.ref j)) := rfl
  have s1 : evS T C (sl5 j n none none none) (pks "count" (.bin false .add (pk "count") (.int 1))) (h.set j (.dK (penL cells at_ dg c f))) = .ret (.nx (sl5 j n none none none), h.set j (.dK (penL cells at_ dg (c + 1) f))) :=
    pks_count hj h0 (bin_int (pk_count hj h0) cst_int rfl)
  unfold drawB
  rw [s_cons s1]
  have hcond : evE T C (sl5 j n none none none) (.and (.cmp .eq (pk "digits") (.int 0)) (.cmp .lt (pk "at") (.bi false .len (.cons (pk "cells") .nil)))) (h.set j (.dK (penL cells at_ dg (c + 1) f))) = .ret (.bl (decide (dg = 0) && decide (at_ < cells.length)), h.set j (.dK (penL cells at_ dg (c + 1) f))) := by
    refine and_at (cmp_int (pk_digits hj h0) cst_int (eqD_int dg 0)) fun _ => cmp_int (pk_at hj h0) (j := cells.length) ?_ rfl
    simp [evE, evEs, bindM, M.T.bind, pk_cells hj h0, biV, seqOf, out]
  by_cases hb : (decide (dg = 0) && decide (at_ < cells.length)) = true
  · have hb2 := hb
    rw [Bool.and_eq_true, decide_eq_true_eq, decide_eq_true_eq] at hb2
    obtain ⟨_, hlt⟩ := hb2
    have hlt2 : at_.toNat < cells.length := by omega
    generalize hcell : cells[at_.toNat] = cell
    have t1 : evS T C (sl5 j n none none none) (.set 2 (.sub (pk "cells") (pk "at"))) (h.set j (.dK (penL cells at_ dg (c + 1) f))) = .ret (.nx (sl5 j n (some (.int cell)) none none), h.set j (.dK (penL cells at_ dg (c + 1) f))) := by
      refine s_set ?_
      simp [evE, bindM, M.T.bind, pk_cells hj h0, pk_at hj h0, subV, ixN_nat hat hlt, hlt2, hcell]
    have t2 : evS T C (sl5 j n (some (.int cell)) none none) (pks "at" (.bin false .add (pk "at") (.int 1))) (h.set j (.dK (penL cells at_ dg (c + 1) f))) = .ret (.nx (sl5 j n (some (.int cell)) none none), h.set j (.dK (penL cells (at_ + 1) dg (c + 1) f))) :=
      pks_at hj rfl (bin_int (pk_at hj rfl) cst_int rfl)
    by_cases hbig : 1000000000000000000 ≤ cell
    · have t3 : evS T C (sl5 j n (some (.int cell)) none none) (.ite (.cmp .ge (.var 2) e18) (.cons (pks "digits" (.bin false .sub (.var 2) e18)) .nil)
          (.cons (pks "fold" (.bin false .mod (.bi false .int (.cons (.bin false .add (.bin false .mul (pk "fold") (.int 69069)) (.var 2)) .nil)) (.int 2147483587))) .nil)) (h.set j (.dK (penL cells (at_ + 1) dg (c + 1) f))) =
          .ret (.nx (sl5 j n (some (.int cell)) none none), h.set j (.dK (penL cells (at_ + 1) (cell - 1000000000000000000) (c + 1) f))) := by
        rw [s_if (cmp_int (var_at (v := .int cell) rfl) e18_at (b := true) (by show some (decide (1000000000000000000 ≤ cell)) = _; rw [decide_eq_true hbig])), if_pos rfl,
          s_cons (pks_digits hj rfl (bin_int (var_at (v := .int cell) rfl) e18_at rfl))]
        simp [evSs]
      obtain ⟨i, dg', hi, hdg', he⟩ := draw_digits (T := T) (C := C) (cells := cells) (at_ := at_ + 1) (dg := cell - 1000000000000000000) (c := c + 1) (f := f) (x2 := some (.int cell)) (x3 := none) (x4 := none) hj hn hn2 (by omega) hc4 hc5 hf hf2
      refine ⟨i, at_ + 1, dg', f, hi, by omega, hdg', hf, hf2, ?_⟩
      rw [s_cons (s := .ite _ _ _) (a' := sl5 j n (some (.int cell)) none none) (h2 := h.set j (.dK (penL cells (at_ + 1) (cell - 1000000000000000000) (c + 1) f)))
        (by rw [s_if hcond, hb, if_pos rfl, s_cons t1, s_cons t2, s_cons t3]; simp [evSs])]
      exact he
    · generalize hF : (f * 69069 + cell).fmod 2147483587 = F
      have F0 : 0 ≤ F := by rw [← hF]; exact Int.fmod_nonneg_of_pos _ (by decide)
      have F1 : F < 2147483587 := by rw [← hF]; exact Int.fmod_lt_of_pos _ (by decide)
      have b1 : binI .mul f 69069 = some (.int (f * 69069)) := by
        have := big_lt (k := 32) hf (by omega) (by decide)
        have e2 : big 69069 < 20 := by decide
        unfold binI
        simp only
        rw [if_pos (by unfold lim; omega)]
      have b2 : binI .mod (f * 69069 + cell) 2147483587 = some (.int F) := by
        unfold binI
        simp only
        rw [if_neg (by decide), hF]
      have t3 : evS T C (sl5 j n (some (.int cell)) none none) (.ite (.cmp .ge (.var 2) e18) (.cons (pks "digits" (.bin false .sub (.var 2) e18)) .nil)
          (.cons (pks "fold" (.bin false .mod (.bi false .int (.cons (.bin false .add (.bin false .mul (pk "fold") (.int 69069)) (.var 2)) .nil)) (.int 2147483587))) .nil)) (h.set j (.dK (penL cells (at_ + 1) dg (c + 1) f))) =
          .ret (.nx (sl5 j n (some (.int cell)) none none), h.set j (.dK (penL cells (at_ + 1) dg (c + 1) F))) := by
        rw [s_if (cmp_int (var_at (v := .int cell) rfl) e18_at (b := false) (by show some (decide (1000000000000000000 ≤ cell)) = _; rw [decide_eq_false hbig])), if_neg (by decide),
          s_cons (pks_fold hj rfl (bin_int (int_of (bin_int (bin_int (pk_fold hj rfl) cst_int b1) (var_at (v := .int cell) rfl) rfl)) cst_int b2))]
        simp [evSs]
      obtain ⟨i, dg', hi, hdg', he⟩ := draw_digits (T := T) (C := C) (cells := cells) (at_ := at_ + 1) (dg := dg) (c := c + 1) (f := F) (x2 := some (.int cell)) (x3 := none) (x4 := none) hj hn hn2 hdg hc4 hc5 F0 (by omega)
      refine ⟨i, at_ + 1, dg', F, hi, by omega, hdg', F0, by omega, ?_⟩
      rw [s_cons (s := .ite _ _ _) (a' := sl5 j n (some (.int cell)) none none) (h2 := h.set j (.dK (penL cells (at_ + 1) dg (c + 1) F)))
        (by rw [s_if hcond, hb, if_pos rfl, s_cons t1, s_cons t2, s_cons t3]; simp [evSs])]
      exact he
  · obtain ⟨i, dg', hi, hdg', he⟩ := draw_digits (T := T) (C := C) (cells := cells) (at_ := at_) (dg := dg) (c := c + 1) (f := f) (x2 := none) (x3 := none) (x4 := none) hj hn hn2 hdg hc4 hc5 hf hf2
    refine ⟨i, at_, dg', f, hi, hat, hdg', hf, hf2, ?_⟩
    rw [s_cons (s := .ite _ _ _) (a' := sl5 j n none none none) (h2 := h.set j (.dK (penL cells at_ dg (c + 1) f))) (by rw [s_if hcond, Bool.eq_false_iff.mpr hb, if_neg (by decide)]; simp [evSs])]
    exact he
end
end M
end

section
set_option Elab.async false
set_option linter.all false
set_option maxRecDepth 100000
set_option maxHeartbeats 1000000
/-! M18: the promises of the law's draw and pen. -/
namespace M
open PySem PySem.Spec PyProof.Rows L2

theorem upd_self {H : Hp} {a : Addr} {o : HO} (e : H a = some o) : upd H a o = H := by
  funext b
  unfold upd
  split
  · rename_i h
    rw [h, e]
  · rfl
theorem intsOf_map : ∀ ns : List Int, intsOf (ns.map Val.int) = some ns
  | [] => rfl
  | n :: ns => by
    show (intsOf (ns.map Val.int)).map (n :: ·) = _
    rw [intsOf_map ns]
    rfl
section
variable {g : Ga} {W : Wd} {h : VH} {H : Hp}
theorem penL_rep {us : List (L2.Key × V)} {d : Nat} (p : PenK W.G d us) : ∃ cells a dg c f, RepK g W (penL cells a dg c f) us ∧ cells.length ≤ 1000 ∧ 0 ≤ a ∧ 0 ≤ dg ∧ 0 ≤ c ∧ c ≤ d ∧ 0 ≤ f ∧ f < 4294967296 := by
  obtain ⟨L, cells, a, dg, c, f, rfl, hL, h1⟩ := p
  exact ⟨cells, a, dg, c, f, .cons (.lst hL (Reps.of_ints _)) (.cons (.int _) (.cons (.int _) (.cons (.int _) (.cons (.int _) .nil)))), h1⟩
theorem penL_back {us : List (L2.Key × V)} {d : Nat} {cells : List Int} {a dg c f : Int} (r : RepK g W (penL cells a dg c f) us) (h1 : cells.length ≤ 1000 ∧ 0 ≤ a ∧ 0 ≤ dg ∧ 0 ≤ c ∧ c ≤ d ∧ 0 ≤ f ∧ f < 4294967296) : PenK W.G d us := by
  unfold penL at r
  cases r with
  | cons r1 r =>
    cases r with
    | cons r2 r =>
      cases r with
      | cons r3 r =>
        cases r with
        | cons r4 r =>
          cases r with
          | cons r5 r =>
            cases r
            cases r1 with
            | lst t rr =>
              cases r2
              cases r3
              cases r4
              cases r5
              have e := Reps.ints rr (intsOf_map cells)
              subst e
              exact ⟨_, cells, a, dg, c, f, rfl, t, h1⟩
/-- the pen opened -/
theorem Sim.open_ (S : Sim g W h H) {j d : Nat} (e : h.get j = some (.pen d)) : ∃ cells a dg c f, Sim g W (h.set j (.dK (penL cells a dg c f))) H ∧ cells.length ≤ 1000 ∧ 0 ≤ a ∧ 0 ≤ dg ∧ 0 ≤ c ∧ c ≤ d ∧ 0 ≤ f ∧ f < 4294967296 := by
  obtain ⟨p, u, m, n, np, hh, ro⟩ := S.ob j _ e
  cases ro with
  | pen pk =>
    obtain ⟨cells, a, dg, c, f, r, h1⟩ := penL_rep (g := g) pk
    have S2 := S.set e m (.dK r)
    rw [upd_self hh] at S2
    exact ⟨cells, a, dg, c, f, S2, h1⟩
/-- .. and closed -/
theorem Sim.close_ {j d : Nat} {o : Ob} {cells : List Int} {a dg c f : Int} (e : h.get j = some o) (S : Sim g W (h.set j (.dK (penL cells a dg c f))) H) (h1 : cells.length ≤ 1000 ∧ 0 ≤ a ∧ 0 ≤ dg ∧ 0 ≤ c ∧ c ≤ d ∧ 0 ≤ f ∧ f < 4294967296) : Sim g W (h.set j (.pen d)) H := by
  have e2 := get_set1 (o := .dK (penL cells a dg c f)) e
  obtain ⟨p, u, m, n, np, hh, ro⟩ := S.ob j _ e2
  cases ro with
  | dK r =>
    have S2 := S.set e2 m (.pen (penL_back r h1))
    rw [upd_self hh, set_set] at S2
    exact S2
end
section
variable {g : Ga} {s : Si} {T : Tb} {fa : Nat → Addr}
/-- no def is called -/
def noC : Nat → List Val → Mo Val := fun _ _ _ => .stuck
theorem tb0 (t : TbS g s T fa) (N : List Str) : TbOk g 0 { s with N := N } T noC fa (arOf T) :=
  t.with N (fun n A outer sh H us vs Q hr hgd e0 hl r ⟨W, h, xs, P, S, R, hg, q⟩ => hg.elim) (fun n vs h P hg => hg.elim) fun n y _ _ A outer sh H us w vs Q hr hgd e0 hl r ⟨W, h, xs, P, S, R, hg, q⟩ => hg.elim
/-- a def that calls none: by its body's run -/
theorem leaf_fok (t : TbS g s T fa) {f : Addr} {np ns : Nat} {body : Ss} {sp : Sp} {kx : Str} (hd : DefOk g s f np ns body kx)
    (hb : ∀ ws H Q, ws.length = np → sp ws H Q E0 → ∃ W h xs P, Sim g W h H ∧ Reps g W xs ws ∧ (evSs T noC (begin_ ns xs) body h).Good P ∧ ∀ r, P r → WantF g W r { nx := fun _ H' => Q .non H', rt := Q }) : Fok g 2 f np sp := by
  obtain ⟨st, x, qual, N, ps, oc, od, dV, kV, doc, pm, an, cdv, ct, osl, ds, b0, h1, h2, h3, h4, h5, h6, h7, h8, h9, _⟩ := hd.ex
  have key := cod_of (g := g) (f := f) (k := 1) (sp := fun vs H Q _ => ∃ ws, vs = ws ++ nonsV ds.length ∧ ws.length = np ∧ sp ws H Q E0) h1 h2 h3 fun A outer sh H vs Q hr hgd hl hsp => ?_
  · intro A outer sh H us vs Q hr hgd e0 hl r hsp
    exact key A outer sh H ⟨us, []⟩ (us ++ ds) (vs ++ nonsV ds.length) Q hr hgd e0 (by rw [List.length_append, hl, h4]) (fun KX => h6 sh us KX (by rw [List.length_append, hl, h4])) (r.append h8) ⟨vs, rfl, r.length.trans hl, hsp⟩
  obtain ⟨ws, rfl, hwl, hsp⟩ := hsp
  obtain ⟨W, h, xs, P, S, R, hg, q⟩ := hb ws H Q hwl hsp
  have c : CxOk g 1 { s with N := N } (defScope st).names (cxOf CX0 g.prog g.w g.K g.mg g.base N qual (defScope st) f cdv A outer sh H E0).nox := {
    prog := rfl
    w := rfl
    K := rfl
    mg := rfl
    base := rfl
    N := rfl
    nd := h3.nd
    calm := rfl
    room := hr
    gd := hgd
    xe := rfl
    look := fun y kd ek => .inl ek
    fn := fun _ _ => rfl
    kind := h3.kind }
  have hN : ps.length ≤ ns := by
    have := congrArg List.length h3.pre
    rw [List.length_take] at this
    omega
  have hx : xs.length = np := R.length.trans hwl
  rw [h9, ← hx, pad_run ds.length xs h (by omega)] at hg
  rw [← h5] at hg
  exact sndSs (tb0 t N) b0 (defScope st).names _ (defBody st) c h7 _ _ W h H _ _ S (start_slo (R.append (nons_reps ds.length))) hg q
theorem draw_fok (t : TbS g s T fa) {n : Nat} (hn : T.defs[n]? = some .draw) {kx : Str} (hd : DefOk g s (fa n) 2 5 drawB kx) (l : Nat) : Fok g 2 (fa n) 2 (spC g (run T (l + 1)) n) := by
  refine leaf_fok t hd fun ws H Q hl hsp => ?_
  obtain ⟨W, h, xs, P, S, R, hg, q⟩ := hsp
  unfold run at hg
  rw [hn] at hg
  dsimp only at hg
  split at hg
  · rename_i j n0
    split at hg
    · rename_i d hj
      split at hg
      · rename_i hc
        obtain ⟨cells, a, dg, c, f, S2, h1, h2, h3, h4, h5, h6, h7⟩ := S.open_ hj
        obtain ⟨i, at', dg', f', k1, k2, k3, k4, k5, he⟩ := draw_run (T := T) (C := noC) hj hc.1 hc.2.1 hc.2.2 h1 h2 h3 h4 h5 h6 h7
        refine ⟨W, _, [.ref j, .int n0], fun r => r = (.rt (.int i), h.set j (.dK (penL cells at' dg' (c + 1) f'))), S2, R, ?_, ?_⟩
        · show (evSs T noC (sl5 j n0 none none none) drawB _).Good _
          rw [he]
          exact rfl
        · rintro r rfl
          intro W' w H' l' S' R'
          have S3 := Sim.close_ (d := d + 1) hj S' ⟨h1, k2, k3, by omega, by omega, k4, k5⟩
          exact q _ (hg i (by omega)) W' w H' l' S3 R'
      · exact hg.elim
    · exact hg.elim
  · exact hg.elim
/-! ### the pen made -/
def penKs : List (Sum Int Str) := [.inr "cells", .inr "at", .inr "digits", .inr "count", .inr "fold"]
def penStep : Ss := .cons (.set 1 (.bin false .mod (.bi false .int (.cons (.bin false .add (.bin false .mul (.var 1) (.int 47)) (.var 2)) .nil)) (.int 1000000007))) .nil
def penB : Ss :=
  .cons (.set 1 (.int 0)) (.cons (.for_ (.nm 2) (.seq (.var 0)) penStep)
  (.cons (.ret (.dct penKs (.cons (.bi false .list (.cons (.var 0) .nil)) (.cons (.int 0) (.cons (.int 0) (.cons (.int 0) (.cons (.var 1) .nil)))))) ) .nil))
section
variable {C : Nat → List Val → Mo Val} {h : VH}
theorem pen_step {ns : List Int} {f c : Int} {x2 : Option Val} (hf : 0 ≤ f) (hf2 : f < 1000000007) : ∃ f', 0 ≤ f' ∧ f' < 1000000007 ∧ evSs T C [some (.scr ns), some (.int f), some (.int c)] penStep h = .ret (.nx [some (.scr ns), some (.int f'), some (.int c)], h) := by
  generalize hF : (f * 47 + c).fmod 1000000007 = F
  have b1 : binI .mul f 47 = some (.int (f * 47)) := by
    have := big_lt (k := 32) hf (by omega) (by decide)
    have e2 : big 47 < 20 := by decide
    unfold binI
    simp only
    rw [if_pos (by unfold lim; omega)]
  have b2 : binI .mod (f * 47 + c) 1000000007 = some (.int F) := by
    unfold binI
    simp only
    rw [if_neg (by decide), hF]
  refine ⟨F, by rw [← hF]; exact Int.fmod_nonneg_of_pos _ (by decide), by rw [← hF]; exact Int.fmod_lt_of_pos _ (by decide), ?_⟩
  unfold penStep
  rw [s_cons (s_set (bin_int (int_of (bin_int (bin_int (var_at (v := .int f) rfl) cst_int b1) (var_at (v := .int c) rfl) rfl)) cst_int b2))]
  simp [evSs]
theorem pen_loop {ns : List Int} : ∀ (l : List Int) {f : Int} {x2 : Option Val}, 0 ≤ f → f < 1000000007 → ∃ f' x2', 0 ≤ f' ∧ f' < 1000000007 ∧
    loopL (fun v σ' => match setTg (.nm 2) v σ' with
      | none => fun _ => .stuck
      | some σ'' => evSs T C σ'' penStep) (l.map Val.int) [some (.scr ns), some (.int f), x2] h = .ret (.nx [some (.scr ns), some (.int f'), x2'], h)
  | [], f, x2, h1, h2 => ⟨f, x2, h1, h2, rfl⟩
  | c :: l, f, x2, h1, h2 => by
    obtain ⟨f', a1, a2, e⟩ := pen_step (T := T) (C := C) (h := h) (ns := ns) (c := c) (x2 := x2) h1 h2
    obtain ⟨f2, x3, b1, b2, e2⟩ := pen_loop l (x2 := some (.int c)) a1 a2
    refine ⟨f2, x3, b1, b2, ?_⟩
    rw [List.map_cons]
    unfold loopL
    simp only [setTg]
    show ((evSs T C [some (.scr ns), some (.int f), some (.int c)] penStep h).bind _) = _
    rw [e]
    exact e2
theorem pen_run {ns : List Int} : ∃ f, 0 ≤ f ∧ f < 4294967296 ∧ evSs T C [some (.scr ns), none, none] penB h = .ret (.rt (.ref h.next), h.push (.dK (penL ns 0 0 0 f))) := by
  obtain ⟨f, x2, h1, h2, e⟩ := pen_loop (T := T) (C := C) (h := h) (ns := ns) ns (f := 0) (x2 := none) (by decide) (by decide)
  refine ⟨f, h1, by omega, ?_⟩
  unfold penB
  rw [s_cons (s_set (v := .int 0) cst_int)]
  have e2 : evS T C [some (.scr ns), some (.int 0), none] (.for_ (.nm 2) (.seq (.var 0)) penStep) h = .ret (.nx [some (.scr ns), some (.int f), x2], h) := by
    simp only [evS, evX, evE, bindM, M.T.bind]
    exact e
  rw [show ([some (.scr ns), none, none] : Sl).set 1 (some (.int 0)) = [some (.scr ns), some (.int 0), none] from rfl, s_cons e2]
  refine s_ret (s_rt ?_)
  have e3 : evEs T C [some (.scr ns), some (.int f), x2] (.cons (.bi false .list (.cons (.var 0) .nil)) (.cons (.int 0) (.cons (.int 0) (.cons (.int 0) (.cons (.var 1) .nil))))) h = .ret ([.lst (ns.map Val.int), .int 0, .int 0, .int 0, .int f], h) := by
    simp [evEs, evE, bindM, M.T.bind, biV, seqOf, out]
  simp only [evE, bindM, e3, M.T.bind]
  have e4 : (penKs.zip [Val.lst (ns.map Val.int), .int 0, .int 0, .int 0, .int f]).foldl (fun acc kv => putKV acc kv.1 kv.2) [] = penL ns 0 0 0 f := by kernel_rfl
  rw [e4]
end
theorem push_set {h : VH} {o o' : Ob} : (h.push o).set h.next o' = h.push o' := by
  show (⟨h.next + 1, VH.setL h.next o' ((h.next, o) :: h.obs)⟩ : VH) = ⟨h.next + 1, (h.next, o') :: h.obs⟩
  have e0 : VH.setL h.next o' ((h.next, o) :: h.obs) = if h.next = h.next then (h.next, o') :: h.obs else (h.next, o) :: VH.setL h.next o' h.obs := rfl
  rw [e0, if_pos rfl]
theorem mkpen_fok (t : TbS g s T fa) {n : Nat} (hn : T.defs[n]? = some .mkpen) {kx : Str} (hd : DefOk g s (fa n) 1 3 penB kx) (l : Nat) : Fok g 2 (fa n) 1 (spC g (run T (l + 1)) n) := by
  refine leaf_fok t hd fun ws H Q hl hsp => ?_
  obtain ⟨W, h, xs, P, S, R, hg, q⟩ := hsp
  unfold run at hg
  rw [hn] at hg
  dsimp only at hg
  split at hg
  · rename_i ns
    split at hg
    · rename_i hlen
      obtain ⟨f, f0, f1, he⟩ := pen_run (T := T) (C := noC) (h := h) (ns := ns)
      refine ⟨W, h, [.scr ns], fun r => r = (.rt (.ref h.next), h.push (.dK (penL ns 0 0 0 f))), S, R, ?_, ?_⟩
      · show (evSs T noC [some (.scr ns), none, none] penB h).Good _
        rw [he]
        exact rfl
      · rintro r rfl
        intro W' w H' l' S' R'
        have S2 : Sim g W' ((h.push (.pen 0)).set h.next (.dK (penL ns 0 0 0 f))) H' := by
          rw [push_set]
          exact S'
        have S3 := Sim.close_ (d := 0) (by rw [VH.get_push, if_pos rfl]) S2 ⟨hlen, by omega, by omega, by omega, by omega, f0, f1⟩
        rw [push_set] at S3
        exact q _ hg W' w H' l' S3 R'
    · exact hg.elim
  · exact hg.elim
end
end M
end

section
set_option Elab.async false
set_option linter.all false
set_option maxRecDepth 100000
set_option maxHeartbeats 1000000
/-! M19: the law's entry. -/
namespace M
open PySem PySem.Spec PyProof.Rows L2

/-- nothing but the script is known at the entry -/
def atEntry (H : Hp) : Wd := ⟨H, fun _ => none, none, fun _ => none⟩
def VH.none : VH := ⟨0, []⟩
theorem sim_entry {g : Ga} {H : Hp} : Sim g (atEntry H) VH.none H where
  sub := fun _ _ e => e
  ob := fun i o e => by cases e
  inj := fun i j a z => by cases z
  nx := fun _ _ => rfl
  pn := fun a z => by cases z
  xk := fun p o z => by cases z
/-- the script's objects ahead of the call: the abstract heap that knows it -/
def knows (a : Addr) (o : Obj) (xs : List V) : Hp := fun b => if b = a then some (.frz o (.lst xs)) else Option.none
/-- the law's def, called with the script -/
theorem entry_call {P : Program} {w : World} {K : PySem.W.Frag} {mg mb : Str → Option Value} {k : Nat} {f a : Addr} {sh : Shared} {vs : List Value} {ns : List Int}
    (inK : K.In sh.heap) (glb : sh.heap.Ns mainGlobals mg) (blt : sh.heap.Ns builtinsNs mb) (bltE : ∀ x : Str, x ≠ "__name__" → mb x = bootBuiltins x) (noLim : sh.heap.NoLimit) (noGen : sh.gens = #[])
    (scr : sh.heap.get? a = some { cls := .type "list", data := .seq vs.toArray }) (hint : IntsAre vs ns) (len : ns.length ≤ sizeLine) (room : Room k callerA)
    (F : ∀ base : Heap, K.In base → base.Ns mainGlobals mg → ∃ (g : Ga) (C : Nat → List Val → Mo Val) (n : Nat), g.prog = P ∧ g.w = w ∧ g.K = K ∧ g.mg = mg ∧ g.base = base ∧ Fok g k f 1 (spC g C n) ∧ (C n [.scr ns] VH.none).Good fun r => r.1 = .bl true) :
    codeAny (model P w) callerA (.call (.ref f) ⟨[.ref a], []⟩) (fun r s' => r = .ok (.ret (.bool true)) ∧ OldK sh.heap s'.heap ∧ s'.os = sh.os ∧ AllBare s'.gens) sh := by
  have vals := vals_ints hint
  have lv := hint.length
  have go : ∀ H : Hp, Only H → SqL K H a (ns.map V.int) → HOk P w H sh.heap → (∀ b u, H b = some u → b = a ∧ K.lookup a = Option.none) →
      codeAny (model P w) callerA (.call (.ref f) ⟨[.ref a], []⟩) (fun r s' => r = .ok (.ret (.bool true)) ∧ OldK sh.heap s'.heap ∧ s'.os = sh.os ∧ AllBare s'.gens) sh := by
    intro H only sq ok sole
    have seen : ∀ {b : Addr} {o : Obj}, sh.heap.get? b = some o → b ≠ a ∨ K.lookup a ≠ Option.none → (hidT sh.heap H).get? b = some o := fun {b o} e z => by
      refine hidT_get e ?_
      cases q : H b with
      | none => rfl
      | some u =>
        obtain ⟨q1, q2⟩ := sole b u q
        rcases z with z | z
        · exact absurd q1 z
        · exact absurd q2 z
    have notScr : ∀ {b : Addr} {o : Obj} {es : Array DictEntry} {ep : Nat}, sh.heap.get? b = some o → o.data = .dict es ep → b ≠ a := fun e d z => by
      rw [z, scr] at e
      cases e
      exact Data.noConfusion d
    have nsHid : ∀ {b : Addr} {m : Str → Option Value}, sh.heap.Ns b m → (hidT sh.heap H).Ns b m := fun ⟨o, es, ep, e, d, r⟩ => ⟨o, es, ep, seen e (.inl (notScr e d)), d, r⟩
    have inHid : K.In (hidT sh.heap H) := fun b o e => seen (inK b o e) (by
      by_cases z : b = a
      · right
        rw [← z, e]
        exact fun y => nomatch y
      · exact .inl z)
    obtain ⟨mc, lim1, lim2⟩ := noLim
    obtain ⟨g, C, n, rfl, rfl, rfl, rfl, gb, FF, good⟩ := F _ inHid (nsHid glb)
    have md : Mod g.K g.mg g.base := by
      rw [gb]
      exact ⟨inHid, nsHid glb, ⟨mb, nsHid blt, bltE⟩, ⟨mc, nsHid lim1, lim2⟩⟩
    have env : Env0 g.prog g.w g.K g.mg g.base callerA [] sh H := ⟨rfl, md, by rw [gb]; exact fun b o e => of_hidT e, by rw [gb]; exact Nat.le_of_eq (hidT_size _ _), trivial, fun b hb => absurd (show b ∈ ([] : List Addr) from hb) (by simp), ok, .of_eq noGen⟩
    have promise : spC g C n [.ref a] H (fun v _ => v = .bl true) E0 := ⟨atEntry H, VH.none, [.scr ns], _, sim_entry, .cons (.scr sq) .nil, good, fun r hr W' w' H' l S' R' => by
      rw [hr] at R'
      cases R'
      rfl⟩
    refine codeAny_mono (FF callerA [] sh H [.ref a] [.ref a] _ room rfl env rfl (.cons rfl .nil) promise) fun r s' z => ?_
    cases r with
    | error e => exact False.elim z
    | ok fl =>
      cases fl with
      | ret u =>
        obtain ⟨v, H', eos, bare, un, ok', rv, ev⟩ := z
        have ev : v = .bl true := ev
        subst ev
        obtain rfl : u = Value.bool true := rv
        refine ⟨rfl, OldK.of_keep fun b o e => ?_, eos, bare⟩
        rcases only b with y | ⟨ob, xs, y⟩
        · exact un.keep b o e y (by intro z; exact absurd (show b ∈ ([] : List Addr) from z) (by simp)) (by simp)
        · obtain ⟨e1, _⟩ := ok b _ y
          obtain ⟨e2, _⟩ := ok' b _ (un.frzs b ob _ y)
          rw [e] at e1
          cases e1
          exact e2
      | next => exact False.elim z
      | brk => exact False.elim z
      | cont => exact False.elim z
  cases hk : K.lookup a with
  | some o =>
    have e := inK a o hk
    rw [scr] at e
    cases e
    exact go (fun _ => Option.none) (fun _ => .inl rfl) (.inr ⟨_, vs.toArray, _, hk, rfl, rfl, rfl, by rw [List.size_toArray, lv]; exact len, by simpa using vals⟩) (fun b u z => by cases z) fun b u z => by cases z
  | none =>
    have at_a : knows a { cls := .type "list", data := .seq vs.toArray } (ns.map V.int) a = some (.frz { cls := .type "list", data := .seq vs.toArray } (.lst (ns.map V.int))) := if_pos rfl
    refine go (knows a { cls := .type "list", data := .seq vs.toArray } (ns.map V.int)) (fun b => ?_) (.inl (.inr ⟨_, at_a⟩)) (fun b u z => ?_) fun b u z => ?_
    · by_cases e : b = a
      · exact .inr ⟨_, _, if_pos e⟩
      · exact .inl (if_neg e)
    · have z' : (if b = a then some (HO.frz _ (.lst (ns.map V.int))) else Option.none) = some u := z
      split at z'
      · rename_i e
        cases z'
        rw [e]
        exact ⟨scr, by rw [List.length_map]; exact len, vs, _, vals, scr⟩
      · cases z'
    · have z' : (if b = a then some (HO.frz _ (.lst (ns.map V.int))) else Option.none) = some u := z
      split at z'
      · rename_i e
        exact ⟨e, hk⟩
      · cases z'
/-- a law: the written part, the table, the run -/
theorem entry_walk {l : PySem.W.OpenLaw} {n k : Nat} {q : Program} {loose : List Str} {XP : (Str → Option Value) → Heap → Prop} {YP : World → Heap → Prop} {d : DefRec}
    (hn : l.most = some n) (hn2 : n ≤ sizeLine) (hdf : d.params.defaults = []) (room : Room k callerA)
    (F : ∀ (w : World) (mg : Str → Option Value) (f : Addr) (h : Heap), YP w h → h.Ns mainGlobals mg → mg d.name = some (.ref f) →
      ∃ K : PySem.W.Frag, K.In h ∧ ∀ (ns : List Int), ns.length ≤ n → ∀ base : Heap, K.In base → base.Ns mainGlobals mg →
        ∃ (g : Ga) (C : Nat → List Val → Mo Val) (i : Nat), g.prog = l.prog ∧ g.w = w ∧ g.K = K ∧ g.mg = mg ∧ g.base = base ∧ Fok g k f 1 (spC g C i) ∧ (C i [.scr ns] VH.none).Good fun r => r.1 = .bl true) :
    PySem.W.WalkO q loose XP YP l.row.toRowW d [] (fun f vs => PySem.call f vs) := by
  refine Att.attach_call hn hdf fun w s0 s1 mg mb f o pm cd doc a vs ns G Y ho hd hcd hmg hobj hints hlen hg => ?_
  obtain ⟨K, KX, hF⟩ := F w mg f _ Y G.T.g hmg
  exact entry_call KX G.T.g G.T.b G.T.builtins G.T.nolimit hg hobj hints (Nat.le_trans hlen hn2) room fun base h1 h2 => hF ns hlen base h1 h2
end M
end

section
set_option Elab.async false
set_option linter.all false
set_option maxRecDepth 100000
set_option maxHeartbeats 1000000
/-! M20: a law's facts, read off what the top leaves. -/
namespace M
open PySem PySem.Spec PyProof.Rows L2

/-- a def of the text: where it stands, its names, its parameters -/
structure DD where
  d : He.DefD
  N : List Str
  ps : List Str
def noDD : DD := ⟨⟨("", none), "", "", ⟨[], [], none, [], [], none, []⟩, [], ⟨.function, [], false, false, []⟩, [], []⟩, [], []⟩
/-- a law's tables -/
structure LD where
  s : Si
  T : Tb
  ds : List DD
/-- fields by number, all unlike -/
def padS (n : Nat) : Str := ⟨(List.replicate (n + 60) 120).toArray⟩
def shortS (x : Str) : Bool := decide (x.cps.toList.length < 60)
def fldOf (l : List Str) (i : Nat) : Str := match l[i]? with
  | some x => x
  | none => padS i
theorem padS_len (n : Nat) : (padS n).cps.toList.length = n + 60 := by
  unfold padS
  rw [List.toList_toArray, List.length_replicate]
theorem fldOf_inj {l : List Str} (nd : l.Nodup) (sh : (l.all shortS) = true) : ∀ i j, fldOf l i = fldOf l j → i = j := by
  intro i j e
  have short : ∀ (k : Nat) (x : Str), l[k]? = some x → x.cps.toList.length < 60 := fun k x h => of_decide_eq_true (List.all_eq_true.mp sh x (List.mem_of_getElem? h))
  unfold fldOf at e
  cases hi : l[i]? with
  | none =>
    cases hj : l[j]? with
    | none =>
      rw [hi, hj] at e
      have := congrArg (fun x : Str => x.cps.toList.length) e
      dsimp only at this
      rw [padS_len, padS_len] at this
      omega
    | some y =>
      rw [hi, hj] at e
      have := congrArg (fun x : Str => x.cps.toList.length) e
      dsimp only at this
      rw [padS_len] at this
      have := short j y hj
      omega
  | some x =>
    cases hj : l[j]? with
    | none =>
      rw [hi, hj] at e
      have := congrArg (fun x : Str => x.cps.toList.length) e
      dsimp only at this
      rw [padS_len] at this
      have := short i x hi
      omega
    | some y =>
      rw [hi, hj] at e
      dsimp only at e
      subst e
      have h1 := (List.getElem?_eq_some_iff.mp hi)
      have h2 := (List.getElem?_eq_some_iff.mp hj)
      obtain ⟨a, b⟩ := h1
      obtain ⟨c, d⟩ := h2
      exact (List.getElem_inj nd).mp (b.trans d.symm)

/-- a constant of the module -/
def globB (K : PySem.W.Frag) : Val → Value → Bool
  | .int i, .int j _ => decide (i = j)
  | .str x, .str y _ => decide (x = y)
  | .bl b, .bool c => b == c
  | .non, .none => true
  | .tup xs, .ref a => (match K.lookup a with
    | some ⟨.type c, _, .seq its _, _⟩ => decide (c = "tuple") && (decide (its.size ≤ sizeLine) && globBs xs its.toList)
    | _ => false)
  | _, _ => false
where globBs : List Val → List Value → Bool
  | [], [] => true
  | .int i :: xs, .int j _ :: us => decide (i = j) && globBs xs us
  | .str i :: xs, .str j _ :: us => decide (i = j) && globBs xs us
  | _, _ => false
def globVs : List Val → List V
  | [] => []
  | .int i :: xs => .int i :: globVs xs
  | .str i :: xs => .str i :: globVs xs
  | _ :: xs => .non :: globVs xs
theorem globBs_ok {K : PySem.W.Frag} {g : Ga} {W : Wd} : ∀ {xs : List Val} {us : List Value}, globB.globBs xs us = true → Vals (globVs xs) us ∧ Reps g W xs (globVs xs)
  | [], us, h => by
    cases us with
    | nil => exact ⟨.nil, .nil⟩
    | cons u us => simp [globB.globBs] at h
  | x :: xs, us, h => by
    unfold globB.globBs at h
    split at h
    · rename_i e1
      cases e1
    · rename_i i xs' j t us' e1
      cases e1
      rw [Bool.and_eq_true] at h
      obtain ⟨a, b⟩ := globBs_ok (g := g) (W := W) (K := K) h.2
      have := of_decide_eq_true h.1
      subst this
      exact ⟨.cons ⟨_, rfl⟩ a, .cons (.int _) b⟩
    · rename_i i xs' j t us' e1
      cases e1
      rw [Bool.and_eq_true] at h
      obtain ⟨a, b⟩ := globBs_ok (g := g) (W := W) (K := K) h.2
      have := of_decide_eq_true h.1
      subst this
      exact ⟨.cons ⟨_, rfl⟩ a, .cons (.str _) b⟩
    · cases h
theorem globB_ok {g : Ga} {v : Val} {u : Value} (h : globB g.K v u = true) : ∃ w, L2.RelV w u ∧ ∀ W, Rep g W v w := by
  unfold globB at h
  split at h
  · rename_i i j t
    have := of_decide_eq_true h
    subst this
    exact ⟨.int i, ⟨_, rfl⟩, fun W => .int i⟩
  · rename_i i j t
    have := of_decide_eq_true h
    subst this
    exact ⟨.str i, ⟨_, rfl⟩, fun W => .str i⟩
  · rename_i b c
    have := beq_iff_eq.mp h
    subst this
    exact ⟨.bl b, rfl, fun W => .bl b⟩
  · exact ⟨.non, rfl, fun W => .non⟩
  · rename_i xs a
    split at h
    · rename_i c od its n sl q
      simp only [Bool.and_eq_true] at h
      obtain ⟨h1, h2, h3⟩ := h
      have h1 := of_decide_eq_true h1
      have h2 := of_decide_eq_true h2
      refine ⟨.ref a, rfl, fun W => ?_⟩
      obtain ⟨va, re⟩ := globBs_ok (K := g.K) (g := g) (W := W) h3
      exact .tup (.inr ⟨_, its, n, q, congrArg Value.type h1, rfl, h2, va⟩) re
    · cases h
  · cases h

/-- own classes by number -/
def clsA (L : LD) (K : PySem.W.Frag) (c : Nat) : Addr := He.ga K (L.s.cln.getD c "")
def fnA (L : LD) (K : PySem.W.Frag) (n : Nat) : Addr := He.fAd K (L.ds.getD n noDD).d.at_
def tyK (L : LD) (K : PySem.W.Frag) : Ty → Value
  | .int => .type "int" | .bool => .type "bool" | .str => .type "str" | .tuple => .type "tuple" | .list => .type "list" | .dict => .type "dict"
  | .own c => .ref (clsA L K c)
def tysL (n : Nat) : List Ty := [.int, .bool, .str, .tuple, .list, .dict] ++ (List.range n).map Ty.own
theorem tysL_mem {n : Nat} {t : Ty} (h : ∀ c, t = .own c → c < n) : t ∈ tysL n := by
  unfold tysL
  cases t with
  | own c => exact List.mem_append.mpr (.inr (List.mem_map.mpr ⟨c, List.mem_range.mpr (h c rfl), rfl⟩))
  | _ => simp
/-- what is looked at: each row by itself -/
def chkTy (L : LD) (K : PySem.W.Frag) : Bool :=
  (tysL L.T.cls.length).all fun u => decide (PySem.W.kitOne K (.type "NoneType") (tyK L K u) = some false) && (tysL L.T.cls.length).all fun t => decide (PySem.W.kitOne K (tyK L K t) (tyK L K u) = some (isTy t u))
def chkCls (L : LD) (K : PySem.W.Frag) : Bool :=
  He.eqO (PySem.W.specialIn K (.builtin "object.__class__") "__get__") (some (some (.builtin "getset_descriptor.__get__"))) && decide (PySem.W.takesIn K (.builtin "object.__class__") = some true) &&
  ((List.range L.T.cls.length).all fun c =>
    He.Fa.ok K (.glo (L.s.cln.getD c "")) && He.Fa.ok K (.keep (L.s.cln.getD c "")) && He.Fa.ok K (.cls (L.s.cln.getD c "")) && He.eqO (PySem.W.findIn K (.ref (clsA L K c)) "__class__") (some (some (.builtin "object.__class__"))) &&
      decide (PySem.W.mroIn K (clsA L K c) (.type "object") = some true) && ((List.range L.T.cls.length).all fun d => decide (c = d) || decide (clsA L K c ≠ clsA L K d)) &&
      (match L.T.cls[c]? with
      | some k => (k.flds.all fun f => He.Fa.ok K (.noat (L.s.cln.getD c "") (fldOf L.s.fld f))) && (k.meths.all fun m => He.Fa.ok K (.meth (L.s.cln.getD c "") (L.s.mth.getD m.1 "")) && decide ((L.ds.getD m.2 noDD).d.at_ = (L.s.cln.getD c "", some (L.s.mth.getD m.1 ""))) && (k.flds.all fun f => decide (fldOf L.s.fld f ≠ L.s.mth.getD m.1 ""))) &&
        (plainNs.all fun n => PySem.W.notFirst K (clsA L K c) (.type n)) &&
        (match k.eqf with
        | some f => He.eqO (PySem.W.findIn K (.ref (clsA L K c)) "__eq__") (some (some (.ref (fnA L K f)))) && PySem.W.isFn K (.ref (fnA L K f)) && He.eqO (PySem.W.findIn K (.ref (clsA L K c)) "__ne__") (some (some (.builtin "object.__ne__")))
        | none => He.eqO (PySem.W.findIn K (.ref (clsA L K c)) "__eq__") (some (some (.builtin "object.__eq__")))) &&
        (match k.init with
        | some n => He.Fa.ok K (.mkr (L.s.cln.getD c "")) && decide ((L.ds.getD n noDD).d.at_ = (L.s.cln.getD c "", some ("__init__" : Str)))
        | none => true)
      | none => false))
def chkFn (L : LD) (K : PySem.W.Frag) : Bool :=
  (List.range L.s.fns.length).all fun n => decide (L.s.fns.getD n "" = "") || (He.Fa.ok K (.glo (L.s.fns.getD n "")) && decide ((L.ds.getD n noDD).d.at_ = (L.s.fns.getD n "", none)) && decide (n < L.ds.length))
def chkGl (L : LD) (K : PySem.W.Frag) : Bool :=
  (List.range L.T.globs.length).all fun n => (match PySem.W.nsIn K mainGlobals (L.s.gl.getD n "") with
    | some (some u) => globB K (L.T.globs.getD n .non) u
    | _ => false)
def freeNs : List Str := ["isinstance", "range", "zip", "enumerate", "int", "bool", "str", "tuple", "list", "dict"]
def chkBi (L : LD) (K : PySem.W.Frag) : Bool :=
  (freeNs.all fun x => He.Fa.ok K (.free x)) && L.s.bis.all fun b => (match b with
    | .gcd => He.eqO (PySem.W.nsIn K mainGlobals "gcd") (some (some (.builtin "math.gcd")))
    | b => He.Fa.ok K (.free (biN b)))
/-- what of the text itself -/
def chkTx (L : LD) : Bool :=
  decide (L.s.cln.length = L.T.cls.length) && decide (L.s.fld.Nodup) && L.s.fld.all shortS && decide (L.s.mth.Nodup) && decide (L.s.fns.length ≤ L.ds.length) && decide (L.T.globs.length ≤ L.s.gl.length) &&
    (L.T.cls.all fun k => k.flds.all fun f => decide (f < L.s.fld.length)) && (L.T.cls.all fun k => k.meths.all fun m => decide (m.1 < L.s.mth.length))
def chkK (L : LD) (K : PySem.W.Frag) : Bool := chkTy L K && chkCls L K && chkFn L K && chkGl L K && chkBi L K
def fnL (L : LD) : List He.DefD := L.ds.map (·.d)
def obsM (L : LD) (K : PySem.W.Frag) : He.AlD := (chkK L K && (fnL L).all fun d => d.ok K, (fnL L).map fun d => He.fnW K d.at_)
/-- as: the addresses that are looked at (any list will do) -/
def obsMG (as : List Addr) (L : LD) (g : Addr → Option Obj) : He.AlD := obsM L (He.frG g as)
def SaysM (L : LD) (K : PySem.W.Frag) : Prop := obsM L K = He.valD (fnL L)
def hookM (as : List Addr) (L : LD) : PySem.W.Hook where
  α := He.AlD
  obs := fun s => obsMG as L s.heap.get?
  val := fun _ => He.valD (fnL L)
  says := fun _ h => ∃ K : PySem.W.Frag, K.In h ∧ SaysM L K
  of := fun _ _ e => ⟨_, He.frG_in, e⟩
  keeps := fun _ _ _ ⟨K, hK, c⟩ k => ⟨K, PySem.W.Frag.In.keeps hK k, c⟩
theorem obsMG_eq {as : List Addr} {L : LD} {g : Addr → Option Obj} {s : Shared} (h : ∀ a, g a = s.heap.get? a) : obsMG as L g = (hookM as L).obs s := by
  have e : g = s.heap.get? := funext h
  rw [e] <;> rfl
section
variable {L : LD} {K : PySem.W.Frag}
theorem SaysM.chk (c : SaysM L K) : chkK L K = true := by
  have := congrArg (fun z : He.AlD => z.1) c
  exact (He.ba (show (chkK L K && (fnL L).all fun d => d.ok K) = true from this)).1
theorem SaysM.def_ (c : SaysM L K) {n : Nat} {d : DD} (h : L.ds[n]? = some d) : ∃ fd, FunD K d.d.name d.d.qual d.d.params d.d.body d.d.scope (d.d.dvs K) (d.d.kws K) (fnA L K n) fd := by
  have c2 := (He.ba (show (chkK L K && (fnL L).all fun d => d.ok K) = true from congrArg (fun z : He.AlD => z.1) c)).2
  have e : (fnL L).map (fun d => He.fnW K d.at_) = (fnL L).map He.DefD.val := congrArg (fun z : He.AlD => z.2) c
  have hn : (fnL L)[n]? = some d.d := by
    unfold fnL
    rw [List.getElem?_map, h]
    rfl
  have e2 : ((fnL L).map fun d => He.fnW K d.at_)[n]? = ((fnL L).map He.DefD.val)[n]? := by rw [e]
  rw [List.getElem?_map, List.getElem?_map, hn] at e2
  have ef : fnA L K n = He.fAd K d.d.at_ := by
    unfold fnA
    rw [List.getD_eq_getElem?_getD, h]
    rfl
  rw [ef]
  exact He.DefD.funD (Option.some.inj e2) (List.all_eq_true.mp c2 d.d (List.mem_of_getElem? hn))
end
/-- the evaluator's view of the text -/
def gaM (L : LD) (P : Program) (w : World) (K : PySem.W.Frag) (mg : Str → Option Value) (base : Heap) : Ga where
  prog := P
  w := w
  K := K
  mg := mg
  base := base
  cls := clsA L K
  nc := L.T.cls.length
  fld := fldOf L.s.fld
  has := fun c f => hasF L.T c f
  penP := fun _ _ => False
  penM := fun _ _ _ _ h => h
theorem getD_some {α : Type} {l : List α} {n : Nat} {x d : α} (h : l[n]? = some x) : l.getD n d = x := by
  rw [List.getD_eq_getElem?_getD, h]
  rfl
theorem boot_bi (b : Bi) (h : b ≠ .gcd) : bootBuiltins (biN b) = some (biF b) := by
  cases b <;> first | exact absurd rfl h | kernel_rfl
theorem ands {a b : Bool} : (a && b) = true ↔ a = true ∧ b = true := Bool.and_eq_true_iff
theorem tbS {L : LD} {P : Program} {w : World} {K : PySem.W.Frag} {mg : Str → Option Value} {base h : Heap} (X : K.In h) (G : h.Ns mainGlobals mg) (tx : chkTx L = true) (c : SaysM L K) : TbS (gaM L P w K mg base) L.s L.T (fnA L K) := by
  have ck := c.chk
  unfold chkK at ck
  simp only [ands] at ck
  obtain ⟨⟨⟨⟨cTy, cCls⟩, cFn⟩, cGl⟩, cBi⟩ := ck
  unfold chkTx at tx
  simp only [ands] at tx
  obtain ⟨⟨⟨⟨⟨⟨⟨x1, x2⟩, x3⟩, x4⟩, x5⟩, x6⟩, x7⟩, x8⟩ := tx
  have x1 := of_decide_eq_true x1
  have x2 := of_decide_eq_true x2
  have x4 := of_decide_eq_true x4
  have x5 := of_decide_eq_true x5
  have x6 := of_decide_eq_true x6
  unfold chkCls at cCls
  simp only [ands] at cCls
  obtain ⟨⟨hn, hk⟩, hc⟩ := cCls
  have hc := fun cc (hh : cc < L.T.cls.length) => List.all_eq_true.mp hc cc (List.mem_range.mpr hh)
  unfold chkBi at cBi
  rw [ands] at cBi
  obtain ⟨b1, b2⟩ := cBi
  have fr : ∀ x, x ∈ freeNs → mg x = none := fun x hx => He.free_ok X G (List.all_eq_true.mp b1 x hx)
  unfold chkTy at cTy
  have ty := fun u (hu : ∀ cc, u = .own cc → cc < L.T.cls.length) => ands.mp (List.all_eq_true.mp cTy u (tysL_mem hu))
  have etk : ∀ u, tyV' (gaM L P w K mg base) u = tyK L K u := fun u => by cases u <;> rfl
  have clsF : ∀ cc, cc < L.T.cls.length → ∃ k, L.T.cls[cc]? = some k ∧ Cls K (clsA L K cc) ∧ mg (L.s.cln.getD cc "") = some (.ref (clsA L K cc)) ∧ PySem.W.keepIn K (.ref (clsA L K cc)) = true ∧
      PySem.W.findIn K (.ref (clsA L K cc)) "__class__" = some (some (.builtin "object.__class__")) ∧ PySem.W.mroIn K (clsA L K cc) (.type "object") = some true ∧
      (∀ d, d < L.T.cls.length → clsA L K cc = clsA L K d → cc = d) ∧ (∀ f ∈ k.flds, NoAttr K (clsA L K cc) (fldOf L.s.fld f)) ∧
      (∀ m ∈ k.meths, Meth K (clsA L K cc) (L.s.mth.getD m.1 "") (fnA L K m.2) ∧ ∀ f ∈ k.flds, fldOf L.s.fld f ≠ L.s.mth.getD m.1 "") ∧ (∀ n, k.init = some n → Mk K (clsA L K cc) (fnA L K n)) ∧
      (∀ n ∈ plainNs, PySem.W.notFirst K (clsA L K cc) (.type n) = true) ∧ (∀ f, k.eqf = some f → PySem.W.findIn K (.ref (clsA L K cc)) "__eq__" = some (some (.ref (fnA L K f))) ∧ PySem.W.isFn K (.ref (fnA L K f)) = true ∧ PySem.W.findIn K (.ref (clsA L K cc)) "__ne__" = some (some (.builtin "object.__ne__"))) ∧
      (k.eqf = none → PySem.W.findIn K (.ref (clsA L K cc)) "__eq__" = some (some (.builtin "object.__eq__"))) := by
    intro cc hcc
    have := hc cc hcc
    simp only [ands] at this
    obtain ⟨⟨⟨⟨⟨⟨k1, k2⟩, k3⟩, k4⟩, k5⟩, k6⟩, k7⟩ := this
    cases e : L.T.cls[cc]? with
    | none =>
      rw [e] at k7
      cases k7
    | some k =>
      rw [e] at k7
      dsimp only at k7
      simp only [ands] at k7
      obtain ⟨⟨⟨⟨m1, m2⟩, m4⟩, m5⟩, m3⟩ := k7
      refine ⟨k, rfl, He.cls_ok k3, He.glo_ok X G k1, He.keep_ok k2, He.eqO_ok k4, of_decide_eq_true k5, fun d hd ed => ?_, fun f hf => He.noat_ok (List.all_eq_true.mp m1 f hf), fun m hm => ?_, fun n hn => ?_, fun n hn => List.all_eq_true.mp m4 n hn, fun f hf => ?_, fun hf => ?_⟩
      · have := List.all_eq_true.mp k6 d (List.mem_range.mpr hd)
        rw [Bool.or_eq_true] at this
        rcases this with z | z
        · exact of_decide_eq_true z
        · exact absurd ed (of_decide_eq_true z)
      · have := List.all_eq_true.mp m2 m hm
        simp only [ands] at this
        obtain ⟨⟨a1, a2⟩, a3⟩ := this
        have a2 := of_decide_eq_true a2
        refine ⟨?_, fun f hf => of_decide_eq_true (List.all_eq_true.mp a3 f hf)⟩
        have := He.meth_ok a1
        unfold fnA
        rw [a2]
        exact this
      · rw [hn] at m3
        dsimp only at m3
        rw [ands] at m3
        have := He.mkr_ok m3.1
        unfold fnA
        rw [of_decide_eq_true m3.2]
        exact this
      · rw [hf] at m5
        dsimp only at m5
        simp only [ands] at m5
        exact ⟨He.eqO_ok m5.1.1, m5.1.2, He.eqO_ok m5.2⟩
      · rw [hf] at m5
        exact He.eqO_ok m5
  have hasK : ∀ cc f, hasF L.T cc f = true → ∃ k, L.T.cls[cc]? = some k ∧ f ∈ k.flds := fun cc f hh => by
    unfold hasF at hh
    split at hh
    · rename_i k e
      exact ⟨k, e, List.contains_iff_mem.mp hh⟩
    · cases hh
  refine {
    nc := rfl
    ga := {
      inj := fldOf_inj x2 x3
      cinj := fun i j hi hj e => (clsF i hi).elim fun k hk => hk.2.2.2.2.2.2.1 j hj e
      cls := fun cc hcc => (clsF cc hcc).elim fun k hk => hk.2.1
      noat := fun cc f hcc hf => ?noat
      cat := fun cc hcc => (clsF cc hcc).elim fun k hk => hk.2.2.2.2.1
      mro := fun cc hcc => (clsF cc hcc).elim fun k hk => hk.2.2.2.2.2.1
      chn := He.eqO_ok hn
      chk := of_decide_eq_true hk
      kit := fun t u ht hu => ?kit
      kitN := fun u hu => ?kitN }
    fldN := fun i hi => ?fldN
    fns := fun n x hx hne => ?fns
    cls := fun cc x hx hne => ?cls
    mak := fun cc n fz ms eq fl hh => ?mak
    meth := fun cc m n x hm hx => ?meth
    glo := fun n v x hv hx => ?glo
    bis := fun b hb => ?bis
    hasT := fun cc f hh => hh
    eqo := fun cc kk f e ef => (clsF cc (List.getElem?_eq_some_iff.mp e).1).elim fun k hk => by
      obtain ⟨ek, _, _, _, _, _, _, _, _, _, _, h1, _⟩ := hk
      rw [e] at ek
      cases ek
      exact h1 f ef
    eqn := fun cc kk e ef => (clsF cc (List.getElem?_eq_some_iff.mp e).1).elim fun k hk => by
      obtain ⟨ek, _, _, _, _, _, _, _, _, _, _, _, h1⟩ := hk
      rw [e] at ek
      cases ek
      exact h1 ef
    nfr := fun cc hcc => (clsF cc hcc).elim fun k hk => hk.2.2.2.2.2.2.2.2.2.2.1
    isi := fr "isinstance" (by decide +kernel)
    rng := fr "range" (by decide +kernel)
    zip := fr "zip" (by decide +kernel)
    enu := fr "enumerate" (by decide +kernel)
    tys := ⟨fr "int" (by decide +kernel), fr "bool" (by decide +kernel), fr "str" (by decide +kernel), fr "tuple" (by decide +kernel), fr "list" (by decide +kernel), fr "dict" (by decide +kernel)⟩ }
  case noat =>
    obtain ⟨k, ek, hm⟩ := hasK cc f hf
    obtain ⟨k', ek', _, _, _, _, _, _, nn, _⟩ := clsF cc hcc
    rw [ek] at ek'
    cases ek'
    exact nn f hm
  case kit =>
    rw [etk, etk]
    exact of_decide_eq_true (List.all_eq_true.mp (ty u hu).2 t (tysL_mem ht))
  case kitN =>
    rw [etk]
    exact of_decide_eq_true (ty u hu).1
  case fldN =>
    show L.s.fld[i]? = some (fldOf L.s.fld i)
    unfold fldOf
    rw [List.getElem?_eq_getElem hi]
  case fns =>
    have hn : n < L.s.fns.length := (List.getElem?_eq_some_iff.mp hx).1
    have := List.all_eq_true.mp cFn n (List.mem_range.mpr hn)
    rw [getD_some hx, Bool.or_eq_true] at this
    rcases this with z | z
    · exact absurd (of_decide_eq_true z) hne
    · simp only [ands] at z
      obtain ⟨⟨z1, z2⟩, z3⟩ := z
      have z3 := of_decide_eq_true z3
      obtain ⟨fd, F⟩ := c.def_ (List.getElem?_eq_getElem z3)
      refine ⟨?_, F.kp⟩
      have := He.glo_ok X G z1
      unfold fnA
      rw [of_decide_eq_true z2]
      exact this
  case cls =>
    have hn : cc < L.T.cls.length := by
      have := (List.getElem?_eq_some_iff.mp hx).1
      omega
    obtain ⟨k, _, _, h1, h2, _⟩ := clsF cc hn
    rw [getD_some hx] at h1
    exact ⟨hn, h1, h2⟩
  case mak =>
    have hn : cc < L.T.cls.length := (List.getElem?_eq_some_iff.mp hh).1
    obtain ⟨k, ek, _, _, _, _, _, _, _, _, h1, _⟩ := clsF cc hn
    rw [hh] at ek
    cases ek
    exact h1 n rfl
  case meth =>
    unfold methOf at hm
    obtain ⟨k, ek, hl⟩ := Option.bind_eq_some_iff.mp hm
    have hn : cc < L.T.cls.length := (List.getElem?_eq_some_iff.mp ek).1
    obtain ⟨k', ek', _, _, _, _, _, _, _, h1, _⟩ := clsF cc hn
    rw [ek] at ek'
    cases ek'
    have hmem : (m, n) ∈ k.meths := by
      clear ek h1
      revert hl
      generalize k.meths = l
      intro hl
      induction l with
      | nil => cases hl
      | cons p l ih =>
        obtain ⟨a, b⟩ := p
        rw [List.lookup_cons] at hl
        split at hl
        · rename_i q
          cases hl
          rw [beq_iff_eq.mp q]
          exact List.mem_cons_self
        · exact List.mem_cons_of_mem _ (ih hl)
    obtain ⟨h2, h3⟩ := h1 _ hmem
    rw [getD_some hx] at h2 h3
    refine ⟨h2, fun i hi => ?_⟩
    obtain ⟨k'', ek'', hmm⟩ := hasK cc i hi
    rw [ek] at ek''
    cases ek''
    exact h3 i hmm
  case glo =>
    have hn : n < L.T.globs.length := (List.getElem?_eq_some_iff.mp hv).1
    have := List.all_eq_true.mp cGl n (List.mem_range.mpr hn)
    rw [getD_some hx, getD_some hv] at this
    split at this
    · rename_i u e
      obtain ⟨wv, r1, r2⟩ := globB_ok (g := gaM L P w K mg base) this
      exact ⟨u, wv, PySem.W.mg_of X G e, r1, r2⟩
    · cases this
  case bis =>
    have := List.all_eq_true.mp b2 b hb
    by_cases e : b = .gcd
    · subst e
      exact .inr ⟨⟨_, rfl⟩, PySem.W.mg_of X G (He.eqO_ok this)⟩
    · refine .inl ⟨He.free_ok X G ?_, boot_bi b e⟩
      cases b <;> first | exact this | exact absurd rfl e
end M
end

section
set_option Elab.async false
set_option linter.all false
set_option maxRecDepth 100000
set_option maxHeartbeats 1000000
/-! M21: the defs of a text, checked together. -/
namespace M
open PySem PySem.Spec PyProof.Rows L2

theorem fm_congr {α β : Type} {f g : α → Option β} : ∀ {l : List α}, (∀ a ∈ l, f a = g a) → l.filterMap f = l.filterMap g
  | [], _ => rfl
  | a :: l, h => by
    rw [List.filterMap_cons, List.filterMap_cons, h a List.mem_cons_self, fm_congr fun b hb => h b (List.mem_cons_of_mem _ hb)]
theorem zip_lookup {ps : List Str} {us : List Value} (nd : ps.Nodup) (hl : us.length = ps.length) : ps.filterMap (fun n => ((ps.zip us).lookup n).map (n, ·)) = ps.zip us := by
  induction ps generalizing us with
  | nil => rfl
  | cons p ps ih =>
    cases us with
    | nil => cases hl
    | cons u us =>
      rw [List.nodup_cons] at nd
      have ih := ih nd.2 (Nat.succ.inj hl)
      rw [List.zip_cons_cons, List.filterMap_cons, List.lookup_cons_self]
      dsimp only [Option.map_some]
      have : ∀ n ∈ ps, ((List.lookup n ((p, u) :: ps.zip us)).map (n, ·)) = (List.lookup n (ps.zip us)).map (n, ·) := fun n hn => by
        rw [List.lookup_cons]
        have : (n == p) = false := by
          rw [beq_eq_false_iff_ne]
          rintro rfl
          exact nd.1 hn
        rw [this]
      rw [fm_congr this, ih]
theorem lookup_in {ps : List Str} {us : List Value} (hl : us.length = ps.length) : ∀ n ∈ ps, ((ps.zip us).lookup n).isSome = true := by
  induction ps generalizing us with
  | nil => intro n hn; cases hn
  | cons p ps ih =>
    cases us with
    | nil => cases hl
    | cons u us =>
      intro n hn
      rw [List.zip_cons_cons, List.lookup_cons]
      cases e : n == p with
      | true => rfl
      | false =>
        rcases List.mem_cons.mp hn with z | z
        · rw [z] at e
          simp at e
        · exact ih (Nat.succ.inj hl) n z
def plainArgs (a : Arguments) (ps : List Str) : Bool := a.posonlyargs.isEmpty && decide (a.args.map (·.arg) = ps) && a.vararg.isNone && a.kwonlyargs.isEmpty && a.kwarg.isNone && decide ps.Nodup
theorem bind_plain {a : Arguments} {ps : List Str} (h : plainArgs a ps = true) {x qual : Str} {body : List Stmt} {scope : Scope} (kV doc pm : Value) (an : Option Addr) (cdv ct : Value) (us : List Value) (hl : us.length = ps.length) :
    bindArgs (PySem.W.fnOf x qual a body scope .none kV doc pm an cdv ct) ⟨us, []⟩ = pure (ps.zip us) := by
  obtain ⟨po, ar, va, ko, kd, kw, df⟩ := a
  unfold plainArgs at h
  simp only [ands, List.isEmpty_iff, Option.isNone_iff_eq_none, decide_eq_true_eq] at h
  obtain ⟨⟨⟨⟨⟨rfl, h2⟩, rfl⟩, rfl⟩, rfl⟩, nd⟩ := h
  have miss : (ps.filter fun n => ((ps.zip us).lookup n).isNone) = [] := by
    rw [List.filter_eq_nil_iff]
    intro n hn z
    have := lookup_in hl n hn
    rw [Option.isNone_iff_eq_none] at z
    rw [z] at this
    cases this
  have bi := zip_lookup nd hl
  unfold bindArgs PySem.W.fnOf
  simp [h2, hl, seqItems?, miss, bi]
  rfl
/-- three parameters, a default of the last -/
theorem bind_last {a : Arguments} {p q r : Str} (h : plainArgs a [p, q, r] = true) {x qual : Str} {body : List Stmt} {scope : Scope} (T : Addr) (kV doc pm : Value) (an : Option Addr) (cdv ct : Value) (u1 u2 d : Value) :
    ∃ k, bindArgs (PySem.W.fnOf x qual a body scope (.ref T) kV doc pm an cdv ct) ⟨[u1, u2], []⟩ = seqItems? (.ref T) >>= k ∧ k (some [d].toArray) = pure ([p, q, r].zip [u1, u2, d]) := by
  obtain ⟨po, ar, va, ko, kd, kw, df⟩ := a
  unfold plainArgs at h
  simp only [ands, List.isEmpty_iff, Option.isNone_iff_eq_none, decide_eq_true_eq] at h
  obtain ⟨⟨⟨⟨⟨rfl, h2⟩, rfl⟩, rfl⟩, rfl⟩, nd⟩ := h
  simp only [List.nodup_cons, List.mem_cons, List.mem_singleton, not_or, List.not_mem_nil, not_false_eq_true, and_true, List.nodup_nil] at nd
  obtain ⟨⟨n1, n2⟩, n3⟩ := nd
  unfold bindArgs PySem.W.fnOf
  simp only [h2]
  refine ⟨_, rfl, ?_⟩
  have m1 : (r == p) = false := by rw [beq_eq_false_iff_ne]; exact fun z => n2 z.symm
  have m2 : (r == q) = false := by rw [beq_eq_false_iff_ne]; exact fun z => n3 z.symm
  have m3 : (q == p) = false := by rw [beq_eq_false_iff_ne]; exact fun z => n1 z.symm
  simp [List.lookup_cons, m1, m2, m3]
theorem bind_all3 {a : Arguments} {p q r : Str} (h : plainArgs a [p, q, r] = true) {x qual : Str} {body : List Stmt} {scope : Scope} (T : Addr) (kV doc pm : Value) (an : Option Addr) (cdv ct : Value) (u1 u2 u3 d : Value) :
    ∃ k, bindArgs (PySem.W.fnOf x qual a body scope (.ref T) kV doc pm an cdv ct) ⟨[u1, u2, u3], []⟩ = seqItems? (.ref T) >>= k ∧ k (some [d].toArray) = pure ([p, q, r].zip [u1, u2, u3]) := by
  obtain ⟨po, ar, va, ko, kd, kw, df⟩ := a
  unfold plainArgs at h
  simp only [ands, List.isEmpty_iff, Option.isNone_iff_eq_none, decide_eq_true_eq] at h
  obtain ⟨⟨⟨⟨⟨rfl, h2⟩, rfl⟩, rfl⟩, rfl⟩, nd⟩ := h
  simp only [List.nodup_cons, List.mem_cons, List.mem_singleton, not_or, List.not_mem_nil, not_false_eq_true, and_true, List.nodup_nil] at nd
  obtain ⟨⟨n1, n2⟩, n3⟩ := nd
  unfold bindArgs PySem.W.fnOf
  simp only [h2]
  refine ⟨_, rfl, ?_⟩
  have m1 : (r == p) = false := by rw [beq_eq_false_iff_ne]; exact fun z => n2 z.symm
  have m2 : (r == q) = false := by rw [beq_eq_false_iff_ne]; exact fun z => n3 z.symm
  have m3 : (q == p) = false := by rw [beq_eq_false_iff_ne]; exact fun z => n1 z.symm
  simp [List.lookup_cons, m1, m2, m3]
theorem bind_kw3 {a : Arguments} {p q r : Str} (h : plainArgs a [p, q, r] = true) {x qual : Str} {body : List Stmt} {scope : Scope} (T : Addr) (kV doc pm : Value) (an : Option Addr) (cdv ct : Value) (u1 u2 u3 d : Value) :
    ∃ k, bindArgs (PySem.W.fnOf x qual a body scope (.ref T) kV doc pm an cdv ct) ⟨[u1, u2], [(r, u3)]⟩ = seqItems? (.ref T) >>= k ∧ k (some [d].toArray) = pure ([p, q, r].zip [u1, u2, u3]) := by
  obtain ⟨po, ar, va, ko, kd, kw, df⟩ := a
  unfold plainArgs at h
  simp only [ands, List.isEmpty_iff, Option.isNone_iff_eq_none, decide_eq_true_eq] at h
  obtain ⟨⟨⟨⟨⟨rfl, h2⟩, rfl⟩, rfl⟩, rfl⟩, nd⟩ := h
  simp only [List.nodup_cons, List.mem_cons, List.mem_singleton, not_or, List.not_mem_nil, not_false_eq_true, and_true, List.nodup_nil] at nd
  obtain ⟨⟨n1, n2⟩, n3⟩ := nd
  have m1 : (r == p) = false := by rw [beq_eq_false_iff_ne]; exact fun z => n2 z.symm
  have m2 : (r == q) = false := by rw [beq_eq_false_iff_ne]; exact fun z => n3 z.symm
  have m3 : (q == p) = false := by rw [beq_eq_false_iff_ne]; exact fun z => n1 z.symm
  unfold bindArgs PySem.W.fnOf
  simp [h2, List.lookup_cons, m1, m2, m3]
  refine ⟨_, rfl, ?_⟩
  simp [List.lookup_cons, m1, m2, m3]
/-- kinds of names, compared -/
def kindB : NameKind → Nat
  | .local => 0
  | .cell => 1
  | .free => 2
  | _ => 3
def scopeB (N ps : List Str) (sc : Scope) : Bool := decide (sc.kind = .function) && !sc.isCoroutine && !sc.isGenerator && decide N.Nodup && decide (N.take ps.length = ps) &&
  (ps.all fun x => locB sc.names x) && sc.names.all fun y => !decide (kindB y.2 = 2)
theorem scopeB_ok {N ps : List Str} {sc : Scope} (h : scopeB N ps sc = true) : FnScope N ps sc := by
  unfold scopeB at h
  simp only [ands, Bool.not_eq_true', decide_eq_true_eq] at h
  obtain ⟨⟨⟨⟨⟨⟨h1, h2⟩, h3⟩, h4⟩, h5⟩, h6⟩, h7⟩ := h
  refine ⟨h1, h2, h3, h4, h5, fun x hx => ?_, fun y hy e => ?_⟩
  · have := List.all_eq_true.mp h6 x hx
    unfold locB at this
    split at this
    · rename_i e
      exact .inl e
    · rename_i e
      exact .inr e
    · cases this
  · have := List.all_eq_true.mp h7 y hy
    rw [e] at this
    simp [kindB] at this
/-- a def's text against its compact one -/
def defB (s : Si) (d : DD) (np ns : Nat) (body : Ss) (st : Stmt) : Bool :=
  plainArgs (defArgs st) d.ps && scopeB d.N d.ps (defScope st) && decide (d.ps.length = np) && decide (d.N.length = ns) && chkSs { s with N := d.N } (defScope st).names body (defBody st)
theorem defOk {L : LD} {P : Program} {w : World} {K : PySem.W.Frag} {mg : Str → Option Value} {base : Heap} (c : SaysM L K) {n np ns : Nat} {at_ : Str × Option Str} {x qual : Str} {st : Stmt} {N ps : List Str} {body : Ss}
    (h : L.ds[n]? = some ⟨⟨at_, x, qual, defArgs st, defBody st, defScope st, [], []⟩, N, ps⟩) (hb : defB L.s ⟨⟨at_, x, qual, defArgs st, defBody st, defScope st, [], []⟩, N, ps⟩ np ns body st = true) : DefOk (gaM L P w K mg base) L.s (fnA L K n) np ns body "" := by
  obtain ⟨fd, F⟩ := c.def_ h
  obtain ⟨oc, od, dV, kV, doc, pm, an, cdv, ct, osl, e1, e2, e3, e4, e5⟩ := F.ex
  unfold defB at hb
  simp only [ands, decide_eq_true_eq] at hb
  obtain ⟨⟨⟨⟨b1, b2⟩, b3⟩, b4⟩, b5⟩ := hb
  subst e1
  have S := scopeB_ok b2
  have hD : dV = .none := by
    rcases e4 with ⟨_, z⟩ | ⟨z, _⟩
    · exact z
    · exact absurd rfl z
  subst hD
  exact ⟨st, x, qual, N, ps, oc, od, .none, kV, doc, pm, an, cdv, ct, osl, [], body, e2, e3, S, b3, b4, .all fun us hl => bind_plain b1 kV doc pm an cdv ct us hl, b5, .nil, rfl, fun z => absurd rfl z⟩
/-- three parameters, None the default of the last: called with three, or the last by its name -/
theorem defOk3 {L : LD} {P : Program} {w : World} {K : PySem.W.Frag} {mg : Str → Option Value} {base : Heap} (c : SaysM L K) {n ns : Nat} {at_ : Str × Option Str} {x qual a1 a2 a3 : Str} {st : Stmt} {N : List Str} {body : Ss}
    (h : L.ds[n]? = some ⟨⟨at_, x, qual, defArgs st, defBody st, defScope st, [.non], []⟩, N, [a1, a2, a3]⟩) (hb : defB L.s ⟨⟨at_, x, qual, defArgs st, defBody st, defScope st, [.non], []⟩, N, [a1, a2, a3]⟩ 3 ns body st = true) : DefOk (gaM L P w K mg base) L.s (fnA L K n) 3 ns body a3 := by
  obtain ⟨fd, F⟩ := c.def_ h
  obtain ⟨oc, od, dV, kV, doc, pm, an, cdv, ct, osl, e1, e2, e3, e4, e5⟩ := F.ex
  unfold defB at hb
  simp only [ands, decide_eq_true_eq] at hb
  obtain ⟨⟨⟨⟨b1, b2⟩, b3⟩, b4⟩, b5⟩ := hb
  subst e1
  have S := scopeB_ok b2
  rcases e4 with ⟨z, _⟩ | ⟨_, T, o, its, m, rfl, lT, oT, rT⟩
  · cases z
  obtain ⟨d, rfl⟩ : ∃ d, its = [d] := by
    cases rT with
    | cons _ r =>
      cases r
      exact ⟨_, rfl⟩
  refine ⟨st, x, qual, N, [a1, a2, a3], oc, od, .ref T, kV, doc, pm, an, cdv, ct, osl, [], body, e2, e3, S, rfl, b4, fun sh us X hl => ?_, b5, .nil, rfl, fun _ => ⟨rfl, fun sh us w X hl => ?_⟩⟩
  · rw [List.append_nil] at hl ⊢
    match us, hl with
    | [u1, u2, u3], _ =>
      obtain ⟨k, k1, k2⟩ := bind_all3 b1 (x := x) (qual := qual) (body := defBody st) (scope := defScope st) T kV doc pm an cdv ct u1 u2 u3 d
      refine BindsTo.of_looks fun M => ?_
      rw [k1]
      exact looks_items X lT oT (.of_pure k2)
  · match us, hl with
    | [u1, u2], _ =>
      obtain ⟨k, k1, k2⟩ := bind_kw3 b1 (x := x) (qual := qual) (body := defBody st) (scope := defScope st) T kV doc pm an cdv ct u1 u2 w d
      refine BindsTo.of_looks fun M => ?_
      rw [k1]
      exact looks_items X lT oT (.of_pure k2)
/-- the same, called with two -/
theorem defOk2 {L : LD} {P : Program} {w : World} {K : PySem.W.Frag} {mg : Str → Option Value} {base : Heap} (c : SaysM L K) {n ns : Nat} {at_ : Str × Option Str} {x qual a1 a2 a3 : Str} {st : Stmt} {N : List Str} {body : Ss}
    (h : L.ds[n]? = some ⟨⟨at_, x, qual, defArgs st, defBody st, defScope st, [.non], []⟩, N, [a1, a2, a3]⟩) (hb : defB L.s ⟨⟨at_, x, qual, defArgs st, defBody st, defScope st, [.non], []⟩, N, [a1, a2, a3]⟩ 3 ns body st = true) : DefOk (gaM L P w K mg base) L.s (fnA L K n) 2 ns (.cons (.set 2 .non) body) "" := by
  obtain ⟨fd, F⟩ := c.def_ h
  obtain ⟨oc, od, dV, kV, doc, pm, an, cdv, ct, osl, e1, e2, e3, e4, e5⟩ := F.ex
  unfold defB at hb
  simp only [ands, decide_eq_true_eq] at hb
  obtain ⟨⟨⟨⟨b1, b2⟩, b3⟩, b4⟩, b5⟩ := hb
  subst e1
  have S := scopeB_ok b2
  rcases e4 with ⟨z, _⟩ | ⟨_, T, o, its, m, rfl, lT, oT, rT⟩
  · cases z
  obtain ⟨d, rfl, hd⟩ : ∃ d, its = [d] ∧ Vals [V.non] [d] := by
    cases rT with
    | cons r1 r =>
      cases r
      exact ⟨_, rfl, .cons r1 .nil⟩
  refine ⟨st, x, qual, N, [a1, a2, a3], oc, od, .ref T, kV, doc, pm, an, cdv, ct, osl, [d], body, e2, e3, S, rfl, b4, fun sh us X hl => ?_, b5, hd, rfl, fun z => absurd rfl z⟩
  have hl2 : us.length = 2 := by simpa using hl
  match us, hl2 with
  | [u1, u2], _ =>
    obtain ⟨k, k1, k2⟩ := bind_last b1 (x := x) (qual := qual) (body := defBody st) (scope := defScope st) T kV doc pm an cdv ct u1 u2 d
    refine BindsTo.of_looks fun M => ?_
    rw [k1]
    exact looks_items X lT oT (.of_pure k2)
/-- which defs may be called by keyword -/
def kwB (T : Tb) (kwn : List Str) : Bool := (List.range kwn.length).all fun n => decide (kwn.getD n "" = "") || (match T.defs[n]? with
  | some (.fn _ _ _) => true
  | _ => false)
theorem kwB_ok {T : Tb} {kwn : List Str} (h : kwB T kwn = true) : ∀ (n : Nat) (y : Str), kwn[n]? = some y → y ≠ ("" : Str) → ∃ np ns body, T.defs[n]? = some (.fn np ns body) := fun n y e hy => by
  have z := List.all_eq_true.mp h n (List.mem_range.mpr (List.getElem?_eq_some_iff.mp e).1)
  rw [Bool.or_eq_true] at z
  rcases z with z | z
  · have z := of_decide_eq_true z
    rw [List.getD_eq_getElem?_getD, e] at z
    exact absurd z hy
  · split at z
    · exact ⟨_, _, _, by assumption⟩
    · cases z
def isDraw : Def → Bool
  | .draw => true
  | _ => false
def isPenD : Def → Bool
  | .mkpen => true
  | _ => false
def onlyAt (ds : List Def) (p : Def → Bool) (i : Nat) : Bool := (List.range ds.length).all fun n => !((ds[n]?).any p) || decide (n = i)
theorem onlyAt_ok {ds : List Def} {p : Def → Bool} {i : Nat} (h : onlyAt ds p i = true) {n : Nat} {d : Def} (e : ds[n]? = some d) (hp : p d = true) : n = i := by
  have := List.all_eq_true.mp h n (List.mem_range.mpr (List.getElem?_eq_some_iff.mp e).1)
  rw [e] at this
  simp only [Option.any_some, hp, Bool.not_true, Bool.false_or, decide_eq_true_eq] at this
  exact this
end M
end

section
set_option Elab.async false
set_option linter.all false
set_option maxRecDepth 100000
set_option maxHeartbeats 4000000
/-! the compact text of k09 -/
namespace G
open M PySem
abbrev i_is_whole : Nat := 0
abbrev i_is_ratio : Nat := 1
abbrev i_divisor : Nat := 2
abbrev i_lowest : Nat := 3
abbrev i_told : Nat := 4
abbrev i_parts : Nat := 5
abbrev i_plus : Nat := 6
abbrev i_minus : Nat := 7
abbrev i_times : Nat := 8
abbrev i_lower : Nat := 9
abbrev i_less_or_same : Nat := 10
abbrev i_bottom_of : Nat := 11
abbrev i_is_row : Nat := 12
abbrev i_is_row_shares : Nat := 13
abbrev i_all_told : Nat := 14
abbrev i_whole_of : Nat := 15
abbrev i_are_parts : Nat := 16
abbrev i_ascends : Nat := 17
abbrev i_mean : Nat := 18
abbrev i_bound_told : Nat := 19
abbrev i_need_stretch : Nat := 20
abbrev i_need_places : Nat := 21
abbrev i_miss_of : Nat := 22
abbrev i_missed : Nat := 23
abbrev i_fits : Nat := 24
abbrev i_without_zeros : Nat := 25
abbrev i_poly_told : Nat := 26
abbrev i_added_up : Nat := 27
abbrev i_summed : Nat := 28
abbrev i_power_number : Nat := 29
abbrev i_multiplied : Nat := 30
abbrev i_is_row_broken : Nat := 31
abbrev i_are_ratios : Nat := 32
abbrev i_are_knots : Nat := 33
abbrev i_need_poly_row : Nat := 34
abbrev i_L_pen : Nat := 35
abbrev i_L_draw : Nat := 36
abbrev i_L_pick : Nat := 37
abbrev i_L_gcd : Nat := 38
abbrev i_L_q : Nat := 39
abbrev i_L_plus : Nat := 40
abbrev i_L_minus : Nat := 41
abbrev i_L_times : Nat := 42
abbrev i_L_less : Nat := 43
abbrev i_L_passed : Nat := 44
abbrev i_L_ratio : Nat := 45
abbrev i_L_interval : Nat := 46
abbrev i_L_lower_one : Nat := 47
abbrev i_L_sorted : Nat := 48
abbrev i_L_poly : Nat := 49
abbrev i_L_p_plus : Nat := 50
abbrev i_L_p_at : Nat := 51
abbrev i_L_f_piece : Nat := 52
abbrev i_L_f_at : Nat := 53
abbrev i_L_f_limits : Nat := 54
abbrev i_L_made_function : Nat := 55
abbrev i_L_f_of : Nat := 56
abbrev i_L_drawn_knots : Nat := 57
abbrev i_L_drawn_function : Nat := 58
abbrev i_L_share_mean : Nat := 59
abbrev i_L_drawn_share : Nat := 60
abbrev i_L_made_told : Nat := 61
abbrev i_L_passed_row : Nat := 62
abbrev i_L_made_share : Nat := 63
abbrev i_L_row : Nat := 64
abbrev i_law : Nat := 65
abbrev i_Share_init : Nat := 66
abbrev i_Share_eq : Nat := 67
abbrev i_Told_init : Nat := 68
abbrev i_Poly_init : Nat := 69
abbrev i_Poly_eq : Nat := 70
abbrev i_Poly_add : Nat := 71
abbrev i_Poly_radd : Nat := 72
abbrev i_Poly_sub : Nat := 73
abbrev i_Poly_rsub : Nat := 74
abbrev i_Poly_mul : Nat := 75
abbrev i_Poly_rmul : Nat := 76
abbrev i_Poly_neg : Nat := 77
abbrev i_Poly_degree : Nat := 78
abbrev i_Poly_at : Nat := 79
abbrev i_Poly_slope : Nat := 80
abbrev i_Poly_area : Nat := 81
abbrev i_Poly_moved : Nat := 82
abbrev i_Broken_init : Nat := 83
abbrev i_Broken_eq : Nat := 84
abbrev i_Broken_spot : Nat := 85
abbrev i_Broken_value : Nat := 86
abbrev i_Broken_limits : Nat := 87
abbrev i_Broken_jumps : Nat := 88
abbrev i_Broken_is_plain : Nat := 89
abbrev i_Broken_is_upper : Nat := 90
abbrev i_Broken_is_lower : Nat := 91
abbrev i_Broken_is_line : Nat := 92
abbrev i_fits_d : Nat := 93
abbrev c_Share : Nat := 0
abbrev c_Told : Nat := 1
abbrev c_Poly : Nat := 2
abbrev c_Broken : Nat := 3
abbrev f_places : Nat := 0
abbrev f_parts : Nat := 1
abbrev f_knots : Nat := 2
abbrev f_function : Nat := 3
abbrev f_most : Nat := 4
abbrev f_least : Nat := 5
abbrev f_numbers : Nat := 6
abbrev f_at : Nat := 7
abbrev f_polys : Nat := 8
abbrev m_value : Nat := 0
abbrev m_is_lower : Nat := 1
abbrev m_is_upper : Nat := 2
abbrev m_at : Nat := 3
abbrev m_spot : Nat := 4
abbrev m_limits : Nat := 5
abbrev m_jumps : Nat := 6
def b_is_whole : Ss := .cons (.ret (.and (.isin (.var 0) [.int]) (.not (.isin (.var 0) [.bool])))) .nil
def b_is_ratio : Ss := .cons (.ite (.call i_is_whole (.cons (.var 0) .nil)) (.cons (.ret (.bl true)) .nil) .nil) (.cons (.ite (.or (.not (.isin (.var 0) [.tuple, .list])) (.cmp .ne (.bi false .len (.cons (.var 0) .nil)) (.int 2))) (.cons (.ret (.bl false)) .nil) .nil) (.cons (.ret (.and (.call i_is_whole (.cons (.sub (.var 0) (.int 0)) .nil)) (.and (.call i_is_whole (.cons (.sub (.var 0) (.int 1)) .nil)) (.cmp .gt (.sub (.var 0) (.int 1)) (.int 0))))) .nil))
def b_divisor : Ss := .cons (.ret (.bi false .gcd (.cons (.var 0) (.cons (.var 1) .nil)))) .nil
def b_lowest : Ss := .cons (.set 2 (.ifx (.cmp .gt (.var 1) (.int 0)) (.call i_divisor (.cons (.var 0) (.cons (.var 1) .nil))) (.neg (.call i_divisor (.cons (.var 0) (.cons (.var 1) .nil)))))) (.cons (.ret (.tup (.cons (.bin false .fdiv (.var 0) (.var 2)) (.cons (.bin false .fdiv (.var 1) (.var 2)) .nil)))) .nil)
def b_told : Ss := .cons (.ite (.not (.call i_is_ratio (.cons (.var 0) .nil))) (.cons .wall .nil) .nil) (.cons (.ret (.ifx (.call i_is_whole (.cons (.var 0) .nil)) (.tup (.cons (.var 0) (.cons (.int 1) .nil))) (.call i_lowest (.cons (.sub (.var 0) (.int 0)) (.cons (.sub (.var 0) (.int 1)) .nil))))) .nil)
def b_parts : Ss := .cons (.ite (.not (.call i_is_ratio (.cons (.var 0) .nil))) (.cons .wall .nil) .nil) (.cons (.ret (.ifx (.call i_is_whole (.cons (.var 0) .nil)) (.tup (.cons (.var 0) (.cons (.int 1) .nil))) (.var 0))) .nil)
def b_plus : Ss := .cons (.par [2, 3] (.cons (.call i_parts (.cons (.var 0) .nil)) (.cons (.call i_parts (.cons (.var 1) .nil)) .nil))) (.cons (.ret (.call i_lowest (.cons (.bin false .add (.bin false .mul (.sub (.var 2) (.int 0)) (.sub (.var 3) (.int 1))) (.bin false .mul (.sub (.var 3) (.int 0)) (.sub (.var 2) (.int 1)))) (.cons (.bin false .mul (.sub (.var 2) (.int 1)) (.sub (.var 3) (.int 1))) .nil)))) .nil)
def b_minus : Ss := .cons (.par [2, 3] (.cons (.call i_parts (.cons (.var 0) .nil)) (.cons (.call i_parts (.cons (.var 1) .nil)) .nil))) (.cons (.ret (.call i_lowest (.cons (.bin false .sub (.bin false .mul (.sub (.var 2) (.int 0)) (.sub (.var 3) (.int 1))) (.bin false .mul (.sub (.var 3) (.int 0)) (.sub (.var 2) (.int 1)))) (.cons (.bin false .mul (.sub (.var 2) (.int 1)) (.sub (.var 3) (.int 1))) .nil)))) .nil)
def b_times : Ss := .cons (.par [2, 3] (.cons (.call i_parts (.cons (.var 0) .nil)) (.cons (.call i_parts (.cons (.var 1) .nil)) .nil))) (.cons (.ret (.call i_lowest (.cons (.bin false .mul (.sub (.var 2) (.int 0)) (.sub (.var 3) (.int 0))) (.cons (.bin false .mul (.sub (.var 2) (.int 1)) (.sub (.var 3) (.int 1))) .nil)))) .nil)
def b_lower : Ss := .cons (.par [2, 3] (.cons (.call i_parts (.cons (.var 0) .nil)) (.cons (.call i_parts (.cons (.var 1) .nil)) .nil))) (.cons (.ret (.cmp .lt (.bin false .mul (.sub (.var 2) (.int 0)) (.sub (.var 3) (.int 1))) (.bin false .mul (.sub (.var 3) (.int 0)) (.sub (.var 2) (.int 1))))) .nil)
def b_less_or_same : Ss := .cons (.ret (.not (.call i_lower (.cons (.var 1) (.cons (.var 0) .nil))))) .nil
def b_bottom_of : Ss := .cons (.set 1 (.int 1)) (.cons (.for_ (.cons (.nm 2) (.cons (.nm 3) .nil)) (.seq (.var 0)) (.cons (.set 1 (.bin false .mul (.bin false .fdiv (.var 1) (.call i_divisor (.cons (.var 1) (.cons (.var 3) .nil)))) (.var 3))) .nil)) (.cons (.ret (.var 1)) .nil))
def b_is_row : Ss := .cons (.ret (.isin (.var 0) [.tuple, .list])) .nil
def b_is_row_shares : Ss := .cons (.ret (.and (.isin (.var 0) [.tuple, .list]) (.bi false .all (.cons (.comp false (.call i_is_ratio (.cons (.var 1) .nil)) (.nm 1) (.seq (.var 0)) none [1]) .nil)))) .nil
def b_all_told : Ss := .cons (.ret (.bi false .tuple (.cons (.comp false (.call i_told (.cons (.var 1) (.cons (.str "ratio") .nil))) (.nm 1) (.seq (.var 0)) none [1]) .nil))) .nil
def b_whole_of : Ss := .cons (.set 1 (.tup (.cons (.int 0) (.cons (.int 1) .nil)))) (.cons (.for_ (.nm 2) (.seq (.var 0)) (.cons (.set 1 (.call i_plus (.cons (.var 1) (.cons (.var 2) .nil)))) .nil)) (.cons (.ret (.var 1)) .nil))
def b_are_parts : Ss := .cons (.ite (.or (.not (.call i_is_row_shares (.cons (.var 0) .nil))) (.or (.cmp .ne (.bi false .len (.cons (.var 0) .nil)) (.var 1)) (.not (.bi false .all (.cons (.comp false (.call i_lower (.cons (.int 0) (.cons (.var 2) .nil))) (.nm 2) (.seq (.var 0)) none [2]) .nil))))) (.cons (.ret (.bl false)) .nil) .nil) (.cons (.ret (.cmp .eq (.call i_whole_of (.cons (.var 0) .nil)) (.tup (.cons (.int 1) (.cons (.int 1) .nil))))) .nil)
def b_ascends : Ss := .cons (.ret (.bi false .all (.cons (.comp false (.call i_lower (.cons (.var 1) (.cons (.var 2) .nil))) (.cons (.nm 1) (.cons (.nm 2) .nil)) (.zip (.var 0) (.slc false (.var 0) (some (.int 1)) none)) none [1, 2]) .nil))) .nil
def b_mean : Ss := .cons (.ite (.or (.call i_lower (.cons (.sub (.fld (.var 0) f_places) (.int 0)) (.cons (.sub (.fld (.var 1) f_knots) (.int 0)) .nil))) (.call i_lower (.cons (.sub (.fld (.var 1) f_knots) (.neg (.int 1))) (.cons (.sub (.fld (.var 0) f_places) (.neg (.int 1))) .nil)))) (.cons .wall .nil) .nil) (.cons (.ret (.call i_whole_of (.cons (.comp false (.call i_times (.cons (.var 3) (.cons (.meth (.var 1) m_value (.cons (.var 2) .nil)) .nil))) (.cons (.nm 2) (.cons (.nm 3) .nil)) (.zip (.fld (.var 0) f_places) (.fld (.var 0) f_parts)) none [2, 3]) .nil))) .nil)
def b_bound_told : Ss := .cons (.ite (.cmp .is (.var 1) .non) (.cons (.ret .non) .nil) .nil) (.cons (.ite (.or (.not (.call i_is_ratio (.cons (.var 1) .nil))) (.not (.var 2))) (.cons .wall .nil) .nil) (.cons (.ret (.call i_told (.cons (.var 1) (.cons (.var 0) .nil)))) .nil))
def b_need_stretch : Ss := .cons (.set 1 (.comp false (.tup (.cons (.sub (.fld (.var 2) f_knots) (.int 0)) (.cons (.sub (.fld (.var 2) f_knots) (.neg (.int 1))) .nil))) (.nm 2) (.seq (.var 0)) none [2])) (.cons (.ite (.bi false .any (.cons (.comp false (.cmp .ne (.var 3) (.sub (.var 1) (.int 0))) (.nm 3) (.seq (.var 1)) none [3]) .nil)) (.cons .wall .nil) .nil) .nil)
def b_need_places : Ss := .cons (.for_ (.nm 2) (.seq (.var 1)) (.cons (.ite (.or (.call i_lower (.cons (.sub (.fld (.var 0) f_places) (.int 0)) (.cons (.sub (.fld (.fld (.var 2) f_function) f_knots) (.int 0)) .nil))) (.call i_lower (.cons (.sub (.fld (.fld (.var 2) f_function) f_knots) (.neg (.int 1))) (.cons (.sub (.fld (.var 0) f_places) (.neg (.int 1))) .nil)))) (.cons .wall .nil) .nil) .nil)) .nil
def b_miss_of : Ss := .cons (.set 2 (.tup (.cons (.int 0) (.cons (.int 1) .nil)))) (.cons (.for_ (.nm 3) (.seq (.var 1)) (.cons (.set 4 (.call i_mean (.cons (.var 0) (.cons (.fld (.var 3) f_function) .nil)))) (.cons (.for_ (.cons (.nm 5) (.cons (.nm 6) .nil)) (.seq (.tup (.cons (.tup (.cons (.fld (.var 3) f_least) (.cons (.int 1) .nil))) (.cons (.tup (.cons (.fld (.var 3) f_most) (.cons (.neg (.int 1)) .nil))) .nil)))) (.cons (.set 7 (.ifx (.cmp .is (.var 5) .non) (.tup (.cons (.int 0) (.cons (.int 1) .nil))) (.call i_times (.cons (.var 6) (.cons (.call i_minus (.cons (.var 5) (.cons (.var 4) .nil))) .nil))))) (.cons (.set 2 (.ifx (.call i_lower (.cons (.var 2) (.cons (.var 7) .nil))) (.var 7) (.var 2))) .nil))) .nil))) (.cons (.ret (.var 2)) .nil))
def b_missed : Ss := .cons (.ex (.call i_need_stretch (.cons (.comp false (.fld (.var 2) f_function) (.nm 2) (.seq (.var 1)) none [2]) .nil))) (.cons (.ex (.call i_need_places (.cons (.var 0) (.cons (.var 1) .nil)))) (.cons (.ret (.call i_miss_of (.cons (.var 0) (.cons (.var 1) .nil)))) .nil))
def b_fits : Ss := .cons (.ex (.call i_need_stretch (.cons (.comp false (.fld (.var 3) f_function) (.nm 3) (.seq (.var 1)) none [3]) .nil))) (.cons (.ite (.and (.cmp .isnot (.var 2) .non) (.or (.not (.call i_is_whole (.cons (.var 2) .nil))) (.not (.chain .le .le (.int 0) (.var 2) (.glob 0))))) (.cons .wall .nil) .nil) (.cons (.ex (.call i_need_places (.cons (.var 0) (.cons (.var 1) .nil)))) (.cons (.ret (.not (.call i_lower (.cons (.ifx (.cmp .is (.var 2) .non) (.tup (.cons (.int 0) (.cons (.int 1) .nil))) (.tup (.cons (.int 1) (.cons (.bin false .shl (.int 1) (.var 2)) .nil)))) (.cons (.call i_miss_of (.cons (.var 0) (.cons (.var 1) .nil))) .nil))))) .nil)))
def b_without_zeros : Ss := .cons (.set 1 (.bi false .max (.cons (.bin false .add (.lst false (.cons (.int 0) .nil)) (.comp false (.bin false .add (.var 2) (.int 1)) (.cons (.nm 2) (.cons (.nm 3) .nil)) (.enum (.var 0)) (some (.cmp .ne (.sub (.var 3) (.int 0)) (.int 0))) [2, 3])) .nil))) (.cons (.ret (.slc false (.var 0) none (some (.var 1)))) .nil)
def b_poly_told : Ss := .cons (.ret (.ifx (.isin (.var 0) [(.own c_Poly)]) (.var 0) (.mk false c_Poly (.cons (.tup (.cons (.var 0) .nil)) .nil)))) .nil
def b_added_up : Ss := .cons (.set 1 (.tup (.cons (.int 0) (.cons (.int 1) .nil)))) (.cons (.for_ (.nm 2) (.seq (.var 0)) (.cons (.set 1 (.call i_plus (.cons (.var 1) (.cons (.var 2) .nil)))) .nil)) (.cons (.ret (.var 1)) .nil))
def b_summed : Ss := .cons (.set 3 (.bi false .max (.cons (.lst false (.cons (.bi false .len (.cons (.fld (.var 0) f_numbers) .nil)) (.cons (.bi false .len (.cons (.fld (.var 1) f_numbers) .nil)) .nil))) .nil))) (.cons (.set 4 (.bin false .add (.fld (.var 0) f_numbers) (.bin false .mul (.tup (.cons (.tup (.cons (.int 0) (.cons (.int 1) .nil))) .nil)) (.bin false .sub (.var 3) (.bi false .len (.cons (.fld (.var 0) f_numbers) .nil)))))) (.cons (.set 5 (.bin false .add (.fld (.var 1) f_numbers) (.bin false .mul (.tup (.cons (.tup (.cons (.int 0) (.cons (.int 1) .nil))) .nil)) (.bin false .sub (.var 3) (.bi false .len (.cons (.fld (.var 1) f_numbers) .nil)))))) (.cons (.ret (.mk false c_Poly (.cons (.comp false (.call i_plus (.cons (.var 6) (.cons (.tup (.cons (.bin false .mul (.var 2) (.sub (.var 7) (.int 0))) (.cons (.sub (.var 7) (.int 1)) .nil))) .nil))) (.cons (.nm 6) (.cons (.nm 7) .nil)) (.zip (.var 4) (.var 5)) none [6, 7]) .nil))) .nil)))
def b_power_number : Ss := .cons (.par [3, 4] (.cons (.bi false .max (.cons (.lst false (.cons (.int 0) (.cons (.bin false .sub (.bin false .add (.var 2) (.int 1)) (.bi false .len (.cons (.fld (.var 1) f_numbers) .nil))) .nil))) .nil)) (.cons (.bi false .min (.cons (.lst false (.cons (.bin false .add (.var 2) (.int 1)) (.cons (.bi false .len (.cons (.fld (.var 0) f_numbers) .nil)) .nil))) .nil)) .nil))) (.cons (.ret (.call i_added_up (.cons (.comp false (.call i_times (.cons (.sub (.fld (.var 0) f_numbers) (.var 5)) (.cons (.sub (.fld (.var 1) f_numbers) (.bin false .sub (.var 2) (.var 5))) .nil))) (.nm 5) (.rng2 (.var 3) (.var 4)) none [5]) .nil))) .nil)
def b_multiplied : Ss := .cons (.ret (.mk false c_Poly (.cons (.comp false (.call i_power_number (.cons (.var 0) (.cons (.var 1) (.cons (.var 2) .nil)))) (.nm 2) (.rng1 (.bin false .add (.bi false .len (.cons (.fld (.var 0) f_numbers) .nil)) (.bi false .len (.cons (.fld (.var 1) f_numbers) .nil)))) none [2]) .nil))) .nil
def b_is_row_broken : Ss := .cons (.ret (.isin (.var 0) [.tuple, .list])) .nil
def b_are_ratios : Ss := .cons (.ret (.and (.call i_is_row_broken (.cons (.var 0) .nil)) (.and (.cmp .eq (.bi false .len (.cons (.var 0) .nil)) (.var 1)) (.bi false .all (.cons (.comp false (.call i_is_ratio (.cons (.var 2) .nil)) (.nm 2) (.seq (.var 0)) none [2]) .nil))))) .nil
def b_are_knots : Ss := .cons (.ite (.or (.not (.call i_is_row_broken (.cons (.var 0) .nil))) (.or (.cmp .lt (.bi false .len (.cons (.var 0) .nil)) (.int 2)) (.not (.call i_are_ratios (.cons (.var 0) (.cons (.bi false .len (.cons (.var 0) .nil)) .nil)))))) (.cons (.ret (.bl false)) .nil) .nil) (.cons (.ret (.bi false .all (.cons (.comp false (.call i_lower (.cons (.var 1) (.cons (.var 2) .nil))) (.cons (.nm 1) (.cons (.nm 2) .nil)) (.zip (.var 0) (.slc false (.var 0) (some (.int 1)) none)) none [1, 2]) .nil))) .nil)
def b_need_poly_row : Ss := .cons (.ite (.or (.not (.call i_is_row_broken (.cons (.var 0) .nil))) (.or (.cmp .ne (.bi false .len (.cons (.var 0) .nil)) (.var 1)) (.not (.bi false .all (.cons (.comp false (.isin (.var 2) [(.own c_Poly)]) (.nm 2) (.seq (.var 0)) none [2]) .nil))))) (.cons .wall .nil) .nil) .nil
def b_L_pick : Ss := .cons (.ret (.sub (.var 1) (.call i_L_draw (.cons (.var 0) (.cons (.bi false .len (.cons (.var 1) .nil)) .nil))))) .nil
def b_L_gcd : Ss := .cons (.par [0, 1] (.cons (.bi false .abs (.cons (.var 0) .nil)) (.cons (.bi false .abs (.cons (.var 1) .nil)) .nil))) (.cons (.for_ (.nm 2) (.rng1 (.int 50000)) (.cons (.ite (.cmp .eq (.var 1) (.int 0)) (.cons .brk .nil) .nil) (.cons (.par [0, 1] (.cons (.var 1) (.cons (.bin false .mod (.bi false .int (.cons (.var 0) .nil)) (.var 1)) .nil))) .nil))) (.cons (.ret (.var 0)) .nil))
def b_L_q : Ss := .cons (.set 2 (.call i_L_gcd (.cons (.var 0) (.cons (.var 1) .nil)))) (.cons (.set 2 (.ifx (.cmp .lt (.var 1) (.int 0)) (.neg (.var 2)) (.var 2))) (.cons (.ret (.tup (.cons (.bin false .fdiv (.var 0) (.var 2)) (.cons (.bin false .fdiv (.var 1) (.var 2)) .nil)))) .nil))
def b_L_plus : Ss := .cons (.ret (.call i_L_q (.cons (.bin false .add (.bin false .mul (.sub (.var 0) (.int 0)) (.sub (.var 1) (.int 1))) (.bin false .mul (.sub (.var 1) (.int 0)) (.sub (.var 0) (.int 1)))) (.cons (.bin false .mul (.sub (.var 0) (.int 1)) (.sub (.var 1) (.int 1))) .nil)))) .nil
def b_L_minus : Ss := .cons (.ret (.call i_L_q (.cons (.bin false .sub (.bin false .mul (.sub (.var 0) (.int 0)) (.sub (.var 1) (.int 1))) (.bin false .mul (.sub (.var 1) (.int 0)) (.sub (.var 0) (.int 1)))) (.cons (.bin false .mul (.sub (.var 0) (.int 1)) (.sub (.var 1) (.int 1))) .nil)))) .nil
def b_L_times : Ss := .cons (.ret (.call i_L_q (.cons (.bin false .mul (.sub (.var 0) (.int 0)) (.sub (.var 1) (.int 0))) (.cons (.bin false .mul (.sub (.var 0) (.int 1)) (.sub (.var 1) (.int 1))) .nil)))) .nil
def b_L_less : Ss := .cons (.ret (.cmp .lt (.bin false .mul (.sub (.var 0) (.int 0)) (.sub (.var 1) (.int 1))) (.bin false .mul (.sub (.var 1) (.int 0)) (.sub (.var 0) (.int 1))))) .nil
def b_L_passed : Ss := .cons (.ite (.and (.cmp .eq (.sub (.var 1) (.int 1)) (.int 1)) (.cmp .eq (.call i_L_draw (.cons (.var 0) (.cons (.int 2) .nil))) (.int 0))) (.cons (.ret (.sub (.var 1) (.int 0))) .nil) .nil) (.cons (.set 2 (.call i_L_pick (.cons (.var 0) (.cons (.lst false (.cons (.int 1) (.cons (.int 1) (.cons (.int 2) (.cons (.int 3) .nil))))) .nil)))) (.cons (.ret (.call i_L_pick (.cons (.var 0) (.cons (.lst false (.cons (.tup (.cons (.bin false .mul (.sub (.var 1) (.int 0)) (.var 2)) (.cons (.bin false .mul (.sub (.var 1) (.int 1)) (.var 2)) .nil))) (.cons (.lst false (.cons (.bin false .mul (.sub (.var 1) (.int 0)) (.var 2)) (.cons (.bin false .mul (.sub (.var 1) (.int 1)) (.var 2)) .nil))) .nil))) .nil)))) .nil))
def b_L_ratio : Ss := .cons (.set 2 (.call i_L_pick (.cons (.var 0) (.cons (.lst false (.cons (.int 1) (.cons (.int 1) (.cons (.int 2) (.cons (.int 3) (.cons (.int 7) (.cons (.int 10) (.cons (.bin false .add (.int 1) (.call i_L_draw (.cons (.var 0) (.cons (.int 99) .nil)))) .nil)))))))) .nil)))) (.cons (.ret (.call i_L_q (.cons (.bin false .sub (.call i_L_draw (.cons (.var 0) (.cons (.bin false .add (.bin false .mul (.bin false .mul (.int 2) (.var 1)) (.var 2)) (.int 1)) .nil))) (.bin false .mul (.var 1) (.var 2))) (.cons (.var 2) .nil)))) .nil)
def b_L_interval : Ss := .cons (.par [2, 3] (.cons (.call i_L_ratio (.cons (.var 0) (.cons (.var 1) .nil))) (.cons (.call i_L_ratio (.cons (.var 0) (.cons (.var 1) .nil))) .nil))) (.cons (.ite (.cmp .eq (.var 2) (.var 3)) (.cons (.set 3 (.call i_L_plus (.cons (.var 2) (.cons (.tup (.cons (.int 1) (.cons (.bin false .add (.int 1) (.call i_L_draw (.cons (.var 0) (.cons (.int 4) .nil)))) .nil))) .nil)))) .nil) .nil) (.cons (.ret (.ifx (.call i_L_less (.cons (.var 2) (.cons (.var 3) .nil))) (.tup (.cons (.var 2) (.cons (.var 3) .nil))) (.tup (.cons (.var 3) (.cons (.var 2) .nil))))) .nil))
def b_L_lower_one : Ss := .cons (.set 1 (.sub (.var 0) (.int 0))) (.cons (.for_ (.nm 2) (.seq (.slc false (.var 0) (some (.int 1)) none)) (.cons (.set 1 (.ifx (.call i_L_less (.cons (.var 2) (.cons (.var 1) .nil))) (.var 2) (.var 1))) .nil)) (.cons (.ret (.var 1)) .nil))
def b_L_sorted : Ss := .cons (.par [1, 2] (.cons (.bi false .list (.cons (.var 0) .nil)) (.cons (.lst true .nil) .nil))) (.cons (.for_ (.nm 3) (.rng1 (.bi false .len (.cons (.var 0) .nil))) (.cons (.ite (.cmp .eq (.var 1) (.lst false .nil)) (.cons .brk .nil) .nil) (.cons (.set 4 (.call i_L_lower_one (.cons (.var 1) .nil))) (.cons (.set 1 (.comp false (.var 5) (.nm 5) (.seq (.var 1)) (some (.cmp .ne (.var 5) (.var 4))) [5])) (.cons (.ex (.lm (.var 2) .append (.cons (.var 4) .nil))) .nil))))) (.cons (.ret (.frz (.var 2))) .nil))
def b_L_poly : Ss := .cons (.set 1 (.bi true .list (.cons (.var 0) .nil))) (.cons (.for_ (.nm 2) (.rng1 (.bi false .len (.cons (.var 0) .nil))) (.cons (.ite (.or (.cmp .eq (.var 1) (.lst false .nil)) (.cmp .ne (.sub (.sub (.var 1) (.neg (.int 1))) (.int 0)) (.int 0))) (.cons .brk .nil) .nil) (.cons (.ex (.lm (.var 1) .pop .nil)) .nil))) (.cons (.ret (.frz (.var 1))) .nil))
def b_L_p_plus : Ss := .cons (.set 2 (.bi false .max (.cons (.lst false (.cons (.bi false .len (.cons (.var 0) .nil)) (.cons (.bi false .len (.cons (.var 1) .nil)) .nil))) .nil))) (.cons (.par [3, 4] (.cons (.bin false .add (.var 0) (.bin false .mul (.lst false (.cons (.tup (.cons (.int 0) (.cons (.int 1) .nil))) .nil)) (.bin false .sub (.var 2) (.bi false .len (.cons (.var 0) .nil))))) (.cons (.bin false .add (.var 1) (.bin false .mul (.lst false (.cons (.tup (.cons (.int 0) (.cons (.int 1) .nil))) .nil)) (.bin false .sub (.var 2) (.bi false .len (.cons (.var 1) .nil))))) .nil))) (.cons (.ret (.call i_L_poly (.cons (.comp false (.call i_L_plus (.cons (.var 5) (.cons (.var 6) .nil))) (.cons (.nm 5) (.cons (.nm 6) .nil)) (.zip (.var 3) (.var 4)) none [5, 6]) .nil))) .nil))
def b_L_p_at : Ss := .cons (.set 2 (.tup (.cons (.int 0) (.cons (.int 1) .nil)))) (.cons (.for_ (.nm 3) (.seq (.rev false (.var 0))) (.cons (.set 2 (.call i_L_plus (.cons (.call i_L_times (.cons (.var 2) (.cons (.var 1) .nil))) (.cons (.var 3) .nil)))) .nil)) (.cons (.ret (.var 2)) .nil))
def b_L_f_piece : Ss := .cons (.for_ (.nm 2) (.rng1 (.bi false .len (.cons (.sub (.var 0) (.int 1)) .nil))) (.cons (.ite (.and (.call i_L_less (.cons (.sub (.sub (.var 0) (.int 0)) (.var 2)) (.cons (.var 1) .nil))) (.call i_L_less (.cons (.var 1) (.cons (.sub (.sub (.var 0) (.int 0)) (.bin false .add (.var 2) (.int 1))) .nil)))) (.cons (.ret (.var 2)) .nil) .nil) .nil)) (.cons (.ret .non) .nil)
def b_L_f_at : Ss := .cons (.set 2 (.call i_L_f_piece (.cons (.var 0) (.cons (.var 1) .nil)))) (.cons (.ret (.ifx (.cmp .is (.var 2) .non) (.sub (.sub (.var 0) (.int 2)) (.lm (.sub (.var 0) (.int 0)) .index (.cons (.var 1) .nil))) (.call i_L_p_at (.cons (.sub (.sub (.var 0) (.int 1)) (.var 2)) (.cons (.var 1) .nil))))) .nil)
def b_L_f_limits : Ss := .cons (.set 2 (.lst true .nil)) (.cons (.ite (.cmp .gt (.var 1) (.int 0)) (.cons (.ex (.lm (.var 2) .append (.cons (.call i_L_p_at (.cons (.sub (.sub (.var 0) (.int 1)) (.bin false .sub (.var 1) (.int 1))) (.cons (.sub (.sub (.var 0) (.int 0)) (.var 1)) .nil))) .nil))) .nil) .nil) (.cons (.ite (.cmp .lt (.var 1) (.bi false .len (.cons (.sub (.var 0) (.int 1)) .nil))) (.cons (.ex (.lm (.var 2) .append (.cons (.call i_L_p_at (.cons (.sub (.sub (.var 0) (.int 1)) (.var 1)) (.cons (.sub (.sub (.var 0) (.int 0)) (.var 1)) .nil))) .nil))) .nil) .nil) (.cons (.ret (.frz (.var 2))) .nil)))
def b_L_made_function : Ss := .cons (.set 2 (.comp false (.mk false c_Poly (.cons (.comp false (.call i_L_passed (.cons (.var 0) (.cons (.var 3) .nil))) (.nm 3) (.seq (.var 4)) none [3]) .nil)) (.nm 4) (.seq (.sub (.var 1) (.int 1))) none [4])) (.cons (.ret (.mk false c_Broken (.cons (.comp false (.call i_L_passed (.cons (.var 0) (.cons (.var 5) .nil))) (.nm 5) (.seq (.sub (.var 1) (.int 0))) none [5]) (.cons (.var 2) (.cons (.comp false (.call i_L_passed (.cons (.var 0) (.cons (.var 3) .nil))) (.nm 3) (.seq (.sub (.var 1) (.int 2))) none [3]) .nil))))) .nil)
def b_L_f_of : Ss := .cons (.ret (.tup (.cons (.bi false .list (.cons (.fld (.var 0) f_knots) .nil)) (.cons (.comp false (.bi false .list (.cons (.fld (.var 1) f_numbers) .nil)) (.nm 1) (.seq (.fld (.var 0) f_polys)) none [1]) (.cons (.bi false .list (.cons (.fld (.var 0) f_at) .nil)) .nil))))) .nil
def b_L_drawn_knots : Ss := .cons (.par [4, 5] (.cons (.lst true (.cons (.var 1) (.cons (.var 2) .nil))) (.cons (.call i_L_minus (.cons (.var 2) (.cons (.var 1) .nil))) .nil))) (.cons (.for_ (.nm 6) (.rng1 (.var 3)) (.cons (.ex (.lm (.var 4) .append (.cons (.call i_L_plus (.cons (.var 1) (.cons (.call i_L_times (.cons (.var 5) (.cons (.call i_L_q (.cons (.bin false .add (.int 1) (.call i_L_draw (.cons (.var 0) (.cons (.int 11) .nil)))) (.cons (.int 12) .nil))) .nil))) .nil))) .nil))) .nil)) (.cons (.ret (.call i_L_sorted (.cons (.frz (.var 4)) .nil))) .nil))
def b_L_drawn_function : Ss := .cons (.par [5, 6] (.cons (.lst true .nil) (.cons (.lst true .nil) .nil))) (.cons (.for_ (.nm 7) (.rng1 (.bin false .sub (.bi false .len (.cons (.var 1) .nil)) (.int 1))) (.cons (.set 8 (.comp false (.call i_L_ratio (.cons (.var 0) (.cons (.var 4) .nil))) (.nm 9) (.rng1 (.bin false .add (.int 1) (.call i_L_draw (.cons (.var 0) (.cons (.bin false .add (.var 2) (.int 1)) .nil))))) none [9])) (.cons (.set 10 (.call i_L_poly (.cons (.var 8) .nil))) (.cons (.ite (.and (.cmp .eq (.var 3) (.str "plain")) (.cmp .gt (.var 7) (.int 0))) (.cons (.set 11 (.call i_L_minus (.cons (.call i_L_p_at (.cons (.sub (.var 5) (.neg (.int 1))) (.cons (.sub (.var 1) (.var 7)) .nil))) (.cons (.call i_L_p_at (.cons (.var 10) (.cons (.sub (.var 1) (.var 7)) .nil))) .nil)))) (.cons (.set 10 (.call i_L_p_plus (.cons (.var 10) (.cons (.call i_L_poly (.cons (.lst false (.cons (.var 11) .nil)) .nil)) .nil)))) .nil)) .nil) (.cons (.ex (.lm (.var 5) .append (.cons (.var 10) .nil))) .nil))))) (.cons (.for_ (.nm 7) (.rng1 (.bi false .len (.cons (.var 1) .nil))) (.cons (.set 12 (.call i_L_sorted (.cons (.call i_L_f_limits (.cons (.tup (.cons (.var 1) (.cons (.var 5) (.cons (.lst false .nil) .nil)))) (.cons (.var 7) .nil))) .nil))) (.cons (.set 13 (.ifx (.cmp .ne (.var 3) (.str "plain")) (.call i_L_pick (.cons (.var 0) (.cons (.lst false (.cons (.tup (.cons (.int 0) (.cons (.int 1) .nil))) (.cons (.tup (.cons (.int 0) (.cons (.int 1) .nil))) (.cons (.tup (.cons (.int 1) (.cons (.int 3) .nil))) (.cons (.tup (.cons (.int 5) (.cons (.int 1) .nil))) .nil))))) .nil))) (.tup (.cons (.int 0) (.cons (.int 1) .nil))))) (.cons (.ex (.lm (.var 6) .append (.cons (.ifx (.cmp .eq (.var 3) (.str "lower")) (.call i_L_minus (.cons (.sub (.var 12) (.int 0)) (.cons (.var 13) .nil))) (.call i_L_plus (.cons (.sub (.var 12) (.neg (.int 1))) (.cons (.var 13) .nil)))) .nil))) .nil)))) (.cons (.ret (.tup (.cons (.var 1) (.cons (.frz (.var 5)) (.cons (.frz (.var 6)) .nil))))) .nil)))
def b_L_share_mean : Ss := .cons (.set 2 (.tup (.cons (.int 0) (.cons (.int 1) .nil)))) (.cons (.for_ (.cons (.nm 3) (.cons (.nm 4) .nil)) (.zip (.sub (.var 0) (.int 0)) (.sub (.var 0) (.int 1))) (.cons (.set 2 (.call i_L_plus (.cons (.var 2) (.cons (.call i_L_times (.cons (.var 4) (.cons (.call i_L_f_at (.cons (.var 1) (.cons (.var 3) .nil))) .nil))) .nil)))) .nil)) (.cons (.ret (.var 2)) .nil))
def b_L_drawn_share : Ss := .cons (.par [4, 5] (.cons (.call i_L_minus (.cons (.var 2) (.cons (.var 1) .nil))) (.cons (.lst true .nil) .nil))) (.cons (.for_ (.nm 6) (.rng1 (.bin false .add (.int 1) (.call i_L_draw (.cons (.var 0) (.cons (.var 3) .nil))))) (.cons (.ex (.lm (.var 5) .append (.cons (.call i_L_plus (.cons (.var 1) (.cons (.call i_L_times (.cons (.var 4) (.cons (.call i_L_q (.cons (.call i_L_draw (.cons (.var 0) (.cons (.int 25) .nil))) (.cons (.int 24) .nil))) .nil))) .nil))) .nil))) .nil)) (.cons (.set 5 (.call i_L_sorted (.cons (.frz (.var 5)) .nil))) (.cons (.set 7 (.comp false (.bin false .add (.int 1) (.call i_L_draw (.cons (.var 0) (.cons (.int 9) .nil)))) (.nm 8) (.seq (.var 5)) none [8])) (.cons (.ret (.tup (.cons (.frz (.var 5)) (.cons (.comp false (.call i_L_q (.cons (.var 9) (.cons (.bi false .sum (.cons (.var 7) .nil)) .nil))) (.nm 9) (.seq (.var 7)) none [9]) .nil)))) .nil))))
def b_L_made_told : Ss := .cons (.set 2 (.comp false (.ifx (.cmp .is (.var 3) .non) .non (.call i_L_passed (.cons (.var 0) (.cons (.var 3) .nil)))) (.nm 3) (.seq (.slc false (.var 1) (some (.int 1)) none)) none [3])) (.cons (.ret (.mk false c_Told (.cons (.call i_L_made_function (.cons (.var 0) (.cons (.sub (.var 1) (.int 0)) .nil))) (.cons (.sub (.var 2) (.int 0)) (.cons (.sub (.var 2) (.int 1)) .nil))))) .nil)
def b_L_passed_row : Ss := .cons (.set 2 (.comp false (.call i_L_passed (.cons (.var 0) (.cons (.var 3) .nil))) (.nm 3) (.seq (.var 1)) none [3])) (.cons (.ret (.call i_L_pick (.cons (.var 0) (.cons (.lst false (.cons (.var 2) (.cons (.bi false .tuple (.cons (.var 2) .nil)) .nil))) .nil)))) .nil)
def b_L_made_share : Ss := .cons (.ret (.mk false c_Share (.cons (.call i_L_passed_row (.cons (.var 0) (.cons (.sub (.var 1) (.int 0)) .nil))) (.cons (.call i_L_passed_row (.cons (.var 0) (.cons (.sub (.var 1) (.int 1)) .nil))) .nil)))) .nil
def b_L_row : Ss := .cons (.set 3 (.call i_L_pick (.cons (.var 0) (.cons (.lst false (.cons (.str "plain") (.cons (.str "plain") (.cons (.str "upper") (.cons (.str "lower") .nil))))) .nil)))) (.cons (.set 4 (.call i_L_drawn_function (.cons (.var 0) (.cons (.var 1) (.cons (.int 3) (.cons (.var 3) (.cons (.int 3) .nil))))))) (.cons (.par [5, 6] (.cons (.call i_L_share_mean (.cons (.var 2) (.cons (.var 4) .nil))) (.cons (.lst false (.cons (.tup (.cons (.int 0) (.cons (.int 1) .nil))) (.cons (.tup (.cons (.int 1) (.cons (.int 8) .nil))) (.cons (.tup (.cons (.int 1) (.cons (.bin false .shl (.int 1) (.int 20)) .nil))) (.cons (.tup (.cons (.neg (.int 1)) (.cons (.int 3) .nil))) (.cons (.tup (.cons (.neg (.int 5)) (.cons (.int 1) .nil))) (.cons (.tup (.cons (.int 1) (.cons (.bin false .pow (.int 10) (.int 12)) .nil))) (.cons (.tup (.cons (.int 2) (.cons (.int 1) .nil))) .nil)))))))) .nil))) (.cons (.par [7, 8] (.cons (.call i_L_pick (.cons (.var 0) (.cons (.var 6) .nil))) (.cons (.call i_L_pick (.cons (.var 0) (.cons (.var 6) .nil))) .nil))) (.cons (.par [9, 10] (.cons (.call i_L_plus (.cons (.var 5) (.cons (.var 7) .nil))) (.cons (.call i_L_minus (.cons (.var 5) (.cons (.var 8) .nil))) .nil))) (.cons (.ite (.call i_L_less (.cons (.var 10) (.cons (.var 9) .nil))) (.cons (.unt (.cons (.nm 9) (.cons (.nm 10) .nil)) (.ifx (.cmp .eq (.call i_L_draw (.cons (.var 0) (.cons (.int 2) .nil))) (.int 0)) (.tup (.cons .non (.cons (.var 10) .nil))) (.tup (.cons (.var 9) (.cons .non .nil))))) .nil) .nil) (.cons (.ite (.cmp .eq (.var 3) (.str "upper")) (.cons (.par [9, 10] (.cons (.call i_L_plus (.cons (.var 5) (.cons (.var 7) .nil))) (.cons .non .nil))) .nil) .nil) (.cons (.ite (.cmp .eq (.var 3) (.str "lower")) (.cons (.par [9, 10] (.cons .non (.cons (.call i_L_minus (.cons (.var 5) (.cons (.var 8) .nil))) .nil))) .nil) .nil) (.cons (.set 11 (.lst true (.cons (.tup (.cons (.int 0) (.cons (.int 1) .nil))) .nil))) (.cons (.ite (.cmp .isnot (.var 9) .non) (.cons (.ex (.lm (.var 11) .append (.cons (.call i_L_minus (.cons (.var 9) (.cons (.var 5) .nil))) .nil))) .nil) .nil) (.cons (.ite (.cmp .isnot (.var 10) .non) (.cons (.ex (.lm (.var 11) .append (.cons (.call i_L_minus (.cons (.var 5) (.cons (.var 10) .nil))) .nil))) .nil) .nil) (.cons (.ret (.tup (.cons (.tup (.cons (.var 4) (.cons (.var 9) (.cons (.var 10) .nil)))) (.cons (.frz (.var 11)) .nil)))) .nil)))))))))))
def b_law : Ss := .cons (.set 1 (.call i_L_pen (.cons (.var 0) .nil))) (.cons (.for_ (.nm 2) (.rng1 (.int 3)) (.cons (.unt (.cons (.nm 3) (.cons (.nm 4) .nil)) (.call i_L_interval (.cons (.var 1) (.cons (.int 4) .nil)))) (.cons (.par [5, 6] (.cons (.call i_L_drawn_share (.cons (.var 1) (.cons (.var 3) (.cons (.var 4) (.cons (.int 6) .nil))))) (.cons (.call i_L_drawn_knots (.cons (.var 1) (.cons (.var 3) (.cons (.var 4) (.cons (.int 3) .nil))))) .nil))) (.cons (.par [7, 8] (.cons (.lst false .nil) (.cons (.lst false (.cons (.tup (.cons (.int 0) (.cons (.int 1) .nil))) .nil)) .nil))) (.cons (.for_ (.nm 9) (.rng1 (.call i_L_draw (.cons (.var 1) (.cons (.int 6) .nil)))) (.cons (.unt (.cons (.nm 10) (.cons (.nm 11) .nil)) (.call i_L_row (.cons (.var 1) (.cons (.var 6) (.cons (.var 5) .nil))))) (.cons (.par [7, 8] (.cons (.bin false .add (.var 7) (.lst false (.cons (.var 10) .nil))) (.cons (.bin false .add (.var 8) (.var 11)) .nil))) .nil))) (.cons (.set 12 (.sub (.call i_L_sorted (.cons (.var 8) .nil)) (.neg (.int 1)))) (.cons (.set 13 (.comp false (.call i_L_made_told (.cons (.var 1) (.cons (.var 10) .nil))) (.nm 10) (.seq (.var 7)) none [10])) (.cons (.for_ (.cons (.nm 10) (.cons (.nm 14) .nil)) (.zip (.var 7) (.var 13)) (.cons (.ite (.or (.cmp .ne (.tup (.cons (.fld (.var 14) f_least) (.cons (.fld (.var 14) f_most) .nil))) (.slc false (.var 10) (some (.int 1)) none)) (.not (.isin (.fld (.var 14) f_function) [(.own c_Broken)]))) (.cons (.ret (.bl false)) .nil) .nil) (.cons (.ite (.cmp .ne (.call i_L_f_of (.cons (.fld (.var 14) f_function) .nil)) (.tup (.cons (.bi false .list (.cons (.sub (.sub (.var 10) (.int 0)) (.int 0)) .nil)) (.cons (.sub (.sub (.var 10) (.int 0)) (.int 1)) (.cons (.sub (.sub (.var 10) (.int 0)) (.int 2)) .nil))))) (.cons (.ret (.bl false)) .nil) .nil) .nil))) (.cons (.set 15 (.call i_L_made_share (.cons (.var 1) (.cons (.var 5) .nil)))) (.cons (.ite (.cmp .ne (.call i_missed (.cons (.var 15) (.cons (.call i_L_pick (.cons (.var 1) (.cons (.lst false (.cons (.var 13) (.cons (.bi false .tuple (.cons (.var 13) .nil)) .nil))) .nil))) .nil))) (.var 12)) (.cons (.ret (.bl false)) .nil) .nil) (.cons (.set 16 (.tup (.cons (.call i_fits_d (.cons (.var 15) (.cons (.var 13) .nil))) (.cons (.call i_fits (.cons (.var 15) (.cons (.bi false .tuple (.cons (.var 13) .nil)) (.cons .non .nil)))) .nil)))) (.cons (.ite (.cmp .ne (.bi false .repr (.cons (.var 16) .nil)) (.bi false .repr (.cons (.tup (.cons (.cmp .eq (.var 12) (.tup (.cons (.int 0) (.cons (.int 1) .nil)))) (.cons (.cmp .eq (.var 12) (.tup (.cons (.int 0) (.cons (.int 1) .nil)))) .nil))) .nil))) (.cons (.ret (.bl false)) .nil) .nil) (.cons (.for_ (.nm 17) (.seq (.lst false (.cons (.int 0) (.cons (.int 3) (.cons (.int 20) (.cons (.int 60) (.cons (.call i_L_draw (.cons (.var 1) (.cons (.int 61) .nil))) .nil))))))) (.cons (.set 18 (.call i_fits (.cons (.var 15) (.cons (.var 13) (.cons (.var 17) .nil))))) (.cons (.ite (.or (.not (.isin (.var 18) [.bool])) (.cmp .eq (.var 18) (.call i_L_less (.cons (.tup (.cons (.int 1) (.cons (.bin false .shl (.int 1) (.var 17)) .nil))) (.cons (.var 12) .nil))))) (.cons (.ret (.bl false)) .nil) .nil) (.cons (.ite (.cmp .ne (.callk i_fits (.cons (.var 15) (.cons (.var 13) .nil)) (.var 17)) (.var 18)) (.cons (.ret (.bl false)) .nil) .nil) .nil)))) .nil))))))))))))) (.cons (.ret (.bl true)) .nil))
def b_Share_init : Ss := .cons (.ite (.or (.not (.call i_is_row_shares (.cons (.var 1) .nil))) (.or (.cmp .eq (.bi false .len (.cons (.var 1) .nil)) (.int 0)) (.not (.call i_ascends (.cons (.var 1) .nil))))) (.cons .wall .nil) .nil) (.cons (.ite (.not (.call i_are_parts (.cons (.var 2) (.cons (.bi false .len (.cons (.var 1) .nil)) .nil)))) (.cons .wall .nil) .nil) (.cons (.sfld (.var 0) f_places (.call i_all_told (.cons (.var 1) .nil))) (.cons (.sfld (.var 0) f_parts (.call i_all_told (.cons (.var 2) .nil))) .nil)))
def b_Share_eq : Ss := .cons (.ret (.and (.isin (.var 1) [(.own c_Share)]) (.and (.cmp .eq (.fld (.var 0) f_places) (.fld (.var 1) f_places)) (.cmp .eq (.fld (.var 0) f_parts) (.fld (.var 1) f_parts))))) .nil
def b_Told_init : Ss := .cons (.par [4, 5] (.cons (.meth (.var 1) m_is_upper .nil) (.cons (.meth (.var 1) m_is_lower .nil) .nil))) (.cons (.ite (.and (.not (.var 4)) (.not (.var 5))) (.cons .wall .nil) .nil) (.cons (.sfld (.var 0) f_function (.var 1)) (.cons (.sfld (.var 0) f_least (.call i_bound_told (.cons (.str "least") (.cons (.var 2) (.cons (.var 4) .nil))))) (.cons (.sfld (.var 0) f_most (.call i_bound_told (.cons (.str "most") (.cons (.var 3) (.cons (.var 5) .nil))))) (.cons (.ite (.and (.cmp .isnot (.fld (.var 0) f_least) .non) (.and (.cmp .isnot (.fld (.var 0) f_most) .non) (.call i_lower (.cons (.fld (.var 0) f_most) (.cons (.fld (.var 0) f_least) .nil))))) (.cons .wall .nil) .nil) (.cons (.ite (.and (.cmp .is (.fld (.var 0) f_least) .non) (.cmp .is (.fld (.var 0) f_most) .non)) (.cons .wall .nil) .nil) .nil))))))
def b_Poly_init : Ss := .cons (.ite (.or (.not (.isin (.var 1) [.tuple, .list])) (.not (.bi false .all (.cons (.comp false (.call i_is_ratio (.cons (.var 2) .nil)) (.nm 2) (.seq (.var 1)) none [2]) .nil)))) (.cons .wall .nil) .nil) (.cons (.sfld (.var 0) f_numbers (.call i_without_zeros (.cons (.bi false .tuple (.cons (.comp false (.call i_told (.cons (.var 2) (.cons (.str "number") .nil))) (.nm 2) (.seq (.var 1)) none [2]) .nil)) .nil))) .nil)
def b_Poly_eq : Ss := .cons (.ret (.and (.isin (.var 1) [(.own c_Poly)]) (.cmp .eq (.fld (.var 0) f_numbers) (.fld (.var 1) f_numbers)))) .nil
def b_Poly_add : Ss := .cons (.ret (.call i_summed (.cons (.var 0) (.cons (.call i_poly_told (.cons (.var 1) .nil)) (.cons (.int 1) .nil))))) .nil
def b_Poly_radd : Ss := .cons (.ret (.call i_summed (.cons (.call i_poly_told (.cons (.var 1) .nil)) (.cons (.var 0) (.cons (.int 1) .nil))))) .nil
def b_Poly_sub : Ss := .cons (.ret (.call i_summed (.cons (.var 0) (.cons (.call i_poly_told (.cons (.var 1) .nil)) (.cons (.neg (.int 1)) .nil))))) .nil
def b_Poly_rsub : Ss := .cons (.ret (.call i_summed (.cons (.call i_poly_told (.cons (.var 1) .nil)) (.cons (.var 0) (.cons (.neg (.int 1)) .nil))))) .nil
def b_Poly_mul : Ss := .cons (.ret (.call i_multiplied (.cons (.var 0) (.cons (.call i_poly_told (.cons (.var 1) .nil)) .nil)))) .nil
def b_Poly_rmul : Ss := .cons (.ret (.call i_multiplied (.cons (.call i_poly_told (.cons (.var 1) .nil)) (.cons (.var 0) .nil)))) .nil
def b_Poly_neg : Ss := .cons (.ret (.mk false c_Poly (.cons (.comp false (.tup (.cons (.neg (.var 1)) (.cons (.var 2) .nil))) (.cons (.nm 1) (.cons (.nm 2) .nil)) (.seq (.fld (.var 0) f_numbers)) none [1, 2]) .nil))) .nil
def b_Poly_degree : Ss := .cons .wall .nil
def b_Poly_at : Ss := .cons (.unt (.cons (.nm 2) (.cons (.nm 3) .nil)) (.call i_told (.cons (.var 1) (.cons (.str "place") .nil)))) (.cons (.par [4, 5, 6] (.cons (.call i_bottom_of (.cons (.fld (.var 0) f_numbers) .nil)) (.cons (.int 0) (.cons (.int 1) .nil)))) (.cons (.for_ (.nm 7) (.seq (.rev false (.fld (.var 0) f_numbers))) (.cons (.set 5 (.bin false .add (.bin false .mul (.var 5) (.var 2)) (.bin false .mul (.bin false .mul (.sub (.var 7) (.int 0)) (.bin false .fdiv (.var 4) (.sub (.var 7) (.int 1)))) (.var 6)))) (.cons (.set 6 (.bin false .mul (.var 6) (.var 3))) .nil))) (.cons (.ret (.call i_lowest (.cons (.var 5) (.cons (.bin false .mul (.var 4) (.ifx (.cmp .gt (.bi false .len (.cons (.fld (.var 0) f_numbers) .nil)) (.int 0)) (.bin false .fdiv (.var 6) (.var 3)) (.int 1))) .nil)))) .nil)))
def b_Poly_slope : Ss := .cons .wall .nil
def b_Poly_area : Ss := .cons .wall .nil
def b_Poly_moved : Ss := .cons .wall .nil
def b_Broken_init : Ss := .cons (.ite (.not (.call i_are_knots (.cons (.var 1) .nil))) (.cons .wall .nil) .nil) (.cons (.ex (.call i_need_poly_row (.cons (.var 2) (.cons (.bin false .sub (.bi false .len (.cons (.var 1) .nil)) (.int 1)) .nil)))) (.cons (.ite (.not (.call i_are_ratios (.cons (.var 3) (.cons (.bi false .len (.cons (.var 1) .nil)) .nil)))) (.cons .wall .nil) .nil) (.cons (.sfld (.var 0) f_knots (.bi false .tuple (.cons (.comp false (.call i_told (.cons (.var 4) (.cons (.str "knot") .nil))) (.nm 4) (.seq (.var 1)) none [4]) .nil))) (.cons (.sfld (.var 0) f_polys (.bi false .tuple (.cons (.var 2) .nil))) (.cons (.sfld (.var 0) f_at (.bi false .tuple (.cons (.comp false (.call i_told (.cons (.var 4) (.cons (.str "number") .nil))) (.nm 4) (.seq (.var 3)) none [4]) .nil))) .nil)))))
def b_Broken_eq : Ss := .cons (.ite (.or (.not (.isin (.var 1) [(.own c_Broken)])) (.or (.cmp .ne (.fld (.var 0) f_knots) (.fld (.var 1) f_knots)) (.cmp .ne (.fld (.var 0) f_at) (.fld (.var 1) f_at)))) (.cons (.ret (.bl false)) .nil) .nil) (.cons (.ret (.cmp .eq (.fld (.var 0) f_polys) (.fld (.var 1) f_polys))) .nil)
def b_Broken_spot : Ss := .cons (.ite (.or (.not (.call i_is_ratio (.cons (.var 1) .nil))) (.or (.call i_lower (.cons (.var 1) (.cons (.sub (.fld (.var 0) f_knots) (.int 0)) .nil))) (.call i_lower (.cons (.sub (.fld (.var 0) f_knots) (.neg (.int 1))) (.cons (.var 1) .nil))))) (.cons .wall .nil) .nil) (.cons (.set 2 (.bin false .sub (.bi false .len (.cons (.comp false (.var 3) (.nm 3) (.seq (.fld (.var 0) f_knots)) (some (.not (.call i_lower (.cons (.var 1) (.cons (.var 3) .nil))))) [3]) .nil)) (.int 1))) (.cons (.ret (.tup (.cons (.var 2) (.cons (.not (.call i_lower (.cons (.sub (.fld (.var 0) f_knots) (.var 2)) (.cons (.var 1) .nil)))) .nil)))) .nil))
def b_Broken_value : Ss := .cons (.unt (.cons (.nm 2) (.cons (.nm 3) .nil)) (.meth (.var 0) m_spot (.cons (.var 1) .nil))) (.cons (.ret (.ifx (.var 3) (.sub (.fld (.var 0) f_at) (.var 2)) (.meth (.sub (.fld (.var 0) f_polys) (.var 2)) m_at (.cons (.var 1) .nil)))) .nil)
def b_Broken_limits : Ss := .cons (.unt (.cons (.nm 2) (.cons (.nm 3) .nil)) (.meth (.var 0) m_spot (.cons (.var 1) .nil))) (.cons (.ite (.not (.var 3)) (.cons (.set 4 (.meth (.sub (.fld (.var 0) f_polys) (.var 2)) m_at (.cons (.var 1) .nil))) (.cons (.ret (.tup (.cons (.var 4) (.cons (.var 4) .nil)))) .nil)) .nil) (.cons (.set 5 (.ifx (.cmp .eq (.var 2) (.int 0)) .non (.meth (.sub (.fld (.var 0) f_polys) (.bin false .sub (.var 2) (.int 1))) m_at (.cons (.var 1) .nil)))) (.cons (.ret (.tup (.cons (.var 5) (.cons (.ifx (.cmp .eq (.var 2) (.bi false .len (.cons (.fld (.var 0) f_polys) .nil))) .non (.meth (.sub (.fld (.var 0) f_polys) (.var 2)) m_at (.cons (.var 1) .nil))) .nil)))) .nil)))
def b_Broken_jumps : Ss := .cons (.set 1 (.lst false .nil)) (.cons (.for_ (.cons (.nm 2) (.cons (.nm 3) .nil)) (.zip (.fld (.var 0) f_knots) (.fld (.var 0) f_at)) (.cons (.set 1 (.bin false .add (.var 1) (.comp false (.tup (.cons (.var 3) (.cons (.var 4) .nil))) (.nm 4) (.seq (.meth (.var 0) m_limits (.cons (.var 2) .nil))) (some (.cmp .isnot (.var 4) .non)) [4]))) .nil)) (.cons (.ret (.var 1)) .nil))
def b_Broken_is_plain : Ss := .cons .wall .nil
def b_Broken_is_upper : Ss := .cons (.ret (.bi false .all (.cons (.comp false (.call i_less_or_same (.cons (.var 2) (.cons (.var 1) .nil))) (.cons (.nm 1) (.cons (.nm 2) .nil)) (.seq (.meth (.var 0) m_jumps .nil)) none [1, 2]) .nil))) .nil
def b_Broken_is_lower : Ss := .cons (.ret (.bi false .all (.cons (.comp false (.call i_less_or_same (.cons (.var 1) (.cons (.var 2) .nil))) (.cons (.nm 1) (.cons (.nm 2) .nil)) (.seq (.meth (.var 0) m_jumps .nil)) none [1, 2]) .nil))) .nil
def b_Broken_is_line : Ss := .cons .wall .nil
def clsT : List ClsI := [
  ⟨some i_Share_init, true, [], some i_Share_eq, [f_places, f_parts]⟩,
  ⟨some i_Told_init, true, [], none, [f_function, f_least, f_most]⟩,
  ⟨some i_Poly_init, true, [(m_at, i_Poly_at)], some i_Poly_eq, [f_numbers]⟩,
  ⟨some i_Broken_init, true, [(m_value, i_Broken_value), (m_is_lower, i_Broken_is_lower), (m_is_upper, i_Broken_is_upper), (m_spot, i_Broken_spot), (m_limits, i_Broken_limits), (m_jumps, i_Broken_jumps)], some i_Broken_eq, [f_knots, f_polys, f_at]⟩]
def defs0 : List Def := [
  .fn 1 1 b_is_whole,
  .fn 1 1 b_is_ratio,
  .fn 2 2 b_divisor,
  .fn 2 3 b_lowest,
  .fn 2 2 b_told,
  .fn 1 1 b_parts,
  .fn 2 4 b_plus,
  .fn 2 4 b_minus,
  .fn 2 4 b_times,
  .fn 2 4 b_lower,
  .fn 2 2 b_less_or_same,
  .fn 1 4 b_bottom_of,
  .fn 1 1 b_is_row,
  .fn 1 2 b_is_row_shares,
  .fn 1 2 b_all_told,
  .fn 1 3 b_whole_of,
  .fn 2 3 b_are_parts,
  .fn 1 3 b_ascends,
  .fn 2 4 b_mean,
  .fn 3 3 b_bound_told,
  .fn 1 4 b_need_stretch,
  .fn 2 3 b_need_places,
  .fn 2 8 b_miss_of,
  .fn 2 3 b_missed,
  .fn 3 4 b_fits,
  .fn 1 4 b_without_zeros,
  .fn 1 1 b_poly_told,
  .fn 1 3 b_added_up,
  .fn 3 8 b_summed,
  .fn 3 6 b_power_number]
def defs1 : List Def := [
  .fn 2 3 b_multiplied,
  .fn 1 1 b_is_row_broken,
  .fn 2 3 b_are_ratios,
  .fn 1 3 b_are_knots,
  .fn 2 3 b_need_poly_row,
  .mkpen,
  .draw,
  .fn 2 2 b_L_pick,
  .fn 2 3 b_L_gcd,
  .fn 2 3 b_L_q,
  .fn 2 2 b_L_plus,
  .fn 2 2 b_L_minus,
  .fn 2 2 b_L_times,
  .fn 2 2 b_L_less,
  .fn 2 3 b_L_passed,
  .fn 2 3 b_L_ratio,
  .fn 2 4 b_L_interval,
  .fn 1 3 b_L_lower_one,
  .fn 1 6 b_L_sorted,
  .fn 1 3 b_L_poly,
  .fn 2 7 b_L_p_plus,
  .fn 2 4 b_L_p_at,
  .fn 2 3 b_L_f_piece,
  .fn 2 3 b_L_f_at,
  .fn 2 3 b_L_f_limits,
  .fn 2 6 b_L_made_function,
  .fn 1 2 b_L_f_of,
  .fn 4 7 b_L_drawn_knots,
  .fn 5 14 b_L_drawn_function,
  .fn 2 5 b_L_share_mean]
def defs2 : List Def := [
  .fn 4 10 b_L_drawn_share,
  .fn 2 4 b_L_made_told,
  .fn 2 4 b_L_passed_row,
  .fn 2 2 b_L_made_share,
  .fn 3 12 b_L_row,
  .fn 1 19 b_law,
  .fn 3 3 b_Share_init,
  .fn 2 2 b_Share_eq,
  .fn 4 6 b_Told_init,
  .fn 2 3 b_Poly_init,
  .fn 2 2 b_Poly_eq,
  .fn 2 2 b_Poly_add,
  .fn 2 2 b_Poly_radd,
  .fn 2 2 b_Poly_sub,
  .fn 2 2 b_Poly_rsub,
  .fn 2 2 b_Poly_mul,
  .fn 2 2 b_Poly_rmul,
  .fn 1 3 b_Poly_neg,
  .fn 1 1 b_Poly_degree,
  .fn 2 8 b_Poly_at,
  .fn 1 1 b_Poly_slope,
  .fn 1 1 b_Poly_area,
  .fn 3 3 b_Poly_moved,
  .fn 4 5 b_Broken_init,
  .fn 2 2 b_Broken_eq,
  .fn 2 4 b_Broken_spot,
  .fn 2 4 b_Broken_value,
  .fn 2 6 b_Broken_limits,
  .fn 1 5 b_Broken_jumps,
  .fn 1 1 b_Broken_is_plain]
def defs3 : List Def := [
  .fn 1 3 b_Broken_is_upper,
  .fn 1 3 b_Broken_is_lower,
  .fn 1 1 b_Broken_is_line,
  .fn 2 4 (.cons (.set 2 .non) b_fits)]
def defsT : List Def := defs0 ++ defs1 ++ defs2 ++ defs3
def fns0 : List Str := ["is_whole", "is_ratio", "divisor", "lowest", "told", "parts", "plus", "minus", "times", "lower", "less_or_same", "bottom_of", "is_row", "is_row_shares", "all_told", "whole_of", "are_parts", "ascends", "mean", "bound_told", "need_stretch", "need_places", "miss_of", "missed", "fits", "without_zeros", "poly_told", "added_up", "summed", "power_number"]
def fns1 : List Str := ["multiplied", "is_row_broken", "are_ratios", "are_knots", "need_poly_row", "_law_pen", "_law_draw", "_law_pick", "_law_gcd", "_law_q", "_law_plus", "_law_minus", "_law_times", "_law_less", "_law_passed", "_law_ratio", "_law_interval", "_law_lower_one", "_law_sorted", "_law_poly", "_law_p_plus", "_law_p_at", "_law_f_piece", "_law_f_at", "_law_f_limits", "_law_made_function", "_law_f_of", "_law_drawn_knots", "_law_drawn_function", "_law_share_mean"]
def fns2 : List Str := ["_law_drawn_share", "_law_made_told", "_law_passed_row", "_law_made_share", "_law_row", "law", "", "", "", "", "", "", "", "", "", "", "", "", "", "", "", "", "", "", "", "", "", "", "", ""]
def fns3 : List Str := ["", "", "", "fits"]
def T : Tb := ⟨[(.int 60)], clsT, defsT, 1000000⟩
def s : Si := ⟨[], ["MOST_BITS"], fns0 ++ fns1 ++ fns2 ++ fns3, ["Share", "Told", "Poly", "Broken"], ["places", "parts", "knots", "function", "most", "least", "numbers", "at", "polys"], ["value", "is_lower", "is_upper", "at", "spot", "limits", "jumps"], [.len, .gcd, .all, .tuple, .any, .max, .min, .list, .int, .abs, .sum, .repr], (List.replicate 24 ("" : Str) ++ [("bits" : Str)])⟩
end G
end

section
set_option Elab.async false
set_option linter.all false
set_option maxRecDepth 100000
set_option maxHeartbeats 4000000
/-! the text itself -/
namespace G
open M PySem L2
abbrev R0 : PySem.W.OpenLaw := PySem.Challenge.rw_toldmeans_k09_whole_fits_to_a_gap
def top (i : Nat) : Stmt := PySem.Challenge.pw_toldmeans_k09_whole_fits_to_a_gap.main.body.getD i (.Pass ⟨0, 0, 0, 0⟩)
def inC (i j : Nat) : Stmt := match top i with
  | .ClassDef (body := b) .. => b.getD j (.Pass ⟨0, 0, 0, 0⟩)
  | _ => .Pass ⟨0, 0, 0, 0⟩
def d_is_whole : DD := ⟨⟨("is_whole", none), "is_whole", "is_whole", defArgs (top 8), defBody (top 8), defScope (top 8), [], []⟩, ["value"], ["value"]⟩
def d_is_ratio : DD := ⟨⟨("is_ratio", none), "is_ratio", "is_ratio", defArgs (top 9), defBody (top 9), defScope (top 9), [], []⟩, ["value"], ["value"]⟩
def d_divisor : DD := ⟨⟨("divisor", none), "divisor", "divisor", defArgs (top 10), defBody (top 10), defScope (top 10), [], []⟩, ["one", "other"], ["one", "other"]⟩
def d_lowest : DD := ⟨⟨("lowest", none), "lowest", "lowest", defArgs (top 11), defBody (top 11), defScope (top 11), [], []⟩, ["top", "bottom", "by"], ["top", "bottom"]⟩
def d_told : DD := ⟨⟨("told", none), "told", "told", defArgs (top 12), defBody (top 12), defScope (top 12), [], []⟩, ["value", "what"], ["value", "what"]⟩
def d_parts : DD := ⟨⟨("parts", none), "parts", "parts", defArgs (top 13), defBody (top 13), defScope (top 13), [], []⟩, ["value"], ["value"]⟩
def d_plus : DD := ⟨⟨("plus", none), "plus", "plus", defArgs (top 14), defBody (top 14), defScope (top 14), [], []⟩, ["one", "other", "first", "second"], ["one", "other"]⟩
def d_minus : DD := ⟨⟨("minus", none), "minus", "minus", defArgs (top 15), defBody (top 15), defScope (top 15), [], []⟩, ["one", "other", "first", "second"], ["one", "other"]⟩
def d_times : DD := ⟨⟨("times", none), "times", "times", defArgs (top 16), defBody (top 16), defScope (top 16), [], []⟩, ["one", "other", "first", "second"], ["one", "other"]⟩
def d_lower : DD := ⟨⟨("lower", none), "lower", "lower", defArgs (top 17), defBody (top 17), defScope (top 17), [], []⟩, ["one", "other", "first", "second"], ["one", "other"]⟩
def d_less_or_same : DD := ⟨⟨("less_or_same", none), "less_or_same", "less_or_same", defArgs (top 18), defBody (top 18), defScope (top 18), [], []⟩, ["one", "other"], ["one", "other"]⟩
def d_bottom_of : DD := ⟨⟨("bottom_of", none), "bottom_of", "bottom_of", defArgs (top 19), defBody (top 19), defScope (top 19), [], []⟩, ["ratios", "found", "top", "bottom"], ["ratios"]⟩
def d_is_row : DD := ⟨⟨("is_row", none), "is_row", "is_row", defArgs (top 46), defBody (top 46), defScope (top 46), [], []⟩, ["value"], ["value"]⟩
def d_is_row_shares : DD := ⟨⟨("is_row_shares", none), "is_row", "is_row", defArgs (top 22), defBody (top 22), defScope (top 22), [], []⟩, ["value", "one"], ["value"]⟩
def d_all_told : DD := ⟨⟨("all_told", none), "all_told", "all_told", defArgs (top 24), defBody (top 24), defScope (top 24), [], []⟩, ["row", "one"], ["row"]⟩
def d_whole_of : DD := ⟨⟨("whole_of", none), "whole_of", "whole_of", defArgs (top 25), defBody (top 25), defScope (top 25), [], []⟩, ["row", "found", "one"], ["row"]⟩
def d_are_parts : DD := ⟨⟨("are_parts", none), "are_parts", "are_parts", defArgs (top 26), defBody (top 26), defScope (top 26), [], []⟩, ["value", "many", "part"], ["value", "many"]⟩
def d_ascends : DD := ⟨⟨("ascends", none), "ascends", "ascends", defArgs (top 27), defBody (top 27), defScope (top 27), [], []⟩, ["row", "one", "other"], ["row"]⟩
def d_mean : DD := ⟨⟨("mean", none), "mean", "mean", defArgs (top 29), defBody (top 29), defScope (top 29), [], []⟩, ["share", "function", "place", "part"], ["share", "function"]⟩
def d_bound_told : DD := ⟨⟨("bound_told", none), "bound_told", "bound_told", defArgs (top 30), defBody (top 30), defScope (top 30), [], []⟩, ["what", "value", "is_let"], ["what", "value", "is_let"]⟩
def d_need_stretch : DD := ⟨⟨("need_stretch", none), "need_stretch", "need_stretch", defArgs (top 32), defBody (top 32), defScope (top 32), [], []⟩, ["functions", "ends", "function", "end"], ["functions"]⟩
def d_need_places : DD := ⟨⟨("need_places", none), "need_places", "need_places", defArgs (top 33), defBody (top 33), defScope (top 33), [], []⟩, ["share", "rows", "row"], ["share", "rows"]⟩
def d_miss_of : DD := ⟨⟨("miss_of", none), "miss_of", "miss_of", defArgs (top 34), defBody (top 34), defScope (top 34), [], []⟩, ["share", "rows", "found", "row", "here", "bound", "gap", "miss"], ["share", "rows"]⟩
def d_missed : DD := ⟨⟨("missed", none), "missed", "missed", defArgs (top 35), defBody (top 35), defScope (top 35), [], []⟩, ["share", "rows", "row"], ["share", "rows"]⟩
def d_fits : DD := ⟨⟨("fits", none), "fits", "fits", defArgs (top 36), defBody (top 36), defScope (top 36), [.non], []⟩, ["share", "rows", "bits", "row"], ["share", "rows", "bits"]⟩
def d_without_zeros : DD := ⟨⟨("without_zeros", none), "without_zeros", "without_zeros", defArgs (top 39), defBody (top 39), defScope (top 39), [], []⟩, ["numbers", "many", "k", "ratio"], ["numbers"]⟩
def d_poly_told : DD := ⟨⟨("poly_told", none), "poly_told", "poly_told", defArgs (top 40), defBody (top 40), defScope (top 40), [], []⟩, ["value"], ["value"]⟩
def d_added_up : DD := ⟨⟨("added_up", none), "added_up", "added_up", defArgs (top 41), defBody (top 41), defScope (top 41), [], []⟩, ["ratios", "found", "ratio"], ["ratios"]⟩
def d_summed : DD := ⟨⟨("summed", none), "summed", "summed", defArgs (top 42), defBody (top 42), defScope (top 42), [], []⟩, ["one", "other", "sign", "wide", "first", "second", "a", "b"], ["one", "other", "sign"]⟩
def d_power_number : DD := ⟨⟨("power_number", none), "power_number", "power_number", defArgs (top 43), defBody (top 43), defScope (top 43), [], []⟩, ["one", "other", "place", "start", "stop", "k"], ["one", "other", "place"]⟩
def d_multiplied : DD := ⟨⟨("multiplied", none), "multiplied", "multiplied", defArgs (top 44), defBody (top 44), defScope (top 44), [], []⟩, ["one", "other", "k"], ["one", "other"]⟩
def d_is_row_broken : DD := ⟨⟨("is_row_broken", none), "is_row", "is_row", defArgs (top 46), defBody (top 46), defScope (top 46), [], []⟩, ["value"], ["value"]⟩
def d_are_ratios : DD := ⟨⟨("are_ratios", none), "are_ratios", "are_ratios", defArgs (top 48), defBody (top 48), defScope (top 48), [], []⟩, ["value", "many", "one"], ["value", "many"]⟩
def d_are_knots : DD := ⟨⟨("are_knots", none), "are_knots", "are_knots", defArgs (top 49), defBody (top 49), defScope (top 49), [], []⟩, ["value", "one", "two"], ["value"]⟩
def d_need_poly_row : DD := ⟨⟨("need_poly_row", none), "need_poly_row", "need_poly_row", defArgs (top 50), defBody (top 50), defScope (top 50), [], []⟩, ["polys", "many", "one"], ["polys", "many"]⟩
def d_L_pen : DD := ⟨⟨("_law_pen", none), "_law_pen", "_law_pen", defArgs (top 53), defBody (top 53), defScope (top 53), [], []⟩, ["_law_script", "_law_fold", "_law_cell"], ["_law_script"]⟩
def d_L_draw : DD := ⟨⟨("_law_draw", none), "_law_draw", "_law_draw", defArgs (top 54), defBody (top 54), defScope (top 54), [], []⟩, ["_law_pen_here", "_law_many", "_law_cell", "_law_digit", "_law_blend"], ["_law_pen_here", "_law_many"]⟩
def d_L_pick : DD := ⟨⟨("_law_pick", none), "_law_pick", "_law_pick", defArgs (top 55), defBody (top 55), defScope (top 55), [], []⟩, ["_law_pen_here", "_law_some"], ["_law_pen_here", "_law_some"]⟩
def d_L_gcd : DD := ⟨⟨("_law_gcd", none), "_law_gcd", "_law_gcd", defArgs (top 56), defBody (top 56), defScope (top 56), [], []⟩, ["_law_one", "_law_two", "_law_lap"], ["_law_one", "_law_two"]⟩
def d_L_q : DD := ⟨⟨("_law_q", none), "_law_q", "_law_q", defArgs (top 57), defBody (top 57), defScope (top 57), [], []⟩, ["_law_top", "_law_bottom", "_law_by"], ["_law_top", "_law_bottom"]⟩
def d_L_plus : DD := ⟨⟨("_law_plus", none), "_law_plus", "_law_plus", defArgs (top 58), defBody (top 58), defScope (top 58), [], []⟩, ["_law_one", "_law_two"], ["_law_one", "_law_two"]⟩
def d_L_minus : DD := ⟨⟨("_law_minus", none), "_law_minus", "_law_minus", defArgs (top 59), defBody (top 59), defScope (top 59), [], []⟩, ["_law_one", "_law_two"], ["_law_one", "_law_two"]⟩
def d_L_times : DD := ⟨⟨("_law_times", none), "_law_times", "_law_times", defArgs (top 60), defBody (top 60), defScope (top 60), [], []⟩, ["_law_one", "_law_two"], ["_law_one", "_law_two"]⟩
def d_L_less : DD := ⟨⟨("_law_less", none), "_law_less", "_law_less", defArgs (top 61), defBody (top 61), defScope (top 61), [], []⟩, ["_law_one", "_law_two"], ["_law_one", "_law_two"]⟩
def d_L_passed : DD := ⟨⟨("_law_passed", none), "_law_passed", "_law_passed", defArgs (top 62), defBody (top 62), defScope (top 62), [], []⟩, ["_law_pen_here", "_law_ratio_here", "_law_by"], ["_law_pen_here", "_law_ratio_here"]⟩
def d_L_ratio : DD := ⟨⟨("_law_ratio", none), "_law_ratio", "_law_ratio", defArgs (top 63), defBody (top 63), defScope (top 63), [], []⟩, ["_law_pen_here", "_law_most", "_law_bottom"], ["_law_pen_here", "_law_most"]⟩
def d_L_interval : DD := ⟨⟨("_law_interval", none), "_law_interval", "_law_interval", defArgs (top 64), defBody (top 64), defScope (top 64), [], []⟩, ["_law_pen_here", "_law_most", "_law_one", "_law_two"], ["_law_pen_here", "_law_most"]⟩
def d_L_lower_one : DD := ⟨⟨("_law_lower_one", none), "_law_lower_one", "_law_lower_one", defArgs (top 65), defBody (top 65), defScope (top 65), [], []⟩, ["_law_some", "_law_best", "_law_one"], ["_law_some"]⟩
def d_L_sorted : DD := ⟨⟨("_law_sorted", none), "_law_sorted", "_law_sorted", defArgs (top 66), defBody (top 66), defScope (top 66), [], []⟩, ["_law_some", "_law_left", "_law_found", "_law_lap", "_law_one", "_law_other"], ["_law_some"]⟩
def d_L_poly : DD := ⟨⟨("_law_poly", none), "_law_poly", "_law_poly", defArgs (top 67), defBody (top 67), defScope (top 67), [], []⟩, ["_law_numbers", "_law_found", "_law_lap"], ["_law_numbers"]⟩
def d_L_p_plus : DD := ⟨⟨("_law_p_plus", none), "_law_p_plus", "_law_p_plus", defArgs (top 68), defBody (top 68), defScope (top 68), [], []⟩, ["_law_one", "_law_two", "_law_many", "_law_first", "_law_second", "_law_a", "_law_b"], ["_law_one", "_law_two"]⟩
def d_L_p_at : DD := ⟨⟨("_law_p_at", none), "_law_p_at", "_law_p_at", defArgs (top 69), defBody (top 69), defScope (top 69), [], []⟩, ["_law_one", "_law_point", "_law_amount", "_law_number"], ["_law_one", "_law_point"]⟩
def d_L_f_piece : DD := ⟨⟨("_law_f_piece", none), "_law_f_piece", "_law_f_piece", defArgs (top 70), defBody (top 70), defScope (top 70), [], []⟩, ["_law_f", "_law_x", "_law_k"], ["_law_f", "_law_x"]⟩
def d_L_f_at : DD := ⟨⟨("_law_f_at", none), "_law_f_at", "_law_f_at", defArgs (top 71), defBody (top 71), defScope (top 71), [], []⟩, ["_law_f", "_law_x", "_law_k"], ["_law_f", "_law_x"]⟩
def d_L_f_limits : DD := ⟨⟨("_law_f_limits", none), "_law_f_limits", "_law_f_limits", defArgs (top 72), defBody (top 72), defScope (top 72), [], []⟩, ["_law_f", "_law_k", "_law_found"], ["_law_f", "_law_k"]⟩
def d_L_made_function : DD := ⟨⟨("_law_made_function", none), "_law_made_function", "_law_made_function", defArgs (top 73), defBody (top 73), defScope (top 73), [], []⟩, ["_law_pen_here", "_law_f", "_law_polys", "_law_number", "_law_p", "_law_x"], ["_law_pen_here", "_law_f"]⟩
def d_L_f_of : DD := ⟨⟨("_law_f_of", none), "_law_f_of", "_law_f_of", defArgs (top 74), defBody (top 74), defScope (top 74), [], []⟩, ["_law_told", "_law_p"], ["_law_told"]⟩
def d_L_drawn_knots : DD := ⟨⟨("_law_drawn_knots", none), "_law_drawn_knots", "_law_drawn_knots", defArgs (top 75), defBody (top 75), defScope (top 75), [], []⟩, ["_law_pen_here", "_law_low", "_law_high", "_law_many", "_law_found", "_law_wide", "_law_k"], ["_law_pen_here", "_law_low", "_law_high", "_law_many"]⟩
def d_L_drawn_function : DD := ⟨⟨("_law_drawn_function", none), "_law_drawn_function", "_law_drawn_function", defArgs (top 76), defBody (top 76), defScope (top 76), [], []⟩, ["_law_pen_here", "_law_knots", "_law_degree", "_law_kind", "_law_most", "_law_polys", "_law_at", "_law_k", "_law_numbers", "_law_j", "_law_poly_here", "_law_jump", "_law_limits", "_law_more"], ["_law_pen_here", "_law_knots", "_law_degree", "_law_kind", "_law_most"]⟩
def d_L_share_mean : DD := ⟨⟨("_law_share_mean", none), "_law_share_mean", "_law_share_mean", defArgs (top 77), defBody (top 77), defScope (top 77), [], []⟩, ["_law_given", "_law_f", "_law_amount", "_law_x", "_law_part"], ["_law_given", "_law_f"]⟩
def d_L_drawn_share : DD := ⟨⟨("_law_drawn_share", none), "_law_drawn_share", "_law_drawn_share", defArgs (top 78), defBody (top 78), defScope (top 78), [], []⟩, ["_law_pen_here", "_law_low", "_law_high", "_law_many", "_law_wide", "_law_places", "_law_k", "_law_weights", "_law_x", "_law_weight"], ["_law_pen_here", "_law_low", "_law_high", "_law_many"]⟩
def d_L_made_told : DD := ⟨⟨("_law_made_told", none), "_law_made_told", "_law_made_told", defArgs (top 79), defBody (top 79), defScope (top 79), [], []⟩, ["_law_pen_here", "_law_row_here", "_law_bounds", "_law_bound"], ["_law_pen_here", "_law_row_here"]⟩
def d_L_passed_row : DD := ⟨⟨("_law_passed_row", none), "_law_passed_row", "_law_passed_row", defArgs (top 80), defBody (top 80), defScope (top 80), [], []⟩, ["_law_pen_here", "_law_row_here", "_law_found", "_law_one"], ["_law_pen_here", "_law_row_here"]⟩
def d_L_made_share : DD := ⟨⟨("_law_made_share", none), "_law_made_share", "_law_made_share", defArgs (top 81), defBody (top 81), defScope (top 81), [], []⟩, ["_law_pen_here", "_law_share"], ["_law_pen_here", "_law_share"]⟩
def d_L_row : DD := ⟨⟨("_law_row", none), "_law_row", "_law_row", defArgs (top 82), defBody (top 82), defScope (top 82), [], []⟩, ["_law_pen_here", "_law_knots", "_law_share", "_law_kind", "_law_f", "_law_here", "_law_gaps", "_law_down", "_law_up", "_law_least", "_law_most", "_law_misses"], ["_law_pen_here", "_law_knots", "_law_share"]⟩
def d_law : DD := ⟨⟨("law", none), "law", "law", defArgs (top 83), defBody (top 83), defScope (top 83), [], []⟩, ["_law_script", "_law_pen_here", "_law_lap", "_law_low", "_law_high", "_law_share", "_law_knots", "_law_rows", "_law_misses", "_law_k", "_law_row_here", "_law_more", "_law_due", "_law_made", "_law_told", "_law_there", "_law_answers", "_law_many", "_law_answer"], ["_law_script"]⟩
def d_Share_init : DD := ⟨⟨("Share", some "__init__"), "__init__", "Share.__init__", defArgs (inC 28 0), defBody (inC 28 0), defScope (inC 28 0), [], []⟩, ["self", "places", "parts"], ["self", "places", "parts"]⟩
def d_Share_eq : DD := ⟨⟨("Share", some "__eq__"), "__eq__", "Share.__eq__", defArgs (inC 28 1), defBody (inC 28 1), defScope (inC 28 1), [], []⟩, ["self", "other"], ["self", "other"]⟩
def d_Told_init : DD := ⟨⟨("Told", some "__init__"), "__init__", "Told.__init__", defArgs (inC 31 0), defBody (inC 31 0), defScope (inC 31 0), [], []⟩, ["self", "function", "least", "most", "is_upper", "is_lower"], ["self", "function", "least", "most"]⟩
def d_Poly_init : DD := ⟨⟨("Poly", some "__init__"), "__init__", "Poly.__init__", defArgs (inC 38 0), defBody (inC 38 0), defScope (inC 38 0), [], []⟩, ["self", "numbers", "ratio"], ["self", "numbers"]⟩
def d_Poly_eq : DD := ⟨⟨("Poly", some "__eq__"), "__eq__", "Poly.__eq__", defArgs (inC 38 1), defBody (inC 38 1), defScope (inC 38 1), [], []⟩, ["self", "other"], ["self", "other"]⟩
def d_Poly_add : DD := ⟨⟨("Poly", some "__add__"), "__add__", "Poly.__add__", defArgs (inC 38 2), defBody (inC 38 2), defScope (inC 38 2), [], []⟩, ["self", "other"], ["self", "other"]⟩
def d_Poly_radd : DD := ⟨⟨("Poly", some "__radd__"), "__radd__", "Poly.__radd__", defArgs (inC 38 3), defBody (inC 38 3), defScope (inC 38 3), [], []⟩, ["self", "other"], ["self", "other"]⟩
def d_Poly_sub : DD := ⟨⟨("Poly", some "__sub__"), "__sub__", "Poly.__sub__", defArgs (inC 38 4), defBody (inC 38 4), defScope (inC 38 4), [], []⟩, ["self", "other"], ["self", "other"]⟩
def d_Poly_rsub : DD := ⟨⟨("Poly", some "__rsub__"), "__rsub__", "Poly.__rsub__", defArgs (inC 38 5), defBody (inC 38 5), defScope (inC 38 5), [], []⟩, ["self", "other"], ["self", "other"]⟩
def d_Poly_mul : DD := ⟨⟨("Poly", some "__mul__"), "__mul__", "Poly.__mul__", defArgs (inC 38 6), defBody (inC 38 6), defScope (inC 38 6), [], []⟩, ["self", "other"], ["self", "other"]⟩
def d_Poly_rmul : DD := ⟨⟨("Poly", some "__rmul__"), "__rmul__", "Poly.__rmul__", defArgs (inC 38 7), defBody (inC 38 7), defScope (inC 38 7), [], []⟩, ["self", "other"], ["self", "other"]⟩
def d_Poly_neg : DD := ⟨⟨("Poly", some "__neg__"), "__neg__", "Poly.__neg__", defArgs (inC 38 8), defBody (inC 38 8), defScope (inC 38 8), [], []⟩, ["self", "top", "bottom"], ["self"]⟩
def d_Poly_degree : DD := ⟨⟨("Poly", some "degree"), "degree", "Poly.degree", defArgs (inC 38 9), defBody (inC 38 9), defScope (inC 38 9), [], []⟩, ["self"], ["self"]⟩
def d_Poly_at : DD := ⟨⟨("Poly", some "at"), "at", "Poly.at", defArgs (inC 38 10), defBody (inC 38 10), defScope (inC 38 10), [], []⟩, ["self", "place", "top", "bottom", "under", "found", "power", "number"], ["self", "place"]⟩
def d_Poly_slope : DD := ⟨⟨("Poly", some "slope"), "slope", "Poly.slope", defArgs (inC 38 11), defBody (inC 38 11), defScope (inC 38 11), [], []⟩, ["self"], ["self"]⟩
def d_Poly_area : DD := ⟨⟨("Poly", some "area"), "area", "Poly.area", defArgs (inC 38 12), defBody (inC 38 12), defScope (inC 38 12), [], []⟩, ["self"], ["self"]⟩
def d_Poly_moved : DD := ⟨⟨("Poly", some "moved"), "moved", "Poly.moved", defArgs (inC 38 13), defBody (inC 38 13), defScope (inC 38 13), [], []⟩, ["self", "start", "step"], ["self", "start", "step"]⟩
def d_Broken_init : DD := ⟨⟨("Broken", some "__init__"), "__init__", "Broken.__init__", defArgs (inC 51 0), defBody (inC 51 0), defScope (inC 51 0), [], []⟩, ["self", "knots", "polys", "at", "one"], ["self", "knots", "polys", "at"]⟩
def d_Broken_eq : DD := ⟨⟨("Broken", some "__eq__"), "__eq__", "Broken.__eq__", defArgs (inC 51 1), defBody (inC 51 1), defScope (inC 51 1), [], []⟩, ["self", "other"], ["self", "other"]⟩
def d_Broken_spot : DD := ⟨⟨("Broken", some "spot"), "spot", "Broken.spot", defArgs (inC 51 2), defBody (inC 51 2), defScope (inC 51 2), [], []⟩, ["self", "x", "index", "knot"], ["self", "x"]⟩
def d_Broken_value : DD := ⟨⟨("Broken", some "value"), "value", "Broken.value", defArgs (inC 51 3), defBody (inC 51 3), defScope (inC 51 3), [], []⟩, ["self", "x", "index", "is_knot"], ["self", "x"]⟩
def d_Broken_limits : DD := ⟨⟨("Broken", some "limits"), "limits", "Broken.limits", defArgs (inC 51 4), defBody (inC 51 4), defScope (inC 51 4), [], []⟩, ["self", "x", "index", "is_knot", "found", "left"], ["self", "x"]⟩
def d_Broken_jumps : DD := ⟨⟨("Broken", some "jumps"), "jumps", "Broken.jumps", defArgs (inC 51 5), defBody (inC 51 5), defScope (inC 51 5), [], []⟩, ["self", "found", "knot", "number", "limit"], ["self"]⟩
def d_Broken_is_plain : DD := ⟨⟨("Broken", some "is_plain"), "is_plain", "Broken.is_plain", defArgs (inC 51 6), defBody (inC 51 6), defScope (inC 51 6), [], []⟩, ["self"], ["self"]⟩
def d_Broken_is_upper : DD := ⟨⟨("Broken", some "is_upper"), "is_upper", "Broken.is_upper", defArgs (inC 51 7), defBody (inC 51 7), defScope (inC 51 7), [], []⟩, ["self", "number", "limit"], ["self"]⟩
def d_Broken_is_lower : DD := ⟨⟨("Broken", some "is_lower"), "is_lower", "Broken.is_lower", defArgs (inC 51 8), defBody (inC 51 8), defScope (inC 51 8), [], []⟩, ["self", "number", "limit"], ["self"]⟩
def d_Broken_is_line : DD := ⟨⟨("Broken", some "is_line"), "is_line", "Broken.is_line", defArgs (inC 51 9), defBody (inC 51 9), defScope (inC 51 9), [], []⟩, ["self"], ["self"]⟩
def ds0 : List DD := [d_is_whole, d_is_ratio, d_divisor, d_lowest, d_told, d_parts, d_plus, d_minus, d_times, d_lower, d_less_or_same, d_bottom_of, d_is_row, d_is_row_shares, d_all_told, d_whole_of, d_are_parts, d_ascends, d_mean, d_bound_told, d_need_stretch, d_need_places, d_miss_of, d_missed, d_fits, d_without_zeros, d_poly_told, d_added_up, d_summed, d_power_number]
def ds1 : List DD := [d_multiplied, d_is_row_broken, d_are_ratios, d_are_knots, d_need_poly_row, d_L_pen, d_L_draw, d_L_pick, d_L_gcd, d_L_q, d_L_plus, d_L_minus, d_L_times, d_L_less, d_L_passed, d_L_ratio, d_L_interval, d_L_lower_one, d_L_sorted, d_L_poly, d_L_p_plus, d_L_p_at, d_L_f_piece, d_L_f_at, d_L_f_limits, d_L_made_function, d_L_f_of, d_L_drawn_knots, d_L_drawn_function, d_L_share_mean]
def ds2 : List DD := [d_L_drawn_share, d_L_made_told, d_L_passed_row, d_L_made_share, d_L_row, d_law, d_Share_init, d_Share_eq, d_Told_init, d_Poly_init, d_Poly_eq, d_Poly_add, d_Poly_radd, d_Poly_sub, d_Poly_rsub, d_Poly_mul, d_Poly_rmul, d_Poly_neg, d_Poly_degree, d_Poly_at, d_Poly_slope, d_Poly_area, d_Poly_moved, d_Broken_init, d_Broken_eq, d_Broken_spot, d_Broken_value, d_Broken_limits, d_Broken_jumps, d_Broken_is_plain]
def ds3 : List DD := [d_Broken_is_upper, d_Broken_is_lower, d_Broken_is_line, d_fits]
def dsT : List DD := ds0 ++ ds1 ++ ds2 ++ ds3
def L : LD := ⟨s, T, dsT⟩
theorem k_is_whole : defB s d_is_whole 1 1 b_is_whole (top 8) = true := by decide +kernel
theorem k_is_ratio : defB s d_is_ratio 1 1 b_is_ratio (top 9) = true := by decide +kernel
theorem k_divisor : defB s d_divisor 2 2 b_divisor (top 10) = true := by decide +kernel
theorem k_lowest : defB s d_lowest 2 3 b_lowest (top 11) = true := by decide +kernel
theorem k_told : defB s d_told 2 2 b_told (top 12) = true := by decide +kernel
theorem k_parts : defB s d_parts 1 1 b_parts (top 13) = true := by decide +kernel
theorem k_plus : defB s d_plus 2 4 b_plus (top 14) = true := by decide +kernel
theorem k_minus : defB s d_minus 2 4 b_minus (top 15) = true := by decide +kernel
theorem k_times : defB s d_times 2 4 b_times (top 16) = true := by decide +kernel
theorem k_lower : defB s d_lower 2 4 b_lower (top 17) = true := by decide +kernel
theorem k_less_or_same : defB s d_less_or_same 2 2 b_less_or_same (top 18) = true := by decide +kernel
theorem k_bottom_of : defB s d_bottom_of 1 4 b_bottom_of (top 19) = true := by decide +kernel
theorem k_is_row : defB s d_is_row 1 1 b_is_row (top 46) = true := by decide +kernel
theorem k_is_row_shares : defB s d_is_row_shares 1 2 b_is_row_shares (top 22) = true := by decide +kernel
theorem k_all_told : defB s d_all_told 1 2 b_all_told (top 24) = true := by decide +kernel
theorem k_whole_of : defB s d_whole_of 1 3 b_whole_of (top 25) = true := by decide +kernel
theorem k_are_parts : defB s d_are_parts 2 3 b_are_parts (top 26) = true := by decide +kernel
theorem k_ascends : defB s d_ascends 1 3 b_ascends (top 27) = true := by decide +kernel
theorem k_mean : defB s d_mean 2 4 b_mean (top 29) = true := by decide +kernel
theorem k_bound_told : defB s d_bound_told 3 3 b_bound_told (top 30) = true := by decide +kernel
theorem k_need_stretch : defB s d_need_stretch 1 4 b_need_stretch (top 32) = true := by decide +kernel
theorem k_need_places : defB s d_need_places 2 3 b_need_places (top 33) = true := by decide +kernel
theorem k_miss_of : defB s d_miss_of 2 8 b_miss_of (top 34) = true := by decide +kernel
theorem k_missed : defB s d_missed 2 3 b_missed (top 35) = true := by decide +kernel
theorem k_fits : defB s d_fits 3 4 b_fits (top 36) = true := by decide +kernel
theorem k_without_zeros : defB s d_without_zeros 1 4 b_without_zeros (top 39) = true := by decide +kernel
theorem k_poly_told : defB s d_poly_told 1 1 b_poly_told (top 40) = true := by decide +kernel
theorem k_added_up : defB s d_added_up 1 3 b_added_up (top 41) = true := by decide +kernel
theorem k_summed : defB s d_summed 3 8 b_summed (top 42) = true := by decide +kernel
theorem k_power_number : defB s d_power_number 3 6 b_power_number (top 43) = true := by decide +kernel
theorem k_multiplied : defB s d_multiplied 2 3 b_multiplied (top 44) = true := by decide +kernel
theorem k_is_row_broken : defB s d_is_row_broken 1 1 b_is_row_broken (top 46) = true := by decide +kernel
theorem k_are_ratios : defB s d_are_ratios 2 3 b_are_ratios (top 48) = true := by decide +kernel
theorem k_are_knots : defB s d_are_knots 1 3 b_are_knots (top 49) = true := by decide +kernel
theorem k_need_poly_row : defB s d_need_poly_row 2 3 b_need_poly_row (top 50) = true := by decide +kernel
theorem k_L_pen : defB s d_L_pen 1 3 penB (top 53) = true := by decide +kernel
theorem k_L_draw : defB s d_L_draw 2 5 drawB (top 54) = true := by decide +kernel
theorem k_L_pick : defB s d_L_pick 2 2 b_L_pick (top 55) = true := by decide +kernel
theorem k_L_gcd : defB s d_L_gcd 2 3 b_L_gcd (top 56) = true := by decide +kernel
theorem k_L_q : defB s d_L_q 2 3 b_L_q (top 57) = true := by decide +kernel
theorem k_L_plus : defB s d_L_plus 2 2 b_L_plus (top 58) = true := by decide +kernel
theorem k_L_minus : defB s d_L_minus 2 2 b_L_minus (top 59) = true := by decide +kernel
theorem k_L_times : defB s d_L_times 2 2 b_L_times (top 60) = true := by decide +kernel
theorem k_L_less : defB s d_L_less 2 2 b_L_less (top 61) = true := by decide +kernel
theorem k_L_passed : defB s d_L_passed 2 3 b_L_passed (top 62) = true := by decide +kernel
theorem k_L_ratio : defB s d_L_ratio 2 3 b_L_ratio (top 63) = true := by decide +kernel
theorem k_L_interval : defB s d_L_interval 2 4 b_L_interval (top 64) = true := by decide +kernel
theorem k_L_lower_one : defB s d_L_lower_one 1 3 b_L_lower_one (top 65) = true := by decide +kernel
theorem k_L_sorted : defB s d_L_sorted 1 6 b_L_sorted (top 66) = true := by decide +kernel
theorem k_L_poly : defB s d_L_poly 1 3 b_L_poly (top 67) = true := by decide +kernel
theorem k_L_p_plus : defB s d_L_p_plus 2 7 b_L_p_plus (top 68) = true := by decide +kernel
theorem k_L_p_at : defB s d_L_p_at 2 4 b_L_p_at (top 69) = true := by decide +kernel
theorem k_L_f_piece : defB s d_L_f_piece 2 3 b_L_f_piece (top 70) = true := by decide +kernel
theorem k_L_f_at : defB s d_L_f_at 2 3 b_L_f_at (top 71) = true := by decide +kernel
theorem k_L_f_limits : defB s d_L_f_limits 2 3 b_L_f_limits (top 72) = true := by decide +kernel
theorem k_L_made_function : defB s d_L_made_function 2 6 b_L_made_function (top 73) = true := by decide +kernel
theorem k_L_f_of : defB s d_L_f_of 1 2 b_L_f_of (top 74) = true := by decide +kernel
theorem k_L_drawn_knots : defB s d_L_drawn_knots 4 7 b_L_drawn_knots (top 75) = true := by decide +kernel
theorem k_L_drawn_function : defB s d_L_drawn_function 5 14 b_L_drawn_function (top 76) = true := by decide +kernel
theorem k_L_share_mean : defB s d_L_share_mean 2 5 b_L_share_mean (top 77) = true := by decide +kernel
theorem k_L_drawn_share : defB s d_L_drawn_share 4 10 b_L_drawn_share (top 78) = true := by decide +kernel
theorem k_L_made_told : defB s d_L_made_told 2 4 b_L_made_told (top 79) = true := by decide +kernel
theorem k_L_passed_row : defB s d_L_passed_row 2 4 b_L_passed_row (top 80) = true := by decide +kernel
theorem k_L_made_share : defB s d_L_made_share 2 2 b_L_made_share (top 81) = true := by decide +kernel
theorem k_L_row : defB s d_L_row 3 12 b_L_row (top 82) = true := by decide +kernel
theorem k_law : defB s d_law 1 19 b_law (top 83) = true := by decide +kernel
theorem k_Share_init : defB s d_Share_init 3 3 b_Share_init (inC 28 0) = true := by decide +kernel
theorem k_Share_eq : defB s d_Share_eq 2 2 b_Share_eq (inC 28 1) = true := by decide +kernel
theorem k_Told_init : defB s d_Told_init 4 6 b_Told_init (inC 31 0) = true := by decide +kernel
theorem k_Poly_init : defB s d_Poly_init 2 3 b_Poly_init (inC 38 0) = true := by decide +kernel
theorem k_Poly_eq : defB s d_Poly_eq 2 2 b_Poly_eq (inC 38 1) = true := by decide +kernel
theorem k_Poly_add : defB s d_Poly_add 2 2 b_Poly_add (inC 38 2) = true := by decide +kernel
theorem k_Poly_radd : defB s d_Poly_radd 2 2 b_Poly_radd (inC 38 3) = true := by decide +kernel
theorem k_Poly_sub : defB s d_Poly_sub 2 2 b_Poly_sub (inC 38 4) = true := by decide +kernel
theorem k_Poly_rsub : defB s d_Poly_rsub 2 2 b_Poly_rsub (inC 38 5) = true := by decide +kernel
theorem k_Poly_mul : defB s d_Poly_mul 2 2 b_Poly_mul (inC 38 6) = true := by decide +kernel
theorem k_Poly_rmul : defB s d_Poly_rmul 2 2 b_Poly_rmul (inC 38 7) = true := by decide +kernel
theorem k_Poly_neg : defB s d_Poly_neg 1 3 b_Poly_neg (inC 38 8) = true := by decide +kernel
theorem k_Poly_degree : defB s d_Poly_degree 1 1 b_Poly_degree (inC 38 9) = true := by decide +kernel
theorem k_Poly_at : defB s d_Poly_at 2 8 b_Poly_at (inC 38 10) = true := by decide +kernel
theorem k_Poly_slope : defB s d_Poly_slope 1 1 b_Poly_slope (inC 38 11) = true := by decide +kernel
theorem k_Poly_area : defB s d_Poly_area 1 1 b_Poly_area (inC 38 12) = true := by decide +kernel
theorem k_Poly_moved : defB s d_Poly_moved 3 3 b_Poly_moved (inC 38 13) = true := by decide +kernel
theorem k_Broken_init : defB s d_Broken_init 4 5 b_Broken_init (inC 51 0) = true := by decide +kernel
theorem k_Broken_eq : defB s d_Broken_eq 2 2 b_Broken_eq (inC 51 1) = true := by decide +kernel
theorem k_Broken_spot : defB s d_Broken_spot 2 4 b_Broken_spot (inC 51 2) = true := by decide +kernel
theorem k_Broken_value : defB s d_Broken_value 2 4 b_Broken_value (inC 51 3) = true := by decide +kernel
theorem k_Broken_limits : defB s d_Broken_limits 2 6 b_Broken_limits (inC 51 4) = true := by decide +kernel
theorem k_Broken_jumps : defB s d_Broken_jumps 1 5 b_Broken_jumps (inC 51 5) = true := by decide +kernel
theorem k_Broken_is_plain : defB s d_Broken_is_plain 1 1 b_Broken_is_plain (inC 51 6) = true := by decide +kernel
theorem k_Broken_is_upper : defB s d_Broken_is_upper 1 3 b_Broken_is_upper (inC 51 7) = true := by decide +kernel
theorem k_Broken_is_lower : defB s d_Broken_is_lower 1 3 b_Broken_is_lower (inC 51 8) = true := by decide +kernel
theorem k_Broken_is_line : defB s d_Broken_is_line 1 1 b_Broken_is_line (inC 51 9) = true := by decide +kernel
theorem tx : chkTx L = true := by decide +kernel
end G
end

section
set_option Elab.async false
set_option linter.all false
set_option maxRecDepth 100000
set_option maxHeartbeats 4000000
namespace G
open M PySem L2
section
variable {w : World} {K : PySem.W.Frag} {mg : Str → Option Value} {base : Heap}
theorem o_is_whole (c : SaysM L K) : DefOk (gaM L R0.prog w K mg base) s (fnA L K i_is_whole) 1 1 b_is_whole "" := defOk c (n := i_is_whole) rfl k_is_whole
theorem o_is_ratio (c : SaysM L K) : DefOk (gaM L R0.prog w K mg base) s (fnA L K i_is_ratio) 1 1 b_is_ratio "" := defOk c (n := i_is_ratio) rfl k_is_ratio
theorem o_divisor (c : SaysM L K) : DefOk (gaM L R0.prog w K mg base) s (fnA L K i_divisor) 2 2 b_divisor "" := defOk c (n := i_divisor) rfl k_divisor
theorem o_lowest (c : SaysM L K) : DefOk (gaM L R0.prog w K mg base) s (fnA L K i_lowest) 2 3 b_lowest "" := defOk c (n := i_lowest) rfl k_lowest
theorem o_told (c : SaysM L K) : DefOk (gaM L R0.prog w K mg base) s (fnA L K i_told) 2 2 b_told "" := defOk c (n := i_told) rfl k_told
theorem o_parts (c : SaysM L K) : DefOk (gaM L R0.prog w K mg base) s (fnA L K i_parts) 1 1 b_parts "" := defOk c (n := i_parts) rfl k_parts
theorem o_plus (c : SaysM L K) : DefOk (gaM L R0.prog w K mg base) s (fnA L K i_plus) 2 4 b_plus "" := defOk c (n := i_plus) rfl k_plus
theorem o_minus (c : SaysM L K) : DefOk (gaM L R0.prog w K mg base) s (fnA L K i_minus) 2 4 b_minus "" := defOk c (n := i_minus) rfl k_minus
theorem o_times (c : SaysM L K) : DefOk (gaM L R0.prog w K mg base) s (fnA L K i_times) 2 4 b_times "" := defOk c (n := i_times) rfl k_times
theorem o_lower (c : SaysM L K) : DefOk (gaM L R0.prog w K mg base) s (fnA L K i_lower) 2 4 b_lower "" := defOk c (n := i_lower) rfl k_lower
theorem o_less_or_same (c : SaysM L K) : DefOk (gaM L R0.prog w K mg base) s (fnA L K i_less_or_same) 2 2 b_less_or_same "" := defOk c (n := i_less_or_same) rfl k_less_or_same
theorem o_bottom_of (c : SaysM L K) : DefOk (gaM L R0.prog w K mg base) s (fnA L K i_bottom_of) 1 4 b_bottom_of "" := defOk c (n := i_bottom_of) rfl k_bottom_of
theorem o_is_row (c : SaysM L K) : DefOk (gaM L R0.prog w K mg base) s (fnA L K i_is_row) 1 1 b_is_row "" := defOk c (n := i_is_row) rfl k_is_row
theorem o_is_row_shares (c : SaysM L K) : DefOk (gaM L R0.prog w K mg base) s (fnA L K i_is_row_shares) 1 2 b_is_row_shares "" := defOk c (n := i_is_row_shares) rfl k_is_row_shares
theorem o_all_told (c : SaysM L K) : DefOk (gaM L R0.prog w K mg base) s (fnA L K i_all_told) 1 2 b_all_told "" := defOk c (n := i_all_told) rfl k_all_told
theorem o_whole_of (c : SaysM L K) : DefOk (gaM L R0.prog w K mg base) s (fnA L K i_whole_of) 1 3 b_whole_of "" := defOk c (n := i_whole_of) rfl k_whole_of
theorem o_are_parts (c : SaysM L K) : DefOk (gaM L R0.prog w K mg base) s (fnA L K i_are_parts) 2 3 b_are_parts "" := defOk c (n := i_are_parts) rfl k_are_parts
theorem o_ascends (c : SaysM L K) : DefOk (gaM L R0.prog w K mg base) s (fnA L K i_ascends) 1 3 b_ascends "" := defOk c (n := i_ascends) rfl k_ascends
theorem o_mean (c : SaysM L K) : DefOk (gaM L R0.prog w K mg base) s (fnA L K i_mean) 2 4 b_mean "" := defOk c (n := i_mean) rfl k_mean
theorem o_bound_told (c : SaysM L K) : DefOk (gaM L R0.prog w K mg base) s (fnA L K i_bound_told) 3 3 b_bound_told "" := defOk c (n := i_bound_told) rfl k_bound_told
theorem o_need_stretch (c : SaysM L K) : DefOk (gaM L R0.prog w K mg base) s (fnA L K i_need_stretch) 1 4 b_need_stretch "" := defOk c (n := i_need_stretch) rfl k_need_stretch
theorem o_need_places (c : SaysM L K) : DefOk (gaM L R0.prog w K mg base) s (fnA L K i_need_places) 2 3 b_need_places "" := defOk c (n := i_need_places) rfl k_need_places
theorem o_miss_of (c : SaysM L K) : DefOk (gaM L R0.prog w K mg base) s (fnA L K i_miss_of) 2 8 b_miss_of "" := defOk c (n := i_miss_of) rfl k_miss_of
theorem o_missed (c : SaysM L K) : DefOk (gaM L R0.prog w K mg base) s (fnA L K i_missed) 2 3 b_missed "" := defOk c (n := i_missed) rfl k_missed
theorem o_fits (c : SaysM L K) : DefOk (gaM L R0.prog w K mg base) s (fnA L K i_fits) 3 4 b_fits "bits" := defOk3 c (n := i_fits) rfl k_fits
theorem o_without_zeros (c : SaysM L K) : DefOk (gaM L R0.prog w K mg base) s (fnA L K i_without_zeros) 1 4 b_without_zeros "" := defOk c (n := i_without_zeros) rfl k_without_zeros
theorem o_poly_told (c : SaysM L K) : DefOk (gaM L R0.prog w K mg base) s (fnA L K i_poly_told) 1 1 b_poly_told "" := defOk c (n := i_poly_told) rfl k_poly_told
theorem o_added_up (c : SaysM L K) : DefOk (gaM L R0.prog w K mg base) s (fnA L K i_added_up) 1 3 b_added_up "" := defOk c (n := i_added_up) rfl k_added_up
theorem o_summed (c : SaysM L K) : DefOk (gaM L R0.prog w K mg base) s (fnA L K i_summed) 3 8 b_summed "" := defOk c (n := i_summed) rfl k_summed
theorem o_power_number (c : SaysM L K) : DefOk (gaM L R0.prog w K mg base) s (fnA L K i_power_number) 3 6 b_power_number "" := defOk c (n := i_power_number) rfl k_power_number
theorem o_multiplied (c : SaysM L K) : DefOk (gaM L R0.prog w K mg base) s (fnA L K i_multiplied) 2 3 b_multiplied "" := defOk c (n := i_multiplied) rfl k_multiplied
theorem o_is_row_broken (c : SaysM L K) : DefOk (gaM L R0.prog w K mg base) s (fnA L K i_is_row_broken) 1 1 b_is_row_broken "" := defOk c (n := i_is_row_broken) rfl k_is_row_broken
theorem o_are_ratios (c : SaysM L K) : DefOk (gaM L R0.prog w K mg base) s (fnA L K i_are_ratios) 2 3 b_are_ratios "" := defOk c (n := i_are_ratios) rfl k_are_ratios
theorem o_are_knots (c : SaysM L K) : DefOk (gaM L R0.prog w K mg base) s (fnA L K i_are_knots) 1 3 b_are_knots "" := defOk c (n := i_are_knots) rfl k_are_knots
theorem o_need_poly_row (c : SaysM L K) : DefOk (gaM L R0.prog w K mg base) s (fnA L K i_need_poly_row) 2 3 b_need_poly_row "" := defOk c (n := i_need_poly_row) rfl k_need_poly_row
theorem o_L_pen (c : SaysM L K) : DefOk (gaM L R0.prog w K mg base) s (fnA L K i_L_pen) 1 3 penB "" := defOk c (n := i_L_pen) rfl k_L_pen
theorem o_L_draw (c : SaysM L K) : DefOk (gaM L R0.prog w K mg base) s (fnA L K i_L_draw) 2 5 drawB "" := defOk c (n := i_L_draw) rfl k_L_draw
theorem o_L_pick (c : SaysM L K) : DefOk (gaM L R0.prog w K mg base) s (fnA L K i_L_pick) 2 2 b_L_pick "" := defOk c (n := i_L_pick) rfl k_L_pick
theorem o_L_gcd (c : SaysM L K) : DefOk (gaM L R0.prog w K mg base) s (fnA L K i_L_gcd) 2 3 b_L_gcd "" := defOk c (n := i_L_gcd) rfl k_L_gcd
theorem o_L_q (c : SaysM L K) : DefOk (gaM L R0.prog w K mg base) s (fnA L K i_L_q) 2 3 b_L_q "" := defOk c (n := i_L_q) rfl k_L_q
theorem o_L_plus (c : SaysM L K) : DefOk (gaM L R0.prog w K mg base) s (fnA L K i_L_plus) 2 2 b_L_plus "" := defOk c (n := i_L_plus) rfl k_L_plus
theorem o_L_minus (c : SaysM L K) : DefOk (gaM L R0.prog w K mg base) s (fnA L K i_L_minus) 2 2 b_L_minus "" := defOk c (n := i_L_minus) rfl k_L_minus
theorem o_L_times (c : SaysM L K) : DefOk (gaM L R0.prog w K mg base) s (fnA L K i_L_times) 2 2 b_L_times "" := defOk c (n := i_L_times) rfl k_L_times
theorem o_L_less (c : SaysM L K) : DefOk (gaM L R0.prog w K mg base) s (fnA L K i_L_less) 2 2 b_L_less "" := defOk c (n := i_L_less) rfl k_L_less
theorem o_L_passed (c : SaysM L K) : DefOk (gaM L R0.prog w K mg base) s (fnA L K i_L_passed) 2 3 b_L_passed "" := defOk c (n := i_L_passed) rfl k_L_passed
theorem o_L_ratio (c : SaysM L K) : DefOk (gaM L R0.prog w K mg base) s (fnA L K i_L_ratio) 2 3 b_L_ratio "" := defOk c (n := i_L_ratio) rfl k_L_ratio
theorem o_L_interval (c : SaysM L K) : DefOk (gaM L R0.prog w K mg base) s (fnA L K i_L_interval) 2 4 b_L_interval "" := defOk c (n := i_L_interval) rfl k_L_interval
theorem o_L_lower_one (c : SaysM L K) : DefOk (gaM L R0.prog w K mg base) s (fnA L K i_L_lower_one) 1 3 b_L_lower_one "" := defOk c (n := i_L_lower_one) rfl k_L_lower_one
theorem o_L_sorted (c : SaysM L K) : DefOk (gaM L R0.prog w K mg base) s (fnA L K i_L_sorted) 1 6 b_L_sorted "" := defOk c (n := i_L_sorted) rfl k_L_sorted
theorem o_L_poly (c : SaysM L K) : DefOk (gaM L R0.prog w K mg base) s (fnA L K i_L_poly) 1 3 b_L_poly "" := defOk c (n := i_L_poly) rfl k_L_poly
theorem o_L_p_plus (c : SaysM L K) : DefOk (gaM L R0.prog w K mg base) s (fnA L K i_L_p_plus) 2 7 b_L_p_plus "" := defOk c (n := i_L_p_plus) rfl k_L_p_plus
theorem o_L_p_at (c : SaysM L K) : DefOk (gaM L R0.prog w K mg base) s (fnA L K i_L_p_at) 2 4 b_L_p_at "" := defOk c (n := i_L_p_at) rfl k_L_p_at
theorem o_L_f_piece (c : SaysM L K) : DefOk (gaM L R0.prog w K mg base) s (fnA L K i_L_f_piece) 2 3 b_L_f_piece "" := defOk c (n := i_L_f_piece) rfl k_L_f_piece
theorem o_L_f_at (c : SaysM L K) : DefOk (gaM L R0.prog w K mg base) s (fnA L K i_L_f_at) 2 3 b_L_f_at "" := defOk c (n := i_L_f_at) rfl k_L_f_at
theorem o_L_f_limits (c : SaysM L K) : DefOk (gaM L R0.prog w K mg base) s (fnA L K i_L_f_limits) 2 3 b_L_f_limits "" := defOk c (n := i_L_f_limits) rfl k_L_f_limits
theorem o_L_made_function (c : SaysM L K) : DefOk (gaM L R0.prog w K mg base) s (fnA L K i_L_made_function) 2 6 b_L_made_function "" := defOk c (n := i_L_made_function) rfl k_L_made_function
theorem o_L_f_of (c : SaysM L K) : DefOk (gaM L R0.prog w K mg base) s (fnA L K i_L_f_of) 1 2 b_L_f_of "" := defOk c (n := i_L_f_of) rfl k_L_f_of
theorem o_L_drawn_knots (c : SaysM L K) : DefOk (gaM L R0.prog w K mg base) s (fnA L K i_L_drawn_knots) 4 7 b_L_drawn_knots "" := defOk c (n := i_L_drawn_knots) rfl k_L_drawn_knots
theorem o_L_drawn_function (c : SaysM L K) : DefOk (gaM L R0.prog w K mg base) s (fnA L K i_L_drawn_function) 5 14 b_L_drawn_function "" := defOk c (n := i_L_drawn_function) rfl k_L_drawn_function
theorem o_L_share_mean (c : SaysM L K) : DefOk (gaM L R0.prog w K mg base) s (fnA L K i_L_share_mean) 2 5 b_L_share_mean "" := defOk c (n := i_L_share_mean) rfl k_L_share_mean
theorem o_L_drawn_share (c : SaysM L K) : DefOk (gaM L R0.prog w K mg base) s (fnA L K i_L_drawn_share) 4 10 b_L_drawn_share "" := defOk c (n := i_L_drawn_share) rfl k_L_drawn_share
theorem o_L_made_told (c : SaysM L K) : DefOk (gaM L R0.prog w K mg base) s (fnA L K i_L_made_told) 2 4 b_L_made_told "" := defOk c (n := i_L_made_told) rfl k_L_made_told
theorem o_L_passed_row (c : SaysM L K) : DefOk (gaM L R0.prog w K mg base) s (fnA L K i_L_passed_row) 2 4 b_L_passed_row "" := defOk c (n := i_L_passed_row) rfl k_L_passed_row
theorem o_L_made_share (c : SaysM L K) : DefOk (gaM L R0.prog w K mg base) s (fnA L K i_L_made_share) 2 2 b_L_made_share "" := defOk c (n := i_L_made_share) rfl k_L_made_share
theorem o_L_row (c : SaysM L K) : DefOk (gaM L R0.prog w K mg base) s (fnA L K i_L_row) 3 12 b_L_row "" := defOk c (n := i_L_row) rfl k_L_row
theorem o_law (c : SaysM L K) : DefOk (gaM L R0.prog w K mg base) s (fnA L K i_law) 1 19 b_law "" := defOk c (n := i_law) rfl k_law
theorem o_Share_init (c : SaysM L K) : DefOk (gaM L R0.prog w K mg base) s (fnA L K i_Share_init) 3 3 b_Share_init "" := defOk c (n := i_Share_init) rfl k_Share_init
theorem o_Share_eq (c : SaysM L K) : DefOk (gaM L R0.prog w K mg base) s (fnA L K i_Share_eq) 2 2 b_Share_eq "" := defOk c (n := i_Share_eq) rfl k_Share_eq
theorem o_Told_init (c : SaysM L K) : DefOk (gaM L R0.prog w K mg base) s (fnA L K i_Told_init) 4 6 b_Told_init "" := defOk c (n := i_Told_init) rfl k_Told_init
theorem o_Poly_init (c : SaysM L K) : DefOk (gaM L R0.prog w K mg base) s (fnA L K i_Poly_init) 2 3 b_Poly_init "" := defOk c (n := i_Poly_init) rfl k_Poly_init
theorem o_Poly_eq (c : SaysM L K) : DefOk (gaM L R0.prog w K mg base) s (fnA L K i_Poly_eq) 2 2 b_Poly_eq "" := defOk c (n := i_Poly_eq) rfl k_Poly_eq
theorem o_Poly_add (c : SaysM L K) : DefOk (gaM L R0.prog w K mg base) s (fnA L K i_Poly_add) 2 2 b_Poly_add "" := defOk c (n := i_Poly_add) rfl k_Poly_add
theorem o_Poly_radd (c : SaysM L K) : DefOk (gaM L R0.prog w K mg base) s (fnA L K i_Poly_radd) 2 2 b_Poly_radd "" := defOk c (n := i_Poly_radd) rfl k_Poly_radd
theorem o_Poly_sub (c : SaysM L K) : DefOk (gaM L R0.prog w K mg base) s (fnA L K i_Poly_sub) 2 2 b_Poly_sub "" := defOk c (n := i_Poly_sub) rfl k_Poly_sub
theorem o_Poly_rsub (c : SaysM L K) : DefOk (gaM L R0.prog w K mg base) s (fnA L K i_Poly_rsub) 2 2 b_Poly_rsub "" := defOk c (n := i_Poly_rsub) rfl k_Poly_rsub
theorem o_Poly_mul (c : SaysM L K) : DefOk (gaM L R0.prog w K mg base) s (fnA L K i_Poly_mul) 2 2 b_Poly_mul "" := defOk c (n := i_Poly_mul) rfl k_Poly_mul
theorem o_Poly_rmul (c : SaysM L K) : DefOk (gaM L R0.prog w K mg base) s (fnA L K i_Poly_rmul) 2 2 b_Poly_rmul "" := defOk c (n := i_Poly_rmul) rfl k_Poly_rmul
theorem o_Poly_neg (c : SaysM L K) : DefOk (gaM L R0.prog w K mg base) s (fnA L K i_Poly_neg) 1 3 b_Poly_neg "" := defOk c (n := i_Poly_neg) rfl k_Poly_neg
theorem o_Poly_degree (c : SaysM L K) : DefOk (gaM L R0.prog w K mg base) s (fnA L K i_Poly_degree) 1 1 b_Poly_degree "" := defOk c (n := i_Poly_degree) rfl k_Poly_degree
theorem o_Poly_at (c : SaysM L K) : DefOk (gaM L R0.prog w K mg base) s (fnA L K i_Poly_at) 2 8 b_Poly_at "" := defOk c (n := i_Poly_at) rfl k_Poly_at
theorem o_Poly_slope (c : SaysM L K) : DefOk (gaM L R0.prog w K mg base) s (fnA L K i_Poly_slope) 1 1 b_Poly_slope "" := defOk c (n := i_Poly_slope) rfl k_Poly_slope
theorem o_Poly_area (c : SaysM L K) : DefOk (gaM L R0.prog w K mg base) s (fnA L K i_Poly_area) 1 1 b_Poly_area "" := defOk c (n := i_Poly_area) rfl k_Poly_area
theorem o_Poly_moved (c : SaysM L K) : DefOk (gaM L R0.prog w K mg base) s (fnA L K i_Poly_moved) 3 3 b_Poly_moved "" := defOk c (n := i_Poly_moved) rfl k_Poly_moved
theorem o_Broken_init (c : SaysM L K) : DefOk (gaM L R0.prog w K mg base) s (fnA L K i_Broken_init) 4 5 b_Broken_init "" := defOk c (n := i_Broken_init) rfl k_Broken_init
theorem o_Broken_eq (c : SaysM L K) : DefOk (gaM L R0.prog w K mg base) s (fnA L K i_Broken_eq) 2 2 b_Broken_eq "" := defOk c (n := i_Broken_eq) rfl k_Broken_eq
theorem o_Broken_spot (c : SaysM L K) : DefOk (gaM L R0.prog w K mg base) s (fnA L K i_Broken_spot) 2 4 b_Broken_spot "" := defOk c (n := i_Broken_spot) rfl k_Broken_spot
theorem o_Broken_value (c : SaysM L K) : DefOk (gaM L R0.prog w K mg base) s (fnA L K i_Broken_value) 2 4 b_Broken_value "" := defOk c (n := i_Broken_value) rfl k_Broken_value
theorem o_Broken_limits (c : SaysM L K) : DefOk (gaM L R0.prog w K mg base) s (fnA L K i_Broken_limits) 2 6 b_Broken_limits "" := defOk c (n := i_Broken_limits) rfl k_Broken_limits
theorem o_Broken_jumps (c : SaysM L K) : DefOk (gaM L R0.prog w K mg base) s (fnA L K i_Broken_jumps) 1 5 b_Broken_jumps "" := defOk c (n := i_Broken_jumps) rfl k_Broken_jumps
theorem o_Broken_is_plain (c : SaysM L K) : DefOk (gaM L R0.prog w K mg base) s (fnA L K i_Broken_is_plain) 1 1 b_Broken_is_plain "" := defOk c (n := i_Broken_is_plain) rfl k_Broken_is_plain
theorem o_Broken_is_upper (c : SaysM L K) : DefOk (gaM L R0.prog w K mg base) s (fnA L K i_Broken_is_upper) 1 3 b_Broken_is_upper "" := defOk c (n := i_Broken_is_upper) rfl k_Broken_is_upper
theorem o_Broken_is_lower (c : SaysM L K) : DefOk (gaM L R0.prog w K mg base) s (fnA L K i_Broken_is_lower) 1 3 b_Broken_is_lower "" := defOk c (n := i_Broken_is_lower) rfl k_Broken_is_lower
theorem o_Broken_is_line (c : SaysM L K) : DefOk (gaM L R0.prog w K mg base) s (fnA L K i_Broken_is_line) 1 1 b_Broken_is_line "" := defOk c (n := i_Broken_is_line) rfl k_Broken_is_line
theorem o_fits_d (c : SaysM L K) : DefOk (gaM L R0.prog w K mg base) s (fnA L K i_fits_d) 2 4 (.cons (.set 2 .non) b_fits) "" := defOk2 c (n := i_fits_d) rfl k_fits
theorem kwO : kwB T s.kwn = true := by decide +kernel
theorem allOk (c : SaysM L K) : ∀ n np ns body, T.defs[n]? = some (.fn np ns body) → DefOk (gaM L R0.prog w K mg base) s (fnA L K n) np ns body (s.kwn.getD n "") := by
  intro n
  match n with
  | 0 => intro np ns body e; cases (show some (Def.fn 1 1 b_is_whole) = some (Def.fn np ns body) from e); exact o_is_whole c
  | 1 => intro np ns body e; cases (show some (Def.fn 1 1 b_is_ratio) = some (Def.fn np ns body) from e); exact o_is_ratio c
  | 2 => intro np ns body e; cases (show some (Def.fn 2 2 b_divisor) = some (Def.fn np ns body) from e); exact o_divisor c
  | 3 => intro np ns body e; cases (show some (Def.fn 2 3 b_lowest) = some (Def.fn np ns body) from e); exact o_lowest c
  | 4 => intro np ns body e; cases (show some (Def.fn 2 2 b_told) = some (Def.fn np ns body) from e); exact o_told c
  | 5 => intro np ns body e; cases (show some (Def.fn 1 1 b_parts) = some (Def.fn np ns body) from e); exact o_parts c
  | 6 => intro np ns body e; cases (show some (Def.fn 2 4 b_plus) = some (Def.fn np ns body) from e); exact o_plus c
  | 7 => intro np ns body e; cases (show some (Def.fn 2 4 b_minus) = some (Def.fn np ns body) from e); exact o_minus c
  | 8 => intro np ns body e; cases (show some (Def.fn 2 4 b_times) = some (Def.fn np ns body) from e); exact o_times c
  | 9 => intro np ns body e; cases (show some (Def.fn 2 4 b_lower) = some (Def.fn np ns body) from e); exact o_lower c
  | 10 => intro np ns body e; cases (show some (Def.fn 2 2 b_less_or_same) = some (Def.fn np ns body) from e); exact o_less_or_same c
  | 11 => intro np ns body e; cases (show some (Def.fn 1 4 b_bottom_of) = some (Def.fn np ns body) from e); exact o_bottom_of c
  | 12 => intro np ns body e; cases (show some (Def.fn 1 1 b_is_row) = some (Def.fn np ns body) from e); exact o_is_row c
  | 13 => intro np ns body e; cases (show some (Def.fn 1 2 b_is_row_shares) = some (Def.fn np ns body) from e); exact o_is_row_shares c
  | 14 => intro np ns body e; cases (show some (Def.fn 1 2 b_all_told) = some (Def.fn np ns body) from e); exact o_all_told c
  | 15 => intro np ns body e; cases (show some (Def.fn 1 3 b_whole_of) = some (Def.fn np ns body) from e); exact o_whole_of c
  | 16 => intro np ns body e; cases (show some (Def.fn 2 3 b_are_parts) = some (Def.fn np ns body) from e); exact o_are_parts c
  | 17 => intro np ns body e; cases (show some (Def.fn 1 3 b_ascends) = some (Def.fn np ns body) from e); exact o_ascends c
  | 18 => intro np ns body e; cases (show some (Def.fn 2 4 b_mean) = some (Def.fn np ns body) from e); exact o_mean c
  | 19 => intro np ns body e; cases (show some (Def.fn 3 3 b_bound_told) = some (Def.fn np ns body) from e); exact o_bound_told c
  | 20 => intro np ns body e; cases (show some (Def.fn 1 4 b_need_stretch) = some (Def.fn np ns body) from e); exact o_need_stretch c
  | 21 => intro np ns body e; cases (show some (Def.fn 2 3 b_need_places) = some (Def.fn np ns body) from e); exact o_need_places c
  | 22 => intro np ns body e; cases (show some (Def.fn 2 8 b_miss_of) = some (Def.fn np ns body) from e); exact o_miss_of c
  | 23 => intro np ns body e; cases (show some (Def.fn 2 3 b_missed) = some (Def.fn np ns body) from e); exact o_missed c
  | 24 => intro np ns body e; cases (show some (Def.fn 3 4 b_fits) = some (Def.fn np ns body) from e); exact o_fits c
  | 25 => intro np ns body e; cases (show some (Def.fn 1 4 b_without_zeros) = some (Def.fn np ns body) from e); exact o_without_zeros c
  | 26 => intro np ns body e; cases (show some (Def.fn 1 1 b_poly_told) = some (Def.fn np ns body) from e); exact o_poly_told c
  | 27 => intro np ns body e; cases (show some (Def.fn 1 3 b_added_up) = some (Def.fn np ns body) from e); exact o_added_up c
  | 28 => intro np ns body e; cases (show some (Def.fn 3 8 b_summed) = some (Def.fn np ns body) from e); exact o_summed c
  | 29 => intro np ns body e; cases (show some (Def.fn 3 6 b_power_number) = some (Def.fn np ns body) from e); exact o_power_number c
  | 30 => intro np ns body e; cases (show some (Def.fn 2 3 b_multiplied) = some (Def.fn np ns body) from e); exact o_multiplied c
  | 31 => intro np ns body e; cases (show some (Def.fn 1 1 b_is_row_broken) = some (Def.fn np ns body) from e); exact o_is_row_broken c
  | 32 => intro np ns body e; cases (show some (Def.fn 2 3 b_are_ratios) = some (Def.fn np ns body) from e); exact o_are_ratios c
  | 33 => intro np ns body e; cases (show some (Def.fn 1 3 b_are_knots) = some (Def.fn np ns body) from e); exact o_are_knots c
  | 34 => intro np ns body e; cases (show some (Def.fn 2 3 b_need_poly_row) = some (Def.fn np ns body) from e); exact o_need_poly_row c
  | 35 => intro np ns body e; cases (show some Def.mkpen = some (Def.fn np ns body) from e)
  | 36 => intro np ns body e; cases (show some Def.draw = some (Def.fn np ns body) from e)
  | 37 => intro np ns body e; cases (show some (Def.fn 2 2 b_L_pick) = some (Def.fn np ns body) from e); exact o_L_pick c
  | 38 => intro np ns body e; cases (show some (Def.fn 2 3 b_L_gcd) = some (Def.fn np ns body) from e); exact o_L_gcd c
  | 39 => intro np ns body e; cases (show some (Def.fn 2 3 b_L_q) = some (Def.fn np ns body) from e); exact o_L_q c
  | 40 => intro np ns body e; cases (show some (Def.fn 2 2 b_L_plus) = some (Def.fn np ns body) from e); exact o_L_plus c
  | 41 => intro np ns body e; cases (show some (Def.fn 2 2 b_L_minus) = some (Def.fn np ns body) from e); exact o_L_minus c
  | 42 => intro np ns body e; cases (show some (Def.fn 2 2 b_L_times) = some (Def.fn np ns body) from e); exact o_L_times c
  | 43 => intro np ns body e; cases (show some (Def.fn 2 2 b_L_less) = some (Def.fn np ns body) from e); exact o_L_less c
  | 44 => intro np ns body e; cases (show some (Def.fn 2 3 b_L_passed) = some (Def.fn np ns body) from e); exact o_L_passed c
  | 45 => intro np ns body e; cases (show some (Def.fn 2 3 b_L_ratio) = some (Def.fn np ns body) from e); exact o_L_ratio c
  | 46 => intro np ns body e; cases (show some (Def.fn 2 4 b_L_interval) = some (Def.fn np ns body) from e); exact o_L_interval c
  | 47 => intro np ns body e; cases (show some (Def.fn 1 3 b_L_lower_one) = some (Def.fn np ns body) from e); exact o_L_lower_one c
  | 48 => intro np ns body e; cases (show some (Def.fn 1 6 b_L_sorted) = some (Def.fn np ns body) from e); exact o_L_sorted c
  | 49 => intro np ns body e; cases (show some (Def.fn 1 3 b_L_poly) = some (Def.fn np ns body) from e); exact o_L_poly c
  | 50 => intro np ns body e; cases (show some (Def.fn 2 7 b_L_p_plus) = some (Def.fn np ns body) from e); exact o_L_p_plus c
  | 51 => intro np ns body e; cases (show some (Def.fn 2 4 b_L_p_at) = some (Def.fn np ns body) from e); exact o_L_p_at c
  | 52 => intro np ns body e; cases (show some (Def.fn 2 3 b_L_f_piece) = some (Def.fn np ns body) from e); exact o_L_f_piece c
  | 53 => intro np ns body e; cases (show some (Def.fn 2 3 b_L_f_at) = some (Def.fn np ns body) from e); exact o_L_f_at c
  | 54 => intro np ns body e; cases (show some (Def.fn 2 3 b_L_f_limits) = some (Def.fn np ns body) from e); exact o_L_f_limits c
  | 55 => intro np ns body e; cases (show some (Def.fn 2 6 b_L_made_function) = some (Def.fn np ns body) from e); exact o_L_made_function c
  | 56 => intro np ns body e; cases (show some (Def.fn 1 2 b_L_f_of) = some (Def.fn np ns body) from e); exact o_L_f_of c
  | 57 => intro np ns body e; cases (show some (Def.fn 4 7 b_L_drawn_knots) = some (Def.fn np ns body) from e); exact o_L_drawn_knots c
  | 58 => intro np ns body e; cases (show some (Def.fn 5 14 b_L_drawn_function) = some (Def.fn np ns body) from e); exact o_L_drawn_function c
  | 59 => intro np ns body e; cases (show some (Def.fn 2 5 b_L_share_mean) = some (Def.fn np ns body) from e); exact o_L_share_mean c
  | 60 => intro np ns body e; cases (show some (Def.fn 4 10 b_L_drawn_share) = some (Def.fn np ns body) from e); exact o_L_drawn_share c
  | 61 => intro np ns body e; cases (show some (Def.fn 2 4 b_L_made_told) = some (Def.fn np ns body) from e); exact o_L_made_told c
  | 62 => intro np ns body e; cases (show some (Def.fn 2 4 b_L_passed_row) = some (Def.fn np ns body) from e); exact o_L_passed_row c
  | 63 => intro np ns body e; cases (show some (Def.fn 2 2 b_L_made_share) = some (Def.fn np ns body) from e); exact o_L_made_share c
  | 64 => intro np ns body e; cases (show some (Def.fn 3 12 b_L_row) = some (Def.fn np ns body) from e); exact o_L_row c
  | 65 => intro np ns body e; cases (show some (Def.fn 1 19 b_law) = some (Def.fn np ns body) from e); exact o_law c
  | 66 => intro np ns body e; cases (show some (Def.fn 3 3 b_Share_init) = some (Def.fn np ns body) from e); exact o_Share_init c
  | 67 => intro np ns body e; cases (show some (Def.fn 2 2 b_Share_eq) = some (Def.fn np ns body) from e); exact o_Share_eq c
  | 68 => intro np ns body e; cases (show some (Def.fn 4 6 b_Told_init) = some (Def.fn np ns body) from e); exact o_Told_init c
  | 69 => intro np ns body e; cases (show some (Def.fn 2 3 b_Poly_init) = some (Def.fn np ns body) from e); exact o_Poly_init c
  | 70 => intro np ns body e; cases (show some (Def.fn 2 2 b_Poly_eq) = some (Def.fn np ns body) from e); exact o_Poly_eq c
  | 71 => intro np ns body e; cases (show some (Def.fn 2 2 b_Poly_add) = some (Def.fn np ns body) from e); exact o_Poly_add c
  | 72 => intro np ns body e; cases (show some (Def.fn 2 2 b_Poly_radd) = some (Def.fn np ns body) from e); exact o_Poly_radd c
  | 73 => intro np ns body e; cases (show some (Def.fn 2 2 b_Poly_sub) = some (Def.fn np ns body) from e); exact o_Poly_sub c
  | 74 => intro np ns body e; cases (show some (Def.fn 2 2 b_Poly_rsub) = some (Def.fn np ns body) from e); exact o_Poly_rsub c
  | 75 => intro np ns body e; cases (show some (Def.fn 2 2 b_Poly_mul) = some (Def.fn np ns body) from e); exact o_Poly_mul c
  | 76 => intro np ns body e; cases (show some (Def.fn 2 2 b_Poly_rmul) = some (Def.fn np ns body) from e); exact o_Poly_rmul c
  | 77 => intro np ns body e; cases (show some (Def.fn 1 3 b_Poly_neg) = some (Def.fn np ns body) from e); exact o_Poly_neg c
  | 78 => intro np ns body e; cases (show some (Def.fn 1 1 b_Poly_degree) = some (Def.fn np ns body) from e); exact o_Poly_degree c
  | 79 => intro np ns body e; cases (show some (Def.fn 2 8 b_Poly_at) = some (Def.fn np ns body) from e); exact o_Poly_at c
  | 80 => intro np ns body e; cases (show some (Def.fn 1 1 b_Poly_slope) = some (Def.fn np ns body) from e); exact o_Poly_slope c
  | 81 => intro np ns body e; cases (show some (Def.fn 1 1 b_Poly_area) = some (Def.fn np ns body) from e); exact o_Poly_area c
  | 82 => intro np ns body e; cases (show some (Def.fn 3 3 b_Poly_moved) = some (Def.fn np ns body) from e); exact o_Poly_moved c
  | 83 => intro np ns body e; cases (show some (Def.fn 4 5 b_Broken_init) = some (Def.fn np ns body) from e); exact o_Broken_init c
  | 84 => intro np ns body e; cases (show some (Def.fn 2 2 b_Broken_eq) = some (Def.fn np ns body) from e); exact o_Broken_eq c
  | 85 => intro np ns body e; cases (show some (Def.fn 2 4 b_Broken_spot) = some (Def.fn np ns body) from e); exact o_Broken_spot c
  | 86 => intro np ns body e; cases (show some (Def.fn 2 4 b_Broken_value) = some (Def.fn np ns body) from e); exact o_Broken_value c
  | 87 => intro np ns body e; cases (show some (Def.fn 2 6 b_Broken_limits) = some (Def.fn np ns body) from e); exact o_Broken_limits c
  | 88 => intro np ns body e; cases (show some (Def.fn 1 5 b_Broken_jumps) = some (Def.fn np ns body) from e); exact o_Broken_jumps c
  | 89 => intro np ns body e; cases (show some (Def.fn 1 1 b_Broken_is_plain) = some (Def.fn np ns body) from e); exact o_Broken_is_plain c
  | 90 => intro np ns body e; cases (show some (Def.fn 1 3 b_Broken_is_upper) = some (Def.fn np ns body) from e); exact o_Broken_is_upper c
  | 91 => intro np ns body e; cases (show some (Def.fn 1 3 b_Broken_is_lower) = some (Def.fn np ns body) from e); exact o_Broken_is_lower c
  | 92 => intro np ns body e; cases (show some (Def.fn 1 1 b_Broken_is_line) = some (Def.fn np ns body) from e); exact o_Broken_is_line c
  | 93 => intro np ns body e; cases (show some (Def.fn 2 4 (.cons (.set 2 .non) b_fits)) = some (Def.fn np ns body) from e); exact o_fits_d c
  | n + 94 => intro np ns body e; cases (show none = some (Def.fn np ns body) from e)
end
def loose0 : List Str := ["_wall", "MeanError", "BadNumber", "BadRow", "Unlike", "is_whole", "is_ratio", "divisor", "lowest", "told", "parts", "plus", "minus", "times", "lower", "less_or_same", "bottom_of", "MOST_BITS", "is_row", "is_row_shares", "all_told", "whole_of", "are_parts", "ascends", "Share", "mean", "bound_told", "Told", "need_stretch", "need_places"]
def loose1 : List Str := ["miss_of", "missed", "fits", "Poly", "without_zeros", "poly_told", "added_up", "summed", "power_number", "multiplied", "is_row_broken", "are_ratios", "are_knots", "need_poly_row", "Broken", "_law_pen", "_law_draw", "_law_pick", "_law_gcd", "_law_q", "_law_plus", "_law_minus", "_law_times", "_law_less", "_law_passed", "_law_ratio", "_law_interval", "_law_lower_one", "_law_sorted", "_law_poly"]
def loose2 : List Str := ["_law_p_plus", "_law_p_at", "_law_f_piece", "_law_f_at", "_law_f_limits", "_law_made_function", "_law_f_of", "_law_drawn_knots", "_law_drawn_function", "_law_share_mean", "_law_drawn_share", "_law_made_told", "_law_passed_row", "_law_made_share", "_law_row"]
def loose : List Str := loose0 ++ loose1 ++ loose2
abbrev lawP : Nat := 83
abbrev seenP : List Nat := [0, 83]
theorem drawO : onlyAt T.defs isDraw i_L_draw = true := by decide +kernel
theorem penO : onlyAt T.defs isPenD i_L_pen = true := by decide +kernel
end G
end

section
set_option Elab.async false
set_option linter.all false
set_option maxRecDepth 100000
set_option maxHeartbeats 0
namespace G
open M PySem L2
abbrev RwK : PySem.W.OpenRow := PySem.W.OpenLaw.row R0
abbrev qvK : Program := PySem.W.view RwK.prog seenP
def asL : List Addr := [3, 126, 133, 140, 147, 154, 161, 168, 175, 182, 189, 196, 203, 470, 208, 213, 220, 225, 230, 254, 263, 270, 287, 296, 303, 310, 315, 321, 425, 434, 441, 448, 453, 458, 463, 475, 480, 485, 555, 566, 573, 580, 587, 594, 601, 608, 615, 622, 629, 636, 643, 650, 655, 662, 667, 674, 681, 688, 695, 700, 705, 712, 717, 724, 729, 734, 739, 746, 753, 758, 125, 132, 139, 146, 153, 160, 167, 174, 181, 188, 195, 202, 469, 207, 212, 219, 224, 229, 253, 262, 269, 286, 295, 302, 309, 314, 320, 316, 424, 433, 440, 447, 452, 457, 462, 474, 479, 484, 554, 565, 572, 579, 586, 593, 600, 607, 614, 621, 628, 635, 642, 649, 654, 661, 666, 673, 680, 687, 694, 699, 704, 711, 716, 723, 728, 733, 738, 745, 752, 757, 244, 251, 284, 333, 340, 347, 354, 361, 368, 375, 382, 387, 394, 401, 408, 415, 422, 497, 504, 509, 516, 523, 528, 535, 540, 545, 552, 243, 250, 283, 332, 339, 346, 353, 360, 367, 374, 381, 386, 393, 400, 407, 414, 421, 496, 503, 508, 515, 522, 527, 534, 539, 544, 551]
abbrev hk : PySem.W.Hook := hookM asL L
def ob (s : PySem.W.SharedT) : He.AlD := obsMG asL L (HandSHeadRun.getT s)
theorem ob_eq (s : PySem.W.SharedT) : ob s = hk.obs s.abs := obsMG_eq (HandSHeadRun.getT_eq s)
theorem run1 (w : World) : (HandSHeadRun.wholeF (fun p => HandSHeadRun.stepQ (HandSHeadRun.denQ HandSHeadRun.tabQ) p w) HandSHeadRun.fenceQ 6000 RwK.prog).map (fun x => HandSHeadRun.looksF RwK.prog x.1.heap x.2.abs) = some true := by
  kernel_rfl
theorem run2 (w : World) : (HandSHeadRun.wholeF (fun p => HandSHeadRun.stepQ (HandSHeadRun.denQ HandSHeadRun.tabQ) p w) HandSHeadRun.fenceQ 6000 RwK.prog).map (fun x => HandSHeadRun.seenQ qvK loose (importedModules RwK.prog.main.body) (fun s => PySem.W.xlAt qvK [] s && PySem.W.recOk RwK.toRowW.records s) x.2.abs) = some (PySem.W.openGood qvK loose) := by
  kernel_rfl
theorem run3 (w : World) : (HandSHeadRun.wholeF (fun p => HandSHeadRun.stepQ (HandSHeadRun.denQ HandSHeadRun.tabQ) p w) HandSHeadRun.fenceQ 6000 RwK.prog).map (fun x => ob x.2) = some (hk.val w) := by
  kernel_rfl
theorem map3 {A B C D : Type} {o : Option A} {f : A -> B} {g : A -> C} {k : A -> D} {a : B} {b : C} {c : D} (h1 : o.map f = some a) (h2 : o.map g = some b) (h3 : o.map k = some c) : o.map (fun x => (f x, g x, k x)) = some (a, b, c) := by
  cases o with
  | none => cases h1
  | some x =>
    cases h1
    cases h2
    cases h3
    rfl
theorem runE (w : World) : HandSHeadRun.RunEqI RwK qvK hk ob 6000 loose w := by
  unfold HandSHeadRun.RunEqI
  exact map3 (run1 w) (run2 w) (run3 w)
end G
end

section
set_option Elab.async false
set_option linter.all false
set_option maxRecDepth 100000
set_option maxHeartbeats 0
namespace G
open M PySem L2
theorem lawFok {w : World} {mg : Str → Option Value} {f : Addr} {h : Heap} (Y : hk.says w h) (G : h.Ns mainGlobals mg) (e : mg "law" = some (.ref f)) (lv : Nat) :
    ∃ K : PySem.W.Frag, K.In h ∧ ∀ base : Heap, ∃ g : Ga, g.prog = R0.prog ∧ g.w = w ∧ g.K = K ∧ g.mg = mg ∧ g.base = base ∧ Fok g (2 * lv) f 1 (spC g (run T lv) i_law) := by
  obtain ⟨K, KX, c⟩ := Y
  refine ⟨K, KX, fun base => ⟨gaM L R0.prog w K mg base, rfl, rfl, rfl, rfl, rfl, ?_⟩⟩
  have tb : TbS (gaM L R0.prog w K mg base) s T (fnA L K) := tbS KX G tx c
  have hf : f = fnA L K i_law := by
    obtain ⟨h1, _⟩ := tb.fns i_law "law" rfl (by decide +kernel)
    have : (some (Value.ref f)) = some (Value.ref (fnA L K i_law)) := e.symm.trans h1
    cases this
    rfl
  subst hf
  exact run_ok tb (kwB_ok kwO) (allOk c) (fun n hn l => draw_fok tb hn (by
    have : n = i_L_draw := onlyAt_ok drawO hn rfl
    subst this
    exact o_L_draw c) l) (fun n hn l => mkpen_fok tb hn (by
    have : n = i_L_pen := onlyAt_ok penO hn rfl
    subst this
    exact o_L_pen c) l) lv i_law
end G
open PySem PySem.W PySem.Calls PyProof.Rows
set_option maxRecDepth 100000 in
set_option maxHeartbeats 0 in
theorem G.final (plain : ∀ ns : List Int, ns.length ≤ 63 → (M.run G.T 30 G.i_law [.scr ns] M.VH.none).Good fun r => r.1 = .bl true) : PySem.Challenge.rw_toldmeans_k09_whole_fits_to_a_gap.Holds := by
  w_on; o_law
  refine HandSHeadRun.head_imp (r := OpenLaw.row PySem.Challenge.rw_toldmeans_k09_whole_fits_to_a_gap) (q := G.qvK) (H := G.hk) (ob := G.ob) (M := 6000) (loose := G.loose) (d := HandSHeadRun.topDef (OpenLaw.row PySem.Challenge.rw_toldmeans_k09_whole_fits_to_a_gap).prog G.lawP) (kwd := []) G.ob_eq
    G.runE (by kernel_rfl) (by kernel_rfl) (by kernel_rfl) (by rfl) (by first | assumption | decide +kernel) (by decide +kernel) ⟨rfl, rfl, rfl, rfl, rfl, by decide +kernel⟩ ?hw ?hc
  case hw => w_witness2
  case hc =>
    refine M.entry_walk (l := PySem.Challenge.rw_toldmeans_k09_whole_fits_to_a_gap) (n := 63) (k := 2 * 30) rfl (by decide) (by kernel_rfl) ⟨rfl, by decide, by decide⟩ ?F
    intro w mg f h Y GG hmg0
    have hmg : mg ("law" : PySem.Str) = some (.ref f) := by
      have e : (HandSHeadRun.topDef (OpenLaw.row PySem.Challenge.rw_toldmeans_k09_whole_fits_to_a_gap).prog G.lawP).name = ("law" : PySem.Str) := by kernel_rfl
      rw [← e]
      exact hmg0
    obtain ⟨K, KX, hF⟩ := G.lawFok Y GG hmg 30
    exact ⟨K, KX, fun ns hl base _ _ => (hF base).elim fun g hg => ⟨g, M.run G.T 30, G.i_law, hg.1, hg.2.1, hg.2.2.1, hg.2.2.2.1, hg.2.2.2.2.1, hg.2.2.2.2.2, plain ns hl⟩⟩
end

section
set_option Elab.async false
set_option linter.all false
set_option maxRecDepth 100000
set_option maxHeartbeats 1000000
/-! P1: the evaluator step by step. -/
namespace P
open M
open PySem

/-- a run ends well -/
structure Gd {α : Type} (t : T (α × VH)) (Q : α → VH → Prop) : Prop where
  go : t.Good fun r => Q r.1 r.2
theorem gd_iff {α : Type} {t : T (α × VH)} {Q : α → VH → Prop} : Gd t Q ↔ t.Good fun r => Q r.1 r.2 := ⟨fun h => h.go, fun h => ⟨h⟩⟩
theorem gd_mono {α : Type} {t : T (α × VH)} {P Q : α → VH → Prop} (g : Gd t P) (h : ∀ a h', P a h' → Q a h') : Gd t Q := ⟨M.T.good_mono (fun r hr => h r.1 r.2 hr) g.go⟩
theorem gd_ret {α : Type} {a : α} {h : VH} {Q : α → VH → Prop} (q : Q a h) : Gd (.ret (a, h)) Q := ⟨q⟩
theorem gd_bindM {α β : Type} {c : Mo α} {f : α → Mo β} {h : VH} {Q : β → VH → Prop} (g : Gd (c h) fun a h' => Gd (f a h') Q) : Gd (bindM c f h) Q := ⟨M.T.good_bind.mpr (M.T.good_mono (fun _ hr => hr.go) g.go)⟩
theorem gd_bind {α β : Type} {t : T (α × VH)} {f : α × VH → T (β × VH)} {Q : β → VH → Prop} (g : Gd t fun a h' => Gd (f (a, h')) Q) : Gd (t.bind f) Q := ⟨M.T.good_bind.mpr (M.T.good_mono (fun _ hr => hr.go) g.go)⟩
/-- by cases of a truth value -/
def GIf (x : Val) (A B : Prop) : Prop := ∃ b, x = .bl b ∧ (b = true → A) ∧ (b = false → B)
theorem g_tt {A B : Prop} (a : A) : GIf (.bl true) A B := ⟨true, rfl, fun _ => a, fun z => (by cases z)⟩
theorem g_ff {A B : Prop} (a : B) : GIf (.bl false) A B := ⟨false, rfl, fun z => (by cases z), fun _ => a⟩
theorem g_if {p A B : Prop} {_ : Decidable p} (a : p → A) (b : ¬p → B) : GIf (.bl (decide p)) A B := ⟨_, rfl, fun z => a (of_decide_eq_true z), fun z => b (of_decide_eq_false z)⟩
theorem g_ifn {p A B : Prop} {_ : Decidable p} (a : ¬p → A) (b : p → B) : GIf (.bl (!decide p)) A B := ⟨_, rfl, fun z => a (by simpa using z), fun z => b (by simpa using z)⟩
theorem g_pos {p A B : Prop} {_ : Decidable p} (hp : p) (a : A) : GIf (.bl (decide p)) A B := g_if (fun _ => a) fun z => absurd hp z
theorem g_neg {p A B : Prop} {_ : Decidable p} (hp : ¬p) (a : B) : GIf (.bl (decide p)) A B := g_if (fun z => absurd z hp) fun _ => a
theorem g_bool {b : Bool} {A B : Prop} (a : b = true → A) (c : b = false → B) : GIf (.bl b) A B := ⟨b, rfl, a, c⟩
def GNx (fl : Fl) (A : Sl → Prop) (B : Prop) : Prop := match fl with
  | .nx σ => A σ
  | _ => B
theorem g_nx {σ : Sl} {A : Sl → Prop} {B : Prop} (a : A σ) : GNx (.nx σ) A B := a
theorem g_rt {v : Val} {A : Sl → Prop} {B : Prop} (b : B) : GNx (.rt v) A B := b
theorem g_bk {σ : Sl} {A : Sl → Prop} {B : Prop} (b : B) : GNx (.bk σ) A B := b
theorem g_ct {σ : Sl} {A : Sl → Prop} {B : Prop} (b : B) : GNx (.ct σ) A B := b
/-- behind a def -/
def GRt (fl : Fl) (A : Val → Prop) : Prop := match fl with
  | .nx _ => A .non
  | .rt v => A v
  | _ => False
theorem r_nx {σ : Sl} {A : Val → Prop} (a : A .non) : GRt (.nx σ) A := a
theorem r_rt {v : Val} {A : Val → Prop} (a : A v) : GRt (.rt v) A := a
/-- behind a turn -/
def GLp (fl : Fl) (A : Sl → Prop) (B : Sl → Prop) (R : Val → Prop) : Prop := match fl with
  | .nx σ => A σ
  | .ct σ => A σ
  | .bk σ => B σ
  | .rt v => R v
theorem l_nx {σ : Sl} {A B : Sl → Prop} {R : Val → Prop} (a : A σ) : GLp (.nx σ) A B R := a
theorem l_ct {σ : Sl} {A B : Sl → Prop} {R : Val → Prop} (a : A σ) : GLp (.ct σ) A B R := a
theorem l_bk {σ : Sl} {A B : Sl → Prop} {R : Val → Prop} (a : B σ) : GLp (.bk σ) A B R := a
theorem l_rt {v : Val} {A B : Sl → Prop} {R : Val → Prop} (a : R v) : GLp (.rt v) A B R := a

/-- the bodies of loops -/
def fbody (T : Tb) (C : Nat → List Val → Mo Val) (tg : Tg) (b : Ss) : Val → Sl → Mo Fl := fun v σ' => match setTg tg v σ' with
  | none => fun _ => .stuck
  | some σ'' => evSs T C σ'' b
def wcond (T : Tb) (C : Nat → List Val → Mo Val) (c : Ex) : Sl → Mo Bool := fun σ' => bindM (evE T C σ' c) fun x => lift (asBl x)
def wbody (T : Tb) (C : Nat → List Val → Mo Val) (b : Ss) : Sl → Mo Fl := fun σ' => evSs T C σ' b
def cbF (T : Tb) (C : Nat → List Val → Mo Val) (tg : Tg) (σ : Sl) (ifs : Option Ex) (elt : Ex) : Val → Mo (Option Val) := compB tg σ (match ifs with
  | none => none
  | some c => some fun σ' => evE T C σ' c) fun σ' => evE T C σ' elt
section
variable {T : Tb} {C : Nat → List Val → Mo Val} {σ : Sl} {h : VH}
section
variable {Q : Val → VH → Prop}
theorem w_var {i : Nat} {v : Val} (e : σ[i]? = some (some v)) (q : Q v h) : Gd (evE T C σ (.var i) h) Q := by
  unfold evE
  rw [e]
  first | exact q | exact gd_ret q
theorem w_int {i : Int} (q : Q (.int i) h) : Gd (evE T C σ (.int i) h) Q := by unfold evE; first | exact q | exact gd_ret q
theorem w_str {i : Str} (q : Q (.str i) h) : Gd (evE T C σ (.str i) h) Q := by unfold evE; first | exact q | exact gd_ret q
theorem w_bl {i : Bool} (q : Q (.bl i) h) : Gd (evE T C σ (.bl i) h) Q := by unfold evE; first | exact q | exact gd_ret q
theorem w_non (q : Q .non h) : Gd (evE T C σ .non h) Q := by unfold evE; first | exact q | exact gd_ret q
theorem w_glob {i : Nat} {v : Val} (e : T.globs[i]? = some v) (q : Q v h) : Gd (evE T C σ (.glob i) h) Q := by
  unfold evE lift
  rw [e]
  first | exact q | exact gd_ret q
structure outG (m : Bool) (r : Option Rv) (h : VH) (Q : Val → VH → Prop) : Prop where
  go : match r with
    | some r => Gd (out m r h) Q
    | none => False
theorem outG_ok {m : Bool} {r : Option Rv} {h : VH} : Gd (match r with
    | some r => out m r h
    | none => .stuck) Q ↔ outG m r h Q := by
  cases r with
  | none => exact ⟨fun q => ⟨q.go⟩, fun q => ⟨q.go⟩⟩
  | some r => exact ⟨fun q => ⟨q⟩, fun q => q.go⟩
theorem o_v {m : Bool} {x : Val} (q : Q x h) : outG m (some (.v x)) h Q := ⟨gd_ret q⟩
theorem o_f {xs : List Val} (q : Q (.lst xs) h) : outG false (some (.nl xs)) h Q := ⟨gd_ret q⟩
theorem o_t {xs : List Val} (q : Q (.ref h.next) (h.push (.lst xs))) : outG true (some (.nl xs)) h Q := ⟨gd_ret q⟩
theorem w_bin {m : Bool} {op : Bop} {a b : Ex} (q : Gd (evE T C σ a h) fun x h1 => Gd (evE T C σ b h1) fun y h2 => outG m (binV h2 op x y) h2 Q) : Gd (evE T C σ (.bin m op a b) h) Q := by
  unfold evE
  exact gd_bindM (gd_mono q fun x h1 q => gd_bindM (gd_mono q fun y h2 q => by
    exact outG_ok.mpr q))
/-- a comparison -/
def GCm (T : Tb) (C : Nat → List Val → Mo Val) (op : Cop) (x y : Val) (h : VH) (Q : Val → VH → Prop) : Prop := Gd (cmpM T C op x y h) fun b h' => Q (.bl b) h'
theorem w_cmp {op : Cop} {a b : Ex} (q : Gd (evE T C σ a h) fun x h1 => Gd (evE T C σ b h1) fun y h2 => GCm T C op x y h2 Q) : Gd (evE T C σ (.cmp op a b) h) Q := by
  unfold evE
  exact gd_bindM (gd_mono q fun x h1 q => gd_bindM (gd_mono q fun y h2 q => gd_bindM (gd_mono q fun b h3 q => gd_ret q)))
theorem c_val {op : Cop} {x y : Val} {b : Bool} (e : cmpV op x y = some b) (q : Q (.bl b) h) : GCm T C op x y h Q := by
  unfold GCm cmpM
  rw [e]
  first | exact q | exact gd_ret q
theorem c_lt {i j : Int} (q : Q (.bl (decide (i < j))) h) : GCm T C .lt (.int i) (.int j) h Q := c_val rfl q
theorem c_le {i j : Int} (q : Q (.bl (decide (i ≤ j))) h) : GCm T C .le (.int i) (.int j) h Q := c_val rfl q
theorem c_gt {i j : Int} (q : Q (.bl (decide (j < i))) h) : GCm T C .gt (.int i) (.int j) h Q := c_val rfl q
theorem c_ge {i j : Int} (q : Q (.bl (decide (j ≤ i))) h) : GCm T C .ge (.int i) (.int j) h Q := c_val rfl q
theorem eqD_int {i j : Int} : eqD (.int i) (.int j) = some (decide (i = j)) := by
  unfold eqD
  simp only [Val.toD]
  rw [if_pos (by rfl)]
  simp [PyData.eqv]
  rfl
theorem c_eq {i j : Int} (q : Q (.bl (decide (i = j))) h) : GCm T C .eq (.int i) (.int j) h Q := c_val (by unfold cmpV; exact eqD_int) q
theorem c_ne {i j : Int} (q : Q (.bl (!decide (i = j))) h) : GCm T C .ne (.int i) (.int j) h Q := c_val (by unfold cmpV; simp only [eqD_int]; rfl) q
theorem c_is {x : Val} (q : Q (.bl (isNon x)) h) : GCm T C .is x .non h Q := c_val rfl q
theorem c_isnot {x : Val} (q : Q (.bl (!isNon x)) h) : GCm T C .isnot x .non h Q := c_val rfl q
theorem w_and {a b : Ex} (q : Gd (evE T C σ a h) fun x h1 => GIf x (Gd (evE T C σ b h1) Q) (Q (.bl false) h1)) : Gd (evE T C σ (.and a b) h) Q := by
  unfold evE
  refine gd_bindM (gd_mono q fun x h1 q => ?_)
  obtain ⟨b, rfl, q1, q2⟩ := q
  cases b
  · first | exact q2 rfl | exact gd_ret (q2 rfl)
  · first | exact q1 rfl | exact gd_ret (q1 rfl)
theorem w_or {a b : Ex} (q : Gd (evE T C σ a h) fun x h1 => GIf x (Q (.bl true) h1) (Gd (evE T C σ b h1) Q)) : Gd (evE T C σ (.or a b) h) Q := by
  unfold evE
  refine gd_bindM (gd_mono q fun x h1 q => ?_)
  obtain ⟨b, rfl, q1, q2⟩ := q
  cases b
  · first | exact q2 rfl | exact gd_ret (q2 rfl)
  · first | exact q1 rfl | exact gd_ret (q1 rfl)
/-- not -/
def GNot (x : Val) (h : VH) (Q : Val → VH → Prop) : Prop := ∃ b, x = .bl b ∧ Q (.bl (!b)) h
theorem n_tt (q : Q (.bl false) h) : GNot (.bl true) h Q := ⟨_, rfl, q⟩
theorem n_ff (q : Q (.bl true) h) : GNot (.bl false) h Q := ⟨_, rfl, q⟩
theorem n_nn {b : Bool} (q : Q (.bl b) h) : GNot (.bl (!b)) h Q := ⟨_, rfl, by rw [Bool.not_not]; exact q⟩
theorem n_bl {b : Bool} (q : Q (.bl (!b)) h) : GNot (.bl b) h Q := ⟨_, rfl, q⟩
theorem w_not {a : Ex} (q : Gd (evE T C σ a h) fun x h1 => GNot x h1 Q) : Gd (evE T C σ (.not a) h) Q := by
  unfold evE
  refine gd_bindM (gd_mono q fun x h1 q => ?_)
  obtain ⟨b, rfl, q⟩ := q
  first | exact q | exact gd_ret q
theorem w_neg {a : Ex} (q : Gd (evE T C σ a h) fun x h1 => ∃ i, x = .int i ∧ Q (.int (-i)) h1) : Gd (evE T C σ (.neg a) h) Q := by
  unfold evE
  refine gd_bindM (gd_mono q fun x h1 q => ?_)
  obtain ⟨b, rfl, q⟩ := q
  first | exact q | exact gd_ret q
theorem e_neg {i : Int} (q : Q (.int (-i)) h) : ∃ k, Val.int i = .int k ∧ Q (.int (-k)) h := ⟨i, rfl, q⟩
theorem w_ifx {c a b : Ex} (q : Gd (evE T C σ c h) fun x h1 => GIf x (Gd (evE T C σ a h1) Q) (Gd (evE T C σ b h1) Q)) : Gd (evE T C σ (.ifx c a b) h) Q := by
  unfold evE
  refine gd_bindM (gd_mono q fun x h1 q => ?_)
  obtain ⟨b, rfl, q1, q2⟩ := q
  cases b
  · first | exact q2 rfl | exact gd_ret (q2 rfl)
  · first | exact q1 rfl | exact gd_ret (q1 rfl)
theorem w_chain {op1 op2 : Cop} {a b c : Ex} (q : Gd (evE T C σ a h) fun x h1 => Gd (evE T C σ b h1) fun y h2 => ∃ r, cmpV op1 x y = some r ∧ (r = false → Q (.bl false) h2) ∧ (r = true → Gd (evE T C σ c h2) fun z h3 => ∃ r, cmpV op2 y z = some r ∧ Q (.bl r) h3)) : Gd (evE T C σ (.chain op1 op2 a b c) h) Q := by
  unfold evE
  refine gd_bindM (gd_mono q fun x h1 q => gd_bindM (gd_mono q fun y h2 q => ?_))
  obtain ⟨r, e, q1, q2⟩ := q
  unfold lift
  rw [e]
  refine gd_bindM (gd_ret ?_)
  cases r
  · first | exact q1 rfl | exact gd_ret (q1 rfl)
  · refine gd_bindM (gd_mono (q2 rfl) fun z h3 q => ?_)
    obtain ⟨r, e, q⟩ := q
    rw [e]
    first | exact q | exact gd_ret q
/-- small enough -/
def Sm1 (n : Nat) : Prop := sz n = true
theorem w_tup {es : Es} (q : Gd (evEs T C σ es h) fun xs h1 => sz xs.length = true ∧ Q (.tup xs) h1) : Gd (evE T C σ (.tup es) h) Q := by
  unfold evE
  refine gd_bindM (gd_mono q fun x h1 q => ?_)
  rw [if_pos q.1]
  first | exact q.2 | exact gd_ret q.2 | exact q.2.go
theorem w_lst {m : Bool} {es : Es} (q : Gd (evEs T C σ es h) fun xs h1 => sz xs.length = true ∧ outG m (some (.nl xs)) h1 Q) : Gd (evE T C σ (.lst m es) h) Q := by
  unfold evE
  refine gd_bindM (gd_mono q fun x h1 q => ?_)
  rw [if_pos q.1]
  first | exact q.2 | exact gd_ret q.2 | exact q.2.go
theorem w_sub {a i : Ex} (q : Gd (evE T C σ a h) fun x h1 => Gd (evE T C σ i h1) fun y h2 => ∃ v, subV h2 x y = some v ∧ Q v h2) : Gd (evE T C σ (.sub a i) h) Q := by
  unfold evE
  refine gd_bindM (gd_mono q fun x h1 q => gd_bindM (gd_mono q fun y h2 q => ?_))
  obtain ⟨v, e, q⟩ := q
  rw [e]
  first | exact q | exact gd_ret q
theorem w_slc {m : Bool} {a : Ex} {lo hi : Option Ex} (q : Gd (evE T C σ a h) fun x h1 => Gd (evO T C σ lo h1) fun l h2 => Gd (evO T C σ hi h2) fun u h3 => outG m (slcV h3 x l u) h3 Q) : Gd (evE T C σ (.slc m a lo hi) h) Q := by
  unfold evE
  refine gd_bindM (gd_mono q fun x h1 q => gd_bindM (gd_mono q fun y h2 q => gd_bindM (gd_mono q fun u h3 q => outG_ok.mpr q)))
theorem w_onone {Q : Option Int → VH → Prop} (q : Q none h) : Gd (evO T C σ none h) Q := by unfold evO; first | exact q | exact gd_ret q
theorem w_osome {Q : Option Int → VH → Prop} {e : Ex} (q : Gd (evE T C σ e h) fun x h1 => ∃ i, x = .int i ∧ Q (some i) h1) : Gd (evO T C σ (some e) h) Q := by
  unfold evO
  refine gd_bindM (gd_mono q fun x h1 q => ?_)
  obtain ⟨b, rfl, q⟩ := q
  first | exact q | exact gd_ret q
theorem e_int {i : Int} {Q : Int → Prop} (q : Q i) : ∃ k, Val.int i = .int k ∧ Q k := ⟨i, rfl, q⟩
theorem w_rev {m : Bool} {a : Ex} (q : Gd (evE T C σ a h) fun x h1 => outG m (revV h1 x) h1 Q) : Gd (evE T C σ (.rev m a) h) Q := by
  unfold evE
  exact gd_bindM (gd_mono q fun x h1 q => outG_ok.mpr q)
theorem w_fld {a : Ex} {f : Nat} (q : Gd (evE T C σ a h) fun x h1 => ∃ v, fldV h1 x f = some v ∧ Q v h1) : Gd (evE T C σ (.fld a f) h) Q := by
  unfold evE
  refine gd_bindM (gd_mono q fun x h1 q => ?_)
  obtain ⟨v, e, q⟩ := q
  rw [e]
  first | exact q | exact gd_ret q
theorem w_call {g : Nat} {es : Es} (q : Gd (evEs T C σ es h) fun vs h1 => Gd (C g vs h1) Q) : Gd (evE T C σ (.call g es) h) Q := by
  unfold evE
  exact gd_bindM q
theorem w_mk {m : Bool} {c : Nat} {es : Es} (q : Gd (evEs T C σ es h) fun vs h1 => Gd (mkV T C m c vs h1) Q) : Gd (evE T C σ (.mk m c es) h) Q := by
  unfold evE
  exact gd_bindM q
theorem w_meth {a : Ex} {mm : Nat} {es : Es} (q : Gd (evE T C σ a h) fun x h1 => ∃ k, ((clsOf h1 x).bind fun c => methOf T c mm) = some k ∧ Gd (evEs T C σ es h1) fun vs h2 => Gd (C k (x :: vs) h2) Q) : Gd (evE T C σ (.meth a mm es) h) Q := by
  unfold evE
  refine gd_bindM (gd_mono q fun x h1 q => ?_)
  obtain ⟨k, e, q⟩ := q
  rw [e]
  exact gd_bindM q
theorem w_bi {m : Bool} {b : Bi} {es : Es} (q : Gd (evEs T C σ es h) fun vs h1 => outG m (biV h1 b vs) h1 Q) : Gd (evE T C σ (.bi m b es) h) Q := by
  unfold evE
  exact gd_bindM (gd_mono q fun x h1 q => outG_ok.mpr q)
theorem w_isin {a : Ex} {ts : List Ty} (q : Gd (evE T C σ a h) fun x h1 => ∃ r, isinV h1 x ts = some r ∧ Q (.bl r) h1) : Gd (evE T C σ (.isin a ts) h) Q := by
  unfold evE
  refine gd_bindM (gd_mono q fun x h1 q => ?_)
  obtain ⟨v, e, q⟩ := q
  rw [e]
  first | exact q | exact gd_ret q
theorem w_inl {neg : Bool} {a b : Ex} (q : Gd (evE T C σ a h) fun x h1 => Gd (evE T C σ b h1) fun y h2 => ∃ r, inV h2 x y = some r ∧ Q (.bl (if neg then !r else r)) h2) : Gd (evE T C σ (.inl neg a b) h) Q := by
  unfold evE
  refine gd_bindM (gd_mono q fun x h1 q => gd_bindM (gd_mono q fun y h2 q => ?_))
  obtain ⟨v, e, q⟩ := q
  rw [e]
  first | exact q | exact gd_ret q
theorem w_lm {a : Ex} {b : Lm} {es : Es} (q : Gd (evE T C σ a h) fun x h1 => isL h1 x = true ∧ Gd (evEs T C σ es h1) fun vs h2 => Gd (lmV b x vs h2) Q) : Gd (evE T C σ (.lm a b es) h) Q := by
  unfold evE
  refine gd_bindM (gd_mono q fun x h1 q => ?_)
  rw [if_pos q.1]
  exact gd_bindM q.2
theorem w_frz {a : Ex} (q : Gd (evE T C σ a h) fun x h1 => Gd (frzV T x h1) Q) : Gd (evE T C σ (.frz a) h) Q := by
  unfold evE
  exact gd_bindM q
/-- a comprehension -/
theorem w_comp {m : Bool} {elt : Ex} {tg : Tg} {src : Sx} {ifs : Option Ex} {own : List Nat} (q : Gd (evX T C σ src h) fun sv h1 => Gd (walkC sv (cbF T C tg (wipe σ own) ifs elt) h1) fun xs h2 => outG m (some (.nl xs)) h2 Q) : Gd (evE T C σ (.comp m elt tg src ifs own) h) Q := by
  unfold evE
  exact gd_bindM (gd_mono q fun x h1 q => gd_bind (gd_mono q fun xs h2 q => q.go))
end
section
variable {Q : List Val → VH → Prop}
theorem w_nil (q : Q [] h) : Gd (evEs T C σ .nil h) Q := by unfold evEs; first | exact q | exact gd_ret q
theorem w_cons {e : Ex} {r : Es} (q : Gd (evE T C σ e h) fun x h1 => Gd (evEs T C σ r h1) fun xs h2 => Q (x :: xs) h2) : Gd (evEs T C σ (.cons e r) h) Q := by
  unfold evEs
  exact gd_bindM (gd_mono q fun x h1 q => gd_bindM (gd_mono q fun y h2 q => gd_ret q))
end
section
variable {Q : Sv → VH → Prop}
theorem w_seq {e : Ex} (q : Gd (evE T C σ e h) fun x h1 => ∃ xs, fseq x = some xs ∧ Q (.fix xs) h1) : Gd (evX T C σ (.seq e) h) Q := by
  unfold evX
  refine gd_bindM (gd_mono q fun x h1 q => ?_)
  obtain ⟨xs, e, q⟩ := q
  rw [e]
  first | exact q | exact gd_ret q
theorem w_rng1 {a : Ex} (q : Gd (evE T C σ a h) fun x h1 => ∃ i, x = .int i ∧ okR i = true ∧ Q (.rng 0 1 i.toNat) h1) : Gd (evX T C σ (.rng1 a) h) Q := by
  unfold evX
  refine gd_bindM (gd_mono q fun x h1 q => ?_)
  obtain ⟨i, rfl, e, q⟩ := q
  unfold lift rngU
  simp only [asInt, Option.bind_some]
  rw [if_pos (by rw [e]; rfl)]
  rw [Int.sub_zero]
  first | exact q | exact gd_ret q
theorem w_rng2 {a b : Ex} (q : Gd (evE T C σ a h) fun x h1 => Gd (evE T C σ b h1) fun y h2 => ∃ i j, x = .int i ∧ y = .int j ∧ okR i = true ∧ okR j = true ∧ Q (.rng i 1 (j - i).toNat) h2) : Gd (evX T C σ (.rng2 a b) h) Q := by
  unfold evX
  refine gd_bindM (gd_mono q fun x h1 q => gd_bindM (gd_mono q fun y h2 q => ?_))
  obtain ⟨i, j, rfl, rfl, e1, e2, q⟩ := q
  unfold lift rngU
  simp only [asInt, Option.bind_some]
  rw [if_pos (by rw [e1, e2]; rfl)]
  first | exact q | exact gd_ret q
theorem w_zip {a b : Ex} (q : Gd (evE T C σ a h) fun x h1 => Gd (evE T C σ b h1) fun y h2 => ∃ xs ys, fseq x = some xs ∧ fseq y = some ys ∧ Q (.fix (zip2 xs ys)) h2) : Gd (evX T C σ (.zip a b) h) Q := by
  unfold evX
  refine gd_bindM (gd_mono q fun x h1 q => gd_bindM (gd_mono q fun y h2 q => ?_))
  obtain ⟨xs, ys, e1, e2, q⟩ := q
  unfold lift
  simp only [e1, e2, Option.bind_some, Option.map_some]
  first | exact q | exact gd_ret q
theorem w_zip3 {a b c : Ex} (q : Gd (evE T C σ a h) fun x h1 => Gd (evE T C σ b h1) fun y h2 => Gd (evE T C σ c h2) fun z h3 => ∃ xs ys zs, fseq x = some xs ∧ fseq y = some ys ∧ fseq z = some zs ∧ Q (.fix (zip3 xs ys zs)) h3) : Gd (evX T C σ (.zip3 a b c) h) Q := by
  unfold evX
  refine gd_bindM (gd_mono q fun x h1 q => gd_bindM (gd_mono q fun y h2 q => gd_bindM (gd_mono q fun z h3 q => ?_)))
  obtain ⟨xs, ys, zs, e1, e2, e3, q⟩ := q
  unfold lift
  simp only [e1, e2, e3, Option.bind_some, Option.map_some]
  first | exact q | exact gd_ret q
theorem w_enum {a : Ex} (q : Gd (evE T C σ a h) fun x h1 => ∃ xs, fseq x = some xs ∧ Q (.fix (enumL 0 xs)) h1) : Gd (evX T C σ (.enum a) h) Q := by
  unfold evX
  refine gd_bindM (gd_mono q fun x h1 q => ?_)
  obtain ⟨xs, e1, q⟩ := q
  unfold lift
  simp only [e1, Option.map_some]
  first | exact q | exact gd_ret q
end
section
variable {Q : Fl → VH → Prop}
theorem v_skip (q : Q (.nx σ) h) : Gd (evS T C σ .skip h) Q := by unfold evS; first | exact q | exact gd_ret q
theorem v_ex {e : Ex} (q : Gd (evE T C σ e h) fun _ h1 => Q (.nx σ) h1) : Gd (evS T C σ (.ex e) h) Q := by
  unfold evS
  exact gd_bindM (gd_mono q fun x h1 q => gd_ret q)
theorem v_set {i : Nat} {e : Ex} (q : Gd (evE T C σ e h) fun v h1 => Q (.nx (σ.set i (some v))) h1) : Gd (evS T C σ (.set i e) h) Q := by
  unfold evS
  exact gd_bindM (gd_mono q fun x h1 q => gd_ret q)
theorem v_par {is : List Nat} {es : Es} (q : Gd (evEs T C σ es h) fun vs h1 => ∃ σ', setAll is vs σ = some σ' ∧ Q (.nx σ') h1) : Gd (evS T C σ (.par is es) h) Q := by
  unfold evS
  refine gd_bindM (gd_mono q fun x h1 q => ?_)
  obtain ⟨σ', e, q⟩ := q
  unfold lift
  rw [e]
  first | exact q | exact gd_ret q
theorem v_unt {tg : Tg} {e : Ex} (q : Gd (evE T C σ e h) fun v h1 => ∃ σ', setTg tg v σ = some σ' ∧ Q (.nx σ') h1) : Gd (evS T C σ (.unt tg e) h) Q := by
  unfold evS
  refine gd_bindM (gd_mono q fun x h1 q => ?_)
  obtain ⟨σ', e, q⟩ := q
  unfold lift
  rw [e]
  first | exact q | exact gd_ret q
theorem v_ssub {a i e : Ex} (q : Gd (evE T C σ e h) fun v h1 => Gd (evE T C σ a h1) fun x h2 => Gd (evE T C σ i h2) fun y h3 => Gd (storeV x y v h3) fun _ h4 => Q (.nx σ) h4) : Gd (evS T C σ (.ssub a i e) h) Q := by
  unfold evS
  exact gd_bindM (gd_mono q fun x h1 q => gd_bindM (gd_mono q fun y h2 q => gd_bindM (gd_mono q fun y h2 q => gd_bindM (gd_mono q fun y h2 q => gd_ret q))))
theorem v_sfld {a e : Ex} {f : Nat} (q : Gd (evE T C σ e h) fun v h1 => Gd (evE T C σ a h1) fun x h2 => Gd (sfldV T x f v h2) fun _ h4 => Q (.nx σ) h4) : Gd (evS T C σ (.sfld a f e) h) Q := by
  unfold evS
  exact gd_bindM (gd_mono q fun x h1 q => gd_bindM (gd_mono q fun y h2 q => gd_bindM (gd_mono q fun y h2 q => gd_ret q)))
theorem v_ite {c : Ex} {t e : Ss} (q : Gd (evE T C σ c h) fun x h1 => GIf x (Gd (evSs T C σ t h1) Q) (Gd (evSs T C σ e h1) Q)) : Gd (evS T C σ (.ite c t e) h) Q := by
  unfold evS
  refine gd_bindM (gd_mono q fun x h1 q => ?_)
  obtain ⟨b, rfl, q1, q2⟩ := q
  cases b
  · first | exact q2 rfl | exact gd_ret (q2 rfl)
  · first | exact q1 rfl | exact gd_ret (q1 rfl)
theorem v_for {tg : Tg} {src : Sx} {b : Ss} (q : Gd (evX T C σ src h) fun sv h1 => Gd (walkS sv (fbody T C tg b) σ h1) Q) : Gd (evS T C σ (.for_ tg src b) h) Q := by
  unfold evS
  exact gd_bindM q
theorem v_while {c : Ex} {b : Ss} (q : Gd (wloop (wcond T C c) (wbody T C b) T.fuel σ h) Q) : Gd (evS T C σ (.while_ c b) h) Q := by
  unfold evS
  first | exact q | exact gd_ret q
theorem wc_ok {c : Ex} {Q : Bool → VH → Prop} (q : Gd (evE T C σ c h) fun x h1 => ∃ b, x = .bl b ∧ Q b h1) : Gd (wcond T C c σ h) Q := by
  unfold wcond
  refine gd_bindM (gd_mono q fun x h1 q => ?_)
  obtain ⟨b, rfl, q⟩ := q
  first | exact q | exact gd_ret q
theorem wb_ok {b : Ss} (q : Gd (evSs T C σ b h) Q) : Gd (wbody T C b σ h) Q := q
theorem v_ret {e : Ex} (q : Gd (evE T C σ e h) fun v h1 => Q (.rt v) h1) : Gd (evS T C σ (.ret e) h) Q := by
  unfold evS
  exact gd_bindM (gd_mono q fun x h1 q => gd_ret q)
theorem v_retN (q : Q (.rt .non) h) : Gd (evS T C σ .retN h) Q := by unfold evS; first | exact q | exact gd_ret q
theorem v_brk (q : Q (.bk σ) h) : Gd (evS T C σ .brk h) Q := by unfold evS; first | exact q | exact gd_ret q
theorem v_cnt (q : Q (.ct σ) h) : Gd (evS T C σ .cnt h) Q := by unfold evS; first | exact q | exact gd_ret q
theorem v_nil (q : Q (.nx σ) h) : Gd (evSs T C σ .nil h) Q := by unfold evSs; first | exact q | exact gd_ret q
theorem v_cons {s : Sm} {r : Ss} (q : Gd (evS T C σ s h) fun fl h1 => GNx fl (fun σ' => Gd (evSs T C σ' r h1) Q) (Q fl h1)) : Gd (evSs T C σ (.cons s r) h) Q := by
  unfold evSs
  refine gd_bind (gd_mono q fun fl h1 q => ?_)
  cases fl <;> first | exact q | exact gd_ret q
end
end
theorem x_some {α : Type} {f : Option α} {v : α} {R : α → Prop} (e : f = some v) (q : R v) : ∃ v, f = some v ∧ R v := ⟨v, e, q⟩
theorem x_rng {i : Int} {R : Int → Prop} (e : okR i = true) (q : R i) : ∃ k, Val.int i = .int k ∧ okR k = true ∧ R k := ⟨i, rfl, e, q⟩
theorem x_rng2 {i j : Int} {R : Int → Int → Prop} (e : okR i = true) (e2 : okR j = true) (q : R i j) : ∃ k k2, Val.int i = .int k ∧ Val.int j = .int k2 ∧ okR k = true ∧ okR k2 = true ∧ R k k2 := ⟨i, j, rfl, rfl, e, e2, q⟩
theorem x_okr {i : Int} {R : Prop} (e : okR i = true) (q : R) : okR i = true ∧ R := ⟨e, q⟩
theorem x_sz {n : Nat} {R : Prop} (e : sz n = true) (q : R) : sz n = true ∧ R := ⟨e, q⟩
theorem x_ist {h : VH} {x : Val} {ts : List Ty} {R : Bool → Prop} (e : isinV h x ts = some true) (q : R true) : ∃ r, isinV h x ts = some r ∧ R r := ⟨_, e, q⟩
theorem x_isf {h : VH} {x : Val} {ts : List Ty} {R : Bool → Prop} (e : isinV h x ts = some false) (q : R false) : ∃ r, isinV h x ts = some r ∧ R r := ⟨_, e, q⟩
theorem g_t {b : Bool} {A B : Prop} (e : b = true) (a : A) : GIf (.bl b) A B := by subst e; exact g_tt a
theorem g_f {b : Bool} {A B : Prop} (e : b = false) (a : B) : GIf (.bl b) A B := by subst e; exact g_ff a
/-! ### heaps -/
theorem upto_wf {h : VH} (w : h.wf) : h.upto h.next = h.obs := by
  unfold VH.upto
  rw [List.filter_eq_self]
  intro p hp
  exact decide_eq_true (w p hp)
theorem same_self {h : VH} : h.same h := fun i o _ e => .inr e
theorem gc_self {h : VH} {v : Val} (w : h.wf) : gc h v h = h := by
  unfold gc
  split
  · rw [upto_wf w]
  · rfl
theorem w_run {T : Tb} {l k np ns : Nat} {body : Ss} {vs : List Val} {h : VH} {Q : Val → VH → Prop} (e : T.defs[k]? = some (.fn np ns body)) (hl : vs.length = np) (h0 : 0 < l)
    (q : Gd (evSs T (M.run T (l - 1)) (begin_ ns vs) body h) fun fl h1 => GRt fl fun v => Q v (gc h v h1)) : Gd (M.run T l k vs h) Q := by
  obtain ⟨l, rfl⟩ : ∃ m, l = m + 1 := ⟨l - 1, by omega⟩
  rw [Nat.add_sub_cancel] at q
  unfold M.run
  rw [e]
  dsimp only
  rw [if_pos hl]
  refine gd_bindM (gd_mono q fun fl h1 q => ?_)
  cases fl with
  | nx σ => exact gd_ret q
  | rt v => exact gd_ret q
  | bk σ => exact False.elim q
  | ct σ => exact False.elim q
/-- a def that leaves the heap as it was -/
theorem w_runp {T : Tb} {l k np ns : Nat} {body : Ss} {vs : List Val} {h : VH} {Q : Val → VH → Prop} (e : T.defs[k]? = some (.fn np ns body)) (hl : vs.length = np) (h0 : 0 < l) (w : h.wf)
    (q : Gd (evSs T (M.run T (l - 1)) (begin_ ns vs) body h) fun fl h1 => GRt fl fun v => h1 = h ∧ Q v h) : Gd (M.run T l k vs h) Q := by
  refine w_run e hl h0 (gd_mono q fun fl h1 q => ?_)
  cases fl <;> first
    | first | exact q | exact gd_ret q
    | (obtain ⟨rfl, q⟩ := q
       show Q _ (gc _ _ _)
       rw [gc_self w]
       first | exact q | exact gd_ret q)
end P
end

section
set_option Elab.async false
set_option linter.all false
set_option maxRecDepth 100000
set_option maxHeartbeats 1000000
/-! P2: loops, numbers. -/
namespace P
open M
open PySem

section
variable {Q : Fl → VH → Prop} {body : Val → Sl → Mo Fl}
theorem lp_fix {I : Nat → Sl → VH → Prop} {xs : List Val} {k0 : Nat} : ∀ {rest : List Val} {k : Nat} {σ : Sl} {h : VH}, xs.drop k = rest → I k σ h →
    (∀ k x σ h, xs[k]? = some x → I k σ h → Gd (body x σ h) fun fl h' => GLp fl (fun σ' => I (k + 1) σ' h') (fun σ' => Q (.nx σ') h') (fun v => Q (.rt v) h')) → (∀ σ h, I xs.length σ h → Q (.nx σ) h) → k ≤ xs.length → Gd (loopL body rest σ h) Q
  | [], k, σ, h, e, i, st, fin, hk => by
    have : k = xs.length := by
      have := congrArg List.length e
      rw [List.length_drop] at this
      simp at this
      omega
    subst this
    exact gd_ret (fin _ _ i)
  | x :: rest, k, σ, h, e, i, st, fin, hk => by
    have hx : xs[k]? = some x := by
      rw [← List.head?_drop, e]
      rfl
    have hk' : k < xs.length := (List.getElem?_eq_some_iff.mp hx).1
    have e' : xs.drop (k + 1) = rest := by
      rw [← List.drop_drop, e]
      rfl
    unfold loopL
    refine gd_bind (gd_mono (st k x σ h hx i) fun fl h' q => ?_)
    cases fl with
    | nx σ' => exact lp_fix (k0 := k0) e' q st fin hk'
    | ct σ' => exact lp_fix (k0 := k0) e' q st fin hk'
    | bk σ' => exact gd_ret q
    | rt v => exact gd_ret q
/-- a loop over what is fixed -/
theorem for_fix (I : Nat → Sl → VH → Prop) {xs : List Val} {σ : Sl} {h : VH} (i : I 0 σ h)
    (st : ∀ k x σ h, xs[k]? = some x → I k σ h → Gd (body x σ h) fun fl h' => GLp fl (fun σ' => I (k + 1) σ' h') (fun σ' => Q (.nx σ') h') (fun v => Q (.rt v) h')) (fin : ∀ σ h, I xs.length σ h → Q (.nx σ) h) : Gd (walkS (.fix xs) body σ h) Q :=
  lp_fix (k0 := 0) (xs := xs) rfl i st fin (Nat.zero_le _)
theorem lp_gen {I : Nat → Sl → VH → Prop} {item : VH → Nat → Option (Option Val)} {n : Nat} : ∀ {m k : Nat} {σ : Sl} {h : VH}, k + m = n → I k σ h →
    (∀ k σ h, k < n → I k σ h → ∃ x, item h k = some (some x) ∧ Gd (body x σ h) fun fl h' => GLp fl (fun σ' => I (k + 1) σ' h') (fun σ' => Q (.nx σ') h') (fun v => Q (.rt v) h')) → (∀ σ h, I n σ h → item h n = some none ∧ Q (.nx σ) h) → Gd (loop item body (m + 1) k σ h) Q
  | 0, k, σ, h, e, i, st, fin => by
    obtain rfl : k = n := by omega
    obtain ⟨f1, f2⟩ := fin _ _ i
    unfold loop
    rw [f1]
    exact gd_ret f2
  | m + 1, k, σ, h, e, i, st, fin => by
    obtain ⟨x, f1, f2⟩ := st k σ h (by omega) i
    unfold loop
    rw [f1]
    refine gd_bind (gd_mono f2 fun fl h' q => ?_)
    cases fl with
    | nx σ' => exact lp_gen (m := m) (by omega) q st fin
    | ct σ' => exact lp_gen (m := m) (by omega) q st fin
    | bk σ' => exact gd_ret q
    | rt v => exact gd_ret q
theorem for_rng (I : Nat → Sl → VH → Prop) {lo st : Int} {n : Nat} {σ : Sl} {h : VH} (i : I 0 σ h)
    (stp : ∀ k σ h, k < n → I k σ h → Gd (body (.int (lo + k * st)) σ h) fun fl h' => GLp fl (fun σ' => I (k + 1) σ' h') (fun σ' => Q (.nx σ') h') (fun v => Q (.rt v) h')) (fin : ∀ σ h, I n σ h → Q (.nx σ) h) : Gd (walkS (.rng lo st n) body σ h) Q := by
  show Gd (loop (fun h k => (Sv.rng lo st n).item h k) body (n + 1) 0 σ h) Q
  refine lp_gen (item := fun h k => (Sv.rng lo st n).item h k) (I := I) (n := n) (m := n) (k := 0) (by omega) i (fun k σ h hk i => ⟨_, ?_, stp k σ h hk i⟩) fun σ h i => ⟨?_, fin σ h i⟩
  · show some (if k < n then some _ else none) = _
    rw [if_pos hk]
  · show some (if n < n then some _ else none) = _
    rw [if_neg (Nat.lt_irrefl _)]
theorem wl_ok {c : Sl → Mo Bool} {bd : Sl → Mo Fl} (I : Nat → Sl → VH → Prop) : ∀ {fuel m : Nat} {σ : Sl} {h : VH}, m < fuel → I m σ h →
    (∀ m σ h, I m σ h → Gd (c σ h) fun b h' => (b = false → Q (.nx σ) h') ∧ (b = true → Gd (bd σ h') fun fl h'' => GLp fl (fun σ' => ∃ m', m' < m ∧ I m' σ' h'') (fun σ' => Q (.nx σ') h'') (fun v => Q (.rt v) h''))) → Gd (wloop c bd fuel σ h) Q
  | 0, m, σ, h, hm, i, st => absurd hm (Nat.not_lt_zero _)
  | fuel + 1, m, σ, h, hm, i, st => by
    unfold wloop
    refine gd_bind (gd_mono (st m σ h i) fun b h' q => ?_)
    cases b with
    | false => exact gd_ret (q.1 rfl)
    | true =>
      refine gd_bind (gd_mono (q.2 rfl) fun fl h' q => ?_)
      cases fl with
      | nx σ' => obtain ⟨m', lt, i'⟩ := q; exact wl_ok I (by omega) i' st
      | ct σ' => obtain ⟨m', lt, i'⟩ := q; exact wl_ok I (by omega) i' st
      | bk σ' => exact gd_ret q
      | rt v => exact gd_ret q
end
/-- a turn's head -/
theorem b_tg {T : Tb} {C : Nat → List Val → Mo Val} {tg : Tg} {v : Val} {σ : Sl} {b : Ss} {h : VH} {Q : Fl → VH → Prop} {σ' : Sl} (e : setTg tg v σ = some σ') (q : Gd (evSs T C σ' b h) Q) : Gd (fbody T C tg b v σ h) Q := by
  unfold fbody
  rw [e]
  exact q
section
variable {Q : List Val → VH → Prop} {body : Val → Mo (Option Val)}
theorem cl_fix {I : Nat → List Val → VH → Prop} {xs : List Val} : ∀ {rest : List Val} {k : Nat} {acc : List Val} {h : VH}, xs.drop k = rest → I k acc h →
    (∀ k x acc h, xs[k]? = some x → I k acc h → Gd (body x h) fun r h' => match r with
      | some y => acc.length ≤ 1000000 ∧ I (k + 1) (acc ++ [y]) h'
      | none => I (k + 1) acc h') → (∀ acc h, I xs.length acc h → Q acc h) → k ≤ xs.length → Gd (cloopL body rest acc h) Q
  | [], k, acc, h, e, i, st, fin, hk => by
    have : k = xs.length := by
      have := congrArg List.length e
      rw [List.length_drop] at this
      simp at this
      omega
    subst this
    exact gd_ret (fin _ _ i)
  | x :: rest, k, acc, h, e, i, st, fin, hk => by
    have hx : xs[k]? = some x := by
      rw [← List.head?_drop, e]
      rfl
    have hk' : k < xs.length := (List.getElem?_eq_some_iff.mp hx).1
    have e' : xs.drop (k + 1) = rest := by
      rw [← List.drop_drop, e]
      rfl
    unfold cloopL
    refine gd_bind (gd_mono (st k x acc h hx i) fun r h' q => ?_)
    cases r with
    | some y =>
      dsimp only
      rw [if_pos (by unfold sz; exact decide_eq_true q.1)]
      exact cl_fix e' q.2 st fin hk'
    | none => exact cl_fix e' q st fin hk'
theorem comp_fix (I : Nat → List Val → VH → Prop) {xs : List Val} {h : VH} (i : I 0 [] h)
    (st : ∀ k x acc h, xs[k]? = some x → I k acc h → Gd (body x h) fun r h' => match r with
      | some y => acc.length ≤ 1000000 ∧ I (k + 1) (acc ++ [y]) h'
      | none => I (k + 1) acc h') (fin : ∀ acc h, I xs.length acc h → Q acc h) : Gd (walkC (.fix xs) body h) Q :=
  cl_fix (xs := xs) rfl i st fin (Nat.zero_le _)
/-- each item by itself, the heap as it was -/
theorem comp_map (f : Val → Val) {xs : List Val} {h : VH} (hl : xs.length ≤ 1000000) (hb : ∀ x ∈ xs, ∀ R : Option Val → VH → Prop, R (some (f x)) h → Gd (body x h) R) (q : Q (xs.map f) h) : Gd (walkC (.fix xs) body h) Q := by
  refine comp_fix (fun k acc h' => h' = h ∧ acc = (xs.take k).map f ∧ k ≤ xs.length) ⟨rfl, rfl, Nat.zero_le _⟩ (fun k x acc h' hx i => ?_) fun acc h' i => ?_
  · obtain ⟨rfl, rfl, hk⟩ := i
    have hlt := (List.getElem?_eq_some_iff.mp hx).1
    refine hb x (List.mem_of_getElem? hx) _ ⟨?_, rfl, ?_, hlt⟩
    · rw [List.length_map, List.length_take]
      omega
    · rw [List.take_add_one, hx, List.map_append]
      rfl
  · obtain ⟨rfl, rfl, _⟩ := i
    rw [List.take_length]
    exact q
theorem comp_filter (p : Val → Bool) (f : Val → Val) {xs : List Val} {h : VH} (hl : xs.length ≤ 1000000) (hb : ∀ x ∈ xs, ∀ R : Option Val → VH → Prop, R (if p x then some (f x) else none) h → Gd (body x h) R) (q : Q ((xs.filter p).map f) h) : Gd (walkC (.fix xs) body h) Q := by
  refine comp_fix (fun k acc h' => h' = h ∧ acc = ((xs.take k).filter p).map f ∧ k ≤ xs.length) ⟨rfl, rfl, Nat.zero_le _⟩ (fun k x acc h' hx i => ?_) fun acc h' i => ?_
  · obtain ⟨rfl, rfl, hk⟩ := i
    have hlt := (List.getElem?_eq_some_iff.mp hx).1
    refine hb x (List.mem_of_getElem? hx) _ ?_
    have hlen : (((xs.take k).filter p).map f).length ≤ 1000000 := by
      rw [List.length_map]
      have := List.length_filter_le p (xs.take k)
      rw [List.length_take] at this
      omega
    have e : xs.take (k + 1) = xs.take k ++ [x] := by
      rw [List.take_add_one, hx]
      rfl
    cases hp : p x with
    | true =>
      rw [if_pos rfl]
      refine ⟨hlen, rfl, ?_, hlt⟩
      rw [e, List.filter_append, List.map_append, List.filter_cons, if_pos hp]
      rfl
    | false =>
      rw [if_neg (by decide)]
      refine ⟨rfl, ?_, hlt⟩
      rw [e, List.filter_append, List.map_append, List.filter_cons, if_neg (by rw [hp]; decide)]
      simp
  · obtain ⟨rfl, rfl, _⟩ := i
    rw [List.take_length]
    exact q
theorem cl_gen {I : Nat → List Val → VH → Prop} {item : VH → Nat → Option (Option Val)} {n : Nat} : ∀ {m k : Nat} {acc : List Val} {h : VH}, k + m = n → I k acc h →
    (∀ k acc h, k < n → I k acc h → ∃ x, item h k = some (some x) ∧ Gd (body x h) fun r h' => match r with
      | some y => acc.length ≤ 1000000 ∧ I (k + 1) (acc ++ [y]) h'
      | none => I (k + 1) acc h') → (∀ acc h, I n acc h → item h n = some none ∧ Q acc h) → Gd (cloop item body (m + 1) k acc h) Q
  | 0, k, acc, h, e, i, st, fin => by
    obtain rfl : k = n := by omega
    obtain ⟨f1, f2⟩ := fin _ _ i
    unfold cloop
    rw [f1]
    exact gd_ret f2
  | m + 1, k, acc, h, e, i, st, fin => by
    obtain ⟨x, f1, f2⟩ := st k acc h (by omega) i
    unfold cloop
    rw [f1]
    refine gd_bind (gd_mono f2 fun r h' q => ?_)
    cases r with
    | some y =>
      dsimp only
      rw [if_pos (by unfold sz; exact decide_eq_true q.1)]
      exact cl_gen (m := m) (by omega) q.2 st fin
    | none => exact cl_gen (m := m) (by omega) q st fin
theorem comp_rng (I : Nat → List Val → VH → Prop) {lo st : Int} {n : Nat} {h : VH} (i : I 0 [] h)
    (stp : ∀ k acc h, k < n → I k acc h → Gd (body (.int (lo + k * st)) h) fun r h' => match r with
      | some y => acc.length ≤ 1000000 ∧ I (k + 1) (acc ++ [y]) h'
      | none => I (k + 1) acc h') (fin : ∀ acc h, I n acc h → Q acc h) : Gd (walkC (.rng lo st n) body h) Q := by
  show Gd (cloop (fun h k => (Sv.rng lo st n).item h k) body (n + 1) 0 [] h) Q
  refine cl_gen (item := fun h k => (Sv.rng lo st n).item h k) (I := I) (n := n) (m := n) (k := 0) (by omega) i (fun k σ h hk i => ⟨_, ?_, stp k σ h hk i⟩) fun σ h i => ⟨?_, fin σ h i⟩
  · show some (if k < n then some _ else none) = _
    rw [if_pos hk]
  · show some (if n < n then some _ else none) = _
    rw [if_neg (Nat.lt_irrefl _)]
end
section
variable {T : Tb} {C : Nat → List Val → Mo Val} {Q : Option Val → VH → Prop} {tg : Tg} {v : Val} {σ σ' : Sl} {elt : Ex} {h : VH}
theorem cb_el (e : setTg tg v σ = some σ') (q : Gd (evE T C σ' elt h) fun y h' => Q (some y) h') : Gd (cbF T C tg σ none elt v h) Q := by
  unfold cbF compB
  rw [e]
  exact gd_bindM (gd_mono q fun y h' q => gd_ret q)
theorem cb_if {c : Ex} (e : setTg tg v σ = some σ') (q : Gd (evE T C σ' c h) fun b h' => GIf b (Gd (evE T C σ' elt h') fun y h' => Q (some y) h') (Q none h')) : Gd (cbF T C tg σ (some c) elt v h) Q := by
  unfold cbF compB
  rw [e]
  refine gd_bindM (gd_mono q fun y h' q => ?_)
  obtain ⟨b, rfl, q1, q2⟩ := q
  cases b with
  | true => exact gd_bindM (gd_mono (q1 rfl) fun y h' q => gd_ret q)
  | false => exact gd_ret (q2 rfl)
end
/-! ### numbers -/
theorem big_le {i : Int} {n : Nat} (h : i.natAbs < 2 ^ n) : big i ≤ n := by
  unfold big
  by_cases z : i.natAbs = 0
  · rw [z]
    simp
  · exact Nat.le_of_lt ((Nat.log2_lt z).mpr h)
section
variable {h : VH} {m : Bool} {Q : Val → VH → Prop} {i j : Int}
theorem b_add (q : Q (.int (i + j)) h) : outG m (binV h .add (.int i) (.int j)) h Q := o_v q
theorem b_sub (q : Q (.int (i - j)) h) : outG m (binV h .sub (.int i) (.int j)) h Q := o_v q
theorem b_mul {a b : Nat} (hi : i.natAbs < 2 ^ a) (hj : j.natAbs < 2 ^ b) (hs : a + b < 1000000) (q : Q (.int (i * j)) h) : outG m (binV h .mul (.int i) (.int j)) h Q := by
  have e : binI .mul i j = some (.int (i * j)) := by
    unfold binI
    simp only
    have h1 := big_le hi
    have h2 := big_le hj
    rw [if_pos (by unfold lim; omega)]
  show outG m ((binI .mul i j).map Rv.v) h Q
  rw [e]
  exact o_v q
theorem b_fdiv {b : Nat} (hj : j.natAbs < 2 ^ b) (hb : b < 9000) (h0 : j ≠ 0) (q : Q (.int (i.fdiv j)) h) : outG m (binV h .fdiv (.int i) (.int j)) h Q := by
  have e : binI .fdiv i j = some (.int (i.fdiv j)) := by
    unfold binI
    simp only
    have h1 := big_le hj
    rw [if_neg h0, if_pos (by omega)]
  show outG m ((binI .fdiv i j).map Rv.v) h Q
  rw [e]
  exact o_v q
theorem b_mod (h0 : j ≠ 0) (q : Q (.int (i.fmod j)) h) : outG m (binV h .mod (.int i) (.int j)) h Q := by
  have e : binI .mod i j = some (.int (i.fmod j)) := by
    unfold binI
    simp only
    rw [if_neg h0]
  show outG m ((binI .mod i j).map Rv.v) h Q
  rw [e]
  exact o_v q
end
/-! ### built-in calls -/
section
variable {h : VH} {m : Bool} {Q : Val → VH → Prop} {i j : Int} {xs : List Val}
theorem i_len_t (q : Q (.int xs.length) h) : outG m (biV h .len [.tup xs]) h Q := o_v q
theorem i_len_l (q : Q (.int xs.length) h) : outG m (biV h .len [.lst xs]) h Q := o_v q
theorem i_list_t (q : outG m (some (.nl xs)) h Q) : outG m (biV h .list [.tup xs]) h Q := q
theorem i_list_l (q : outG m (some (.nl xs)) h Q) : outG m (biV h .list [.lst xs]) h Q := q
theorem i_tuple_t (q : Q (.tup xs) h) : outG m (biV h .tuple [.tup xs]) h Q := o_v q
theorem i_tuple_l (q : Q (.tup xs) h) : outG m (biV h .tuple [.lst xs]) h Q := o_v q
theorem i_abs (q : Q (.int (if i < 0 then -i else i)) h) : outG m (biV h .abs [.int i]) h Q := o_v q
theorem i_int (q : Q (.int i) h) : outG m (biV h .int [.int i]) h Q := o_v q
theorem i_gcd (q : Q (.int (Nat.gcd i.natAbs j.natAbs : Nat)) h) : outG m (biV h .gcd [.int i, .int j]) h Q := o_v q
theorem r_rev_t (q : Q (.tup xs.reverse) h) : outG m (revV h (.tup xs)) h Q := o_v q
theorem r_rev_l (q : outG m (some (.nl xs.reverse)) h Q) : outG m (revV h (.lst xs)) h Q := q
theorem i_all {bs : List Bool} (e : blsOf xs = some bs) (q : Q (.bl (bs.all id)) h) : outG m (biV h .all [.lst xs]) h Q := by
  show outG m ((lseq h (.lst xs)).bind fun xs => (blsOf xs).map fun ns => .v (.bl (ns.all id))) h Q
  have : lseq h (.lst xs) = some xs := rfl
  rw [this]
  simp only [Option.bind_some, e, Option.map_some]
  exact o_v q
theorem i_any {bs : List Bool} (e : blsOf xs = some bs) (q : Q (.bl (bs.any id)) h) : outG m (biV h .any [.lst xs]) h Q := by
  show outG m ((lseq h (.lst xs)).bind fun xs => (blsOf xs).map fun ns => .v (.bl (ns.any id))) h Q
  have : lseq h (.lst xs) = some xs := rfl
  rw [this]
  simp only [Option.bind_some, e, Option.map_some]
  exact o_v q
theorem i_max {ns : List Int} {k : Int} (e : intsOf xs = some ns) (e2 : maxI ns = some k) (q : Q (.int k) h) : outG m (biV h .max [.lst xs]) h Q := by
  show outG m ((lseq h (.lst xs)).bind fun xs => (intsOf xs).bind fun ns => (maxI ns).map fun m => .v (.int m)) h Q
  have : lseq h (.lst xs) = some xs := rfl
  rw [this]
  simp only [Option.bind_some, e, e2, Option.map_some]
  exact o_v q
theorem i_min {ns : List Int} {k : Int} (e : intsOf xs = some ns) (e2 : minI ns = some k) (q : Q (.int k) h) : outG m (biV h .min [.lst xs]) h Q := by
  show outG m ((lseq h (.lst xs)).bind fun xs => (intsOf xs).bind fun ns => (minI ns).map fun m => .v (.int m)) h Q
  have : lseq h (.lst xs) = some xs := rfl
  rw [this]
  simp only [Option.bind_some, e, e2, Option.map_some]
  exact o_v q
theorem i_sum {ns : List Int} (e : intsOf xs = some ns) (q : Q (.int ns.sum) h) : outG m (biV h .sum [.lst xs]) h Q := by
  show outG m ((lseq h (.lst xs)).bind fun xs => (intsOf xs).map fun ns => .v (.int ns.sum)) h Q
  have : lseq h (.lst xs) = some xs := rfl
  rw [this]
  simp only [Option.bind_some, e, Option.map_some]
  exact o_v q
end
theorem bls_map {α : Type} (f : α → Bool) : ∀ l : List α, blsOf (l.map fun x => Val.bl (f x)) = some (l.map f)
  | [] => rfl
  | a :: l => by
    show (blsOf (l.map fun x => Val.bl (f x))).map (f a :: ·) = _
    rw [bls_map f l]
    rfl
theorem ints_map {α : Type} (f : α → Int) : ∀ l : List α, intsOf (l.map fun x => Val.int (f x)) = some (l.map f)
  | [] => rfl
  | a :: l => by
    show (intsOf (l.map fun x => Val.int (f x))).map (f a :: ·) = _
    rw [ints_map f l]
    rfl
end P
end

section
set_option Elab.async false
set_option linter.all false
set_option maxRecDepth 100000
set_option maxHeartbeats 1000000
/-! P3: ratios. -/
namespace P
open M
open PySem

/-! ### sizes -/
def Sq (n : Nat) (q : Rat) : Prop := q.num.natAbs < 2 ^ n ∧ q.den < 2 ^ n
theorem Sq.mono {n m : Nat} {q : Rat} (h : Sq n q) (l : n ≤ m) : Sq m q := ⟨Nat.lt_of_lt_of_le h.1 (Nat.pow_le_pow_right (by decide) l), Nat.lt_of_lt_of_le h.2 (Nat.pow_le_pow_right (by decide) l)⟩
theorem divInt_num_le {a b : Int} (hb : b ≠ 0) : (Rat.divInt a b).num.natAbs ≤ a.natAbs := by
  rw [Rat.num_divInt]
  have h1 : (b.sign * a / (b.gcd a : Int)).natAbs ≤ (b.sign * a).natAbs := by
    have := Int.natAbs_ediv_le_natAbs (b.sign * a) (b.gcd a)
    exact this
  rw [Int.natAbs_mul, Int.natAbs_sign] at h1
  rw [if_neg hb, Nat.one_mul] at h1
  exact h1
theorem divInt_den_le {a b : Int} (hb : b ≠ 0) : (Rat.divInt a b).den ≤ b.natAbs := by
  rw [Rat.den_divInt, if_neg hb]
  exact Nat.div_le_self _ _
theorem Sq.div {n : Nat} {a b : Int} (hb : b ≠ 0) (h1 : a.natAbs < 2 ^ n) (h2 : b.natAbs < 2 ^ n) : Sq n (Rat.divInt a b) := ⟨Nat.lt_of_le_of_lt (divInt_num_le hb) h1, Nat.lt_of_le_of_lt (divInt_den_le hb) h2⟩
theorem pow_mul_lt {a b n m : Nat} (h1 : a < 2 ^ n) (h2 : b < 2 ^ m) : a * b < 2 ^ (n + m) := by
  rw [Nat.pow_add]
  exact Nat.mul_lt_mul_of_lt_of_lt h1 h2
theorem abs_mul_lt {a b : Int} {n m : Nat} (h1 : a.natAbs < 2 ^ n) (h2 : b.natAbs < 2 ^ m) : (a * b).natAbs < 2 ^ (n + m) := by
  rw [Int.natAbs_mul]
  exact pow_mul_lt h1 h2
theorem abs_add_lt {a b : Int} {n : Nat} (h1 : a.natAbs < 2 ^ n) (h2 : b.natAbs < 2 ^ n) : (a + b).natAbs < 2 ^ (n + 1) := by
  have := Int.natAbs_add_le a b
  rw [Nat.pow_succ]
  omega
theorem abs_sub_lt {a b : Int} {n : Nat} (h1 : a.natAbs < 2 ^ n) (h2 : b.natAbs < 2 ^ n) : (a - b).natAbs < 2 ^ (n + 1) := by
  have := Int.natAbs_sub_le a b
  rw [Nat.pow_succ]
  omega
theorem lt_mono {a n m : Nat} (h : a < 2 ^ n) (l : n ≤ m) : a < 2 ^ m := Nat.lt_of_lt_of_le h (Nat.pow_le_pow_right (by decide) l)
theorem den_ne (q : Rat) : (q.den : Int) ≠ 0 := by
  have := q.den_pos
  omega
theorem den_abs (q : Rat) : (q.den : Int).natAbs = q.den := rfl
theorem Sq.add {n m : Nat} {q r : Rat} (h1 : Sq n q) (h2 : Sq m r) : Sq (n + m + 1) (q + r) := by
  rw [← Rat.num_divInt_den q, ← Rat.num_divInt_den r, Rat.divInt_add_divInt _ _ (den_ne q) (den_ne r)]
  refine Sq.div (Int.mul_ne_zero (den_ne q) (den_ne r)) ?_ ?_
  · refine abs_add_lt (abs_mul_lt h1.1 h2.2) ?_
    rw [Nat.add_comm n m]
    exact abs_mul_lt h2.1 h1.2
  · exact lt_mono (abs_mul_lt h1.2 h2.2) (Nat.le_succ _)
theorem Sq.sub {n m : Nat} {q r : Rat} (h1 : Sq n q) (h2 : Sq m r) : Sq (n + m + 1) (q - r) := by
  rw [← Rat.num_divInt_den q, ← Rat.num_divInt_den r, Rat.divInt_sub_divInt _ _ (den_ne q) (den_ne r)]
  refine Sq.div (Int.mul_ne_zero (den_ne q) (den_ne r)) ?_ ?_
  · refine abs_sub_lt (abs_mul_lt h1.1 h2.2) ?_
    rw [Nat.add_comm n m]
    exact abs_mul_lt h2.1 h1.2
  · exact lt_mono (abs_mul_lt h1.2 h2.2) (Nat.le_succ _)
theorem Sq.mul {n m : Nat} {q r : Rat} (h1 : Sq n q) (h2 : Sq m r) : Sq (n + m) (q * r) := by
  rw [← Rat.num_divInt_den q, ← Rat.num_divInt_den r, Rat.divInt_mul_divInt]
  exact Sq.div (Int.mul_ne_zero (den_ne q) (den_ne r)) (abs_mul_lt h1.1 h2.1) (abs_mul_lt h1.2 h2.2)
theorem Sq.neg {n : Nat} {q : Rat} (h : Sq n q) : Sq n (-q) := by
  refine ⟨?_, ?_⟩
  · rw [Rat.neg_num, Int.natAbs_neg]
    exact h.1
  · rw [Rat.neg_den]
    exact h.2
theorem Sq.int {n : Nat} {i : Int} (h : i.natAbs < 2 ^ n) (hn : 0 < n) : Sq n (i : Rat) := ⟨h, Nat.one_lt_two_pow (by omega)⟩
/-! ### order, by crosswise products -/
theorem divInt_lt {a b c d : Int} (hb : 0 < b) (hd : 0 < d) : Rat.divInt a b < Rat.divInt c d ↔ a * d < c * b := by
  rw [Rat.divInt_eq_div, Rat.divInt_eq_div]
  have hb' : (0 : Rat) < b := by exact_mod_cast hb
  have hd' : (0 : Rat) < d := by exact_mod_cast hd
  constructor
  · intro h
    have h2 : (a : Rat) * d < c * b := by
      have e1 : (a : Rat) * d = (a / b) * (b * d) := by grind
      have e2 : (c : Rat) * b = (c / d) * (b * d) := by grind
      rw [e1, e2]
      exact (Rat.mul_lt_mul_right (Rat.mul_pos hb' hd')).mpr h
    exact_mod_cast h2
  · intro h
    have h2 : (a : Rat) * d < c * b := by exact_mod_cast h
    have e1 : (a : Rat) * d = (a / b) * (b * d) := by grind
    have e2 : (c : Rat) * b = (c / d) * (b * d) := by grind
    rw [e1, e2] at h2
    exact (Rat.mul_lt_mul_right (Rat.mul_pos hb' hd')).mp h2
/-! ### values -/
/-- a ratio as it is told -/
def qv (q : Rat) : Val := .tup [.int q.num, .int (q.den : Int)]
/-- two numbers, in a tuple or a list -/
def Pr (v : Val) (p d : Int) : Prop := v = .tup [.int p, .int d] ∨ v = .lst [.int p, .int d]
/-- a ratio as it may be passed -/
structure Rq (v : Val) (q : Rat) (n : Nat) (p d : Int) : Prop where
  pos : 0 < d
  eq : q = Rat.divInt p d
  top : p.natAbs < 2 ^ n
  bot : d.natAbs < 2 ^ n
  form : (v = .int p ∧ d = 1) ∨ Pr v p d
def Ra (v : Val) (q : Rat) (n : Nat) : Prop := ∃ p d, Rq v q n p d
theorem Ra.sq {v : Val} {q : Rat} {n : Nat} (h : Ra v q n) : Sq n q := by
  obtain ⟨p, d, h1, rfl, h2, h3, _⟩ := h
  exact Sq.div (by omega) h2 h3
theorem Ra.mono {v : Val} {q : Rat} {n m : Nat} (h : Ra v q n) (l : n ≤ m) : Ra v q m := by
  obtain ⟨p, d, h1, h2, h3, h4, h5⟩ := h
  exact ⟨p, d, h1, h2, lt_mono h3 l, lt_mono h4 l, h5⟩
theorem ra_qv {q : Rat} {n : Nat} (h : Sq n q) : Ra (qv q) q n := ⟨q.num, q.den, by have := q.den_pos; omega, (Rat.num_divInt_den q).symm, h.1, h.2, .inr (.inl rfl)⟩
theorem ra_int {i : Int} {n : Nat} (h : i.natAbs < 2 ^ n) (hn : 0 < n) : Ra (.int i) (i : Rat) n := ⟨i, 1, by decide, by rw [Rat.divInt_eq_div]; grind, h, Nat.one_lt_two_pow (by omega), .inl ⟨rfl, rfl⟩⟩
theorem pr0 {h : VH} {v : Val} {p d : Int} (e : Pr v p d) : subV h v (.int 0) = some (.int p) := by
  rcases e with rfl | rfl <;> rfl
theorem pr1 {h : VH} {v : Val} {p d : Int} (e : Pr v p d) : subV h v (.int 1) = some (.int d) := by
  rcases e with rfl | rfl <;> rfl
theorem qv_pr {q : Rat} : Pr (qv q) q.num q.den := .inl rfl
theorem qv_inj {q r : Rat} : qv q = qv r ↔ q = r := by
  constructor
  · intro h
    unfold qv at h
    injection h with h
    injection h with h1 h2
    injection h2 with h2 h3
    injection h1 with h1
    injection h2 with h2
    exact Rat.ext h1 (by exact_mod_cast h2)
  · rintro rfl; rfl
/-! ### lowest terms -/
theorem fdiv_gcd_num {a b : Int} (hb : 0 < b) : a.fdiv (Nat.gcd a.natAbs b.natAbs : Nat) = (Rat.divInt a b).num := by
  rw [Rat.num_divInt, Int.sign_eq_one_of_pos hb, Int.one_mul, Int.fdiv_eq_ediv_of_nonneg _ (by omega), Int.gcd, Nat.gcd_comm]
theorem fdiv_gcd_den {a b : Int} (hb : 0 < b) : b.fdiv (Nat.gcd a.natAbs b.natAbs : Nat) = ((Rat.divInt a b).den : Int) := by
  rw [Rat.den_divInt, if_neg (by omega), Int.fdiv_eq_ediv_of_nonneg _ (by omega), Int.gcd, Nat.gcd_comm]
  have : (b.natAbs : Int) = b := Int.natAbs_of_nonneg (by omega)
  rw [Int.natCast_ediv, this]
theorem gcd_ne {a b : Int} (hb : b ≠ 0) : ((Nat.gcd a.natAbs b.natAbs : Nat) : Int) ≠ 0 := by
  have : 0 < Nat.gcd a.natAbs b.natAbs := Nat.gcd_pos_of_pos_right _ (Int.natAbs_pos.mpr hb)
  omega
theorem gcd_le {a b : Int} (hb : b ≠ 0) : ((Nat.gcd a.natAbs b.natAbs : Nat) : Int).natAbs ≤ b.natAbs := by
  show Nat.gcd a.natAbs b.natAbs ≤ b.natAbs
  exact Nat.gcd_le_right _ (Int.natAbs_pos.mpr hb)
theorem neg_fdiv_neg {a b : Int} : (-a).fdiv (-b) = a.fdiv b := by simp [Int.neg_fdiv_neg]
theorem divInt_neg2 {a b : Int} : Rat.divInt (-a) (-b) = Rat.divInt a b := by
  rw [Rat.divInt_eq_div, Rat.divInt_eq_div, Rat.intCast_neg, Rat.intCast_neg]
  by_cases h : (b : Rat) = 0
  · rw [h]; grind
  · grind
end P
end

section
set_option Elab.async false
set_option linter.all false
set_option maxRecDepth 100000
set_option maxHeartbeats 1000000
/-! P4: equality of data, heaps with a pen, local lists. -/
namespace P
open M
open PySem

/-! ### data without truth values -/
mutual
def plB : Nat → Val → Bool
  | _, .non => true
  | _, .int _ => true
  | _, .str x => PyData.strOk x
  | 0, .tup _ => false
  | n + 1, .tup xs => plBs n xs
  | 0, .lst _ => false
  | n + 1, .lst xs => plBs n xs
  | _, _ => false
def plBs : Nat → List Val → Bool
  | _, [] => true
  | n, x :: xs => plB n x && plBs n xs
end
theorem plBs_iff {n : Nat} : ∀ {xs : List Val}, plBs n xs = true ↔ ∀ x ∈ xs, plB n x = true
  | [] => by simp [plBs]
  | x :: xs => by
    rw [plBs, Bool.and_eq_true, plBs_iff]
    simp
mutual
theorem pl_toD : ∀ {n : Nat} {x : Val}, plB n x = true → ∃ d, x.toD = some d ∧ d.canLay0 = true ∧ d.depth ≤ n
  | n, .non, _ => ⟨_, rfl, rfl, by simp [PyData.depth]⟩
  | n, .int i, _ => ⟨_, rfl, rfl, by simp [PyData.depth]⟩
  | n, .str x, h => ⟨.str x, rfl, by rw [plB] at h; rw [PyData.canLay0]; exact h, by simp [PyData.depth]⟩
  | n + 1, .tup xs, h => by
    rw [plB] at h
    obtain ⟨ds, e, a, b⟩ := pl_toDs h
    exact ⟨.tuple ds, by rw [Val.toD, e]; rfl, by rw [PyData.canLay0]; exact a, by rw [PyData.depth]; omega⟩
  | n + 1, .lst xs, h => by
    rw [plB] at h
    obtain ⟨ds, e, a, b⟩ := pl_toDs h
    exact ⟨.list ds, by rw [Val.toD, e]; rfl, by rw [PyData.canLay0]; exact a, by rw [PyData.depth]; omega⟩
  | 0, .tup xs, h => by simp [plB] at h
  | 0, .lst xs, h => by simp [plB] at h
  | n, .bl _, h => by simp [plB] at h
  | n, .obj _ _, h => by simp [plB] at h
  | n, .ref _, h => by simp [plB] at h
  | n, .pen, h => by simp [plB] at h
  | n, .scr _, h => by simp [plB] at h
theorem pl_toDs : ∀ {n : Nat} {xs : List Val}, plBs n xs = true → ∃ ds, Val.toDs xs = some ds ∧ PyData.canLayAll0 ds = true ∧ PyData.depthAll ds ≤ n
  | n, [], _ => ⟨[], rfl, rfl, by simp [PyData.depthAll]⟩
  | n, x :: xs, h => by
    rw [plBs, Bool.and_eq_true] at h
    obtain ⟨d, e1, a1, b1⟩ := pl_toD h.1
    obtain ⟨ds, e2, a2, b2⟩ := pl_toDs h.2
    refine ⟨d :: ds, by rw [Val.toDs, e1, e2], by rw [PyData.canLayAll0, a1, a2]; rfl, ?_⟩
    rw [PyData.depthAll]
    exact Nat.max_le.mpr ⟨b1, b2⟩
end
mutual
theorem eqv_iff : ∀ {n m : Nat} {x y : Val} {d e : PyData}, plB n x = true → plB m y = true → x.toD = some d → y.toD = some e → (PyData.eqv d e = true ↔ x = y)
  | n, m, x, y, d, e, hx, hy, ex, ey => by
    cases x with
    | non =>
      cases ex
      cases y with
      | non => cases ey; simp [PyData.eqv]
      | int i => cases ey; simp [PyData.eqv]
      | str i => cases ey; simp [PyData.eqv]
      | tup ys =>
        cases m with
        | zero => simp [plB] at hy
        | succ m => rw [plB] at hy; obtain ⟨es, e1, _, _⟩ := pl_toDs hy; rw [Val.toD, e1] at ey; cases ey; simp [PyData.eqv]
      | lst ys =>
        cases m with
        | zero => simp [plB] at hy
        | succ m => rw [plB] at hy; obtain ⟨es, e1, _, _⟩ := pl_toDs hy; rw [Val.toD, e1] at ey; cases ey; simp [PyData.eqv]
      | _ => simp [plB] at hy
    | int j =>
      cases ex
      cases y with
      | non => cases ey; simp [PyData.eqv]
      | int i => cases ey; simp [PyData.eqv]
      | str i => cases ey; simp [PyData.eqv]
      | tup ys =>
        cases m with
        | zero => simp [plB] at hy
        | succ m => rw [plB] at hy; obtain ⟨es, e1, _, _⟩ := pl_toDs hy; rw [Val.toD, e1] at ey; cases ey; simp [PyData.eqv]
      | lst ys =>
        cases m with
        | zero => simp [plB] at hy
        | succ m => rw [plB] at hy; obtain ⟨es, e1, _, _⟩ := pl_toDs hy; rw [Val.toD, e1] at ey; cases ey; simp [PyData.eqv]
      | _ => simp [plB] at hy
    | str j =>
      cases ex
      cases y with
      | non => cases ey; simp [PyData.eqv]
      | int i => cases ey; simp [PyData.eqv]
      | str i => cases ey; simp [PyData.eqv]
      | tup ys =>
        cases m with
        | zero => simp [plB] at hy
        | succ m => rw [plB] at hy; obtain ⟨es, e1, _, _⟩ := pl_toDs hy; rw [Val.toD, e1] at ey; cases ey; simp [PyData.eqv]
      | lst ys =>
        cases m with
        | zero => simp [plB] at hy
        | succ m => rw [plB] at hy; obtain ⟨es, e1, _, _⟩ := pl_toDs hy; rw [Val.toD, e1] at ey; cases ey; simp [PyData.eqv]
      | _ => simp [plB] at hy
    | tup xs =>
      cases n with
      | zero => simp [plB] at hx
      | succ n =>
        rw [plB] at hx
        obtain ⟨ds, e0, _, _⟩ := pl_toDs hx
        rw [Val.toD, e0] at ex
        cases ex
        cases y with
        | non => cases ey; simp [PyData.eqv]
        | int i => cases ey; simp [PyData.eqv]
        | str i => cases ey; simp [PyData.eqv]
        | tup ys =>
          cases m with
          | zero => simp [plB] at hy
          | succ m =>
            rw [plB] at hy
            obtain ⟨es, e1, _, _⟩ := pl_toDs hy
            rw [Val.toD, e1] at ey
            cases ey
            rw [PyData.eqv, eqvs_iff hx hy e0 e1]
            simp
        | lst ys =>
          cases m with
          | zero => simp [plB] at hy
          | succ m => rw [plB] at hy; obtain ⟨es, e1, _, _⟩ := pl_toDs hy; rw [Val.toD, e1] at ey; cases ey; simp [PyData.eqv]
        | _ => simp [plB] at hy
    | lst xs =>
      cases n with
      | zero => simp [plB] at hx
      | succ n =>
        rw [plB] at hx
        obtain ⟨ds, e0, _, _⟩ := pl_toDs hx
        rw [Val.toD, e0] at ex
        cases ex
        cases y with
        | non => cases ey; simp [PyData.eqv]
        | int i => cases ey; simp [PyData.eqv]
        | str i => cases ey; simp [PyData.eqv]
        | tup ys =>
          cases m with
          | zero => simp [plB] at hy
          | succ m => rw [plB] at hy; obtain ⟨es, e1, _, _⟩ := pl_toDs hy; rw [Val.toD, e1] at ey; cases ey; simp [PyData.eqv]
        | lst ys =>
          cases m with
          | zero => simp [plB] at hy
          | succ m =>
            rw [plB] at hy
            obtain ⟨es, e1, _, _⟩ := pl_toDs hy
            rw [Val.toD, e1] at ey
            cases ey
            rw [PyData.eqv, eqvs_iff hx hy e0 e1]
            simp
        | _ => simp [plB] at hy
    | _ => simp [plB] at hx
theorem eqvs_iff : ∀ {n m : Nat} {xs ys : List Val} {ds es : List PyData}, plBs n xs = true → plBs m ys = true → Val.toDs xs = some ds → Val.toDs ys = some es → (PyData.eqvAll ds es = true ↔ xs = ys)
  | n, m, [], [], ds, es, _, _, e1, e2 => by
    cases e1
    cases e2
    simp [PyData.eqvAll]
  | n, m, [], y :: ys, ds, es, _, hy, e1, e2 => by
    cases e1
    obtain ⟨es', z, _, _⟩ := pl_toDs hy
    rw [plBs, Bool.and_eq_true] at hy
    obtain ⟨d, a, _, _⟩ := pl_toD hy.1
    obtain ⟨ds', b, _, _⟩ := pl_toDs hy.2
    rw [Val.toDs, a, b] at e2
    cases e2
    simp [PyData.eqvAll]
  | n, m, x :: xs, [], ds, es, hx, _, e1, e2 => by
    cases e2
    rw [plBs, Bool.and_eq_true] at hx
    obtain ⟨d, a, _, _⟩ := pl_toD hx.1
    obtain ⟨ds', b, _, _⟩ := pl_toDs hx.2
    rw [Val.toDs, a, b] at e1
    cases e1
    simp [PyData.eqvAll]
  | n, m, x :: xs, y :: ys, ds, es, hx, hy, e1, e2 => by
    rw [plBs, Bool.and_eq_true] at hx hy
    obtain ⟨d, a, _, _⟩ := pl_toD hx.1
    obtain ⟨ds', b, _, _⟩ := pl_toDs hx.2
    rw [Val.toDs, a, b] at e1
    cases e1
    obtain ⟨d2, a2, _, _⟩ := pl_toD hy.1
    obtain ⟨ds2, b2, _, _⟩ := pl_toDs hy.2
    rw [Val.toDs, a2, b2] at e2
    cases e2
    rw [PyData.eqvAll, Bool.and_eq_true, eqv_iff hx.1 hy.1 a a2, eqvs_iff hx.2 hy.2 b b2]
    simp
end
/-- a truth value that says something -/
def Tv (b : Bool) (p : Prop) : Prop := b = true ↔ p
theorem eqD_pl {x y : Val} {n : Nat} (hn : n ≤ 60) (hx : plB n x = true) (hy : plB n y = true) : ∃ b, eqD x y = some b ∧ (b = true ↔ x = y) := by
  obtain ⟨d, e1, a1, b1⟩ := pl_toD hx
  obtain ⟨e, e2, a2, b2⟩ := pl_toD hy
  refine ⟨PyData.eqv d e, ?_, eqv_iff hx hy e1 e2⟩
  unfold eqD
  rw [e1, e2]
  dsimp only
  rw [if_pos]
  unfold SeqAt.shaped
  rw [a1, a2, decide_eq_true (show d.depth ≤ 64 by omega), decide_eq_true (show e.depth ≤ 64 by omega)]
  rfl
section
variable {T : Tb} {C : Nat → List Val → Mo Val} {h : VH} {Q : Val → VH → Prop}
theorem c_eqP (n : Nat) {x y : Val} (hn : n ≤ 60) (hx : plB n x = true) (hy : plB n y = true) (q : ∀ b : Bool, (b = true ↔ x = y) → Q (.bl b) h) : GCm T C .eq x y h Q := by
  obtain ⟨b, e, i⟩ := eqD_pl hn hx hy
  exact c_val (by unfold cmpV; simp only [e]) (q b i)
theorem c_neP (n : Nat) {x y : Val} (hn : n ≤ 60) (hx : plB n x = true) (hy : plB n y = true) (q : ∀ b : Bool, (b = true ↔ x ≠ y) → Q (.bl b) h) : GCm T C .ne x y h Q := by
  obtain ⟨b, e, i⟩ := eqD_pl hn hx hy
  refine c_val (b := !b) (by unfold cmpV; simp only [e]; rfl) (q _ ?_)
  cases b
  · simp only [Bool.not_false, true_iff]
    intro z
    exact absurd (i.mpr z) (by decide)
  · simp only [Bool.not_true]
    constructor
    · intro z; cases z
    · intro z; exact absurd (i.mp rfl) z
end
theorem pl_qv {n : Nat} {q : Rat} (hn : 0 < n) : plB n (qv q) = true := by
  obtain ⟨m, rfl⟩ : ∃ m, n = m + 1 := ⟨n - 1, by omega⟩
  unfold qv
  rw [plB]
  simp [plBs, plB]
theorem pl_qvs {n : Nat} {qs : List Rat} (hn : 1 < n) : plB n (.lst (qs.map qv)) = true := by
  obtain ⟨m, rfl⟩ : ∃ m, n = m + 1 := ⟨n - 1, by omega⟩
  rw [plB, plBs_iff]
  intro x hx
  obtain ⟨q, _, rfl⟩ := List.mem_map.mp hx
  exact pl_qv (by omega)
theorem pl_qvt {n : Nat} {qs : List Rat} (hn : 1 < n) : plB n (.tup (qs.map qv)) = true := by
  obtain ⟨m, rfl⟩ : ∃ m, n = m + 1 := ⟨n - 1, by omega⟩
  rw [plB, plBs_iff]
  intro x hx
  obtain ⟨q, _, rfl⟩ := List.mem_map.mp hx
  exact pl_qv (by omega)
theorem map_qv_inj {a b : List Rat} : a.map qv = b.map qv ↔ a = b := by
  constructor
  · intro h
    induction a generalizing b with
    | nil => cases b with
      | nil => rfl
      | cons _ _ => cases h
    | cons x a ih => cases b with
      | nil => cases h
      | cons y b =>
        rw [List.map_cons, List.map_cons] at h
        injection h with h1 h2
        rw [qv_inj.mp h1, ih h2]
  · rintro rfl; rfl

/-! ### heaps -/
/-- more than h, but what stood there stands -/
def Ex (h h1 : VH) : Prop := h1.upto h.next = h.obs ∧ h.next ≤ h1.next
theorem Ex.self {h : VH} (w : h.wf) : Ex h h := ⟨upto_wf w, Nat.le_refl _⟩
theorem upto_push {h : VH} {o : Ob} {n : Nat} (hn : n ≤ h.next) : (h.push o).upto n = h.upto n := by
  show List.filter _ ((h.next, o) :: h.obs) = _
  rw [List.filter_cons, if_neg (by simpa using hn)]
  rfl
theorem upto_set {h : VH} {o : Ob} {i n : Nat} (hn : n ≤ i) : (h.set i o).upto n = h.upto n := by
  show List.filter _ (VH.setL i o h.obs) = List.filter _ h.obs
  generalize h.obs = l
  induction l with
  | nil => rfl
  | cons p l ih =>
    obtain ⟨j, u⟩ := p
    show List.filter _ (if j = i then (j, o) :: l else (j, u) :: VH.setL i o l) = _
    split
    · rename_i e
      subst e
      rw [List.filter_cons, List.filter_cons, if_neg (by simpa using hn), if_neg (by simpa using hn)]
    · rw [List.filter_cons, List.filter_cons, ih]
theorem upto_erase {h : VH} {i n : Nat} (hn : n ≤ i) : (h.erase i).upto n = h.upto n := by
  show List.filter _ (VH.eraseL i h.obs) = List.filter _ h.obs
  generalize h.obs = l
  induction l with
  | nil => rfl
  | cons p l ih =>
    obtain ⟨j, u⟩ := p
    show List.filter _ (if j = i then VH.eraseL i l else (j, u) :: VH.eraseL i l) = _
    split
    · rename_i e
      subst e
      rw [List.filter_cons, if_neg (by simpa using hn), ih]
    · rw [List.filter_cons, List.filter_cons, ih]
theorem Ex.push {h h1 : VH} {o : Ob} (e : Ex h h1) : Ex h (h1.push o) := ⟨by rw [upto_push e.2]; exact e.1, Nat.le_succ_of_le e.2⟩
theorem Ex.set {h h1 : VH} {o : Ob} {i : Nat} (e : Ex h h1) (hi : h.next ≤ i) : Ex h (h1.set i o) := ⟨by rw [upto_set hi]; exact e.1, e.2⟩
theorem Ex.erase {h h1 : VH} {i : Nat} (e : Ex h h1) (hi : h.next ≤ i) : Ex h (h1.erase i) := ⟨by rw [upto_erase hi]; exact e.1, e.2⟩
theorem get_upto {h : VH} {n i : Nat} (hi : i < n) : h.get i = (h.upto n).lookup i := by
  show List.lookup i h.obs = List.lookup i (List.filter _ h.obs)
  generalize h.obs = l
  induction l with
  | nil => rfl
  | cons p l ih =>
    obtain ⟨j, u⟩ := p
    rw [List.filter_cons]
    by_cases e : i = j
    · subst e
      rw [if_pos (by simpa using hi), List.lookup_cons_self, List.lookup_cons_self]
    · have e' : (i == j) = false := by simpa using e
      have key : ∀ l' : List (Nat × Ob), List.lookup i ((j, u) :: l') = List.lookup i l' := fun l' => by
        rw [List.lookup_cons, e']
      rw [key]
      by_cases z : decide (j < n) = true
      · rw [if_pos z, key]
        exact ih
      · rw [if_neg z]
        exact ih
theorem Ex.get {h h1 : VH} (e : Ex h h1) {i : Nat} (hi : i < h.next) : h1.get i = h.get i := by
  rw [get_upto hi, e.1]
  rfl
theorem gc_ex {h h1 : VH} {v : Val} (e : Ex h h1) (hv : v.noref = true) : gc h v h1 = h := by
  unfold gc
  rw [if_pos ⟨hv, fun i o hi q => .inr (by rw [← e.get hi]; exact q)⟩, e.1]
/-! the pen at the bottom -/
structure Pn (h : VH) (d : Nat) : Prop where
  wf : h.wf
  at_ : h.get 0 = some (.pen d)
def sp (h : VH) (d : Nat) : VH := h.set 0 (.pen d)
theorem sp_next {h : VH} {d : Nat} : (sp h d).next = h.next := rfl
theorem setL_keys {i : Nat} {o : Ob} : ∀ {l : List (Nat × Ob)} {p : Nat × Ob}, p ∈ VH.setL i o l → ∃ u, (p.1, u) ∈ l
  | (j, u) :: r, p, hp => by
    have hp : p ∈ (if j = i then (j, o) :: r else (j, u) :: VH.setL i o r) := hp
    split at hp
    · rcases List.mem_cons.mp hp with z | z
      · subst z; exact ⟨u, List.mem_cons_self⟩
      · exact ⟨p.2, List.mem_cons_of_mem _ z⟩
    · rcases List.mem_cons.mp hp with z | z
      · subst z; exact ⟨u, List.mem_cons_self⟩
      · obtain ⟨u', q⟩ := setL_keys z
        exact ⟨u', List.mem_cons_of_mem _ q⟩
theorem wf_set {h : VH} {i : Nat} {o : Ob} (w : h.wf) : (h.set i o).wf := fun p hp => by
  obtain ⟨u, q⟩ := setL_keys hp
  exact w (p.1, u) q
theorem wf_push {h : VH} {o : Ob} (w : h.wf) : (h.push o).wf := fun p hp => by
  rcases List.mem_cons.mp hp with z | z
  · subst z; exact Nat.lt_succ_self _
  · exact Nat.lt_succ_of_lt (w p z)
theorem eraseL_sub {i : Nat} : ∀ {l : List (Nat × Ob)} {p : Nat × Ob}, p ∈ VH.eraseL i l → p ∈ l
  | (j, u) :: r, p, hp => by
    have hp : p ∈ (if j = i then VH.eraseL i r else (j, u) :: VH.eraseL i r) := hp
    split at hp
    · exact List.mem_cons_of_mem _ (eraseL_sub hp)
    · rcases List.mem_cons.mp hp with z | z
      · subst z; exact List.mem_cons_self
      · exact List.mem_cons_of_mem _ (eraseL_sub z)
theorem wf_erase {h : VH} {i : Nat} (w : h.wf) : (h.erase i).wf := fun p hp => w p (eraseL_sub hp)
theorem get_lt {h : VH} (w : h.wf) {i : Nat} {o : Ob} (e : h.get i = some o) : i < h.next := by
  have : ∀ l : List (Nat × Ob), l.lookup i = some o → ∃ p ∈ l, p.1 = i := by
    intro l
    induction l with
    | nil => intro z; cases z
    | cons p l ih =>
      obtain ⟨j, u⟩ := p
      intro z
      rw [List.lookup_cons] at z
      split at z
      · rename_i q
        exact ⟨(j, u), List.mem_cons_self, (beq_iff_eq.mp q).symm⟩
      · obtain ⟨p, a, b⟩ := ih z
        exact ⟨p, List.mem_cons_of_mem _ a, b⟩
  obtain ⟨p, a, b⟩ := this h.obs e
  rw [← b]
  exact w p a
theorem get_set' {h : VH} {o : Ob} {i j : Nat} : (h.set i o).get j = if j = i then (if (h.get i).isSome then some o else none) else h.get j := by
  show (VH.setL i o h.obs).lookup j = _
  unfold VH.get
  generalize h.obs = l
  induction l with
  | nil => simp [VH.setL]
  | cons p l ih =>
    obtain ⟨k, u⟩ := p
    show List.lookup j (if k = i then (k, o) :: l else (k, u) :: VH.setL i o l) = _
    by_cases e : k = i
    · subst e
      rw [if_pos rfl]
      by_cases f : j = k
      · subst f; simp
      · have f' : (j == k) = false := by simpa using f
        rw [List.lookup_cons, f', if_neg f, List.lookup_cons, f']
    · rw [if_neg e]
      have e' : (i == k) = false := by simpa using (fun z => e z.symm)
      by_cases f : j = k
      · subst f
        rw [List.lookup_cons_self, if_neg e, List.lookup_cons_self]
      · have f' : (j == k) = false := by simpa using f
        rw [List.lookup_cons, f', ih, List.lookup_cons, e', List.lookup_cons, f']
theorem Pn.sp {h : VH} {d d' : Nat} (p : Pn h d) : Pn (sp h d') d' := ⟨wf_set p.wf, by unfold P.sp; rw [get_set', if_pos rfl, p.at_]; rfl⟩
theorem setL_same {i : Nat} {o : Ob} : ∀ {l : List (Nat × Ob)}, l.lookup i = some o → VH.setL i o l = l
  | (j, u) :: r, e => by
    show (if j = i then (j, o) :: r else (j, u) :: VH.setL i o r) = _
    rw [List.lookup_cons] at e
    split at e
    · rename_i q
      cases e
      rw [if_pos (beq_iff_eq.mp q).symm]
    · rename_i q
      rw [if_neg (fun z => by subst z; simp at q), setL_same e]
theorem sp_self {h : VH} {d : Nat} (p : Pn h d) : P.sp h d = h := by
  show (⟨h.next, VH.setL 0 (.pen d) h.obs⟩ : VH) = h
  rw [setL_same p.at_]
theorem setL_setL' {i : Nat} {o o' : Ob} : ∀ {l : List (Nat × Ob)}, VH.setL i o' (VH.setL i o l) = VH.setL i o' l
  | [] => rfl
  | (j, u) :: r => by
    show VH.setL i o' (if j = i then (j, o) :: r else (j, u) :: VH.setL i o r) = (if j = i then (j, o') :: r else (j, u) :: VH.setL i o' r)
    by_cases e : j = i
    · rw [if_pos e, if_pos e]
      show (if j = i then (j, o') :: r else _) = _
      rw [if_pos e]
    · rw [if_neg e, if_neg e]
      show (if j = i then _ else (j, u) :: VH.setL i o' (VH.setL i o r)) = _
      rw [if_neg e, setL_setL']
theorem sp_sp {h : VH} {d d' : Nat} : P.sp (P.sp h d) d' = P.sp h d' := by
  show (⟨h.next, VH.setL 0 _ (VH.setL 0 _ h.obs)⟩ : VH) = _
  rw [setL_setL']
  rfl
theorem set_set' {h : VH} {i : Nat} {o o' : Ob} : (h.set i o).set i o' = h.set i o' := by
  show (⟨h.next, VH.setL i _ (VH.setL i _ h.obs)⟩ : VH) = _
  rw [setL_setL']
  rfl
theorem Pn.pos {h : VH} {d : Nat} (p : Pn h d) : 0 < h.next := get_lt p.wf p.at_
theorem sp_push {h : VH} {d : Nat} {o : Ob} (h0 : 0 < h.next) : P.sp (h.push o) d = (P.sp h d).push o := by
  show (⟨h.next + 1, (if h.next = 0 then _ else (h.next, o) :: VH.setL 0 _ h.obs)⟩ : VH) = _
  rw [if_neg (by omega)]
  rfl
theorem push_set' {h : VH} {o o' : Ob} : (h.push o).set h.next o' = h.push o' := by
  show (⟨h.next + 1, (if h.next = h.next then (h.next, o') :: h.obs else _)⟩ : VH) = _
  rw [if_pos rfl]
  rfl
theorem push_get {h : VH} {o : Ob} : (h.push o).get h.next = some o := by
  show List.lookup h.next ((h.next, o) :: h.obs) = _
  rw [List.lookup_cons_self]
theorem push_get0 {h : VH} {o : Ob} {d : Nat} (p : Pn h d) : (h.push o).get 0 = some (.pen d) := by
  show List.lookup 0 ((h.next, o) :: h.obs) = _
  rw [List.lookup_cons]
  have : (0 == h.next) = false := by
    have := p.pos
    simp
    omega
  rw [this]
  exact p.at_
theorem Pn.push {h : VH} {d : Nat} {o : Ob} (p : Pn h d) : Pn (h.push o) d := ⟨wf_push p.wf, push_get0 p⟩
/-- a def that draws -/
theorem w_rund {T : Tb} {l k np ns : Nat} {body : Ss} {vs : List Val} {h : VH} {Q : Val → VH → Prop} (e : T.defs[k]? = some (.fn np ns body)) (hl : vs.length = np) (h0 : 0 < l) (w : h.wf)
    (q : Gd (evSs T (M.run T (l - 1)) (begin_ ns vs) body h) fun fl h1 => GRt fl fun v => ∃ d, h1 = P.sp h d ∧ Q v h1) : Gd (M.run T l k vs h) Q := by
  have key : ∀ v h1, (∃ d, h1 = P.sp h d ∧ Q v h1) → Q v (gc h v h1) := by
    rintro v h1 ⟨d, rfl, q⟩
    have : gc h v (P.sp h d) = P.sp h d := by
      unfold gc
      split
      · have := upto_wf (wf_set (i := 0) (o := .pen d) w)
        show (⟨h.next, (P.sp h d).upto (P.sp h d).next⟩ : VH) = _
        rw [show (P.sp h d).upto (P.sp h d).next = (P.sp h d).obs from this]
        rfl
      · rfl
    rw [this]
    exact q
  refine w_run e hl h0 (gd_mono q fun fl h1 q => ?_)
  cases fl <;> first
    | exact q
    | exact key _ _ q
/-- a def with lists of its own -/
theorem w_runt {T : Tb} {l k np ns : Nat} {body : Ss} {vs : List Val} {h : VH} {Q : Val → VH → Prop} (e : T.defs[k]? = some (.fn np ns body)) (hl : vs.length = np) (h0 : 0 < l)
    (q : Gd (evSs T (M.run T (l - 1)) (begin_ ns vs) body h) fun fl h1 => GRt fl fun v => v.noref = true ∧ Ex h h1 ∧ Q v h) : Gd (M.run T l k vs h) Q := by
  refine w_run e hl h0 (gd_mono q fun fl h1 q => ?_)
  cases fl <;> first
    | exact q
    | (obtain ⟨q1, q2, q3⟩ := q
       show Q _ (gc _ _ _)
       rw [gc_ex q2 q1]
       exact q3)
/-- .. and draws -/
theorem w_runu {T : Tb} {l k np ns : Nat} {body : Ss} {vs : List Val} {h : VH} {Q : Val → VH → Prop} (e : T.defs[k]? = some (.fn np ns body)) (hl : vs.length = np) (h0 : 0 < l) (w : h.wf)
    (q : Gd (evSs T (M.run T (l - 1)) (begin_ ns vs) body h) fun fl h1 => GRt fl fun v => v.noref = true ∧ ∃ d, Ex (P.sp h d) h1 ∧ Q v (P.sp h d)) : Gd (M.run T l k vs h) Q := by
  have key : ∀ v h1, (v.noref = true ∧ ∃ d, Ex (P.sp h d) h1 ∧ Q v (P.sp h d)) → Q v (gc h v h1) := by
    rintro v h1 ⟨nv, d, ex, q⟩
    have hs : h.same h1 := fun i o hi z => by
      have e2 := ex.get (i := i) hi
      rw [z] at e2
      unfold P.sp at e2
      rw [get_set'] at e2
      split at e2
      · split at e2
        · cases e2; exact .inl rfl
        · cases e2
      · exact .inr e2.symm
    have : gc h v h1 = P.sp h d := by
      unfold gc
      rw [if_pos ⟨nv, hs⟩]
      show (⟨h.next, h1.upto (P.sp h d).next⟩ : VH) = _
      rw [ex.1]
      rfl
    rw [this]
    exact q
  refine w_run e hl h0 (gd_mono q fun fl h1 q => ?_)
  cases fl <;> first
    | exact q
    | exact key _ _ q
section
variable {T : Tb} {h : VH} {Q : Val → VH → Prop}
theorem lm_app {i : Nat} {xs : List Val} {y : Val} (e : h.get i = some (.lst xs)) (hl : xs.length ≤ 1000000) (q : Q .non (h.set i (.lst (xs ++ [y])))) : Gd (lmV .append (.ref i) [y] h) Q := by
  show Gd (lmAppend (.ref i) [y] h) Q
  unfold lmAppend
  dsimp only
  rw [e]
  dsimp only
  rw [if_pos (by unfold sz; exact decide_eq_true hl)]
  exact gd_ret q
theorem lm_isL {i : Nat} {xs : List Val} {R : Prop} (e : h.get i = some (.lst xs)) (q : R) : isL h (.ref i) = true ∧ R := by
  refine ⟨?_, q⟩
  unfold isL
  dsimp only
  rw [e]
theorem frz_v {xs : List Val} (q : Q (.lst xs) h) : Gd (frzV T (.lst xs) h) Q := gd_ret q
theorem frz_l {i : Nat} {xs : List Val} (e : h.get i = some (.lst xs)) (q : Q (.lst xs) (h.erase i)) : Gd (frzV T (.ref i) h) Q := by
  unfold frzV
  dsimp only
  rw [e]
  exact gd_ret q
end
/-- a draw -/
theorem draw_ok {T : Tb} {k l : Nat} {h : VH} {d : Nat} {n : Int} {Q : Val → VH → Prop} (e : T.defs[k]? = some .draw) (hl : 1 ≤ l) (p : Pn h d) (h0 : 0 < n) (h1 : n < 1000000000) (hd : d < 1000000000000) (q : ∀ i : Nat, (i : Int) < n → Q (.int i) (P.sp h (d + 1))) : Gd (M.run T l k [.ref 0, .int n] h) Q := by
  obtain ⟨l, rfl⟩ : ∃ m, l = m + 1 := ⟨l - 1, by omega⟩
  unfold M.run
  rw [e]
  dsimp only
  rw [p.at_]
  dsimp only
  rw [if_pos ⟨h0, Int.lt_trans h1 (by decide +kernel), hd⟩]
  refine ⟨fun i hi => ?_⟩
  exact q i (by omega)
end P
end

section
set_option Elab.async false
set_option linter.all false
set_option maxRecDepth 100000
set_option maxHeartbeats 1000000
/-! P5: comprehensions over what a list stands for. -/
namespace P
open M
open PySem
section
variable {Q : List Val → VH → Prop} {body : Val → Mo (Option Val)} {α : Type}
theorem comp_filt (f g : α → Val) (p : α → Bool) {l : List α} {h : VH} (hl : l.length ≤ 1000000) (hb : ∀ a ∈ l, ∀ R : Option Val → VH → Prop, R (if p a then some (g a) else none) h → Gd (body (f a) h) R) (q : Q ((l.filter p).map g) h) : Gd (walkC (.fix (l.map f)) body h) Q := by
  refine comp_fix (fun k acc h' => h' = h ∧ acc = ((l.take k).filter p).map g ∧ k ≤ l.length) ⟨rfl, rfl, Nat.zero_le _⟩ (fun k x acc h' hx i => ?_) fun acc h' i => ?_
  · obtain ⟨rfl, rfl, hk⟩ := i
    rw [List.getElem?_map] at hx
    obtain ⟨a, ha, rfl⟩ := Option.map_eq_some_iff.mp hx
    have hlt := (List.getElem?_eq_some_iff.mp ha).1
    refine hb a (List.mem_of_getElem? ha) _ ?_
    have hlen : (((l.take k).filter p).map g).length ≤ 1000000 := by
      rw [List.length_map]
      have := List.length_filter_le p (l.take k)
      rw [List.length_take] at this
      omega
    have e : l.take (k + 1) = l.take k ++ [a] := by
      rw [List.take_add_one, ha]
      rfl
    cases hp : p a with
    | true =>
      rw [if_pos rfl]
      refine ⟨hlen, rfl, ?_, hlt⟩
      rw [e, List.filter_append, List.map_append, List.filter_cons, if_pos hp]
      rfl
    | false =>
      rw [if_neg (by decide)]
      refine ⟨rfl, ?_, hlt⟩
      rw [e, List.filter_append, List.map_append, List.filter_cons, if_neg (by rw [hp]; decide)]
      simp
  · obtain ⟨rfl, rfl, _⟩ := i
    rw [List.length_map, List.take_length]
    exact q
theorem comp_mapa (f g : α → Val) {l : List α} {h : VH} (hl : l.length ≤ 1000000) (hb : ∀ a ∈ l, ∀ R : Option Val → VH → Prop, R (some (g a)) h → Gd (body (f a) h) R) (q : Q (l.map g) h) : Gd (walkC (.fix (l.map f)) body h) Q := by
  refine comp_filt f g (fun _ => true) hl (fun a ha R hR => hb a ha R hR) ?_
  rw [List.filter_eq_self.mpr (fun _ _ => rfl)]
  exact q
/-- each item draws -/
theorem comp_draw (f : α → Val) (S : α → Val → Prop) (n : Nat) {l : List α} {h : VH} {d : Nat} (p : Pn h d) (hl : l.length ≤ 1000000)
    (hb : ∀ a ∈ l, ∀ d', d ≤ d' → d' ≤ d + n * l.length → ∀ R : Option Val → VH → Prop, (∀ v d'', d' ≤ d'' → d'' ≤ d' + n → S a v → R (some v) (sp h d'')) → Gd (body (f a) (sp h d')) R)
    (q : ∀ vs d', d ≤ d' → d' ≤ d + n * l.length → vs.length = l.length → (∀ (k : Nat) (a : α) (v : Val), l[k]? = some a → vs[k]? = some v → S a v) → Q vs (sp h d')) : Gd (walkC (.fix (l.map f)) body h) Q := by
  have e0 := sp_self p
  rw [← e0]
  refine comp_fix (fun k acc h' => ∃ d', h' = sp h d' ∧ d ≤ d' ∧ d' ≤ d + n * k ∧ acc.length = k ∧ k ≤ l.length ∧ ∀ (j : Nat) (a : α) (v : Val), l[j]? = some a → acc[j]? = some v → S a v) ⟨d, rfl, Nat.le_refl _, by omega, rfl, Nat.zero_le _, fun j a v _ z => by simp at z⟩ (fun k x acc h' hx i => ?_) fun acc h' i => ?_
  · obtain ⟨d', rfl, l1, l2, l3, l4, l5⟩ := i
    rw [List.getElem?_map] at hx
    obtain ⟨a, ha, rfl⟩ := Option.map_eq_some_iff.mp hx
    have hlt := (List.getElem?_eq_some_iff.mp ha).1
    have hm : n * k ≤ n * l.length := Nat.mul_le_mul_left _ (by omega)
    have hm2 : n * (k + 1) = n * k + n := Nat.mul_succ _ _
    refine hb a (List.mem_of_getElem? ha) d' l1 (by omega) _ fun v d'' m1 m2 sv => ?_
    refine ⟨by omega, d'', rfl, by omega, by omega, by rw [List.length_append, l3]; rfl, hlt, fun j b u hj hu => ?_⟩
    by_cases hjk : j < k
    · rw [List.getElem?_append_left (by omega)] at hu
      exact l5 j b u hj hu
    · rw [List.getElem?_append_right (by omega), l3] at hu
      have : j - k = 0 := by
        have := (List.getElem?_eq_some_iff.mp hu).1
        simp at this
        omega
      have hjk2 : j = k := by omega
      subst hjk2
      rw [this] at hu
      rw [ha] at hj
      cases hj
      cases hu
      exact sv
  · obtain ⟨d', rfl, l1, l2, l3, l4, l5⟩ := i
    rw [List.length_map] at l3 l2
    exact q acc d' l1 l2 l3 l5
end
end P
end

section
set_option Elab.async false
set_option linter.all false
set_option maxRecDepth 100000
set_option maxHeartbeats 1000000
/-! P6: objects made. -/
namespace P
open M
open PySem
def bump (h : VH) : VH := ⟨h.next + 1, h.obs⟩
theorem bump_get {h : VH} {i : Nat} : (bump h).get i = h.get i := rfl
theorem bump_wf {h : VH} (w : h.wf) : (bump h).wf := fun p hp => Nat.lt_succ_of_lt (w p hp)
theorem bump_sp {h : VH} {d : Nat} : P.sp (bump h) d = bump (P.sp h d) := rfl
theorem bump_set {h : VH} {i : Nat} {o : Ob} : (bump h).set i o = bump (h.set i o) := rfl
theorem Pn.bump {h : VH} {d : Nat} (p : Pn h d) : Pn (bump h) d := ⟨bump_wf p.wf, p.at_⟩
theorem Ex.bump {h h1 : VH} (e : Ex h h1) : Ex h (bump h1) := ⟨e.1, Nat.le_succ_of_le e.2⟩
theorem eraseL_none {i : Nat} : ∀ {l : List (Nat × Ob)}, (∀ p ∈ l, p.1 ≠ i) → VH.eraseL i l = l
  | [], _ => rfl
  | (j, u) :: r, h => by
    show (if j = i then VH.eraseL i r else (j, u) :: VH.eraseL i r) = _
    rw [if_neg (h (j, u) List.mem_cons_self), eraseL_none fun p hp => h p (List.mem_cons_of_mem _ hp)]
theorem push_erase {h : VH} {o : Ob} (w : h.wf) : (h.push o).erase h.next = bump h := by
  show (⟨h.next + 1, (if h.next = h.next then VH.eraseL h.next h.obs else _)⟩ : VH) = _
  rw [if_pos rfl, eraseL_none fun p hp => Nat.ne_of_lt (w p hp)]
  rfl
theorem gc_next {h h1 : VH} {v : Val} (w : h1.wf) (e : h1.next = h.next) : gc h v h1 = h1 := by
  unfold gc
  split
  · rw [← e, upto_wf w]
  · rfl
/-- a def that changes what it was given -/
theorem w_runn {T : Tb} {l k np ns : Nat} {body : Ss} {vs : List Val} {h : VH} {Q : Val → VH → Prop} (e : T.defs[k]? = some (.fn np ns body)) (hl : vs.length = np) (h0 : 0 < l)
    (q : Gd (evSs T (M.run T (l - 1)) (begin_ ns vs) body h) fun fl h1 => GRt fl fun v => h1.wf ∧ h1.next = h.next ∧ Q v h1) : Gd (M.run T l k vs h) Q := by
  have key : ∀ v h1, (h1.wf ∧ h1.next = h.next ∧ Q v h1) → Q v (gc h v h1) := by
    rintro v h1 ⟨a, b, c⟩
    rw [gc_next a b]
    exact c
  refine w_run e hl h0 (gd_mono q fun fl h1 q => ?_)
  cases fl <;> first
    | exact q
    | exact key _ _ q
section
variable {T : Tb} {C : Nat → List Val → Mo Val} {h : VH} {Q : Val → VH → Prop}
theorem mk_ok {c k : Nat} {ms : List (Nat × Nat)} {eq : Option Nat} {fl : List Nat} {vs : List Val} (e : T.cls[c]? = some ⟨some k, true, ms, eq, fl⟩) (w : h.wf)
    (q : Gd (C k (.ref h.next :: vs) (h.push (.ins c []))) fun r h1 => r = .non ∧ ∃ fs, h1 = h.push (.ins c fs) ∧ Q (.obj c fs) (bump h)) : Gd (mkV T C false c vs h) Q := by
  unfold mkV
  rw [e]
  dsimp only
  refine gd_bind (gd_mono q fun r h1 q => ?_)
  obtain ⟨rfl, fs, rfl, q⟩ := q
  dsimp only
  rw [if_pos (by rfl)]
  unfold frzV
  dsimp only
  rw [push_get]
  dsimp only
  rw [push_erase w]
  exact gd_ret q
/-- left in the heap -/
theorem mk_ref {c k : Nat} {fz : Bool} {ms : List (Nat × Nat)} {eq : Option Nat} {fl : List Nat} {vs : List Val} (e : T.cls[c]? = some ⟨some k, fz, ms, eq, fl⟩)
    (q : Gd (C k (.ref h.next :: vs) (h.push (.ins c []))) fun r h1 => r = .non ∧ Q (.ref h.next) h1) : Gd (mkV T C true c vs h) Q := by
  unfold mkV
  rw [e]
  dsimp only
  refine gd_bind (gd_mono q fun r h1 q => ?_)
  obtain ⟨rfl, q⟩ := q
  dsimp only
  rw [if_neg (by simp)]
  exact gd_ret q
/-- objects by their own == -/
theorem c_neO {c f : Nat} {k : ClsI} {x y : Val} (hv : cmpV .ne x y = none) (hx : clsOf h x = some c) (hc : T.cls[c]? = some k) (hf : k.eqf = some f) (hy : clsOf h y = some c) (q : Gd (C f [x, y] h) fun v h' => ∃ b, v = .bl b ∧ Q (.bl (!b)) h') : GCm T C .ne x y h Q := by
  unfold GCm cmpM
  rw [hv]
  dsimp only
  unfold cmpO
  rw [hx]
  dsimp only
  rw [hc]
  dsimp only
  rw [hf]
  dsimp only
  rw [if_pos (.inl hy)]
  refine gd_bind (gd_mono q fun v h' q => ?_)
  obtain ⟨b, rfl, q⟩ := q
  exact gd_ret q
theorem c_eqO {c f : Nat} {k : ClsI} {x y : Val} (hv : cmpV .eq x y = none) (hx : clsOf h x = some c) (hc : T.cls[c]? = some k) (hf : k.eqf = some f) (hy : clsOf h y = some c ∨ plainV y = true) (q : Gd (C f [x, y] h) fun v h' => ∃ b, v = .bl b ∧ Q (.bl b) h') : GCm T C .eq x y h Q := by
  unfold GCm cmpM
  rw [hv]
  dsimp only
  unfold cmpO
  rw [hx]
  dsimp only
  rw [hc]
  dsimp only
  rw [hf]
  dsimp only
  rw [if_pos (by rcases hy with z | z; exact .inl z; exact .inr ⟨rfl, z⟩)]
  refine gd_bind (gd_mono q fun v h' q => ?_)
  obtain ⟨b, rfl, q⟩ := q
  exact gd_ret q
/-- objects of the heap without == -/
theorem c_eqR {c i j : Nat} {k : ClsI} (hx : clsOf h (.ref i) = some c) (hc : T.cls[c]? = some k) (hf : k.eqf = none) (hy : clsOf h (.ref j) = some c) (q : Q (.bl (decide (i = j))) h) : GCm T C .eq (.ref i) (.ref j) h Q := by
  unfold GCm cmpM
  rw [show cmpV .eq (.ref i) (.ref j) = none from rfl]
  dsimp only
  unfold cmpO
  rw [hx]
  dsimp only
  rw [hc]
  dsimp only
  rw [hf]
  dsimp only
  rw [if_pos ⟨hy, rfl⟩]
  exact gd_ret q
theorem sf_ok {Q : Unit → VH → Prop} {i c f : Nat} {v : Val} {fs : List (Nat × Val)} (e : h.get i = some (.ins c fs)) (hl : fs.length < 900) (hf : hasF T c f = true) (q : Q () (h.set i (.ins c (putF f v fs)))) : Gd (sfldV T (.ref i) f v h) Q := by
  unfold sfldV
  dsimp only
  rw [e]
  dsimp only
  rw [if_pos ⟨hl, hf⟩]
  exact gd_ret q
end
theorem pl_pos {n : Nat} : 0 < 2 ^ n := Nat.two_pow_pos n
end P
end

section
set_option Elab.async false
set_option linter.all false
set_option maxRecDepth 100000
set_option maxHeartbeats 1000000
/-! P7: rows, polynomials by their numbers. -/
namespace P
open M
open PySem
theorem zip2_map {α β : Type} (f : α → Val) (g : β → Val) : ∀ (l : List α) (m : List β), zip2 (l.map f) (m.map g) = (l.zip m).map fun p => .tup [f p.1, g p.2]
  | [], m => by cases m <;> rfl
  | a :: l, [] => rfl
  | a :: l, b :: m => by
    show Val.tup [f a, g b] :: zip2 (l.map f) (m.map g) = _
    rw [zip2_map f g l m]
    rfl
theorem zip3_map {α β γ : Type} (f : α → Val) (g : β → Val) (e : γ → Val) : ∀ (l : List α) (m : List β) (n : List γ), zip3 (l.map f) (m.map g) (n.map e) = (l.zip (m.zip n)).map fun p => .tup [f p.1, g p.2.1, e p.2.2]
  | [], m, n => by cases m <;> cases n <;> rfl
  | a :: l, [], n => by cases n <;> rfl
  | a :: l, b :: m, [] => rfl
  | a :: l, b :: m, c :: n => by
    show Val.tup [f a, g b, e c] :: zip3 (l.map f) (m.map g) (n.map e) = _
    rw [zip3_map f g e l m n]
    rfl
def enumA {α : Type} : Nat → List α → List (Nat × α)
  | _, [] => []
  | k, a :: l => (k, a) :: enumA (k + 1) l
theorem enumL_map {α : Type} (f : α → Val) : ∀ (l : List α) (k : Nat), enumL k (l.map f) = (enumA k l).map fun p => .tup [.int p.1, f p.2]
  | [], k => rfl
  | a :: l, k => by
    show Val.tup [.int k, f a] :: enumL (k + 1) (l.map f) = _
    rw [enumL_map f l (k + 1)]
    rfl
theorem enumA_len {α : Type} : ∀ (l : List α) (k : Nat), (enumA k l).length = l.length
  | [], _ => rfl
  | a :: l, k => by
    show (enumA (k + 1) l).length + 1 = _
    rw [enumA_len l (k + 1)]
    rfl
/-- a row of ratios as it may be passed -/
def Rw (v : Val) (L : List (Val × Rat)) (n : Nat) : Prop := (v = .lst (L.map (·.1)) ∨ v = .tup (L.map (·.1))) ∧ (∀ a ∈ L, Ra a.1 a.2 n) ∧ L.length ≤ 1000
theorem Rw.fseq {v : Val} {L : List (Val × Rat)} {n : Nat} (r : Rw v L n) : M.fseq v = some (L.map (·.1)) := by
  rcases r.1 with rfl | rfl <;> rfl
theorem rw_of_qs (qs : List Rat) {n : Nat} (h : ∀ q ∈ qs, Sq n q) (hl : qs.length ≤ 1000) : Rw (.lst (qs.map qv)) (qs.map fun q => (qv q, q)) n ∧ Rw (.tup (qs.map qv)) (qs.map fun q => (qv q, q)) n := by
  have e : (qs.map fun q => (qv q, q)).map (·.1) = qs.map qv := by rw [List.map_map]; rfl
  have a : ∀ a ∈ (qs.map fun q => (qv q, q)), Ra a.1 a.2 n := fun a ha => by
    obtain ⟨q, hq, rfl⟩ := List.mem_map.mp ha
    exact ra_qv (h q hq)
  exact ⟨⟨.inl (by rw [e]), a, by rw [List.length_map]; exact hl⟩, ⟨.inr (by rw [e]), a, by rw [List.length_map]; exact hl⟩⟩
theorem snd_of_qs (qs : List Rat) : (qs.map fun q => (qv q, q)).map (·.2) = qs := by
  rw [List.map_map]
  exact List.map_id _
/-! ### numbers of a polynomial -/
def trimN : List Rat → Nat
  | [] => 0
  | q :: qs => if 0 < trimN qs then trimN qs + 1 else if q = 0 then 0 else 1
def trim (qs : List Rat) : List Rat := qs.take (trimN qs)
theorem trimN_le : ∀ qs : List Rat, trimN qs ≤ qs.length
  | [] => Nat.le_refl _
  | q :: qs => by
    have := trimN_le qs
    unfold trimN
    split
    · simpa using this
    · split <;> simp
theorem trim_of {qs : List Rat} (h : trimN qs = qs.length) : trim qs = qs := by
  unfold trim
  rw [h, List.take_length]
theorem trimN_trim : ∀ qs : List Rat, trimN (trim qs) = (trim qs).length
  | [] => rfl
  | q :: qs => by
    have ih := trimN_trim qs
    have hle := trimN_le qs
    unfold trim at ih ⊢
    rw [List.length_take] at ih ⊢
    rw [Nat.min_eq_left hle] at ih
    by_cases h : 0 < trimN qs
    · have e : trimN (q :: qs) = trimN qs + 1 := by rw [trimN, if_pos h]
      rw [e, List.take_succ_cons]
      show (if 0 < trimN (qs.take (trimN qs)) then trimN (qs.take (trimN qs)) + 1 else _) = _
      rw [ih, if_pos h]
      simp
      omega
    · by_cases hq : q = 0
      · have e : trimN (q :: qs) = 0 := by rw [trimN, if_neg h, if_pos hq]
        rw [e]
        rfl
      · have e : trimN (q :: qs) = 1 := by rw [trimN, if_neg h, if_neg hq]
        rw [e]
        show (if 0 < trimN [] then _ else if q = 0 then 0 else 1) = _
        rw [if_neg (by simp [trimN]), if_neg hq]
        simp
/-- no number other than 0 behind the trimmed ones -/
theorem trim_rest : ∀ (qs : List Rat) (k : Nat), trimN qs ≤ k → ∀ q, qs[k]? = some q → q = 0
  | [], _, _, q, h => by simp at h
  | a :: qs, k, hk, q, h => by
    unfold trimN at hk
    split at hk
    · cases k with
      | zero => omega
      | succ k => exact trim_rest qs k (by omega) q (by simpa using h)
    · rename_i h0
      split at hk
      · rename_i ha
        cases k with
        | zero => simp at h; rw [← h]; exact ha
        | succ k => exact trim_rest qs k (by omega) q (by simpa using h)
      · cases k with
        | zero => omega
        | succ k => exact trim_rest qs k (by omega) q (by simpa using h)
def evalP : List Rat → Rat → Rat
  | [], _ => 0
  | q :: qs, x => q + x * evalP qs x
theorem evalP_zeros : ∀ (qs : List Rat) (x : Rat), (∀ q ∈ qs, q = 0) → evalP qs x = 0
  | [], _, _ => rfl
  | q :: qs, x, h => by
    rw [evalP, h q List.mem_cons_self, evalP_zeros qs x fun q hq => h q (List.mem_cons_of_mem _ hq)]
    grind
theorem evalP_trim : ∀ (qs : List Rat) (x : Rat), evalP (trim qs) x = evalP qs x
  | [], _ => rfl
  | q :: qs, x => by
    have ih := evalP_trim qs x
    unfold trim at ih ⊢
    unfold trimN
    split
    · rw [List.take_succ_cons, evalP, evalP, ih]
    · rename_i h0
      have z : evalP qs x = 0 := by
        rw [← ih, Nat.eq_zero_of_not_pos h0]
        rfl
      split
      · rename_i hq
        rw [evalP, z, hq]
        show (0 : Rat) = _
        grind
      · rw [List.take_succ_cons, evalP, evalP, z]
        rfl
theorem evalP_snoc : ∀ (qs : List Rat) (a x : Rat), evalP (qs ++ [a]) x = evalP qs x + a * x ^ qs.length
  | [], a, x => by
    show a + x * 0 = 0 + a * x ^ 0
    grind
  | q :: qs, a, x => by
    show q + x * evalP (qs ++ [a]) x = q + x * evalP qs x + a * x ^ (qs.length + 1)
    rw [evalP_snoc qs a x, Rat.pow_succ]
    grind
/-- the product's size -/
def lcmD (l : List Rat) : Nat := l.foldl (fun m q => Nat.lcm m q.den) 1
theorem lcmD_snoc {l : List Rat} {q : Rat} : lcmD (l ++ [q]) = Nat.lcm (lcmD l) q.den := by
  unfold lcmD
  rw [List.foldl_append]
  rfl
theorem foldl_dvd : ∀ (l : List Rat) (m : Nat), m ∣ l.foldl (fun m q => Nat.lcm m q.den) m
  | [], m => Nat.dvd_refl m
  | q :: l, m => Nat.dvd_trans (Nat.dvd_lcm_left m q.den) (foldl_dvd l _)
theorem lcmD_dvd' : ∀ (l : List Rat) (m : Nat), ∀ q ∈ l, q.den ∣ l.foldl (fun m q => Nat.lcm m q.den) m
  | [], m, q, h => by cases h
  | a :: l, m, q, h => by
    rcases List.mem_cons.mp h with rfl | z
    · exact Nat.dvd_trans (Nat.dvd_lcm_right m q.den) (foldl_dvd l _)
    · exact lcmD_dvd' l _ q z
theorem lcmD_dvd {l : List Rat} {q : Rat} (h : q ∈ l) : q.den ∣ lcmD l := lcmD_dvd' l 1 q h
theorem lcmD_pos' : ∀ (l : List Rat) (m : Nat), 0 < m → 0 < l.foldl (fun m q => Nat.lcm m q.den) m
  | [], m, h => h
  | a :: l, m, h => lcmD_pos' l _ (Nat.lcm_pos h a.den_pos)
theorem lcmD_pos {l : List Rat} : 0 < lcmD l := lcmD_pos' l 1 (by decide)
theorem lcmD_lt {n : Nat} : ∀ {l : List Rat} {m k : Nat}, (∀ q ∈ l, Sq n q) → m < 2 ^ k → l.foldl (fun m q => Nat.lcm m q.den) m < 2 ^ (k + n * l.length)
  | [], m, k, _, h => by simpa using h
  | a :: l, m, k, hs, h => by
    have h1 : Nat.lcm m a.den < 2 ^ (k + n) := by
      refine Nat.lt_of_le_of_lt ?_ (pow_mul_lt h (hs a List.mem_cons_self).2)
      by_cases hm : m = 0
      · rw [hm]
        simp
      · exact Nat.le_of_dvd (Nat.mul_pos (by omega) a.den_pos) (Nat.lcm_dvd_mul m a.den)
    have := lcmD_lt (l := l) (k := k + n) (fun q hq => hs q (List.mem_cons_of_mem _ hq)) h1
    rw [List.length_cons, Nat.mul_succ]
    have e : k + (n * l.length + n) = k + n + n * l.length := by omega
    rw [e]
    exact this
end P
end

section
set_option Elab.async false
set_option linter.all false
set_option maxRecDepth 100000
set_option maxHeartbeats 1000000
/-! P8: the last argument by its keyword; == of a list of the heap. -/
namespace P
open M PySem
section
variable {T : Tb} {C : Nat → List Val → Mo Val} {σ : Sl} {h : VH} {Q : Val → VH → Prop}
theorem w_callk {g : Nat} {es : Es} {e : M.Ex} (q : Gd (evEs T C σ es h) fun vs h1 => Gd (evE T C σ e h1) fun x h2 => Gd (C g (vs ++ [x]) h2) Q) : Gd (evE T C σ (.callk g es e) h) Q := by
  unfold evE
  exact gd_bindM (gd_mono q fun vs h1 q => gd_bindM q)
theorem eqH_ref {i : Nat} {xs : List Val} {y : Val} (e : h.get i = some (.lst xs)) (hy : ∀ j, y ≠ .ref j) : eqH h (.ref i) y = eqD (.lst xs) y := by
  have h1 : refD h (.ref i) = (Val.lst xs).toD := by
    unfold refD
    dsimp only
    rw [e]
    dsimp only
    rw [Val.toD]
  have h2 : refD h y = y.toD := by
    unfold refD
    split
    · exact absurd rfl (hy _)
    · rfl
  unfold eqH eqD
  rw [h1, h2]
theorem clsOf_l {i : Nat} {xs : List Val} (e : h.get i = some (.lst xs)) : clsOf h (.ref i) = none := by
  unfold clsOf
  dsimp only
  rw [e]
theorem c_eqL (n : Nat) {i : Nat} {xs ys : List Val} (hn : n ≤ 60) (e : h.get i = some (.lst xs)) (hx : plB n (.lst xs) = true) (hy : plB n (.lst ys) = true) (q : ∀ b : Bool, (b = true ↔ xs = ys) → Q (.bl b) h) : GCm T C .eq (.ref i) (.lst ys) h Q := by
  obtain ⟨b, e1, e2⟩ := eqD_pl hn hx hy
  unfold GCm cmpM
  rw [show cmpV .eq (.ref i) (.lst ys) = none from by simp [cmpV, eqD, Val.toD]]
  dsimp only
  unfold cmpO
  rw [clsOf_l e]
  dsimp only
  rw [eqH_ref e (fun j z => by cases z), e1]
  exact gd_ret (q b (by rw [e2]; simp))
end
end P
end

section
set_option Elab.async false
set_option linter.all false
set_option maxRecDepth 100000
set_option maxHeartbeats 2000000
open M P PySem
local macro_rules | `(tactic| walk_at "go") => `(tactic| ((with_reducible refine' g_neg ?k1 ?_); (case k1 => omega)))
local macro_rules | `(tactic| walk_at "go") => `(tactic| ((with_reducible refine' g_pos ?k1 ?_); (case k1 => omega)))
local macro_rules | `(tactic| walk_at "go") => `(tactic| ((with_reducible refine' g_f ?k1 ?_); (case k1 => rfl)))
local macro_rules | `(tactic| walk_at "go") => `(tactic| ((with_reducible refine' g_t ?k1 ?_); (case k1 => rfl)))
local macro_rules | `(tactic| walk_at "go") => `(tactic| with_reducible refine r_rev_t ?_)
local macro_rules | `(tactic| walk_at "go") => `(tactic| with_reducible refine frz_v ?_)
local macro_rules | `(tactic| walk_at "go") => `(tactic| with_reducible refine r_rev_l ?_)
local macro_rules | `(tactic| walk_at "go") => `(tactic| with_reducible refine i_len_t ?_)
local macro_rules | `(tactic| walk_at "go") => `(tactic| with_reducible refine i_len_l ?_)
local macro_rules | `(tactic| walk_at "go") => `(tactic| with_reducible refine i_list_t ?_)
local macro_rules | `(tactic| walk_at "go") => `(tactic| with_reducible refine i_list_l ?_)
local macro_rules | `(tactic| walk_at "go") => `(tactic| with_reducible refine i_tuple_t ?_)
local macro_rules | `(tactic| walk_at "go") => `(tactic| with_reducible refine i_tuple_l ?_)
local macro_rules | `(tactic| walk_at "go") => `(tactic| with_reducible refine i_abs ?_)
local macro_rules | `(tactic| walk_at "go") => `(tactic| with_reducible refine i_int ?_)
local macro_rules | `(tactic| walk_at "go") => `(tactic| with_reducible refine i_gcd ?_)
local macro_rules | `(tactic| walk_at "go") => `(tactic| with_reducible refine w_inl ?_)
local macro_rules | `(tactic| walk_at "go") => `(tactic| with_reducible refine w_frz ?_)
local macro_rules | `(tactic| walk_at "go") => `(tactic| with_reducible refine v_ssub ?_)
local macro_rules | `(tactic| walk_at "go") => `(tactic| with_reducible refine v_sfld ?_)
local macro_rules | `(tactic| walk_at "go") => `(tactic| with_reducible refine v_ex ?_)
local macro_rules | `(tactic| walk_at "go") => `(tactic| with_reducible refine v_skip ?_)
local macro_rules | `(tactic| walk_at "go") => `(tactic| with_reducible refine v_brk ?_)
local macro_rules | `(tactic| walk_at "go") => `(tactic| with_reducible refine v_cnt ?_)
local macro_rules | `(tactic| walk_at "go") => `(tactic| with_reducible refine v_retN ?_)
local macro_rules | `(tactic| walk_at "go") => `(tactic| with_reducible refine w_chain ?_)
local macro_rules | `(tactic| walk_at "go") => `(tactic| with_reducible refine w_rev ?_)
local macro_rules | `(tactic| walk_at "go") => `(tactic| with_reducible refine w_onone ?_)
local macro_rules | `(tactic| walk_at "go") => `(tactic| with_reducible refine w_osome ?_)
local macro_rules | `(tactic| walk_at "go") => `(tactic| with_reducible refine w_slc ?_)
local macro_rules | `(tactic| walk_at "go") => `(tactic| with_reducible refine w_non ?_)
local macro_rules | `(tactic| walk_at "go") => `(tactic| with_reducible refine w_str ?_)
local macro_rules | `(tactic| walk_at "go") => `(tactic| with_reducible refine w_bl ?_)
local macro_rules | `(tactic| walk_at "go") => `(tactic| ((with_reducible refine' w_glob ?k1 ?_); (case k1 => exact rfl)))
local macro_rules | `(tactic| walk_at "go") => `(tactic| with_reducible refine w_lm ?_)
local macro_rules | `(tactic| walk_at "go") => `(tactic| with_reducible refine w_mk ?_)
local macro_rules | `(tactic| walk_at "go") => `(tactic| with_reducible refine w_meth ?_)
local macro_rules | `(tactic| walk_at "go") => `(tactic| with_reducible refine w_seq ?_)
local macro_rules | `(tactic| walk_at "go") => `(tactic| with_reducible refine w_rng1 ?_)
local macro_rules | `(tactic| walk_at "go") => `(tactic| with_reducible refine w_rng2 ?_)
local macro_rules | `(tactic| walk_at "go") => `(tactic| with_reducible refine w_zip ?_)
local macro_rules | `(tactic| walk_at "go") => `(tactic| with_reducible refine w_zip3 ?_)
local macro_rules | `(tactic| walk_at "go") => `(tactic| with_reducible refine w_enum ?_)
local macro_rules | `(tactic| walk_at "go") => `(tactic| with_reducible refine w_comp ?_)
local macro_rules | `(tactic| walk_at "go") => `(tactic| with_reducible refine v_for ?_)
local macro_rules | `(tactic| walk_at "go") => `(tactic| with_reducible refine v_while ?_)
local macro_rules | `(tactic| walk_at "go") => `(tactic| with_reducible refine w_bi ?_)
local macro_rules | `(tactic| walk_at "go") => `(tactic| with_reducible refine w_isin ?_)
local macro_rules | `(tactic| walk_at "go") => `(tactic| with_reducible refine w_neg ?_)
local macro_rules | `(tactic| walk_at "go") => `(tactic| with_reducible refine w_not ?_)
local macro_rules | `(tactic| walk_at "go") => `(tactic| with_reducible refine w_and ?_)
local macro_rules | `(tactic| walk_at "go") => `(tactic| with_reducible refine w_or ?_)
local macro_rules | `(tactic| walk_at "go") => `(tactic| with_reducible refine w_ifx ?_)
local macro_rules | `(tactic| walk_at "go") => `(tactic| with_reducible refine w_cmp ?_)
local macro_rules | `(tactic| walk_at "go") => `(tactic| with_reducible refine w_bin ?_)
local macro_rules | `(tactic| walk_at "go") => `(tactic| with_reducible refine w_lst ?_)
local macro_rules | `(tactic| walk_at "go") => `(tactic| with_reducible refine w_tup ?_)
local macro_rules | `(tactic| walk_at "go") => `(tactic| with_reducible refine w_sub ?_)
local macro_rules | `(tactic| walk_at "go") => `(tactic| with_reducible refine w_fld ?_)
local macro_rules | `(tactic| walk_at "go") => `(tactic| with_reducible refine v_ite ?_)
local macro_rules | `(tactic| walk_at "go") => `(tactic| with_reducible refine v_ret ?_)
local macro_rules | `(tactic| walk_at "go") => `(tactic| with_reducible refine v_par ?_)
local macro_rules | `(tactic| walk_at "go") => `(tactic| with_reducible refine v_unt ?_)
local macro_rules | `(tactic| walk_at "go") => `(tactic| with_reducible refine v_set ?_)
local macro_rules | `(tactic| walk_at "go") => `(tactic| with_reducible refine v_nil ?_)
local macro_rules | `(tactic| walk_at "go") => `(tactic| with_reducible refine v_cons ?_)
local macro_rules | `(tactic| walk_at "go") => `(tactic| with_reducible refine b_add ?_)
local macro_rules | `(tactic| walk_at "go") => `(tactic| with_reducible refine b_sub ?_)
local macro_rules | `(tactic| walk_at "go") => `(tactic| with_reducible refine o_v ?_)
local macro_rules | `(tactic| walk_at "go") => `(tactic| with_reducible refine o_f ?_)
local macro_rules | `(tactic| walk_at "go") => `(tactic| with_reducible refine o_t ?_)
local macro_rules | `(tactic| walk_at "go") => `(tactic| with_reducible refine c_lt ?_)
local macro_rules | `(tactic| walk_at "go") => `(tactic| with_reducible refine c_gt ?_)
local macro_rules | `(tactic| walk_at "go") => `(tactic| with_reducible refine c_le ?_)
local macro_rules | `(tactic| walk_at "go") => `(tactic| with_reducible refine c_ge ?_)
local macro_rules | `(tactic| walk_at "go") => `(tactic| with_reducible refine c_eq ?_)
local macro_rules | `(tactic| walk_at "go") => `(tactic| with_reducible refine c_ne ?_)
local macro_rules | `(tactic| walk_at "go") => `(tactic| with_reducible refine c_is ?_)
local macro_rules | `(tactic| walk_at "go") => `(tactic| with_reducible refine c_isnot ?_)
local macro_rules | `(tactic| walk_at "go") => `(tactic| with_reducible refine n_bl ?_)
local macro_rules | `(tactic| walk_at "go") => `(tactic| with_reducible refine n_nn ?_)
local macro_rules | `(tactic| walk_at "go") => `(tactic| with_reducible refine n_tt ?_)
local macro_rules | `(tactic| walk_at "go") => `(tactic| with_reducible refine n_ff ?_)
local macro_rules | `(tactic| walk_at "go") => `(tactic| with_reducible refine g_tt ?_)
local macro_rules | `(tactic| walk_at "go") => `(tactic| with_reducible refine g_ff ?_)
local macro_rules | `(tactic| walk_at "go") => `(tactic| with_reducible refine e_neg ?_)
local macro_rules | `(tactic| walk_at "go") => `(tactic| with_reducible refine e_int ?_)
local macro_rules | `(tactic| walk_at "go") => `(tactic| with_reducible refine g_nx ?_)
local macro_rules | `(tactic| walk_at "go") => `(tactic| with_reducible refine g_rt ?_)
local macro_rules | `(tactic| walk_at "go") => `(tactic| with_reducible refine g_bk ?_)
local macro_rules | `(tactic| walk_at "go") => `(tactic| with_reducible refine g_ct ?_)
local macro_rules | `(tactic| walk_at "go") => `(tactic| with_reducible refine r_nx ?_)
local macro_rules | `(tactic| walk_at "go") => `(tactic| with_reducible refine r_rt ?_)
local macro_rules | `(tactic| walk_at "go") => `(tactic| with_reducible refine l_nx ?_)
local macro_rules | `(tactic| walk_at "go") => `(tactic| with_reducible refine l_ct ?_)
local macro_rules | `(tactic| walk_at "go") => `(tactic| with_reducible refine l_bk ?_)
local macro_rules | `(tactic| walk_at "go") => `(tactic| with_reducible refine l_rt ?_)
local macro_rules | `(tactic| walk_at "go") => `(tactic| with_reducible refine x_some (pr0 (by assumption)) ?_)
local macro_rules | `(tactic| walk_at "go") => `(tactic| with_reducible refine x_some (pr1 (by assumption)) ?_)
local macro_rules | `(tactic| walk_at "go") => `(tactic| ((with_reducible refine' x_some ?k1 ?_); (case k1 => exact rfl)))
local macro_rules | `(tactic| walk_at "go") => `(tactic| ((with_reducible refine' x_isf ?k1 ?_); (case k1 => exact rfl)))
local macro_rules | `(tactic| walk_at "go") => `(tactic| ((with_reducible refine' x_ist ?k1 ?_); (case k1 => exact rfl)))
local macro_rules | `(tactic| walk_at "go") => `(tactic| ((with_reducible refine' x_sz ?k1 ?_); (case k1 => exact rfl)))
local macro_rules | `(tactic| walk_at "go") => `(tactic| ((with_reducible refine' x_okr ?k1 ?_); (case k1 => decide)))
local macro_rules | `(tactic| walk_at "go") => `(tactic| ((with_reducible refine' b_tg ?k1 ?_); (case k1 => exact rfl)))
local macro_rules | `(tactic| walk_at "go") => `(tactic| ((with_reducible refine' cb_el ?k1 ?_); (case k1 => exact rfl)))
local macro_rules | `(tactic| walk_at "go") => `(tactic| ((with_reducible refine' cb_if ?k1 ?_); (case k1 => exact rfl)))
local macro_rules | `(tactic| walk_at "go") => `(tactic| with_reducible refine w_callk ?_)
local macro_rules | `(tactic| walk_at "go") => `(tactic| with_reducible refine w_call ?_)
local macro_rules | `(tactic| walk_at "go") => `(tactic| with_reducible refine w_int ?_)
local macro_rules | `(tactic| walk_at "go") => `(tactic| with_reducible refine w_nil ?_)
local macro_rules | `(tactic| walk_at "go") => `(tactic| with_reducible refine w_cons ?_)
local macro_rules | `(tactic| walk_at "go") => `(tactic| ((with_reducible refine' w_var ?k1 ?_); (case k1 => exact rfl)))
local macro_rules | `(tactic| walk_at "gos") => `(tactic| repeat (walk_at "go"))
local macro_rules | `(tactic| walk_at "g1") => `(tactic| (first | walk_at "go" | fail "no step"))
namespace G
section
variable {h : VH} {Q : Val → VH → Prop} {l : Nat}
theorem is_whole_ok {v : Val} {b : Bool} (hl : 1 ≤ l) (w : h.wf) (e : (match v with | .int _ => b = true | .bl _ => b = false | .str _ => b = false | .non => b = false | .tup _ => b = false | .lst _ => b = false | .obj _ _ => b = false | _ => False)) (q : Q (.bl b) h) : Gd (run T l i_is_whole [v] h) Q := by
  refine w_runp (body := b_is_whole) rfl rfl (by omega) w ?_
  unfold b_is_whole
  cases v <;> first | exact e.elim | (subst e; walk_at "gos")
  all_goals exact ⟨rfl, q⟩
theorem is_ratio_ok {v : Val} {q0 : Rat} {n : Nat} {p d : Int} (hl : 2 ≤ l) (w : h.wf) (e : Rq v q0 n p d) (q : Q (.bl true) h) : Gd (run T l i_is_ratio [v] h) Q := by
  obtain ⟨h1, _, _, _, h5⟩ := e
  refine w_runp (body := b_is_ratio) rfl rfl (by omega) w ?_
  unfold b_is_ratio
  walk_at "gos"
  rcases h5 with ⟨rfl, rfl⟩ | rfl | rfl
  · refine is_whole_ok (by omega) w rfl ?_
    walk_at "gos"
    exact ⟨rfl, q⟩
  all_goals
    refine is_whole_ok (b := false) (by omega) w rfl ?_
    walk_at "gos"
    refine is_whole_ok (by omega) w rfl ?_
    walk_at "gos"
    refine is_whole_ok (by omega) w rfl ?_
    walk_at "gos"
    rw [decide_eq_true h1]
    exact ⟨rfl, q⟩
theorem divisor_ok {a b : Int} (hl : 1 ≤ l) (w : h.wf) (q : Q (.int (Nat.gcd a.natAbs b.natAbs : Nat)) h) : Gd (run T l i_divisor [.int a, .int b] h) Q := by
  refine w_runp (body := b_divisor) rfl rfl (by omega) w ?_
  unfold b_divisor
  walk_at "gos"
  exact ⟨rfl, q⟩
theorem lowest_ok {a b : Int} {n : Nat} (hl : 2 ≤ l) (w : h.wf) (hb : b ≠ 0) (h2 : b.natAbs < 2 ^ n) (hn : n < 9000) (q : Q (qv (Rat.divInt a b)) h) : Gd (run T l i_lowest [.int a, .int b] h) Q := by
  refine w_runp (body := b_lowest) rfl rfl (by omega) w ?_
  unfold b_lowest
  have g0 := gcd_ne (a := a) hb
  have gl := gcd_le (a := a) hb
  by_cases hp : 0 < b
  · walk_at "gos"
    refine divisor_ok (by omega) w ?_
    walk_at "gos"
    refine b_fdiv (b := n) (by omega) hn g0 ?_
    walk_at "gos"
    refine b_fdiv (b := n) (by omega) hn g0 ?_
    walk_at "gos"
    rw [fdiv_gcd_num hp, fdiv_gcd_den hp]
    exact ⟨rfl, q⟩
  · walk_at "gos"
    refine divisor_ok (by omega) w ?_
    walk_at "gos"
    refine b_fdiv (b := n) (by omega) hn (by omega) ?_
    walk_at "gos"
    refine b_fdiv (b := n) (by omega) hn (by omega) ?_
    walk_at "gos"
    have e1 := fdiv_gcd_num (a := -a) (b := -b) (by omega)
    have e2 := fdiv_gcd_den (a := -a) (b := -b) (by omega)
    rw [Int.natAbs_neg, Int.natAbs_neg] at e1 e2
    have n1 : a.fdiv (-((Nat.gcd a.natAbs b.natAbs : Nat) : Int)) = (-a).fdiv ((Nat.gcd a.natAbs b.natAbs : Nat) : Int) := by
      rw [← neg_fdiv_neg, Int.neg_neg]
    have n2 : b.fdiv (-((Nat.gcd a.natAbs b.natAbs : Nat) : Int)) = (-b).fdiv ((Nat.gcd a.natAbs b.natAbs : Nat) : Int) := by
      rw [← neg_fdiv_neg, Int.neg_neg]
    rw [n1, n2, e1, e2, divInt_neg2]
    exact ⟨rfl, q⟩
end
end G
namespace G
section
variable {h : VH} {Q : Val → VH → Prop} {l : Nat}
theorem told_ok {v x : Val} {q0 : Rat} {n : Nat} (e : Ra v q0 n) (hl : 3 ≤ l) (w : h.wf) (hn : n < 9000) (q : Q (qv q0) h) : Gd (run T l i_told [v, x] h) Q := by
  obtain ⟨p, d, e⟩ := e
  refine w_runp (body := b_told) rfl rfl (by omega) w ?_
  unfold b_told
  walk_at "gos"
  refine is_ratio_ok (by omega) w e ?_
  walk_at "gos"
  obtain ⟨h1, rfl, h3, h4, h5⟩ := e
  rcases h5 with ⟨rfl, rfl⟩ | rfl | rfl
  · refine is_whole_ok (by omega) w rfl ?_
    walk_at "gos"
    refine ⟨rfl, ?_⟩
    have : Rat.divInt p 1 = (p : Rat) := by rw [Rat.divInt_eq_div]; grind
    rw [this] at q
    exact q
  all_goals
    refine is_whole_ok (b := false) (by omega) w rfl ?_
    walk_at "gos"
    refine lowest_ok (by omega) w (by omega) h4 hn ?_
    walk_at "gos"
    exact ⟨rfl, q⟩
theorem parts_ok {v : Val} {q0 : Rat} {n : Nat} {p d : Int} (e : Rq v q0 n p d) (hl : 3 ≤ l) (w : h.wf) (q : ∀ u, Pr u p d → Q u h) : Gd (run T l i_parts [v] h) Q := by
  refine w_runp (body := b_parts) rfl rfl (by omega) w ?_
  unfold b_parts
  walk_at "gos"
  refine is_ratio_ok (by omega) w e ?_
  walk_at "gos"
  obtain ⟨h1, rfl, h3, h4, h5⟩ := e
  rcases h5 with ⟨rfl, rfl⟩ | rfl | rfl
  · refine is_whole_ok (by omega) w rfl ?_
    walk_at "gos"
    exact ⟨rfl, q _ (.inl rfl)⟩
  all_goals
    refine is_whole_ok (b := false) (by omega) w rfl ?_
    walk_at "gos"
    first | exact ⟨rfl, q _ (.inl rfl)⟩ | exact ⟨rfl, q _ (.inr rfl)⟩
theorem plus_ok {v u : Val} {a b : Rat} {n m : Nat} (e1 : Ra v a n) (e2 : Ra u b m) (hl : 4 ≤ l) (w : h.wf) (hn : n + m < 4000) (q : Q (qv (a + b)) h) : Gd (run T l i_plus [v, u] h) Q := by
  obtain ⟨p1, d1, e1⟩ := e1
  obtain ⟨p2, d2, e2⟩ := e2
  refine w_runp (body := b_plus) rfl rfl (by omega) w ?_
  unfold b_plus
  walk_at "gos"
  refine parts_ok e1 (by omega) w fun v' r1 => ?_
  walk_at "gos"
  refine parts_ok e2 (by omega) w fun u' r2 => ?_
  obtain ⟨h1, rfl, h3, h4, _⟩ := e1
  obtain ⟨k1, rfl, k3, k4, _⟩ := e2
  walk_at "gos"
  refine b_mul h3 k4 (by omega) ?_
  walk_at "gos"
  refine b_mul k3 h4 (by omega) ?_
  walk_at "gos"
  refine b_mul h4 k4 (by omega) ?_
  walk_at "gos"
  have hne : d1 * d2 ≠ 0 := Int.mul_ne_zero (by omega) (by omega)
  refine lowest_ok (n := n + m) (by omega) w hne (abs_mul_lt h4 k4) (by omega) ?_
  walk_at "gos"
  rw [Rat.divInt_add_divInt _ _ (by omega) (by omega)] at q
  exact ⟨rfl, q⟩
theorem minus_ok {v u : Val} {a b : Rat} {n m : Nat} (e1 : Ra v a n) (e2 : Ra u b m) (hl : 4 ≤ l) (w : h.wf) (hn : n + m < 4000) (q : Q (qv (a - b)) h) : Gd (run T l i_minus [v, u] h) Q := by
  obtain ⟨p1, d1, e1⟩ := e1
  obtain ⟨p2, d2, e2⟩ := e2
  refine w_runp (body := b_minus) rfl rfl (by omega) w ?_
  unfold b_minus
  walk_at "gos"
  refine parts_ok e1 (by omega) w fun v' r1 => ?_
  walk_at "gos"
  refine parts_ok e2 (by omega) w fun u' r2 => ?_
  obtain ⟨h1, rfl, h3, h4, _⟩ := e1
  obtain ⟨k1, rfl, k3, k4, _⟩ := e2
  walk_at "gos"
  refine b_mul h3 k4 (by omega) ?_
  walk_at "gos"
  refine b_mul k3 h4 (by omega) ?_
  walk_at "gos"
  refine b_mul h4 k4 (by omega) ?_
  walk_at "gos"
  have hne : d1 * d2 ≠ 0 := Int.mul_ne_zero (by omega) (by omega)
  refine lowest_ok (n := n + m) (by omega) w hne (abs_mul_lt h4 k4) (by omega) ?_
  walk_at "gos"
  rw [Rat.divInt_sub_divInt _ _ (by omega) (by omega)] at q
  exact ⟨rfl, q⟩
theorem times_ok {v u : Val} {a b : Rat} {n m : Nat} (e1 : Ra v a n) (e2 : Ra u b m) (hl : 4 ≤ l) (w : h.wf) (hn : n + m < 4000) (q : Q (qv (a * b)) h) : Gd (run T l i_times [v, u] h) Q := by
  obtain ⟨p1, d1, e1⟩ := e1
  obtain ⟨p2, d2, e2⟩ := e2
  refine w_runp (body := b_times) rfl rfl (by omega) w ?_
  unfold b_times
  walk_at "gos"
  refine parts_ok e1 (by omega) w fun v' r1 => ?_
  walk_at "gos"
  refine parts_ok e2 (by omega) w fun u' r2 => ?_
  obtain ⟨h1, rfl, h3, h4, _⟩ := e1
  obtain ⟨k1, rfl, k3, k4, _⟩ := e2
  walk_at "gos"
  refine b_mul h3 k3 (by omega) ?_
  walk_at "gos"
  refine b_mul h4 k4 (by omega) ?_
  walk_at "gos"
  have hne : d1 * d2 ≠ 0 := Int.mul_ne_zero (by omega) (by omega)
  refine lowest_ok (n := n + m) (by omega) w hne (abs_mul_lt h4 k4) (by omega) ?_
  walk_at "gos"
  rw [Rat.divInt_mul_divInt] at q
  exact ⟨rfl, q⟩
theorem lower_ok {v u : Val} {a b : Rat} {n m : Nat} (e1 : Ra v a n) (e2 : Ra u b m) (hl : 4 ≤ l) (w : h.wf) (hn : n + m < 4000) (q : Q (.bl (decide (a < b))) h) : Gd (run T l i_lower [v, u] h) Q := by
  obtain ⟨p1, d1, e1⟩ := e1
  obtain ⟨p2, d2, e2⟩ := e2
  refine w_runp (body := b_lower) rfl rfl (by omega) w ?_
  unfold b_lower
  walk_at "gos"
  refine parts_ok e1 (by omega) w fun v' r1 => ?_
  walk_at "gos"
  refine parts_ok e2 (by omega) w fun u' r2 => ?_
  obtain ⟨h1, rfl, h3, h4, _⟩ := e1
  obtain ⟨k1, rfl, k3, k4, _⟩ := e2
  walk_at "gos"
  refine b_mul h3 k4 (by omega) ?_
  walk_at "gos"
  refine b_mul k3 h4 (by omega) ?_
  walk_at "gos"
  refine ⟨rfl, ?_⟩
  have : decide (p1 * d2 < p2 * d1) = decide (Rat.divInt p1 d1 < Rat.divInt p2 d2) := decide_eq_decide.mpr (divInt_lt h1 k1).symm
  rw [this]
  exact q
end
end G
namespace G
/-- how near the end -/
def Eu (n k x y : Nat) : Prop := if k % 2 = 0 then y < 2 ^ (n - k / 2) else y < x ∧ x < 2 ^ (n - k / 2)
theorem eu_step {n k x y : Nat} (h : Eu n k x y) (hy : y ≠ 0) : Eu n (k + 1) y (x % y) := by
  unfold Eu at h ⊢
  by_cases hk : k % 2 = 0
  · rw [if_pos hk] at h
    rw [if_neg (by omega)]
    have : (k + 1) / 2 = k / 2 := by omega
    rw [this]
    exact ⟨Nat.mod_lt _ (by omega), h⟩
  · rw [if_neg hk] at h
    rw [if_pos (by omega)]
    have e : (k + 1) / 2 = k / 2 + 1 := by omega
    rw [e]
    obtain ⟨h1, h2⟩ := h
    have hm : 2 * (x % y) < x := by
      have a := Nat.div_add_mod x y
      have b := Nat.mod_lt x (Nat.pos_of_ne_zero hy)
      have c : 0 < x / y := Nat.div_pos (by omega) (by omega)
      have d : y ≤ y * (x / y) := Nat.le_mul_of_pos_right _ c
      omega
    by_cases hn : n - k / 2 = 0
    · rw [hn] at h2
      have : n - (k / 2 + 1) = 0 := by omega
      rw [this]
      omega
    · have : n - k / 2 = (n - (k / 2 + 1)) + 1 := by omega
      rw [this, Nat.pow_succ] at h2
      omega
section
variable {h : VH} {Q : Val → VH → Prop} {l : Nat}
theorem abs_if (i : Int) : (if i < 0 then -i else i) = (i.natAbs : Int) := by split <;> omega
theorem L_gcd_ok {a b : Int} {n : Nat} (h2 : b.natAbs < 2 ^ n) (hn : n < 9000) (hl : 1 ≤ l) (w : h.wf) (q : Q (.int (Nat.gcd a.natAbs b.natAbs : Nat)) h) : Gd (run T l i_L_gcd [.int a, .int b] h) Q := by
  refine w_runp (body := b_L_gcd) rfl rfl (by omega) w ?_
  unfold b_L_gcd
  walk_at "gos"
  refine for_rng (fun k σ h' => h' = h ∧ ∃ (x y : Nat) (o : Option Val), σ = [some (.int x), some (.int y), o] ∧ Nat.gcd x y = Nat.gcd a.natAbs b.natAbs ∧ Eu n k x y) ⟨rfl, a.natAbs, b.natAbs, none, by rw [← abs_if, ← abs_if]; rfl, rfl, ?_⟩ ?_ ?_
  · unfold Eu
    rw [if_pos (by rfl)]
    exact h2
  · rintro k σ h' hk ⟨rfl, x, y, o, rfl, hg, he⟩
    walk_at "gos"
    refine g_if (fun hy => ?_) fun hy => ?_
    · have hy0 : y = 0 := by omega
      subst hy0
      walk_at "gos"
      refine ⟨rfl, ?_⟩
      rw [Nat.gcd_zero_right] at hg
      rw [hg]
      exact q
    · walk_at "gos"
      refine b_mod hy ?_
      walk_at "gos"
      have hy0 : y ≠ 0 := by omega
      refine ⟨rfl, y, x % y, some (Val.int (0 + (k : Int) * 1)), ?_, ?_, eu_step he hy0⟩
      · rw [Int.fmod_eq_emod_of_nonneg _ (by omega)]
        rfl
      · rw [← hg, Nat.gcd_comm y, ← Nat.gcd_rec, Nat.gcd_comm]
  · rintro σ h' ⟨rfl, x, y, o, rfl, hg, he⟩
    walk_at "gos"
    have hy0 : y = 0 := by
      unfold Eu at he
      rw [if_pos (by decide)] at he
      have : n - Int.toNat 50000 / 2 = 0 := by
        have : Int.toNat 50000 / 2 = 25000 := by decide
        omega
      rw [this] at he
      omega
    subst hy0
    refine ⟨rfl, ?_⟩
    rw [Nat.gcd_zero_right] at hg
    rw [hg]
    exact q
end
end G
namespace G
/-- a pair of numbers that says a ratio -/
def Rp (v : Val) (q : Rat) (n : Nat) : Prop := ∃ p d : Int, 0 < d ∧ q = Rat.divInt p d ∧ p.natAbs < 2 ^ n ∧ d.natAbs < 2 ^ n ∧ Pr v p d
theorem rp_qv {q : Rat} {n : Nat} (h : Sq n q) : Rp (qv q) q n := ⟨q.num, q.den, by have := q.den_pos; omega, (Rat.num_divInt_den q).symm, h.1, h.2, .inl rfl⟩
theorem rp_lit {p d : Int} {n : Nat} (h1 : 0 < d) (h2 : p.natAbs < 2 ^ n) (h3 : d.natAbs < 2 ^ n) : Rp (.tup [.int p, .int d]) (Rat.divInt p d) n := ⟨p, d, h1, rfl, h2, h3, .inl rfl⟩
theorem Rp.ra {v : Val} {q : Rat} {n : Nat} (h : Rp v q n) : Ra v q n := by
  obtain ⟨p, d, h1, h2, h3, h4, h5⟩ := h
  exact ⟨p, d, h1, h2, h3, h4, .inr h5⟩
theorem Rp.mono {v : Val} {q : Rat} {n m : Nat} (h : Rp v q n) (l : n ≤ m) : Rp v q m := by
  obtain ⟨p, d, h1, h2, h3, h4, h5⟩ := h
  exact ⟨p, d, h1, h2, lt_mono h3 l, lt_mono h4 l, h5⟩
section
variable {h : VH} {Q : Val → VH → Prop} {l : Nat}
theorem L_q_ok {a b : Int} {n : Nat} (hb : b ≠ 0) (h2 : b.natAbs < 2 ^ n) (hn : n < 9000) (hl : 2 ≤ l) (w : h.wf) (q : Q (qv (Rat.divInt a b)) h) : Gd (run T l i_L_q [.int a, .int b] h) Q := by
  refine w_runp (body := b_L_q) rfl rfl (by omega) w ?_
  unfold b_L_q
  have g0 := gcd_ne (a := a) hb
  have gl := gcd_le (a := a) hb
  walk_at "gos"
  refine L_gcd_ok h2 hn (by omega) w ?_
  by_cases hp : 0 < b
  · walk_at "gos"
    refine b_fdiv (b := n) (by omega) hn g0 ?_
    walk_at "gos"
    refine b_fdiv (b := n) (by omega) hn g0 ?_
    walk_at "gos"
    rw [fdiv_gcd_num hp, fdiv_gcd_den hp]
    exact ⟨rfl, q⟩
  · walk_at "gos"
    refine b_fdiv (b := n) (by omega) hn (by omega) ?_
    walk_at "gos"
    refine b_fdiv (b := n) (by omega) hn (by omega) ?_
    walk_at "gos"
    have e1 := fdiv_gcd_num (a := -a) (b := -b) (by omega)
    have e2 := fdiv_gcd_den (a := -a) (b := -b) (by omega)
    rw [Int.natAbs_neg, Int.natAbs_neg] at e1 e2
    have n1 : a.fdiv (-((Nat.gcd a.natAbs b.natAbs : Nat) : Int)) = (-a).fdiv ((Nat.gcd a.natAbs b.natAbs : Nat) : Int) := by
      rw [← neg_fdiv_neg, Int.neg_neg]
    have n2 : b.fdiv (-((Nat.gcd a.natAbs b.natAbs : Nat) : Int)) = (-b).fdiv ((Nat.gcd a.natAbs b.natAbs : Nat) : Int) := by
      rw [← neg_fdiv_neg, Int.neg_neg]
    rw [n1, n2, e1, e2, divInt_neg2]
    exact ⟨rfl, q⟩
theorem L_plus_ok {v u : Val} {a b : Rat} {n m : Nat} (e1 : Rp v a n) (e2 : Rp u b m) (hl : 3 ≤ l) (w : h.wf) (hn : n + m < 4000) (q : Q (qv (a + b)) h) : Gd (run T l i_L_plus [v, u] h) Q := by
  obtain ⟨p1, d1, h1, rfl, h3, h4, h5⟩ := e1
  obtain ⟨p2, d2, k1, rfl, k3, k4, k5⟩ := e2
  refine w_runp (body := b_L_plus) rfl rfl (by omega) w ?_
  unfold b_L_plus
  walk_at "gos"
  refine b_mul h3 k4 (by omega) ?_
  walk_at "gos"
  refine b_mul k3 h4 (by omega) ?_
  walk_at "gos"
  refine b_mul h4 k4 (by omega) ?_
  walk_at "gos"
  have hne : d1 * d2 ≠ 0 := Int.mul_ne_zero (by omega) (by omega)
  refine L_q_ok (n := n + m) hne (abs_mul_lt h4 k4) (by omega) (by omega) w ?_
  walk_at "gos"
  rw [Rat.divInt_add_divInt _ _ (by omega) (by omega)] at q
  exact ⟨rfl, q⟩
theorem L_minus_ok {v u : Val} {a b : Rat} {n m : Nat} (e1 : Rp v a n) (e2 : Rp u b m) (hl : 3 ≤ l) (w : h.wf) (hn : n + m < 4000) (q : Q (qv (a - b)) h) : Gd (run T l i_L_minus [v, u] h) Q := by
  obtain ⟨p1, d1, h1, rfl, h3, h4, h5⟩ := e1
  obtain ⟨p2, d2, k1, rfl, k3, k4, k5⟩ := e2
  refine w_runp (body := b_L_minus) rfl rfl (by omega) w ?_
  unfold b_L_minus
  walk_at "gos"
  refine b_mul h3 k4 (by omega) ?_
  walk_at "gos"
  refine b_mul k3 h4 (by omega) ?_
  walk_at "gos"
  refine b_mul h4 k4 (by omega) ?_
  walk_at "gos"
  have hne : d1 * d2 ≠ 0 := Int.mul_ne_zero (by omega) (by omega)
  refine L_q_ok (n := n + m) hne (abs_mul_lt h4 k4) (by omega) (by omega) w ?_
  walk_at "gos"
  rw [Rat.divInt_sub_divInt _ _ (by omega) (by omega)] at q
  exact ⟨rfl, q⟩
theorem L_times_ok {v u : Val} {a b : Rat} {n m : Nat} (e1 : Rp v a n) (e2 : Rp u b m) (hl : 3 ≤ l) (w : h.wf) (hn : n + m < 4000) (q : Q (qv (a * b)) h) : Gd (run T l i_L_times [v, u] h) Q := by
  obtain ⟨p1, d1, h1, rfl, h3, h4, h5⟩ := e1
  obtain ⟨p2, d2, k1, rfl, k3, k4, k5⟩ := e2
  refine w_runp (body := b_L_times) rfl rfl (by omega) w ?_
  unfold b_L_times
  walk_at "gos"
  refine b_mul h3 k3 (by omega) ?_
  walk_at "gos"
  refine b_mul h4 k4 (by omega) ?_
  walk_at "gos"
  have hne : d1 * d2 ≠ 0 := Int.mul_ne_zero (by omega) (by omega)
  refine L_q_ok (n := n + m) hne (abs_mul_lt h4 k4) (by omega) (by omega) w ?_
  walk_at "gos"
  rw [Rat.divInt_mul_divInt] at q
  exact ⟨rfl, q⟩
theorem L_less_ok {v u : Val} {a b : Rat} {n m : Nat} (e1 : Rp v a n) (e2 : Rp u b m) (hl : 1 ≤ l) (w : h.wf) (hn : n + m < 4000) (q : Q (.bl (decide (a < b))) h) : Gd (run T l i_L_less [v, u] h) Q := by
  obtain ⟨p1, d1, h1, rfl, h3, h4, h5⟩ := e1
  obtain ⟨p2, d2, k1, rfl, k3, k4, k5⟩ := e2
  refine w_runp (body := b_L_less) rfl rfl (by omega) w ?_
  unfold b_L_less
  walk_at "gos"
  refine b_mul h3 k4 (by omega) ?_
  walk_at "gos"
  refine b_mul k3 h4 (by omega) ?_
  walk_at "gos"
  refine ⟨rfl, ?_⟩
  have : decide (p1 * d2 < p2 * d1) = decide (Rat.divInt p1 d1 < Rat.divInt p2 d2) := decide_eq_decide.mpr (divInt_lt h1 k1).symm
  rw [this]
  exact q
end
end G
namespace G
theorem ixN_nat {n k : Nat} (h : k < n) : ixN n (k : Int) = some k := by
  unfold ixN L2.ixN
  simp
  omega
theorem sub_lst {h : VH} {xs : List Val} {k : Nat} {x : Val} (e : xs[k]? = some x) : subV h (.lst xs) (.int (k : Int)) = some x := by
  have hk := (List.getElem?_eq_some_iff.mp e).1
  show (ixN xs.length (k : Int)).bind (fun j => xs[j]?) = _
  rw [ixN_nat hk]
  exact e
theorem sub_tup {h : VH} {xs : List Val} {k : Nat} {x : Val} (e : xs[k]? = some x) : subV h (.tup xs) (.int (k : Int)) = some x := by
  have hk := (List.getElem?_eq_some_iff.mp e).1
  show (ixN xs.length (k : Int)).bind (fun j => xs[j]?) = _
  rw [ixN_nat hk]
  exact e
section
variable {h : VH} {Q : Val → VH → Prop} {l d : Nat}
theorem L_pick_ok {xs : List Val} (hx : 0 < xs.length) (hx2 : xs.length < 1000000) (p : Pn h d) (hd : d < 900000000000) (hl : 2 ≤ l) (q : ∀ x ∈ xs, Q x (sp h (d + 1))) : Gd (run T l i_L_pick [.ref 0, .lst xs] h) Q := by
  refine w_rund (body := b_L_pick) rfl rfl (by omega) p.wf ?_
  unfold b_L_pick
  walk_at "gos"
  refine draw_ok rfl (by omega) p (by omega) (by omega) (by omega) fun i hi => ?_
  have hi' : i < xs.length := by omega
  refine x_some (sub_lst (List.getElem?_eq_getElem hi')) ?_
  walk_at "gos"
  exact ⟨_, rfl, q _ (List.getElem_mem hi')⟩
theorem ra_scaled {a : Rat} {n : Nat} {k : Int} (hs : Sq n a) (hk : 0 < k) (hk3 : k ≤ 3) : Ra (.tup [.int (a.num * k), .int ((a.den : Int) * k)]) a (n + 2) ∧ Ra (.lst [.int (a.num * k), .int ((a.den : Int) * k)]) a (n + 2) := by
  have hp : 0 < (a.den : Int) := by have := a.den_pos; omega
  have e : a = Rat.divInt (a.num * k) ((a.den : Int) * k) := by
    rw [Rat.divInt_mul_right (by omega)]
    exact (Rat.num_divInt_den a).symm
  have k2 : k.natAbs < 2 ^ 2 := by omega
  exact ⟨⟨_, _, Int.mul_pos hp hk, e, abs_mul_lt hs.1 k2, abs_mul_lt hs.2 k2, .inr (.inl rfl)⟩, ⟨_, _, Int.mul_pos hp hk, e, abs_mul_lt hs.1 k2, abs_mul_lt hs.2 k2, .inr (.inr rfl)⟩⟩
theorem L_passed_ok {a : Rat} {n : Nat} (hs : Sq n a) (hn : n < 4000) (h0 : 0 < n) (p : Pn h d) (hd : d + 3 < 900000000000) (hl : 3 ≤ l) (q : ∀ v d', d ≤ d' → d' ≤ d + 3 → Ra v a (n + 2) → Q v (sp h d')) : Gd (run T l i_L_passed [.ref 0, qv a] h) Q := by
  refine w_rund (body := b_L_passed) rfl rfl (by omega) p.wf ?_
  unfold b_L_passed qv
  have go : ∀ d1, d ≤ d1 → d1 ≤ d + 1 → ∀ σ : Sl, σ = [some (.ref 0), some (.tup [.int a.num, .int (a.den : Int)]), none] → Gd (evSs T (run T (l - 1)) σ (.cons (.set 2 (.call i_L_pick (.cons (.var 0) (.cons (.lst false (.cons (.int 1) (.cons (.int 1) (.cons (.int 2) (.cons (.int 3) .nil))))) .nil)))) (.cons (.ret (.call i_L_pick (.cons (.var 0) (.cons (.lst false (.cons (.tup (.cons (.bin false .mul (.sub (.var 1) (.int 0)) (.var 2)) (.cons (.bin false .mul (.sub (.var 1) (.int 1)) (.var 2)) .nil))) (.cons (.lst false (.cons (.bin false .mul (.sub (.var 1) (.int 0)) (.var 2)) (.cons (.bin false .mul (.sub (.var 1) (.int 1)) (.var 2)) .nil))) .nil))) .nil)))) .nil)) (sp h d1)) fun fl h1 => GRt fl fun v => ∃ d, h1 = sp h d ∧ Q v h1 := by
    rintro d1 l1 l2 σ rfl
    walk_at "gos"
    refine L_pick_ok (by simp) (by simp) p.sp (by omega) (by omega) fun k hk => ?_
    have hk : ∃ i : Int, k = .int i ∧ 0 < i ∧ i ≤ 3 := by
      simp only [List.mem_cons, List.not_mem_nil, or_false] at hk
      rcases hk with rfl | rfl | rfl | rfl
      · exact ⟨1, rfl, by decide, by decide⟩
      · exact ⟨1, rfl, by decide, by decide⟩
      · exact ⟨2, rfl, by decide, by decide⟩
      · exact ⟨3, rfl, by decide, by decide⟩
    refine hk.elim fun i hk => ?_
    have ek := hk.1
    have i0 := hk.2.1
    have i3 := hk.2.2
    rw [ek]
    have i2 : i.natAbs < 2 ^ 2 := by omega
    walk_at "gos"
    refine b_mul hs.1 i2 (by omega) ?_
    walk_at "gos"
    refine b_mul hs.2 i2 (by omega) ?_
    walk_at "gos"
    refine b_mul hs.1 i2 (by omega) ?_
    walk_at "gos"
    refine b_mul hs.2 i2 (by omega) ?_
    walk_at "gos"
    rw [sp_sp]
    refine L_pick_ok (by simp) (by simp) p.sp (by omega) (by omega) fun v hv => ?_
    rw [sp_sp]
    walk_at "gos"
    refine ⟨_, rfl, q _ _ (by omega) (by omega) ?_⟩
    have sc := ra_scaled hs i0 i3
    simp only [List.mem_cons, List.not_mem_nil, or_false] at hv
    rcases hv with rfl | rfl
    · exact sc.1
    · exact sc.2
  have goh := go d (Nat.le_refl _) (by omega) _ rfl
  rw [sp_self p] at goh
  walk_at "gos"
  refine g_if (fun hden => ?_) fun hden => ?_
  · walk_at "gos"
    refine draw_ok rfl (by omega) p (by decide) (by decide) (by omega) fun i hi => ?_
    walk_at "gos"
    refine g_if (fun hi0 => ?_) fun hi0 => ?_
    · walk_at "gos"
      refine ⟨_, rfl, q _ _ (by omega) (by omega) ?_⟩
      have : a = ((a.num : Int) : Rat) := by
        have e := Rat.num_divInt_den a
        have hd1 : (a.den : Int) = 1 := hden
        rw [hd1, Rat.divInt_eq_div] at e
        grind
      have e2 := ra_int (n := n + 2) (i := a.num) (lt_mono hs.1 (by omega)) (by omega)
      rw [← this] at e2
      exact e2
    · walk_at "go"
      walk_at "go"
      exact go _ (by omega) (by omega) _ rfl
  · walk_at "go"
    walk_at "go"
    walk_at "go"
    exact goh
end
end G
namespace G
section
variable {h : VH} {Q : Val → VH → Prop} {l d : Nat}
theorem L_ratio_ok {m : Int} (m0 : 0 < m) (m1 : m ≤ 10) (p : Pn h d) (hd : d + 4 < 900000000000) (hl : 3 ≤ l) (q : ∀ a d', d ≤ d' → d' ≤ d + 4 → Sq 11 a → Q (qv a) (sp h d')) : Gd (run T l i_L_ratio [.ref 0, .int m] h) Q := by
  refine w_rund (body := b_L_ratio) rfl rfl (by omega) p.wf ?_
  unfold b_L_ratio
  walk_at "gos"
  refine draw_ok rfl (by omega) p (by decide) (by decide) (by omega) fun i hi => ?_
  walk_at "gos"
  refine L_pick_ok (by simp) (by simp) p.sp (by omega) (by omega) fun v hv => ?_
  rw [sp_sp]
  have hb : ∃ b : Int, v = .int b ∧ 0 < b ∧ b ≤ 99 := by
    simp only [List.mem_cons, List.not_mem_nil, or_false] at hv
    rcases hv with rfl | rfl | rfl | rfl | rfl | rfl | rfl
    · exact ⟨1, rfl, by decide, by decide⟩
    · exact ⟨1, rfl, by decide, by decide⟩
    · exact ⟨2, rfl, by decide, by decide⟩
    · exact ⟨3, rfl, by decide, by decide⟩
    · exact ⟨7, rfl, by decide, by decide⟩
    · exact ⟨10, rfl, by decide, by decide⟩
    · exact ⟨1 + i, rfl, by omega, by omega⟩
  obtain ⟨b, rfl, b0, b1⟩ := hb
  have hm : m.natAbs < 2 ^ 4 := by omega
  have hb7 : b.natAbs < 2 ^ 7 := by omega
  have h2m : (2 * m).natAbs < 2 ^ 5 := by omega
  walk_at "gos"
  refine b_mul (a := 2) (by decide) hm (by omega) ?_
  walk_at "gos"
  refine b_mul h2m hb7 (by omega) ?_
  walk_at "gos"
  have e1 : 2 * m * b = 2 * (m * b) := Int.mul_assoc _ _ _
  have e2 : 0 < m * b := Int.mul_pos m0 b0
  have e3 : m * b ≤ 990 := by
    have := Int.mul_le_mul m1 b1 (by omega) (by omega)
    omega
  refine draw_ok rfl (by omega) p.sp (by omega) (by omega) (by omega) fun k hk => ?_
  rw [sp_sp]
  walk_at "gos"
  refine b_mul hm hb7 (by omega) ?_
  walk_at "gos"
  refine L_q_ok (n := 7) (by omega) hb7 (by omega) (by omega) (wf_set p.wf) ?_
  walk_at "gos"
  refine ⟨_, rfl, q _ _ (by omega) (by omega) ?_⟩
  refine Sq.div (by omega) ?_ (lt_mono hb7 (by decide))
  have : (2 : Nat) ^ 11 = 2048 := by decide
  omega
/-- the least of b and the rest -/
def least : Rat → List Rat → Rat
  | b, [] => b
  | b, x :: xs => least (if x < b then x else b) xs
theorem least_snoc : ∀ {xs : List Rat} {b x : Rat}, least b (xs ++ [x]) = if x < least b xs then x else least b xs
  | [], b, x => rfl
  | y :: xs, b, x => by
    show least _ (xs ++ [x]) = _
    rw [least_snoc]
    rfl
theorem least_mem : ∀ {xs : List Rat} {b : Rat}, least b xs ∈ b :: xs
  | [], b => List.mem_cons_self
  | y :: xs, b => by
    have := least_mem (xs := xs) (b := if y < b then y else b)
    show least (if y < b then y else b) xs ∈ b :: y :: xs
    rcases List.mem_cons.mp this with z | z
    · rw [z]
      split
      · exact List.mem_cons_of_mem _ List.mem_cons_self
      · exact List.mem_cons_self
    · exact List.mem_cons_of_mem _ (List.mem_cons_of_mem _ z)
theorem least_le : ∀ {xs : List Rat} {b : Rat}, ∀ x ∈ b :: xs, least b xs ≤ x
  | [], b, x, hx => by
    rcases List.mem_cons.mp hx with rfl | z
    · exact Rat.le_refl
    · cases z
  | y :: xs, b, x, hx => by
    have ih := least_le (xs := xs) (b := if y < b then y else b)
    show least (if y < b then y else b) xs ≤ x
    have h0 := ih _ List.mem_cons_self
    rcases List.mem_cons.mp hx with rfl | z
    · split at h0 <;> grind
    · rcases List.mem_cons.mp z with rfl | z
      · split at h0 <;> grind
      · exact ih x (List.mem_cons_of_mem _ z)
theorem cut_tail {xs : List Val} {x : Val} : cut (x :: xs) (some 1) none = xs := by
  unfold cut HT.sIx
  simp
theorem L_lower_one_ok {b : Rat} {qs : List Rat} {n : Nat} (hs : ∀ x ∈ b :: qs, Sq n x) (hn : n < 1900) (hl : 2 ≤ l) (w : h.wf) (q : Q (qv (least b qs)) h) : Gd (run T l i_L_lower_one [.lst ((b :: qs).map qv)] h) Q := by
  refine w_runp (body := b_L_lower_one) rfl rfl (by omega) w ?_
  unfold b_L_lower_one
  walk_at "gos"
  refine x_some (sub_lst (k := 0) (by rw [List.getElem?_map]; rfl)) ?_
  walk_at "gos"
  rw [show slcV h (.lst ((b :: qs).map qv)) (some 1) none = some (.nl (qs.map qv)) from congrArg (fun z => some (Rv.nl z)) cut_tail]
  walk_at "gos"
  refine for_fix (fun k σ h' => h' = h ∧ ∃ o, σ = [some (.lst ((b :: qs).map qv)), some (qv (least b (qs.take k))), o]) ⟨rfl, none, rfl⟩ ?_ ?_
  · rintro k x σ h' hx ⟨rfl, o, rfl⟩
    rw [List.getElem?_map] at hx
    obtain ⟨y, hy, rfl⟩ := Option.map_eq_some_iff.mp hx
    have my : y ∈ qs := List.mem_of_getElem? hy
    have ml : least b (qs.take k) ∈ b :: qs := by
      rcases List.mem_cons.mp (least_mem (xs := qs.take k) (b := b)) with z | z
      · rw [z]; exact List.mem_cons_self
      · exact List.mem_cons_of_mem _ (List.mem_of_mem_take z)
    walk_at "gos"
    refine L_less_ok (rp_qv (hs y (List.mem_cons_of_mem _ my))) (rp_qv (hs _ ml)) (by omega) w (by omega) ?_
    have e : least b (qs.take (k + 1)) = if y < least b (qs.take k) then y else least b (qs.take k) := by
      rw [List.take_add_one, hy]
      exact least_snoc
    refine g_if (fun z => ?_) fun z => ?_
    · walk_at "gos"
      rw [if_pos z] at e
      exact ⟨rfl, some (qv y), by rw [e]; rfl⟩
    · walk_at "gos"
      rw [if_neg z] at e
      exact ⟨rfl, some (qv y), by rw [e]; rfl⟩
  · rintro σ h' ⟨rfl, o, rfl⟩
    walk_at "gos"
    rw [List.length_map, List.take_length]
    exact ⟨rfl, q⟩
end
end G
namespace G
/-- two ascending rows of the same ratios are one -/
theorem asc_ext : ∀ {a b : List Rat}, a.Pairwise (· < ·) → b.Pairwise (· < ·) → (∀ x, x ∈ a ↔ x ∈ b) → a = b
  | [], [], _, _, _ => rfl
  | [], y :: b, _, _, h => absurd ((h y).mpr List.mem_cons_self) (by simp)
  | x :: a, [], _, _, h => absurd ((h x).mp List.mem_cons_self) (by simp)
  | x :: a, y :: b, ha, hb, h => by
    rw [List.pairwise_cons] at ha hb
    have e : x = y := by
      have h1 := (h x).mp List.mem_cons_self
      have h2 := (h y).mpr List.mem_cons_self
      rcases List.mem_cons.mp h1 with z | z
      · exact z
      · rcases List.mem_cons.mp h2 with z2 | z2
        · exact z2.symm
        · have a1 := ha.1 y z2
          have a2 := hb.1 x z
          grind
    subst e
    rw [asc_ext ha.2 hb.2 fun z => ?_]
    constructor
    · intro hz
      rcases List.mem_cons.mp ((h z).mp (List.mem_cons_of_mem _ hz)) with q | q
      · subst q
        have := ha.1 z hz
        grind
      · exact q
    · intro hz
      rcases List.mem_cons.mp ((h z).mpr (List.mem_cons_of_mem _ hz)) with q | q
      · subst q
        have := hb.1 z hz
        grind
      · exact q
theorem norefs_qv : ∀ qs : List Rat, Val.norefs (qs.map qv) = true
  | [] => rfl
  | q :: qs => by
    rw [List.map_cons, Val.norefs, norefs_qv qs]
    rfl
section
variable {h : VH} {Q : Val → VH → Prop} {l d : Nat}
theorem L_sorted_ok {qs : List Rat} {n : Nat} (hs : ∀ x ∈ qs, Sq n x) (hn : n < 1900) (hlen : qs.length ≤ 100000) (hl : 3 ≤ l) (w : h.wf) (q : ∀ rs : List Rat, rs.Pairwise (· < ·) → (∀ x, x ∈ rs ↔ x ∈ qs) → rs.length ≤ qs.length → Q (.lst (rs.map qv)) h) : Gd (run T l i_L_sorted [.lst (qs.map qv)] h) Q := by
  refine w_runt (body := b_L_sorted) rfl rfl (by omega) ?_
  unfold b_L_sorted
  walk_at "gos"
  refine ⟨by rw [List.length_map]; unfold okR; simp; omega, ?_⟩
  refine for_rng (fun k σ h' => ∃ fs ls o3 o4 o5, h' = h.push (.lst (fs.map qv)) ∧ σ = [some (.lst (qs.map qv)), some (.lst (ls.map qv)), some (.ref h.next), o3, o4, o5] ∧ fs.Pairwise (· < ·) ∧ (∀ x, x ∈ qs ↔ x ∈ fs ∨ x ∈ ls) ∧ (∀ a ∈ fs, ∀ b ∈ ls, a < b) ∧ ls.length + k ≤ qs.length ∧ fs.length ≤ k)
    ⟨[], qs, none, none, none, rfl, rfl, .nil, fun x => by simp, fun a z => by simp at z, by simp, by simp⟩ ?_ ?_
  · rintro k σ h' hk ⟨fs, ls, o3, o4, o5, rfl, rfl, p1, p2, p3, p4, p5⟩
    walk_at "gos"
    refine c_eqP 3 (by decide) (pl_qvs (by decide)) (by rfl) fun b hb => ?_
    refine g_bool (fun hbt => ?_) fun hbf => ?_
    · walk_at "gos"
      have : ls = [] := by
        have := hb.mp hbt
        injection this with this
        exact List.map_eq_nil_iff.mp this
      subst this
      refine frz_l push_get ?_
      walk_at "gos"
      refine ⟨norefs_qv fs, (Ex.push (Ex.self w)).erase (Nat.le_refl _), q fs p1 (fun x => ?_) (by omega)⟩
      rw [p2 x]
      simp
    · obtain ⟨b0, rest, rfl⟩ : ∃ b0 rest, ls = b0 :: rest := by
        cases ls with
        | nil => exact absurd (hb.mpr rfl) (by rw [hbf]; decide)
        | cons a r => exact ⟨a, r, rfl⟩
      have hsl : ∀ x ∈ b0 :: rest, Sq n x := fun x hx => hs x ((p2 x).mpr (.inr hx))
      walk_at "gos"
      refine L_lower_one_ok hsl hn (by omega) (wf_push w) ?_
      walk_at "gos"
      have lm := least_mem (xs := rest) (b := b0)
      have ll := least_le (xs := rest) (b := b0)
      refine comp_filt (α := Rat) qv qv (fun x => decide (x ≠ least b0 rest)) (l := b0 :: rest) (by omega) (fun x hx R hR => ?_) ?_
      · walk_at "gos"
        refine c_neP 2 (by decide) (pl_qv (by decide)) (pl_qv (by decide)) fun b hb => ?_
        have hbx : (b = true ↔ x ≠ least b0 rest) := by rw [hb]; exact not_congr qv_inj
        refine g_bool (fun z => ?_) fun z => ?_
        · walk_at "gos"
          rw [decide_eq_true (hbx.mp z)] at hR
          exact hR
        · have : ¬ (x ≠ least b0 rest) := fun y => by rw [hbx.mpr y] at z; cases z
          rw [decide_eq_false this] at hR
          exact hR
      · walk_at "gos"
        refine lm_isL push_get ?_
        walk_at "gos"
        refine lm_app push_get (by rw [List.length_map]; omega) ?_
        walk_at "gos"
        refine ⟨fs ++ [least b0 rest], (b0 :: rest).filter (fun x => decide (x ≠ least b0 rest)), _, _, o5, ?_, rfl, ?_, fun x => ?_, fun a ha b hb => ?_, ?_, ?_⟩
        · rw [push_set', List.map_append]
          rfl
        · rw [List.pairwise_append]
          refine ⟨p1, List.pairwise_singleton _ _, fun a ha b hb => ?_⟩
          rw [List.mem_singleton.mp hb]
          exact p3 a ha _ lm
        · rw [p2 x, List.mem_append, List.mem_singleton, List.mem_filter, decide_eq_true_eq]
          constructor
          · rintro (z | z)
            · exact .inl (.inl z)
            · by_cases e : x = least b0 rest
              · exact .inl (.inr e)
              · exact .inr ⟨z, e⟩
          · rintro ((z | z) | z)
            · exact .inl z
            · rw [z]; exact .inr lm
            · exact .inr z.1
        · rw [List.mem_filter, decide_eq_true_eq] at hb
          rcases List.mem_append.mp ha with z | z
          · exact p3 a z b hb.1
          · rw [List.mem_singleton.mp z]
            have := ll b hb.1
            have := hb.2
            grind
        · have : ((b0 :: rest).filter (fun x => decide (x ≠ least b0 rest))).length < (b0 :: rest).length := by
            rw [List.length_filter_lt_length_iff_exists]
            exact ⟨_, lm, by simp⟩
          omega
        · rw [List.length_append]
          simp
          omega
  · rintro σ h' ⟨fs, ls, o3, o4, o5, rfl, rfl, p1, p2, p3, p4, p5⟩
    have : ls = [] := by
      rw [List.length_map] at p4
      apply List.eq_nil_of_length_eq_zero
      omega
    subst this
    walk_at "gos"
    refine frz_l push_get ?_
    walk_at "gos"
    refine ⟨norefs_qv fs, (Ex.push (Ex.self w)).erase (Nat.le_refl _), q fs p1 (fun x => ?_) (by rw [List.length_map] at p5; omega)⟩
    rw [p2 x]
    simp
end
end G
namespace G
/-- a Poly by its numbers -/
def polyV (ns : List Rat) : Val := .obj c_Poly [(f_numbers, .tup (ns.map qv))]
theorem div_gcd_mul (m n : Nat) (hn : 0 < n) : m / Nat.gcd m n * n = Nat.lcm m n := by
  unfold Nat.lcm
  obtain ⟨k, hk⟩ := Nat.gcd_dvd_left m n
  have hg : 0 < Nat.gcd m n := Nat.gcd_pos_of_pos_right _ hn
  have e1 : m / Nat.gcd m n = k := by
    conv => lhs; lhs; rw [hk]
    exact Nat.mul_div_cancel_left _ hg
  have e2 : m * n / Nat.gcd m n = k * n := by
    conv => lhs; lhs; rw [hk]
    rw [Nat.mul_assoc]
    exact Nat.mul_div_cancel_left _ hg
  rw [e1, e2]
section
variable {h : VH} {Q : Val → VH → Prop} {l d : Nat}
theorem bottom_of_ok {qs : List Rat} {n : Nat} (hs : ∀ q ∈ qs, Sq n q) (hn : n * qs.length + n < 8000) (hl : 2 ≤ l) (w : h.wf) (q : Q (.int (lcmD qs : Nat)) h) : Gd (run T l i_bottom_of [.tup (qs.map qv)] h) Q := by
  refine w_runp (body := b_bottom_of) rfl rfl (by omega) w ?_
  unfold b_bottom_of
  walk_at "gos"
  refine for_fix (fun k σ h' => h' = h ∧ k ≤ qs.length ∧ ∃ o2 o3, σ = [some (.tup (qs.map qv)), some (.int (lcmD (qs.take k) : Nat)), o2, o3]) ⟨rfl, Nat.zero_le _, none, none, rfl⟩ ?_ ?_
  · rintro k σ h' hx hk ⟨rfl, hkl, o2, o3, rfl⟩
    rw [List.getElem?_map] at hk
    obtain ⟨a, ha, rfl⟩ := Option.map_eq_some_iff.mp hk
    have hlt := (List.getElem?_eq_some_iff.mp ha).1
    have ma : a ∈ qs := List.mem_of_getElem? ha
    have hsz : lcmD (qs.take k) < 2 ^ (1 + n * qs.length) := by
      have := lcmD_lt (n := n) (l := qs.take k) (m := 1) (k := 1) (fun q hq => hs q (List.mem_of_mem_take hq)) (by decide)
      refine lt_mono this ?_
      have : (qs.take k).length ≤ qs.length := by rw [List.length_take]; omega
      have := Nat.mul_le_mul_left n this
      omega
    have hd := a.den_pos
    have hg : 0 < Nat.gcd (lcmD (qs.take k)) a.den := Nat.gcd_pos_of_pos_right _ hd
    have hgl : Nat.gcd (lcmD (qs.take k)) a.den ≤ a.den := Nat.gcd_le_right _ hd
    have hs2 := (hs a ma).2
    unfold qv
    walk_at "gos"
    refine divisor_ok (by omega) w ?_
    walk_at "gos"
    refine b_fdiv (b := n) (by show Nat.gcd (lcmD (qs.take k)) a.den < _; omega) (by omega) (by show ((Nat.gcd (lcmD (qs.take k)) a.den : Nat) : Int) ≠ 0; omega) ?_
    walk_at "gos"
    have e : (lcmD (qs.take k) : Int).fdiv ((Nat.gcd (lcmD (qs.take k)) a.den : Nat) : Int) = ((lcmD (qs.take k) / Nat.gcd (lcmD (qs.take k)) a.den : Nat) : Int) := by
      rw [Int.fdiv_eq_ediv_of_nonneg _ (by omega)]
      rfl
    have e3 : ((lcmD (qs.take k) : Nat) : Int).natAbs.gcd ((a.den : Nat) : Int).natAbs = Nat.gcd (lcmD (qs.take k)) a.den := rfl
    rw [e3, e]
    refine b_mul (a := 1 + n * qs.length) (b := n) (Nat.lt_of_le_of_lt (Nat.div_le_self _ _) hsz) hs2 (by omega) ?_
    walk_at "gos"
    refine ⟨rfl, by omega, some (.int a.num), some (.int a.den), ?_⟩
    have e2 : lcmD (qs.take (k + 1)) = lcmD (qs.take k) / Nat.gcd (lcmD (qs.take k)) a.den * a.den := by
      rw [List.take_add_one, ha, div_gcd_mul _ _ hd]
      exact lcmD_snoc
    rw [e2]
    rfl
  · rintro σ h' ⟨rfl, _, o2, o3, rfl⟩
    walk_at "gos"
    rw [List.length_map, List.take_length]
    exact ⟨rfl, q⟩
/-- the counted places of numbers other than 0 -/
theorem max_trim : ∀ (qs : List Rat) (k : Nat), ∃ ns : List Int, intsOf (((enumA k qs).filter fun p => !decide (p.2.num = 0)).map fun p => Val.int ((p.1 : Int) + 1)) = some ns ∧ (∀ x ∈ ns, (k : Int) < x) ∧ (if 0 < trimN qs then maxI ns = some ((k + trimN qs : Nat) : Int) else ns = [])
  | [], k => ⟨[], rfl, by simp, by simp [trimN]⟩
  | a :: qs, k => by
    obtain ⟨ns, e, b, m⟩ := max_trim qs (k + 1)
    have et : trimN (a :: qs) = if 0 < trimN qs then trimN qs + 1 else if a = 0 then 0 else 1 := rfl
    have en : enumA k (a :: qs) = (k, a) :: enumA (k + 1) qs := rfl
    have ha : a.num = 0 ↔ a = 0 := Rat.num_eq_zero
    rw [en, List.filter_cons]
    by_cases hz : a = 0
    · rw [if_neg (by simp [ha.mpr hz])]
      refine ⟨ns, e, fun x hx => by have := b x hx; omega, ?_⟩
      rw [et]
      by_cases h0 : 0 < trimN qs
      · rw [if_pos h0] at m
        rw [if_pos h0, if_pos (by omega), m]
        congr 2
        omega
      · rw [if_neg h0] at m
        rw [if_neg h0, if_pos hz, if_neg (by omega)]
        exact m
    · rw [if_pos (by simp [ha, hz])]
      refine ⟨((k : Int) + 1) :: ns, ?_, ?_, ?_⟩
      · rw [List.map_cons]
        show (intsOf _).map (((k : Int) + 1) :: ·) = _
        rw [e]
        rfl
      · intro x hx
        rcases List.mem_cons.mp hx with rfl | z
        · omega
        · have := b x z; omega
      · rw [et]
        by_cases h0 : 0 < trimN qs
        · rw [if_pos h0] at m
          rw [if_pos h0, if_pos (by omega)]
          cases ns with
          | nil => simp [maxI] at m
          | cons y ns =>
            show (maxI (y :: ns)).map (fun c => if c > (k : Int) + 1 then c else (k : Int) + 1) = _
            rw [m]
            show some (if ((k + 1 + trimN qs : Nat) : Int) > (k : Int) + 1 then _ else _) = _
            rw [if_pos (by omega)]
            congr 2
            omega
        · rw [if_neg h0] at m
          rw [if_neg h0, if_neg hz, if_pos (by omega), m]
          rfl
theorem slc_take {xs : List Val} {n : Nat} (hn : n ≤ xs.length) : cut xs none (some (n : Int)) = xs.take n := by
  have e1 : HT.sIx xs.length 0 none = 0 := rfl
  have e2 : HT.sIx xs.length xs.length (some (n : Int)) = n := by
    rw [HT.sIx_nat]
    omega
  unfold cut
  rw [e1, e2]
  simp
theorem without_zeros_ok {qs : List Rat} (hlen : qs.length ≤ 1000) (hl : 1 ≤ l) (w : h.wf) (q : Q (.tup ((trim qs).map qv)) h) : Gd (run T l i_without_zeros [.tup (qs.map qv)] h) Q := by
  refine w_runp (body := b_without_zeros) rfl rfl (by omega) w ?_
  unfold b_without_zeros
  walk_at "gos"
  rw [enumL_map]
  refine comp_filt (fun p : Nat × Rat => .tup [.int p.1, qv p.2]) (fun p => Val.int ((p.1 : Int) + 1)) (fun p => !decide (p.2.num = 0)) (by rw [enumA_len]; omega) (fun a ha R hR => ?_) ?_
  · unfold qv
    walk_at "gos"
    refine g_bool (fun z => ?_) fun z => ?_
    · walk_at "gos"
      rw [z] at hR
      exact hR
    · rw [z] at hR
      exact hR
  · walk_at "gos"
    obtain ⟨ns, e, b, m⟩ := max_trim qs 0
    rw [show binV h .add (.lst [.int 0]) (.lst (((enumA 0 qs).filter fun p => !decide (p.2.num = 0)).map fun p => Val.int ((p.1 : Int) + 1))) = some (.nl ([.int 0] ++ ((enumA 0 qs).filter fun p => !decide (p.2.num = 0)).map fun p => Val.int ((p.1 : Int) + 1))) from by
      have hle : (((enumA 0 qs).filter fun p => !decide (p.2.num = 0)).map fun p => Val.int ((p.1 : Int) + 1)).length ≤ 1000 := by
        rw [List.length_map]
        have := List.length_filter_le (fun p : Nat × Rat => !decide (p.2.num = 0)) (enumA 0 qs)
        rw [enumA_len] at this
        omega
      show (if sz _ then _ else _) = _
      rw [if_pos (by unfold sz; rw [decide_eq_true_eq]; simp at hle ⊢; omega)]]
    walk_at "gos"
    have em : maxI (0 :: ns) = some ((trimN qs : Nat) : Int) := by
      by_cases h0 : 0 < trimN qs
      · rw [if_pos h0] at m
        cases ns with
        | nil => simp [maxI] at m
        | cons y ns =>
          show (maxI (y :: ns)).map (fun c => if c > (0 : Int) then c else 0) = _
          rw [m]
          show some (if ((0 + trimN qs : Nat) : Int) > 0 then _ else _) = _
          rw [if_pos (by omega)]
          congr 2
          omega
      · rw [if_neg h0] at m
        rw [m]
        show some (0 : Int) = _
        congr 1
        omega
    refine i_max (ns := 0 :: ns) (by
      show (intsOf _).map ((0 : Int) :: ·) = _
      rw [show ([] : List Val).append (((enumA 0 qs).filter fun p => !decide (p.2.num = 0)).map fun p => Val.int ((p.1 : Int) + 1)) = ((enumA 0 qs).filter fun p => !decide (p.2.num = 0)).map fun p => Val.int ((p.1 : Int) + 1) from rfl, e]
      rfl) em ?_
    walk_at "gos"
    rw [show slcV h (.tup (qs.map qv)) none (some ((trimN qs : Nat) : Int)) = some (.v (.tup ((trim qs).map qv))) from by
      show some (Rv.v (.tup (cut (qs.map qv) none (some ((trimN qs : Nat) : Int))))) = _
      rw [slc_take (by rw [List.length_map]; exact trimN_le qs)]
      unfold trim
      rw [List.map_take]]
    walk_at "gos"
    exact ⟨rfl, q⟩
end
end G
namespace G
section
variable {h : VH} {Q : Val → VH → Prop} {l d : Nat}
theorem all_true : ∀ {α : Type} (L : List α), blsOf (L.map fun _ => Val.bl true) = some (L.map fun _ => true)
  | _, L => bls_map (fun _ => true) L
theorem all_id {α : Type} (L : List α) : (L.map fun _ => true).all id = true := by
  rw [List.all_map, List.all_eq_true]
  intro x _
  rfl
theorem mk_Poly_ok {v : Val} {L : List (Val × Rat)} {n : Nat} (r : Rw v L n) (hn : n < 9000) (hl : 5 ≤ l) (w : h.wf) (q : Q (polyV (trim (L.map (·.2)))) (bump h)) : Gd (mkV T (run T l) false c_Poly [v] h) Q := by
  refine mk_ok rfl w ?_
  refine w_runn (body := b_Poly_init) rfl rfl (by omega) ?_
  unfold b_Poly_init
  have w' : (h.push (.ins c_Poly [])).wf := wf_push w
  have hlen := r.2.2
  walk_at "gos"
  rcases r.1 with rfl | rfl
  all_goals
    walk_at "gos"
    refine comp_mapa (l := L) (·.1) (fun _ : Val × Rat => Val.bl true) (by omega) (fun a ha R hR => ?_) ?_
    · walk_at "gos"
      obtain ⟨p, dd, ra⟩ := r.2.1 a ha
      exact is_ratio_ok (by omega) w' ra hR
    · walk_at "gos"
      refine i_all (all_true L) ?_
      rw [all_id]
      walk_at "gos"
      refine comp_mapa (l := L) (·.1) (fun a : Val × Rat => qv a.2) (by omega) (fun a ha R hR => ?_) ?_
      · walk_at "gos"
        exact told_ok (r.2.1 a ha) (by omega) w' hn hR
      · walk_at "gos"
        rw [show (L.map fun a => qv a.2) = (L.map (·.2)).map qv by rw [List.map_map]; rfl]
        refine without_zeros_ok (by rw [List.length_map]; omega) (by omega) w' ?_
        walk_at "gos"
        refine sf_ok push_get (by decide) rfl ?_
        walk_at "gos"
        rw [push_set']
        exact ⟨wf_push w, rfl, rfl, _, rfl, q⟩
theorem Poly_eq_ok {a b : List Rat} (hl : 1 ≤ l) (w : h.wf) (q : ∀ r : Bool, (r = true ↔ a = b) → Q (.bl r) h) : Gd (run T l i_Poly_eq [polyV a, polyV b] h) Q := by
  refine w_runp (body := b_Poly_eq) rfl rfl (by omega) w ?_
  unfold b_Poly_eq polyV
  walk_at "gos"
  refine c_eqP 3 (by decide) (pl_qvt (by decide)) (pl_qvt (by decide)) fun r hr => ?_
  walk_at "gos"
  refine ⟨rfl, q r ?_⟩
  rw [hr]
  constructor
  · intro z
    injection z with z
    exact map_qv_inj.mp z
  · rintro rfl; rfl
/-- so far along the powers, from the greatest -/
theorem at_step {U : Nat} {b t : Int} {x P a f : Rat} {j : Nat} (hx : x * b = t) (h : f * b = U * P * b ^ j) : (f * t + a * U * (b : Rat) ^ j) * b = U * (a + x * P) * b ^ (j + 1) := by
  rw [Rat.pow_succ]
  have : f * t * b = (f * b) * (x * b) := by rw [hx]; grind
  have e : (f * t + a * U * (b : Rat) ^ j) * b = f * t * b + a * U * (b : Rat) ^ j * b := by grind
  rw [e, this, h]
  grind
theorem evalP_drop {qs : List Rat} {x : Rat} : ∀ {k : Nat} {a : Rat}, qs[k]? = some a → evalP (qs.drop k) x = a + x * evalP (qs.drop (k + 1)) x := by
  intro k a ha
  obtain ⟨hk, e⟩ := List.getElem?_eq_some_iff.mp ha
  rw [List.drop_eq_getElem_cons hk, evalP, e]
end
end G
namespace G
theorem frac_num {U : Nat} {a : Rat} (hd : a.den ∣ U) : (((a.num * ((U / a.den : Nat) : Int) : Int)) : Rat) = a * U := by
  obtain ⟨k, rfl⟩ := hd
  rw [Nat.mul_div_cancel_left _ a.den_pos]
  have e : a = (a.num : Rat) / (a.den : Rat) := by
    have := Rat.num_divInt_den a
    rw [Rat.divInt_eq_div] at this
    exact_mod_cast this.symm
  have hne : (a.den : Rat) ≠ 0 := by
    have := a.den_pos
    exact_mod_cast (show (a.den : Nat) ≠ 0 by omega)
  have e2 : (((a.num * (k : Int) : Int)) : Rat) = (a.num : Rat) * (k : Rat) := by rw [Rat.intCast_mul]; rfl
  have e3 : (((a.den * k : Nat)) : Rat) = (a.den : Rat) * (k : Rat) := by exact_mod_cast rfl
  rw [e2, e3]
  have e4 : a * (a.den : Rat) = (a.num : Rat) := by
    have : (a.num : Rat) / (a.den : Rat) * (a.den : Rat) = (a.num : Rat) := by grind
    rw [← e] at this
    exact this
  rw [← Rat.mul_assoc, e4]
section
variable {h : VH} {Q : Val → VH → Prop} {l d : Nat}
theorem pow_lt {b : Int} {t : Nat} (hb : b.natAbs < 2 ^ t) : ∀ k : Nat, (b ^ k).natAbs < 2 ^ (t * k + 1)
  | 0 => by simp
  | k + 1 => by
    have := abs_mul_lt (pow_lt hb k) hb
    rw [Int.pow_succ]
    refine lt_mono this ?_
    rw [Nat.mul_succ]
    omega
theorem Poly_at_ok {v : Val} {x : Rat} {n t : Nat} {ns : List Rat} (hs : ∀ q ∈ ns, Sq n q) (hx : Ra v x t) (hsz : 3 * n + n * ns.length + (t + 2) * ns.length + 2 * t < 7000) (hl : 4 ≤ l) (w : h.wf)
    (q : Sq (2 * n + n * ns.length + 3 + (t + 2) * ns.length) (evalP ns x) → Q (qv (evalP ns x)) h) : Gd (run T l i_Poly_at [polyV ns, v] h) Q := by
  refine w_runp (body := b_Poly_at) rfl rfl (by omega) w ?_
  unfold b_Poly_at polyV
  have hxs := hx.sq
  have hU0 : 0 < lcmD ns := lcmD_pos
  have hU : lcmD ns < 2 ^ (1 + n * ns.length) := lcmD_lt (m := 1) (k := 1) hs (by decide)
  have hb0 := x.den_pos
  have hbq : ((x.den : Nat) : Rat) ≠ 0 := by exact_mod_cast (show (x.den : Nat) ≠ 0 by omega)
  have hxt : x * (((x.den : Nat) : Int) : Rat) = ((x.num : Int) : Rat) := by
    have e := Rat.num_divInt_den x
    rw [Rat.divInt_eq_div] at e
    have e3 : (((x.den : Nat) : Int) : Rat) = ((x.den : Nat) : Rat) := rfl
    rw [e3] at e ⊢
    have : (x.num : Rat) / (x.den : Rat) * (x.den : Rat) = (x.num : Rat) := by grind
    rw [e] at this
    exact this
  walk_at "gos"
  refine told_ok hx (by omega) w (by omega) ?_
  unfold qv
  walk_at "gos"
  refine bottom_of_ok hs (by omega) (by omega) w ?_
  walk_at "gos"
  rw [← List.map_reverse]
  have hbt : ((x.den : Nat) : Int).natAbs < 2 ^ t := hxs.2
  refine for_fix (fun k σ h' => h' = h ∧ k ≤ ns.length ∧ ∃ (f : Int) (o : Option Val), σ = [some (.obj c_Poly [(f_numbers, .tup (ns.map qv))]), some v, some (.int x.num), some (.int x.den), some (.int (lcmD ns : Nat)), some (.int f), some (.int ((x.den : Int) ^ k)), o] ∧ (f : Rat) * (x.den : Int) = (lcmD ns : Nat) * evalP (ns.drop (ns.length - k)) x * (((x.den : Nat) : Int) : Rat) ^ k ∧ f.natAbs < 2 ^ (2 * n + n * ns.length + 2 + (t + 2) * k))
    ⟨rfl, Nat.zero_le _, 0, none, rfl, ?_, ?_⟩ ?_ ?_
  · rw [Nat.sub_zero, List.drop_length]
    show (0 : Rat) * _ = _ * 0 * _
    grind
  · exact pl_pos
  · rintro k u σ h' hk ⟨rfl, hkl, f, o, rfl, hf, hfs⟩
    rw [List.getElem?_map] at hk
    obtain ⟨a, ha, rfl⟩ := Option.map_eq_some_iff.mp hk
    have hlt := (List.getElem?_eq_some_iff.mp ha).1
    rw [List.length_reverse] at hlt
    have ma : a ∈ ns := by
      have := List.mem_of_getElem? ha
      rwa [List.mem_reverse] at this
    rw [List.getElem?_reverse hlt] at ha
    have hidx : ns.length - 1 - k = ns.length - (k + 1) := by omega
    rw [hidx] at ha
    have hsa := hs a ma
    have hdv : a.den ∣ lcmD ns := lcmD_dvd ma
    have hmk : (t + 2) * k ≤ (t + 2) * ns.length := Nat.mul_le_mul_left _ (by omega)
    have htk : t * k + 2 * k = (t + 2) * k := by rw [Nat.add_mul]
    have hpk := pow_lt hbt k
    walk_at "gos"
    refine b_mul hfs hxs.1 (by omega) ?_
    walk_at "gos"
    refine b_fdiv (b := n) hsa.2 (by omega) (den_ne a) ?_
    have efd : ((lcmD ns : Nat) : Int).fdiv (a.den : Int) = ((lcmD ns / a.den : Nat) : Int) := by
      rw [Int.fdiv_eq_ediv_of_nonneg _ (by omega)]
      rfl
    rw [efd]
    walk_at "gos"
    have h1 : ((lcmD ns / a.den : Nat) : Int).natAbs < 2 ^ (1 + n * ns.length) := Nat.lt_of_le_of_lt (Nat.div_le_self _ _) hU
    refine b_mul hsa.1 h1 (by omega) ?_
    walk_at "gos"
    have h2 := abs_mul_lt hsa.1 h1
    refine b_mul h2 hpk (by omega) ?_
    walk_at "gos"
    refine b_mul hpk hbt (by omega) ?_
    walk_at "gos"
    refine ⟨rfl, by omega, f * x.num + a.num * ((lcmD ns / a.den : Nat) : Int) * (x.den : Int) ^ k, some (qv a), ?_, ?_, ?_⟩
    · rw [Int.pow_succ]
      rfl
    · have hd := evalP_drop (qs := ns) (x := x) ha
      rw [hd]
      have e1 : ns.length - (k + 1) + 1 = ns.length - k := by omega
      rw [e1]
      have st := at_step (U := lcmD ns) (b := (x.den : Int)) (t := x.num) (x := x) (P := evalP (ns.drop (ns.length - k)) x) (a := a) (f := (f : Rat)) (j := k) hxt hf
      rw [← st]
      have e2 := frac_num hdv
      have e3 : ((f * x.num + a.num * ((lcmD ns / a.den : Nat) : Int) * (x.den : Int) ^ k : Int) : Rat) = (f : Rat) * (x.num : Rat) + ((a.num * ((lcmD ns / a.den : Nat) : Int) : Int) : Rat) * (((x.den : Nat) : Int) : Rat) ^ k := by
        rw [Rat.intCast_add, Rat.intCast_mul, Rat.intCast_mul (a.num * _), Rat.intCast_pow]
      rw [e3, e2]
    · have a1 := abs_mul_lt hfs hxs.1
      have a2 := abs_mul_lt h2 hpk
      have e4 : (t + 2) * (k + 1) = (t + 2) * k + (t + 2) := Nat.mul_succ _ _
      refine lt_mono (abs_add_lt (n := 2 * n + n * ns.length + 2 + (t + 2) * k + t) a1 (lt_mono a2 (by omega))) (by omega)
  · rintro σ h' ⟨rfl, hkl, f, o, rfl, hf, hfs⟩
    rw [List.length_map, List.length_reverse] at hf hfs hkl
    rw [Nat.sub_self, List.drop_zero] at hf
    walk_at "gos"
    have fin : ∀ (e : Int), 0 < e → (f : Rat) = (lcmD ns : Nat) * evalP ns x * e → e.natAbs < 2 ^ ((t + 2) * ns.length + 1) → Rat.divInt f ((lcmD ns : Nat) * e) = evalP ns x ∧ Sq (2 * n + n * ns.length + 3 + (t + 2) * ns.length) (evalP ns x) ∧ ((lcmD ns : Nat) * e : Int) ≠ 0 ∧ ((lcmD ns : Nat) * e : Int).natAbs < 2 ^ (1 + n * ns.length + ((t + 2) * ns.length + 1)) := by
      intro e he hfe hes
      have hne : ((lcmD ns : Nat) * e : Int) ≠ 0 := Int.mul_ne_zero (by omega) (by omega)
      have hsz2 := abs_mul_lt (a := ((lcmD ns : Nat) : Int)) (b := e) hU hes
      have key : Rat.divInt f ((lcmD ns : Nat) * e) = evalP ns x := by
        rw [Rat.divInt_eq_div, hfe, Rat.intCast_mul]
        have u0 : (((lcmD ns : Nat) : Int) : Rat) ≠ 0 := by exact_mod_cast (show (lcmD ns : Nat) ≠ 0 by omega)
        have u1 : (e : Rat) ≠ 0 := by exact_mod_cast (show e ≠ 0 by omega)
        have u2 : ((lcmD ns : Nat) : Rat) = (((lcmD ns : Nat) : Int) : Rat) := rfl
        rw [u2]
        grind
      refine ⟨key, ?_, hne, hsz2⟩
      rw [← key]
      refine Sq.div hne (lt_mono hfs ?_) (lt_mono hsz2 ?_)
      · omega
      · omega
    by_cases hm : 0 < ns.length
    · rw [List.length_map, List.length_map, List.length_reverse]
      refine g_pos (by omega) ?_
      walk_at "gos"
      refine b_fdiv (b := t) hbt (by omega) (den_ne x) ?_
      obtain ⟨m, hm2⟩ : ∃ m, ns.length = m + 1 := ⟨ns.length - 1, by omega⟩
      have ed : ((x.den : Int) ^ ns.length).fdiv (x.den : Int) = (x.den : Int) ^ m := by
        rw [hm2, Int.pow_succ, Int.fdiv_eq_ediv_of_nonneg _ (by omega)]
        exact Int.mul_ediv_cancel _ (den_ne x)
      rw [ed]
      have hfe : (f : Rat) = (lcmD ns : Nat) * evalP ns x * (((x.den : Int) ^ m : Int) : Rat) := by
        rw [hm2, Rat.pow_succ] at hf
        have e3 : (((x.den : Nat) : Int) : Rat) = ((x.den : Nat) : Rat) := rfl
        rw [Rat.intCast_pow]
        rw [e3] at hf ⊢
        grind
      have hps : ((x.den : Int) ^ m).natAbs < 2 ^ ((t + 2) * ns.length + 1) := lt_mono (pow_lt hbt m) (by
        rw [hm2, Nat.mul_succ, Nat.add_mul]
        omega)
      obtain ⟨f1, f2, f3, f4⟩ := fin _ (Int.pow_pos (by omega)) hfe hps
      walk_at "gos"
      refine b_mul (a := 1 + n * ns.length) (b := (t + 2) * ns.length + 1) hU hps (by omega) ?_
      walk_at "gos"
      refine lowest_ok (by omega) w f3 f4 (by omega) ?_
      walk_at "gos"
      rw [f1]
      exact ⟨rfl, q f2⟩
    · have hnil : ns = [] := List.eq_nil_of_length_eq_zero (by omega)
      rw [List.length_map]
      refine g_neg (by omega) ?_
      have hfe : (f : Rat) = (lcmD ns : Nat) * evalP ns x * ((1 : Int) : Rat) := by
        rw [hnil] at hf ⊢
        show (f : Rat) = _ * 0 * _
        have e3 : (((x.den : Nat) : Int) : Rat) = ((x.den : Nat) : Rat) := rfl
        rw [e3] at hf
        have hf : (f : Rat) * (x.den : Rat) = _ * 0 * _ := hf
        grind
      obtain ⟨f1, f2, f3, f4⟩ := fin 1 (by decide) hfe (Nat.one_lt_two_pow (by omega))
      walk_at "gos"
      refine b_mul (a := 1 + n * ns.length) (b := 1) hU (by decide) (by omega) ?_
      walk_at "gos"
      refine lowest_ok (by omega) w f3 f4 (by omega) ?_
      walk_at "gos"
      rw [f1]
      exact ⟨rfl, q f2⟩
end
end G
namespace G
/-- a Broken by its knots, numbers of pieces, numbers at knots -/
def brV (ks : List Rat) (ps : List (List Rat)) (at_ : List Rat) : Val := .obj c_Broken [(f_knots, .tup (ks.map qv)), (f_polys, .tup (ps.map polyV)), (f_at, .tup (at_.map qv))]
theorem zip_tail_asc : ∀ {ks : List Rat}, ks.Pairwise (· < ·) → ∀ p ∈ ks.zip ks.tail, p.1 < p.2
  | [], _, p, hp => by simp at hp
  | [a], _, p, hp => by simp at hp
  | a :: b :: ks, h, p, hp => by
    rw [List.pairwise_cons] at h
    have hp : p ∈ (a, b) :: (b :: ks).zip (b :: ks).tail := hp
    rcases List.mem_cons.mp hp with rfl | z
    · exact h.1 b List.mem_cons_self
    · exact zip_tail_asc h.2 p z
theorem cut_one {xs : List Val} : cut xs (some 1) none = xs.tail := by
  cases xs with
  | nil => rfl
  | cons x xs => exact cut_tail
section
variable {h : VH} {Q : Val → VH → Prop} {l d : Nat}
theorem is_row_broken_ok {v : Val} {L : List Val} (r : v = .lst L ∨ v = .tup L) (hl : 1 ≤ l) (w : h.wf) (q : Q (.bl true) h) : Gd (run T l i_is_row_broken [v] h) Q := by
  refine w_runp (body := b_is_row_broken) rfl rfl (by omega) w ?_
  unfold b_is_row_broken
  rcases r with rfl | rfl
  all_goals
    walk_at "gos"
    exact ⟨rfl, q⟩
theorem are_ratios_ok {v : Val} {L : List (Val × Rat)} {n : Nat} (r : Rw v L n) (hl : 3 ≤ l) (w : h.wf) (q : Q (.bl true) h) : Gd (run T l i_are_ratios [v, .int L.length] h) Q := by
  refine w_runp (body := b_are_ratios) rfl rfl (by omega) w ?_
  unfold b_are_ratios
  have hlen := r.2.2
  walk_at "gos"
  refine is_row_broken_ok r.1 (by omega) w ?_
  walk_at "gos"
  rcases r.1 with rfl | rfl
  all_goals
    walk_at "gos"
    rw [List.length_map]
    refine g_pos rfl ?_
    walk_at "gos"
    refine comp_mapa (l := L) (·.1) (fun _ : Val × Rat => Val.bl true) (by omega) (fun a ha R hR => ?_) ?_
    · walk_at "gos"
      obtain ⟨p, dd, ra⟩ := r.2.1 a ha
      exact is_ratio_ok (by omega) w ra hR
    · walk_at "gos"
      refine i_all (all_true L) ?_
      rw [all_id]
      walk_at "gos"
      exact ⟨rfl, q⟩
theorem are_knots_ok {v : Val} {L : List (Val × Rat)} {n : Nat} (r : Rw v L n) (h2 : 2 ≤ L.length) (asc : (L.map (·.2)).Pairwise (· < ·)) (hn : n < 1900) (hl : 5 ≤ l) (w : h.wf) (q : Q (.bl true) h) : Gd (run T l i_are_knots [v] h) Q := by
  refine w_runp (body := b_are_knots) rfl rfl (by omega) w ?_
  unfold b_are_knots
  have hlen := r.2.2
  walk_at "gos"
  refine is_row_broken_ok r.1 (by omega) w ?_
  walk_at "gos"
  have key : ∀ p ∈ L.zip L.tail, p.1.2 < p.2.2 ∧ p.1 ∈ L ∧ p.2 ∈ L := fun p hp => by
    have m1 := List.of_mem_zip hp
    refine ⟨?_, m1.1, List.mem_of_mem_tail m1.2⟩
    have := zip_tail_asc asc (p.1.2, p.2.2) (by
      rw [← List.map_tail, List.zip_map]
      exact List.mem_map.mpr ⟨p, hp, rfl⟩)
    exact this
  rcases r.1 with hv | hv
  all_goals
    rw [hv]
    walk_at "gos"
    rw [List.length_map]
    refine g_neg (by omega) ?_
    walk_at "gos"
    rw [List.length_map]
    rw [← hv]
    refine are_ratios_ok r (by omega) w ?_
    rw [hv]
    walk_at "gos"
    first
      | rw [show slcV h (.lst (L.map (·.1))) (some 1) none = some (.nl ((L.map (·.1)).tail)) from congrArg (fun z => some (Rv.nl z)) cut_one]
      | rw [show slcV h (.tup (L.map (·.1))) (some 1) none = some (.v (.tup ((L.map (·.1)).tail))) from congrArg (fun z => some (Rv.v (.tup z))) cut_one]
    walk_at "gos"
    refine ⟨_, _, rfl, rfl, ?_⟩
    rw [← List.map_tail, zip2_map]
    refine comp_mapa (l := L.zip L.tail) (fun p => .tup [p.1.1, p.2.1]) (fun _ => Val.bl true) (by rw [List.length_zip]; omega) (fun a ha R hR => ?_) ?_
    · obtain ⟨k1, k2, k3⟩ := key a ha
      walk_at "gos"
      refine lower_ok (r.2.1 _ k2) (r.2.1 _ k3) (by omega) w (by omega) ?_
      rw [decide_eq_true k1]
      exact hR
    · walk_at "gos"
      refine i_all (all_true _) ?_
      rw [all_id]
      walk_at "gos"
      exact ⟨rfl, q⟩
theorem need_poly_row_ok {v : Val} {ps : List (List Rat)} (r : v = .lst (ps.map polyV) ∨ v = .tup (ps.map polyV)) (hlen : ps.length ≤ 1000) (hl : 2 ≤ l) (w : h.wf) (q : Q .non h) : Gd (run T l i_need_poly_row [v, .int ps.length] h) Q := by
  refine w_runp (body := b_need_poly_row) rfl rfl (by omega) w ?_
  unfold b_need_poly_row
  walk_at "gos"
  refine is_row_broken_ok r (by omega) w ?_
  walk_at "gos"
  rcases r with rfl | rfl
  all_goals
    walk_at "gos"
    rw [List.length_map]
    rw [decide_eq_true rfl]
    walk_at "gos"
    refine comp_mapa (l := ps) polyV (fun _ => Val.bl true) (by omega) (fun a ha R hR => ?_) ?_
    · unfold polyV
      walk_at "gos"
      exact hR
    · walk_at "gos"
      refine i_all (all_true _) ?_
      rw [all_id]
      walk_at "gos"
      exact ⟨rfl, q⟩
theorem mk_Broken_ok {vk vp va : Val} {K A : List (Val × Rat)} {ps : List (List Rat)} {n m : Nat} (rk : Rw vk K n) (ra : Rw va A m) (rp : vp = .lst (ps.map polyV) ∨ vp = .tup (ps.map polyV)) (h2 : ps.length + 1 = K.length) (h3 : A.length = K.length) (h4 : 0 < ps.length) (asc : (K.map (·.2)).Pairwise (· < ·)) (hn : n < 1900) (hm : m < 1900)
    (hl : 6 ≤ l) (w : h.wf) (q : Q (brV (K.map (·.2)) ps (A.map (·.2))) (bump h)) : Gd (mkV T (run T l) false c_Broken [vk, vp, va] h) Q := by
  refine mk_ok rfl w ?_
  refine w_runn (body := b_Broken_init) rfl rfl (by omega) ?_
  unfold b_Broken_init
  have w' : ∀ fs, (h.push (.ins c_Broken fs)).wf := fun fs => wf_push w
  have hK := rk.2.2
  walk_at "gos"
  refine are_knots_ok rk (by omega) asc hn (by omega) (w' _) ?_
  walk_at "gos"
  have lenV : ∀ (v : Val) (L : List (Val × Rat)) (k : Nat), Rw v L k → ∀ (h' : VH) (R : Val → VH → Prop), R (.int L.length) h' → outG false (biV h' .len [v]) h' R := fun v L k r h' R hR => by
    rcases r.1 with rfl | rfl
    · refine i_len_l ?_
      rw [List.length_map]
      exact hR
    · refine i_len_t ?_
      rw [List.length_map]
      exact hR
  refine lenV _ _ _ rk _ _ ?_
  walk_at "gos"
  have e1 : (K.length : Int) - 1 = (ps.length : Int) := by omega
  rw [e1]
  refine need_poly_row_ok rp (by omega) (by omega) (w' _) ?_
  walk_at "gos"
  refine lenV _ _ _ rk _ _ ?_
  walk_at "gos"
  rw [← h3]
  refine are_ratios_ok ra (by omega) (w' _) ?_
  walk_at "gos"
  refine x_some rk.fseq ?_
  refine comp_mapa (l := K) (·.1) (fun a : Val × Rat => qv a.2) (by omega) (fun a ha R hR => ?_) ?_
  · walk_at "gos"
    exact told_ok (rk.2.1 a ha) (by omega) (w' _) (by omega) hR
  · walk_at "gos"
    refine sf_ok push_get (by first | exact (by decide : (0:Nat) < 900) | exact (by decide : (1:Nat) < 900) | exact (by decide : (2:Nat) < 900)) rfl ?_
    rw [push_set']
    walk_at "gos"
    have tail : ∀ (h' : VH) (R : Val → VH → Prop), R (.tup (ps.map polyV)) h' → outG false (biV h' .tuple [vp]) h' R := fun h' R hR => by
      rcases rp with rfl | rfl
      · exact i_tuple_l hR
      · exact i_tuple_t hR
    refine tail _ _ ?_
    walk_at "gos"
    refine sf_ok push_get (by first | exact (by decide : (0:Nat) < 900) | exact (by decide : (1:Nat) < 900) | exact (by decide : (2:Nat) < 900)) rfl ?_
    rw [push_set']
    walk_at "gos"
    refine x_some ra.fseq ?_
    refine comp_mapa (l := A) (·.1) (fun a : Val × Rat => qv a.2) (by omega) (fun a ha R hR => ?_) ?_
    · walk_at "gos"
      exact told_ok (ra.2.1 a ha) (by omega) (w' _) (by omega) hR
    · walk_at "gos"
      refine sf_ok push_get (by first | exact (by decide : (0:Nat) < 900) | exact (by decide : (1:Nat) < 900) | exact (by decide : (2:Nat) < 900)) rfl ?_
      rw [push_set']
      walk_at "gos"
      refine ⟨wf_push w, rfl, rfl, _, rfl, ?_⟩
      unfold brV at q
      rw [List.map_map, List.map_map] at q
      exact q
end
end G
namespace G
def brIx (ks : List Rat) (x : Rat) : Nat := (ks.filter fun k => !decide (x < k)).length - 1
/-- the last knot that is not above -/
theorem brIx_cons {a : Rat} {ks : List Rat} {x : Rat} (h0 : ¬ x < a) : ((a :: ks).filter fun k => !decide (x < k)).length = (ks.filter fun k => !decide (x < k)).length + 1 := by
  rw [List.filter_cons, if_pos (by simpa using h0)]
  rfl
theorem filt_above : ∀ {ks : List Rat} {x : Rat}, (∀ k ∈ ks, x < k) → (ks.filter fun k => !decide (x < k)) = []
  | ks, x, h => by
    rw [List.filter_eq_nil_iff]
    intro k hk
    simpa using h k hk
theorem brIx_of {ks : List Rat} {x : Rat} (asc : ks.Pairwise (· < ·)) : ∀ {i : Nat} {k : Rat}, ks[i]? = some k → ¬ x < k → (∀ k', ks[i + 1]? = some k' → x < k') → brIx ks x = i := by
  induction ks with
  | nil => intro i k h; simp at h
  | cons a ks ih =>
    intro i k h1 h2 h3
    rw [List.pairwise_cons] at asc
    cases i with
    | zero =>
      simp at h1
      subst h1
      unfold brIx
      rw [brIx_cons h2]
      have : ∀ k ∈ ks, x < k := by
        cases ks with
        | nil => intro k hk; cases hk
        | cons b ks =>
          have hb := h3 b rfl
          intro k hk
          rcases List.mem_cons.mp hk with rfl | z
          · exact hb
          · have := (List.pairwise_cons.mp asc.2).1 k z
            grind
      rw [filt_above this]
      rfl
    | succ i =>
      have e := ih asc.2 (i := i) (k := k) (by simpa using h1) h2 (fun k' hk' => h3 k' (by simpa using hk'))
      have ha : ¬ x < a := by
        have := asc.1 k (List.mem_of_getElem? (by simpa using h1))
        grind
      have hne : 0 < (ks.filter fun k => !decide (x < k)).length := by
        apply List.length_pos_of_mem (a := k)
        rw [List.mem_filter]
        exact ⟨List.mem_of_getElem? (by simpa using h1), by simpa using h2⟩
      unfold brIx at e ⊢
      rw [brIx_cons ha]
      omega
theorem brIx_spec {ks : List Rat} {x : Rat} (asc : ks.Pairwise (· < ·)) {a : Rat} (h0 : ks[0]? = some a) (ha : ¬ x < a) : ∃ k, ks[brIx ks x]? = some k ∧ ¬ x < k ∧ ∀ k', ks[brIx ks x + 1]? = some k' → x < k' := by
  have key : ∃ (i : Nat) (k : Rat), ks[i]? = some k ∧ ¬ x < k ∧ ∀ k', ks[i + 1]? = some k' → x < k' := by
    clear asc
    induction ks generalizing a with
    | nil => simp at h0
    | cons b ks ih =>
      cases ks with
      | nil => exact ⟨0, b, rfl, by simp at h0; rw [h0]; exact ha, fun k' h => by simp at h⟩
      | cons c ks =>
        by_cases hc : x < c
        · exact ⟨0, b, rfl, by simp at h0; rw [h0]; exact ha, fun k' h => by simp at h; rw [← h]; exact hc⟩
        · obtain ⟨i, k, a1, a2, a3⟩ := ih (a := c) rfl hc
          exact ⟨i + 1, k, by simpa using a1, a2, fun k' hk => a3 k' (by simpa using hk)⟩
  obtain ⟨i, k, a1, a2, a3⟩ := key
  rw [brIx_of asc a1 a2 a3]
  exact ⟨k, a1, a2, a3⟩
theorem sub_last {h : VH} {xs : List Val} {x : Val} (e : xs[xs.length - 1]? = some x) : subV h (.tup xs) (.int (-1)) = some x ∧ subV h (.lst xs) (.int (-1)) = some x := by
  have hk := (List.getElem?_eq_some_iff.mp e).1
  have e2 : ixN xs.length (-1) = some (xs.length - 1) := by
    unfold ixN L2.ixN
    rw [if_neg (by omega), if_pos (by omega)]
    congr 1
    omega
  constructor
  · show (ixN xs.length (-1)).bind (fun j => xs[j]?) = _
    rw [e2]
    exact e
  · show (ixN xs.length (-1)).bind (fun j => xs[j]?) = _
    rw [e2]
    exact e
/-- a broken function as it must be -/
structure Bok (ks : List Rat) (ps : List (List Rat)) (at_ : List Rat) (n mm : Nat) : Prop where
  asc : ks.Pairwise (· < ·)
  lp : ps.length + 1 = ks.length
  la : at_.length = ks.length
  p0 : 0 < ps.length
  sk : ∀ k ∈ ks, Sq n k
  sa : ∀ k ∈ at_, Sq n k
  spp : ∀ p ∈ ps, p.length ≤ mm ∧ ∀ q ∈ p, Sq n q
  ln : ks.length ≤ 1000
section
variable {h : VH} {Q : Val → VH → Prop} {l d : Nat} {ks : List Rat} {ps : List (List Rat)} {at_ : List Rat} {n mm : Nat}
/-- on the stretch -/
def OnK (ks : List Rat) (x : Rat) : Prop := (∀ a, ks[0]? = some a → ¬ x < a) ∧ (∀ b, ks[ks.length - 1]? = some b → ¬ b < x)
theorem spot_ok {v : Val} {x : Rat} {t : Nat} (B : Bok ks ps at_ n mm) (hx : Ra v x t) (on : OnK ks x) (hn : n + t < 4000) (hl : 5 ≤ l) (w : h.wf) (q : ∀ k, ks[brIx ks x]? = some k → ¬ x < k → (∀ k', ks[brIx ks x + 1]? = some k' → x < k') → Q (.tup [.int (brIx ks x : Nat), .bl (!decide (k < x))]) h) : Gd (run T l i_Broken_spot [brV ks ps at_, v] h) Q := by
  refine w_runp (body := b_Broken_spot) rfl rfl (by omega) w ?_
  unfold b_Broken_spot brV
  have hlp := B.lp
  have hp0 := B.p0
  obtain ⟨a, ha⟩ : ∃ a, ks[0]? = some a := ⟨ks[0]'(by omega), List.getElem?_eq_getElem _⟩
  obtain ⟨b, hb⟩ : ∃ b, ks[ks.length - 1]? = some b := ⟨ks[ks.length - 1]'(by omega), List.getElem?_eq_getElem _⟩
  have na := on.1 a ha
  have nb := on.2 b hb
  obtain ⟨p, dd, rx⟩ := id hx
  obtain ⟨k, s1, s2, s3⟩ := brIx_spec B.asc ha na
  walk_at "gos"
  refine is_ratio_ok (by omega) w rx ?_
  walk_at "gos"
  refine x_some (sub_tup (k := 0) (by rw [List.getElem?_map, ha]; rfl)) ?_
  walk_at "gos"
  refine lower_ok hx (ra_qv (B.sk a (List.mem_of_getElem? ha))) (by omega) w (by omega) ?_
  refine g_neg na ?_
  walk_at "gos"
  refine x_some (sub_last (x := qv b) (by rw [List.length_map, List.getElem?_map, hb]; rfl)).1 ?_
  walk_at "gos"
  refine lower_ok (ra_qv (B.sk b (List.mem_of_getElem? hb))) hx (by omega) w (by omega) ?_
  refine g_neg nb ?_
  have hln := B.ln
  walk_at "gos"
  refine comp_filt (l := ks) qv qv (fun k => !decide (x < k)) (by omega) (fun c hc R hR => ?_) ?_
  · walk_at "gos"
    refine lower_ok hx (ra_qv (B.sk c hc)) (by omega) w (by omega) ?_
    walk_at "gos"
    refine g_bool (fun z => ?_) fun z => ?_
    · rw [z] at hR
      walk_at "gos"
      exact hR
    · rw [z] at hR
      exact hR
  · walk_at "gos"
    have hpos : 0 < (ks.filter fun k => !decide (x < k)).length := by
      apply List.length_pos_of_mem (a := a)
      rw [List.mem_filter]
      exact ⟨List.mem_of_getElem? ha, by simpa using na⟩
    have ei : (((ks.filter fun k => !decide (x < k)).map qv).length : Int) - 1 = ((brIx ks x : Nat) : Int) := by
      rw [List.length_map]
      unfold brIx
      omega
    rw [ei]
    refine x_some (sub_tup (k := brIx ks x) (by rw [List.getElem?_map, s1]; rfl)) ?_
    walk_at "gos"
    refine lower_ok (ra_qv (B.sk k (List.mem_of_getElem? s1))) hx (by omega) w (by omega) ?_
    walk_at "gos"
    exact ⟨rfl, q k s1 s2 s3⟩
/-- the value at a place -/
def brVal (ks : List Rat) (ps : List (List Rat)) (at_ : List Rat) (x : Rat) : Rat := if x ∈ ks then at_.getD (brIx ks x) 0 else evalP (ps.getD (brIx ks x) []) x
theorem at_size {t : Nat} {p : List Rat} (hp : p.length ≤ mm) (hsz : 3 * n + n * mm + (t + 2) * mm + 2 * t < 7000) : 3 * n + n * p.length + (t + 2) * p.length + 2 * t < 7000 ∧ 2 * n + n * p.length + 3 + (t + 2) * p.length ≤ 2 * n + n * mm + 3 + (t + 2) * mm := by
  have h1 := Nat.mul_le_mul_left n hp
  have h2 := Nat.mul_le_mul_left (t + 2) hp
  omega
theorem mem_knot {x k : Rat} {i : Nat} (asc : ks.Pairwise (· < ·)) (h1 : ks[i]? = some k) (h2 : ¬ x < k) (h3 : ∀ k', ks[i + 1]? = some k' → x < k') : (x ∈ ks ↔ ¬ k < x) := by
  constructor
  · intro hx hk
    obtain ⟨j, hj⟩ := List.getElem?_of_mem hx
    have e := brIx_of (x := x) asc hj Rat.lt_irrefl (fun k' hk' => by
      obtain ⟨p, e1⟩ := List.getElem?_eq_some_iff.mp hj
      obtain ⟨q, e2⟩ := List.getElem?_eq_some_iff.mp hk'
      have := List.pairwise_iff_getElem.mp asc j (j + 1) p q (by omega)
      rw [e1, e2] at this
      exact this)
    have e2 := brIx_of asc h1 h2 h3
    rw [e] at e2
    subst e2
    rw [hj] at h1
    cases h1
    grind
  · intro hk
    have : x = k := by grind
    rw [this]
    exact List.mem_of_getElem? h1
theorem value_ok {v : Val} {x : Rat} {t : Nat} (B : Bok ks ps at_ n mm) (hx : Ra v x t) (on : OnK ks x) (hsz : 3 * n + n * mm + (t + 2) * mm + 2 * t < 7000) (hl : 6 ≤ l) (w : h.wf) (q : Sq (2 * n + n * mm + 3 + (t + 2) * mm) (brVal ks ps at_ x) → Q (qv (brVal ks ps at_ x)) h) : Gd (run T l i_Broken_value [brV ks ps at_, v] h) Q := by
  refine w_runp (body := b_Broken_value) rfl rfl (by omega) w ?_
  unfold b_Broken_value
  have hlp := B.lp
  have hla := B.la
  walk_at "gos"
  refine spot_ok B hx on (by omega) (by omega) w fun k s1 s2 s3 => ?_
  have hk := (List.getElem?_eq_some_iff.mp s1).1
  have mk := mem_knot B.asc s1 s2 s3
  walk_at "gos"
  unfold brV
  refine g_bool (fun z => ?_) fun z => ?_
  · have hnk : ¬ k < x := by simpa using z
    have ev : brVal ks ps at_ x = at_.getD (brIx ks x) 0 := if_pos (mk.mpr hnk)
    have ha : at_[brIx ks x]? = some (at_.getD (brIx ks x) 0) := by
      rw [List.getD_eq_getElem?_getD, List.getElem?_eq_getElem (by omega)]
      rfl
    walk_at "gos"
    refine x_some (sub_tup (by rw [List.getElem?_map, ha]; rfl)) ?_
    walk_at "gos"
    rw [ev] at q
    exact ⟨rfl, q ((B.sa _ (List.mem_of_getElem? ha)).mono (by omega))⟩
  · have hnk : k < x := by simpa using z
    have ev : brVal ks ps at_ x = evalP (ps.getD (brIx ks x) []) x := if_neg fun y => mk.mp y hnk
    have hlt : brIx ks x < ps.length := by
      by_cases c : brIx ks x = ks.length - 1
      · rw [c] at s1
        exact absurd hnk (on.2 k s1)
      · omega
    have hp : ps[brIx ks x]? = some (ps.getD (brIx ks x) []) := by
      rw [List.getD_eq_getElem?_getD, List.getElem?_eq_getElem hlt]
      rfl
    obtain ⟨sp1, sp2⟩ := B.spp _ (List.mem_of_getElem? hp)
    obtain ⟨z1, z2⟩ := at_size sp1 hsz
    walk_at "gos"
    refine x_some (sub_tup (by rw [List.getElem?_map, hp]; rfl)) ?_
    walk_at "gos"
    refine Poly_at_ok sp2 hx z1 (by omega) w fun sz => ?_
    walk_at "gos"
    rw [ev] at q
    exact ⟨rfl, q (sz.mono z2)⟩
end
end G
namespace G
section
variable {T0 : Tb} {C0 : Nat → List Val → Mo Val} {h : VH} {Q : Val → VH → Prop}
theorem c_eqQ {a b : Rat} (q : Q (.bl (decide (a = b))) h) : GCm T0 C0 .eq (qv a) (qv b) h Q := by
  refine c_eqP 2 (by decide) (pl_qv (by decide)) (pl_qv (by decide)) fun r hr => ?_
  have : r = decide (a = b) := by
    cases r with
    | true => exact (decide_eq_true (qv_inj.mp (hr.mp rfl))).symm
    | false => exact (decide_eq_false fun z => by have := hr.mpr (qv_inj.mpr z); cases this).symm
  rw [this]
  exact q
theorem c_neQ {a b : Rat} (q : Q (.bl (!decide (a = b))) h) : GCm T0 C0 .ne (qv a) (qv b) h Q := by
  refine c_neP 2 (by decide) (pl_qv (by decide)) (pl_qv (by decide)) fun r hr => ?_
  have : r = !decide (a = b) := by
    cases r with
    | true =>
      have : a ≠ b := fun z => hr.mp rfl (qv_inj.mpr z)
      rw [decide_eq_false this]
      rfl
    | false =>
      by_cases z : a = b
      · rw [decide_eq_true z]
        rfl
      · have := hr.mpr fun y => z (qv_inj.mp y)
        cases this
  rw [this]
  exact q
end
/-- a ratio or none -/
def oV : Option Rat → Val
  | none => .non
  | some q => qv q
def limL (ps : List (List Rat)) (k : Rat) (i : Nat) : Option Rat := if i = 0 then none else some (evalP (ps.getD (i - 1) []) k)
def limR (ps : List (List Rat)) (k : Rat) (i : Nat) : Option Rat := if i = ps.length then none else some (evalP (ps.getD i []) k)
def jumpsAt (ps : List (List Rat)) (a k : Rat) (i : Nat) : List (Rat × Rat) := ((limL ps k i).toList ++ (limR ps k i).toList).map fun x => (a, x)
def pairV (p : Rat × Rat) : Val := .tup [qv p.1, qv p.2]
def jumpsTo (ks : List Rat) (ps : List (List Rat)) (at_ : List Rat) (m : Nat) : List (Rat × Rat) := (List.range m).flatMap fun i => jumpsAt ps (at_.getD i 0) (ks.getD i 0) i
theorem jumpsTo_succ {ks : List Rat} {ps : List (List Rat)} {at_ : List Rat} {m : Nat} : jumpsTo ks ps at_ (m + 1) = jumpsTo ks ps at_ m ++ jumpsAt ps (at_.getD m 0) (ks.getD m 0) m := by
  unfold jumpsTo
  rw [List.range_succ, List.flatMap_append]
  simp
theorem jumpsAt_len {ps : List (List Rat)} {a k : Rat} {i : Nat} : (jumpsAt ps a k i).length ≤ 2 := by
  unfold jumpsAt
  rw [List.length_map, List.length_append]
  cases limL ps k i <;> cases limR ps k i <;> simp
theorem jumpsTo_len {ks : List Rat} {ps : List (List Rat)} {at_ : List Rat} : ∀ m, (jumpsTo ks ps at_ m).length ≤ 2 * m
  | 0 => by simp [jumpsTo]
  | m + 1 => by
    rw [jumpsTo_succ, List.length_append]
    have := jumpsTo_len (ks := ks) (ps := ps) (at_ := at_) m
    have := jumpsAt_len (ps := ps) (a := at_.getD m 0) (k := ks.getD m 0) (i := m)
    omega
theorem on_knot {ks : List Rat} {i : Nat} {k : Rat} (asc : ks.Pairwise (· < ·)) (h1 : ks[i]? = some k) : OnK ks k ∧ brIx ks k = i := by
  obtain ⟨hi, e⟩ := List.getElem?_eq_some_iff.mp h1
  have lt : ∀ a b (ha : a < ks.length) (hb : b < ks.length), a < b → ks[a] < ks[b] := fun a b ha hb hab => List.pairwise_iff_getElem.mp asc a b ha hb hab
  refine ⟨⟨fun a ha z => ?_, fun b hb z => ?_⟩, brIx_of asc h1 Rat.lt_irrefl fun k' hk' => ?_⟩
  · obtain ⟨h0, e0⟩ := List.getElem?_eq_some_iff.mp ha
    by_cases c : i = 0
    · subst c
      rw [e] at e0
      subst e0
      exact Rat.lt_irrefl z
    · have := lt 0 i h0 hi (by omega)
      rw [e0, e] at this
      grind
  · obtain ⟨h0, e0⟩ := List.getElem?_eq_some_iff.mp hb
    by_cases c : i = ks.length - 1
    · subst c
      rw [e] at e0
      subst e0
      exact Rat.lt_irrefl z
    · have := lt i (ks.length - 1) hi h0 (by omega)
      rw [e0, e] at this
      grind
  · obtain ⟨h0, e0⟩ := List.getElem?_eq_some_iff.mp hk'
    have := lt i (i + 1) hi h0 (by omega)
    rw [e0, e] at this
    exact this
section
variable {h : VH} {Q : Val → VH → Prop} {l d : Nat} {ks : List Rat} {ps : List (List Rat)} {at_ : List Rat} {n mm : Nat}
theorem limits_knot_ok {i : Nat} {k : Rat} (B : Bok ks ps at_ n mm) (hk : ks[i]? = some k) (hsz : 3 * n + n * mm + (n + 2) * mm + 2 * n < 7000) (hl : 6 ≤ l) (w : h.wf) (q : Q (.tup [oV (limL ps k i), oV (limR ps k i)]) h) : Gd (run T l i_Broken_limits [brV ks ps at_, qv k] h) Q := by
  refine w_runp (body := b_Broken_limits) rfl rfl (by omega) w ?_
  unfold b_Broken_limits
  have hlp := B.lp
  obtain ⟨hik, ek⟩ := List.getElem?_eq_some_iff.mp hk
  have rk : Ra (qv k) k n := ra_qv (B.sk k (List.mem_of_getElem? hk))
  obtain ⟨on, eix⟩ := on_knot B.asc hk
  walk_at "gos"
  refine spot_ok B rk on (by omega) (by omega) w fun k2 s1 s2 s3 => ?_
  rw [eix] at s1
  rw [hk] at s1
  cases s1
  rw [eix, decide_eq_false Rat.lt_irrefl]
  unfold brV
  walk_at "gos"
  have right : ∀ (lv : Val) (σ : Sl), σ = [some (.obj c_Broken [(f_knots, .tup (ks.map qv)), (f_polys, .tup (ps.map polyV)), (f_at, .tup (at_.map qv))]), some (qv k), some (.int (i : Nat)), some (.bl true), none, some lv] → Q (.tup [lv, oV (limR ps k i)]) h → Gd (evSs T (run T (l - 1)) σ (.cons (.ret (.tup (.cons (.var 5) (.cons (.ifx (.cmp .eq (.var 2) (.bi false .len (.cons (.fld (.var 0) f_polys) .nil))) .non (.meth (.sub (.fld (.var 0) f_polys) (.var 2)) m_at (.cons (.var 1) .nil))) .nil)))) .nil) h) fun fl h1 => GRt fl fun v => h1 = h ∧ Q v h := by
    rintro lv σ rfl hq
    walk_at "gos"
    rw [List.length_map]
    by_cases hi : i = ps.length
    · refine g_pos (by omega) ?_
      walk_at "gos"
      unfold limR at hq
      rw [if_pos hi] at hq
      exact ⟨rfl, hq⟩
    · refine g_neg (by omega) ?_
      have hp : ps[i]? = some (ps.getD i []) := by
        rw [List.getD_eq_getElem?_getD, List.getElem?_eq_getElem (by omega)]
        rfl
      obtain ⟨sp1, sp2⟩ := B.spp _ (List.mem_of_getElem? hp)
      obtain ⟨z1, z2⟩ := at_size sp1 hsz
      walk_at "gos"
      refine x_some (sub_tup (by rw [List.getElem?_map, hp]; rfl)) ?_
      walk_at "gos"
      refine Poly_at_ok sp2 rk z1 (by omega) w fun sz => ?_
      walk_at "gos"
      unfold limR at hq
      rw [if_neg hi] at hq
      exact ⟨rfl, hq⟩
  by_cases h0 : i = 0
  · refine g_pos (by omega) ?_
    walk_at "go"
    walk_at "go"
    refine right .non _ rfl ?_
    have : limL ps k i = none := if_pos h0
    rw [this] at q
    exact q
  · refine g_neg (by omega) ?_
    have hp : ps[i - 1]? = some (ps.getD (i - 1) []) := by
      rw [List.getD_eq_getElem?_getD, List.getElem?_eq_getElem (by omega)]
      rfl
    obtain ⟨sp1, sp2⟩ := B.spp _ (List.mem_of_getElem? hp)
    obtain ⟨z1, z2⟩ := at_size sp1 hsz
    walk_at "gos"
    have e1 : ((i : Nat) : Int) - 1 = ((i - 1 : Nat) : Int) := by omega
    rw [e1]
    refine x_some (sub_tup (by rw [List.getElem?_map, hp]; rfl)) ?_
    walk_at "gos"
    refine Poly_at_ok sp2 rk z1 (by omega) w fun sz => ?_
    walk_at "go"
    refine right (qv _) _ rfl ?_
    have : limL ps k i = some (evalP (ps.getD (i - 1) []) k) := if_neg h0
    rw [this] at q
    exact q
theorem add_lists {xs ys : List Val} (hs : xs.length + ys.length ≤ 1000000) : binV h .add (.lst xs) (.lst ys) = some (.nl (xs ++ ys)) := by
  show (if sz _ then _ else _) = _
  rw [if_pos (by unfold sz; exact decide_eq_true hs)]
theorem jumps_ok (B : Bok ks ps at_ n mm) (hsz : 3 * n + n * mm + (n + 2) * mm + 2 * n < 7000) (hl : 7 ≤ l) (w : h.wf) (q : Q (.lst ((jumpsTo ks ps at_ ks.length).map pairV)) h) : Gd (run T l i_Broken_jumps [brV ks ps at_] h) Q := by
  refine w_runp (body := b_Broken_jumps) rfl rfl (by omega) w ?_
  unfold b_Broken_jumps
  have hla := B.la
  have hln := B.ln
  unfold brV
  walk_at "gos"
  refine ⟨_, _, rfl, rfl, ?_⟩
  rw [zip2_map]
  refine for_fix (fun k σ h' => h' = h ∧ k ≤ ks.length ∧ ∃ o2 o3 o4, σ = [some (brV ks ps at_), some (.lst ((jumpsTo ks ps at_ k).map pairV)), o2, o3, o4]) ⟨rfl, Nat.zero_le _, none, none, none, rfl⟩ ?_ ?_
  · rintro k x σ h' hx ⟨rfl, hkl, o2, o3, o4, rfl⟩
    rw [List.getElem?_map] at hx
    obtain ⟨⟨kn, a⟩, hz, rfl⟩ := Option.map_eq_some_iff.mp hx
    obtain ⟨hk, ha⟩ := List.getElem?_zip_eq_some.mp hz
    have hlt := (List.getElem?_eq_some_iff.mp hk).1
    walk_at "gos"
    refine limits_knot_ok B hk hsz (by omega) w ?_
    walk_at "gos"
    have ek : ks.getD k 0 = kn := by rw [List.getD_eq_getElem?_getD, hk]; rfl
    have ea : at_.getD k 0 = a := by rw [List.getD_eq_getElem?_getD, ha]; rfl
    rw [show ([oV (limL ps kn k), oV (limR ps kn k)] : List Val) = [limL ps kn k, limR ps kn k].map oV from rfl]
    refine comp_filt (l := [limL ps kn k, limR ps kn k]) oV (fun o => pairV (a, o.getD 0)) (fun o => o.isSome) (by simp) (fun o ho R hR => ?_) ?_
    · cases o with
      | none =>
        unfold oV
        walk_at "gos"
        exact hR
      | some z =>
        unfold oV
        walk_at "gos"
        exact hR
    · walk_at "gos"
      have el : (([limL ps kn k, limR ps kn k].filter fun o => o.isSome).map fun o => pairV (a, o.getD 0)) = (jumpsAt ps a kn k).map pairV := by
        unfold jumpsAt
        cases limL ps kn k <;> cases limR ps kn k <;> rfl
      rw [el]
      have j1 := jumpsTo_len (ks := ks) (ps := ps) (at_ := at_) k
      have j2 := jumpsAt_len (ps := ps) (a := a) (k := kn) (i := k)
      rw [add_lists (by rw [List.length_map, List.length_map]; omega)]
      walk_at "gos"
      refine ⟨rfl, hlt, some (qv kn), some (qv a), o4, ?_⟩
      rw [jumpsTo_succ, ek, ea, List.map_append]
      rfl
  · rintro σ h' ⟨rfl, hkl, o2, o3, o4, rfl⟩
    walk_at "gos"
    have : ((ks.zip at_).map fun p => Val.tup [qv p.1, qv p.2]).length = ks.length := by rw [List.length_map, List.length_zip, hla]; omega
    rw [this]
    exact ⟨rfl, q⟩
end
end G
namespace G
def shV (xs ps : List Rat) : Val := .obj c_Share [(f_places, .tup (xs.map qv)), (f_parts, .tup (ps.map qv))]
def sumQ : List Rat → Rat
  | [] => 0
  | q :: qs => q + sumQ qs
theorem sumQ_snoc : ∀ (l : List Rat) (a : Rat), sumQ (l ++ [a]) = sumQ l + a
  | [], a => by show a + 0 = 0 + a; grind
  | q :: l, a => by
    show q + sumQ (l ++ [a]) = q + sumQ l + a
    rw [sumQ_snoc l a]
    grind
theorem sumQ_take {l : List Rat} {k : Nat} {a : Rat} (h : l[k]? = some a) : sumQ (l.take (k + 1)) = sumQ (l.take k) + a := by
  rw [List.take_add_one, h]
  exact sumQ_snoc _ a
theorem sq_zero {n : Nat} (hn : 0 < n) : Sq n 0 := ⟨pl_pos, Nat.one_lt_two_pow (by omega)⟩
theorem sumQ_sq {n : Nat} : ∀ {l : List Rat}, (∀ q ∈ l, Sq n q) → Sq (1 + (n + 1) * l.length) (sumQ l)
  | [], _ => sq_zero (by omega)
  | q :: l, h => by
    have ih := sumQ_sq (n := n) (l := l) fun a ha => h a (List.mem_cons_of_mem _ ha)
    have := Sq.add (h q List.mem_cons_self) ih
    refine this.mono ?_
    rw [List.length_cons, Nat.mul_succ]
    omega
theorem zero_qv : (Val.tup [.int 0, .int 1]) = qv 0 := rfl
theorem one_qv : (Val.tup [.int 1, .int 1]) = qv 1 := rfl
theorem ra_zero : Ra (.int 0) 0 1 := ra_int (i := 0) (by decide) (by decide)
section
variable {h : VH} {Q : Val → VH → Prop} {l d : Nat}
theorem is_row_shares_ok {v : Val} {L : List (Val × Rat)} {n : Nat} (r : Rw v L n) (hl : 3 ≤ l) (w : h.wf) (q : Q (.bl true) h) : Gd (run T l i_is_row_shares [v] h) Q := by
  refine w_runp (body := b_is_row_shares) rfl rfl (by omega) w ?_
  unfold b_is_row_shares
  have hlen := r.2.2
  rcases r.1 with rfl | rfl
  all_goals
    walk_at "gos"
    refine comp_mapa (l := L) (·.1) (fun _ : Val × Rat => Val.bl true) (by omega) (fun a ha R hR => ?_) ?_
    · walk_at "gos"
      obtain ⟨p, dd, ra⟩ := r.2.1 a ha
      exact is_ratio_ok (by omega) w ra hR
    · walk_at "gos"
      refine i_all (all_true L) ?_
      rw [all_id]
      walk_at "gos"
      exact ⟨rfl, q⟩
theorem all_told_ok {v : Val} {L : List (Val × Rat)} {n : Nat} (r : Rw v L n) (hn : n < 9000) (hl : 4 ≤ l) (w : h.wf) (q : Q (.tup ((L.map (·.2)).map qv)) h) : Gd (run T l i_all_told [v] h) Q := by
  refine w_runp (body := b_all_told) rfl rfl (by omega) w ?_
  unfold b_all_told
  have hlen := r.2.2
  walk_at "gos"
  refine x_some r.fseq ?_
  refine comp_mapa (l := L) (·.1) (fun a : Val × Rat => qv a.2) (by omega) (fun a ha R hR => ?_) ?_
  · walk_at "gos"
    exact told_ok (r.2.1 a ha) (by omega) w hn hR
  · walk_at "gos"
    rw [List.map_map] at q
    exact ⟨rfl, q⟩
theorem whole_of_ok {v : Val} {L : List (Val × Rat)} {n : Nat} (r : Rw v L n) (hsz : 1 + (n + 1) * L.length + n < 4000) (hl : 5 ≤ l) (w : h.wf) (q : Q (qv (sumQ (L.map (·.2)))) h) : Gd (run T l i_whole_of [v] h) Q := by
  refine w_runp (body := b_whole_of) rfl rfl (by omega) w ?_
  unfold b_whole_of
  have hlen := r.2.2
  walk_at "gos"
  refine x_some r.fseq ?_
  refine for_fix (fun k σ h' => h' = h ∧ k ≤ L.length ∧ ∃ o, σ = [some v, some (qv (sumQ ((L.map (·.2)).take k))), o]) ⟨rfl, Nat.zero_le _, none, rfl⟩ ?_ ?_
  · rintro k x σ h' hx ⟨rfl, hk, o, rfl⟩
    rw [List.getElem?_map] at hx
    obtain ⟨a, ha, rfl⟩ := Option.map_eq_some_iff.mp hx
    have hlt := (List.getElem?_eq_some_iff.mp ha).1
    have ra := r.2.1 a (List.mem_of_getElem? ha)
    have st : Sq (1 + (n + 1) * L.length) (sumQ ((L.map (·.2)).take k)) := by
      have := sumQ_sq (n := n) (l := (L.map (·.2)).take k) fun q hq => by
        obtain ⟨b, hb, rfl⟩ := List.mem_map.mp (List.mem_of_mem_take hq)
        exact (r.2.1 b hb).sq
      refine this.mono ?_
      have h1 : ((L.map (·.2)).take k).length ≤ L.length := by rw [List.length_take, List.length_map]; omega
      have := Nat.mul_le_mul_left (n + 1) h1
      omega
    walk_at "gos"
    refine plus_ok (ra_qv st) ra (by omega) w (by omega) ?_
    walk_at "gos"
    refine ⟨rfl, hlt, some a.1, ?_⟩
    have e : (L.map (·.2))[k]? = some a.2 := by rw [List.getElem?_map, ha]; rfl
    rw [sumQ_take e]
    rfl
  · rintro σ h' ⟨rfl, hk, o, rfl⟩
    walk_at "gos"
    rw [List.length_map]
    rw [List.take_of_length_le (by rw [List.length_map]; omega)]
    exact ⟨rfl, q⟩
theorem ascends_ok {v : Val} {L : List (Val × Rat)} {n : Nat} (r : Rw v L n) (asc : (L.map (·.2)).Pairwise (· < ·)) (hn : n < 1900) (hl : 5 ≤ l) (w : h.wf) (q : Q (.bl true) h) : Gd (run T l i_ascends [v] h) Q := by
  refine w_runp (body := b_ascends) rfl rfl (by omega) w ?_
  unfold b_ascends
  have hlen := r.2.2
  have key : ∀ p ∈ L.zip L.tail, p.1.2 < p.2.2 ∧ p.1 ∈ L ∧ p.2 ∈ L := fun p hp => by
    have m1 := List.of_mem_zip hp
    refine ⟨?_, m1.1, List.mem_of_mem_tail m1.2⟩
    have := zip_tail_asc asc (p.1.2, p.2.2) (by
      rw [← List.map_tail, List.zip_map]
      exact List.mem_map.mpr ⟨p, hp, rfl⟩)
    exact this
  rcases r.1 with hv | hv
  all_goals
    rw [hv]
    walk_at "gos"
    first
      | rw [show slcV h (.lst (L.map (·.1))) (some 1) none = some (.nl ((L.map (·.1)).tail)) from congrArg (fun z => some (Rv.nl z)) cut_one]
      | rw [show slcV h (.tup (L.map (·.1))) (some 1) none = some (.v (.tup ((L.map (·.1)).tail))) from congrArg (fun z => some (Rv.v (.tup z))) cut_one]
    walk_at "gos"
    refine ⟨_, _, rfl, rfl, ?_⟩
    rw [← List.map_tail, zip2_map]
    refine comp_mapa (l := L.zip L.tail) (fun p => .tup [p.1.1, p.2.1]) (fun _ => Val.bl true) (by rw [List.length_zip]; omega) (fun a ha R hR => ?_) ?_
    · obtain ⟨k1, k2, k3⟩ := key a ha
      walk_at "gos"
      refine lower_ok (r.2.1 _ k2) (r.2.1 _ k3) (by omega) w (by omega) ?_
      rw [decide_eq_true k1]
      exact hR
    · walk_at "gos"
      refine i_all (all_true _) ?_
      rw [all_id]
      walk_at "gos"
      exact ⟨rfl, q⟩
theorem len_row {v : Val} {L : List (Val × Rat)} {n : Nat} (r : Rw v L n) {h' : VH} {R : Val → VH → Prop} (hR : R (.int L.length) h') : outG false (biV h' .len [v]) h' R := by
  rcases r.1 with rfl | rfl
  · refine i_len_l ?_
    rw [List.length_map]
    exact hR
  · refine i_len_t ?_
    rw [List.length_map]
    exact hR
theorem are_parts_ok {v : Val} {L : List (Val × Rat)} {n : Nat} (r : Rw v L n) (hp : ∀ a ∈ L, 0 < a.2) (hs : sumQ (L.map (·.2)) = 1) (hsz : 1 + (n + 1) * L.length + n < 4000) (hl : 6 ≤ l) (w : h.wf) (q : Q (.bl true) h) : Gd (run T l i_are_parts [v, .int L.length] h) Q := by
  refine w_runp (body := b_are_parts) rfl rfl (by omega) w ?_
  unfold b_are_parts
  have hlen := r.2.2
  walk_at "gos"
  refine is_row_shares_ok r (by omega) w ?_
  walk_at "gos"
  refine len_row r ?_
  walk_at "gos"
  rw [decide_eq_true rfl]
  walk_at "gos"
  refine x_some r.fseq ?_
  refine comp_mapa (l := L) (·.1) (fun _ : Val × Rat => Val.bl true) (by omega) (fun a ha R hR => ?_) ?_
  · walk_at "gos"
    refine lower_ok ra_zero (r.2.1 a ha) (by omega) w (by omega) ?_
    rw [decide_eq_true (hp a ha)]
    exact hR
  · walk_at "gos"
    refine i_all (all_true L) ?_
    rw [all_id]
    walk_at "gos"
    refine whole_of_ok r hsz (by omega) w ?_
    walk_at "gos"
    rw [hs, one_qv]
    refine c_eqQ ?_
    rw [decide_eq_true rfl]
    exact ⟨rfl, q⟩
theorem mk_Share_ok {vx vp : Val} {X P : List (Val × Rat)} {n m : Nat} (rx : Rw vx X n) (rp : Rw vp P m) (h0 : 0 < X.length) (hlen : P.length = X.length) (asc : (X.map (·.2)).Pairwise (· < ·)) (hp : ∀ a ∈ P, 0 < a.2) (hs : sumQ (P.map (·.2)) = 1) (hn : n < 1900) (hsz : 1 + (m + 1) * P.length + m < 4000)
    (hl : 7 ≤ l) (w : h.wf) (q : Q (shV (X.map (·.2)) (P.map (·.2))) (bump h)) : Gd (mkV T (run T l) false c_Share [vx, vp] h) Q := by
  refine mk_ok rfl w ?_
  refine w_runn (body := b_Share_init) rfl rfl (by omega) ?_
  unfold b_Share_init
  have w' : ∀ fs, (h.push (.ins c_Share fs)).wf := fun fs => wf_push w
  walk_at "gos"
  refine is_row_shares_ok rx (by omega) (w' _) ?_
  walk_at "gos"
  refine len_row rx ?_
  walk_at "gos"
  refine ascends_ok rx asc hn (by omega) (w' _) ?_
  walk_at "gos"
  refine len_row rx ?_
  rw [← hlen]
  walk_at "gos"
  refine are_parts_ok rp hp hs hsz (by omega) (w' _) ?_
  walk_at "gos"
  refine all_told_ok rx (by omega) (by omega) (w' _) ?_
  walk_at "gos"
  refine sf_ok push_get (by first | exact (by decide : (0:Nat) < 900) | exact (by decide : (1:Nat) < 900) | exact (by decide : (2:Nat) < 900)) rfl ?_
  rw [push_set']
  walk_at "gos"
  refine all_told_ok rp (by omega) (by omega) (w' _) ?_
  walk_at "gos"
  refine sf_ok push_get (by first | exact (by decide : (0:Nat) < 900) | exact (by decide : (1:Nat) < 900) | exact (by decide : (2:Nat) < 900)) rfl ?_
  rw [push_set']
  walk_at "gos"
  exact ⟨wf_push w, rfl, rfl, _, rfl, q⟩
end
end G
namespace G
section
variable {h : VH} {Q : Val → VH → Prop} {l d : Nat}
theorem sp_bump {d : Nat} : P.sp (bump h) d = bump (P.sp h d) := rfl
theorem ints_of {vs : List Val} (hv : ∀ v ∈ vs, ∃ w : Int, v = .int w ∧ 1 ≤ w ∧ w ≤ 9) : ∃ ws : List Int, vs = ws.map Val.int ∧ ∀ w ∈ ws, 1 ≤ w ∧ w ≤ 9 := by
  induction vs with
  | nil => exact ⟨[], rfl, by simp⟩
  | cons v vs ih =>
    obtain ⟨ws, rfl, h2⟩ := ih fun v hv' => hv v (List.mem_cons_of_mem _ hv')
    obtain ⟨w, rfl, h3⟩ := hv v List.mem_cons_self
    refine ⟨w :: ws, rfl, fun a ha => ?_⟩
    rcases List.mem_cons.mp ha with rfl | ha
    · exact h3
    · exact h2 a ha
theorem ints_sum : ∀ {ws : List Int}, (∀ w ∈ ws, 1 ≤ w ∧ w ≤ 9) → (ws.length : Int) ≤ ws.sum ∧ ws.sum ≤ 9 * ws.length
  | [], _ => by simp
  | w :: ws, hw => by
    have ih := ints_sum (ws := ws) fun v hv' => hw v (List.mem_cons_of_mem _ hv')
    have := hw w List.mem_cons_self
    simp only [List.sum_cons, List.length_cons]
    omega
theorem sum_div {s : Int} (hs : 0 < s) : ∀ ws : List Int, sumQ (ws.map fun w => Rat.divInt w s) = Rat.divInt ws.sum s
  | [] => by
    show (0 : Rat) = Rat.divInt 0 s
    rw [Rat.zero_divInt]
  | w :: ws => by
    show Rat.divInt w s + sumQ (ws.map fun w => Rat.divInt w s) = _
    rw [sum_div hs ws, List.sum_cons, Rat.divInt_eq_div, Rat.divInt_eq_div, Rat.divInt_eq_div]
    have : (s : Rat) ≠ 0 := by
      intro z
      have := Rat.intCast_inj.mp (show (s : Rat) = ((0 : Int) : Rat) by rw [z]; rfl)
      omega
    have e : (((w + ws.sum : Int)) : Rat) = (w : Rat) + (ws.sum : Rat) := Rat.intCast_add _ _
    rw [e]
    grind
theorem div_pos' {w s : Int} (hw : 0 < w) (hs : 0 < s) : 0 < Rat.divInt w s := by
  rw [Rat.divInt_eq_div]
  have h1 : (0 : Rat) < (w : Rat) := Rat.intCast_pos.mpr hw
  have h2 : (0 : Rat) < (s : Rat) := Rat.intCast_pos.mpr hs
  rw [Rat.div_def]
  exact Rat.mul_pos h1 (Rat.inv_pos.mpr h2)
theorem div_self' {s : Int} (hs : 0 < s) : Rat.divInt s s = 1 := by
  rw [Rat.divInt_eq_div]
  have h2 : (0 : Rat) < (s : Rat) := Rat.intCast_pos.mpr hs
  rw [Rat.div_def]
  exact Rat.mul_inv_cancel _ (by grind)
end
end G
namespace G
/-- a whole number of M-th parts, its size at most B -/
def Dz (M B : Nat) (q : Rat) : Prop := ∃ k : Int, q * (M : Rat) = (k : Rat) ∧ k.natAbs ≤ B * M
theorem nat_ne {M : Nat} (h : 0 < M) : (M : Rat) ≠ 0 := by exact_mod_cast (show M ≠ 0 by omega)
theorem Dz.eq {M B : Nat} {q : Rat} (h0 : 0 < M) (h : Dz M B q) : ∃ k : Int, q = Rat.divInt k M ∧ k.natAbs ≤ B * M := by
  obtain ⟨k, e, hk⟩ := h
  refine ⟨k, ?_, hk⟩
  rw [Rat.divInt_eq_div]
  have h1 := nat_ne h0
  have h2 : (((M : Nat) : Int) : Rat) = (M : Rat) := rfl
  rw [h2]
  grind
theorem Dz.sq {M B n : Nat} {q : Rat} (h : Dz M B q) (h0 : 0 < M) (h1 : B * M < 2 ^ n) (h2 : M < 2 ^ n) : Sq n q := by
  obtain ⟨k, rfl, hk⟩ := h.eq h0
  exact Sq.div (by omega) (by omega) (by simpa using h2)
theorem Dz.mono {M B C : Nat} {q : Rat} (h : Dz M B q) (l : B ≤ C) : Dz M C q := by
  obtain ⟨k, e, hk⟩ := h
  exact ⟨k, e, Nat.le_trans hk (Nat.mul_le_mul_right _ l)⟩
theorem Dz.zero {M : Nat} : Dz M 0 0 := ⟨0, by grind, by simp⟩
theorem Dz.lift {M B : Nat} {q : Rat} (N : Nat) (h : Dz M B q) : Dz (M * N) B q := by
  obtain ⟨k, e, hk⟩ := h
  refine ⟨k * (N : Int), ?_, ?_⟩
  · have e1 : ((M * N : Nat) : Rat) = (M : Rat) * (N : Rat) := by exact_mod_cast rfl
    have e2 : ((k * (N : Int) : Int) : Rat) = (k : Rat) * (N : Rat) := by rw [Rat.intCast_mul]; rfl
    rw [e1, e2, ← e]
    grind
  · rw [Int.natAbs_mul]
    have := Nat.mul_le_mul_right N hk
    rw [Nat.mul_assoc] at this
    exact this
theorem Dz.dvd {M N B : Nat} {q : Rat} (h : Dz M B q) (d : M ∣ N) : Dz N B q := by
  obtain ⟨k, rfl⟩ := d
  exact h.lift k
theorem Dz.add {M B C : Nat} {q r : Rat} (h1 : Dz M B q) (h2 : Dz M C r) : Dz M (B + C) (q + r) := by
  obtain ⟨k, e, hk⟩ := h1
  obtain ⟨j, e', hj⟩ := h2
  refine ⟨k + j, ?_, ?_⟩
  · rw [Rat.intCast_add, ← e, ← e']
    grind
  · rw [Nat.add_mul]
    omega
theorem Dz.neg {M B : Nat} {q : Rat} (h : Dz M B q) : Dz M B (-q) := by
  obtain ⟨k, e, hk⟩ := h
  refine ⟨-k, ?_, by omega⟩
  rw [Rat.intCast_neg, ← e]
  grind
theorem Dz.sub {M B C : Nat} {q r : Rat} (h1 : Dz M B q) (h2 : Dz M C r) : Dz M (B + C) (q - r) := by
  have := h1.add h2.neg
  rwa [← Rat.sub_eq_add_neg] at this
theorem Dz.mul {M N B C : Nat} {q r : Rat} (h1 : Dz M B q) (h2 : Dz N C r) : Dz (M * N) (B * C) (q * r) := by
  obtain ⟨k, e, hk⟩ := h1
  obtain ⟨j, e', hj⟩ := h2
  refine ⟨k * j, ?_, ?_⟩
  · have e1 : ((M * N : Nat) : Rat) = (M : Rat) * (N : Rat) := by exact_mod_cast rfl
    rw [Rat.intCast_mul, ← e, ← e', e1]
    grind
  · rw [Int.natAbs_mul]
    have := Nat.mul_le_mul hk hj
    have e2 : B * C * (M * N) = B * M * (C * N) := by
      rw [Nat.mul_assoc, Nat.mul_assoc, Nat.mul_left_comm C M N]
    rw [e2]
    exact this
theorem dz_div {a : Int} {b B : Nat} (hb : 0 < b) (h : a.natAbs ≤ B * b) : Dz b B (Rat.divInt a b) := by
  refine ⟨a, ?_, h⟩
  rw [Rat.divInt_eq_div]
  have h1 := nat_ne hb
  have h2 : (((b : Nat) : Int) : Rat) = (b : Rat) := rfl
  rw [h2]
  grind
theorem dz_self {q : Rat} {B : Nat} (h : q.num.natAbs ≤ B * q.den) : Dz q.den B q := by
  have := dz_div q.den_pos h
  rwa [show Rat.divInt q.num (q.den : Nat) = q from Rat.num_divInt_den q] at this
/-- a polynomial at a place -/
theorem evalP_dz {C Y A X : Nat} {x : Rat} (hx : Dz A X x) : ∀ {p : List Rat}, (∀ c ∈ p, Dz C Y c) → Dz (C * A ^ p.length) (Y * (1 + X) ^ p.length) (evalP p x)
  | [], _ => (Dz.zero (M := C * A ^ 0)).mono (Nat.zero_le _)
  | c :: p, h => by
    have ih := evalP_dz hx (p := p) fun c hc => h c (List.mem_cons_of_mem _ hc)
    have h1 := (h c List.mem_cons_self).lift (A ^ (p.length + 1))
    have h2 := hx.mul ih
    have e : A * (C * A ^ p.length) = C * A ^ (p.length + 1) := by
      rw [Nat.pow_succ, Nat.mul_left_comm, Nat.mul_comm A]
    rw [e] at h2
    have h3 := h1.add h2
    refine Dz.mono h3 ?_
    show Y + X * (Y * (1 + X) ^ p.length) ≤ Y * (1 + X) ^ (p.length + 1)
    rw [Nat.pow_succ]
    have p1 : 1 ≤ (1 + X) ^ p.length := Nat.one_le_pow _ _ (by omega)
    have p2 : Y * 1 ≤ Y * (1 + X) ^ p.length := Nat.mul_le_mul_left _ p1
    have e2 : Y * ((1 + X) ^ p.length * (1 + X)) = Y * (1 + X) ^ p.length + X * (Y * (1 + X) ^ p.length) := by
      rw [Nat.mul_add, Nat.mul_one, Nat.mul_add]
      congr 1
      rw [Nat.mul_comm ((1 + X) ^ p.length) X, Nat.mul_left_comm]
    omega
/-! heaps with more numbers gone -/
def bp (b : Nat) (h : VH) : VH := ⟨h.next + b, h.obs⟩
theorem bp_bump {b : Nat} {h : VH} : bump (bp b h) = bp (b + 1) h := rfl
theorem bp_sp {b d : Nat} {h : VH} : P.sp (bp b h) d = bp b (P.sp h d) := rfl
theorem bp_zero {h : VH} : bp 0 h = h := rfl
theorem bp_bp {a b : Nat} {h : VH} : bp a (bp b h) = bp (b + a) h := by
  unfold bp
  rw [Nat.add_assoc]
theorem bp_wf {b : Nat} {h : VH} (w : h.wf) : (bp b h).wf := fun p hp => Nat.lt_of_lt_of_le (w p hp) (Nat.le_add_right _ _)
theorem pn_bp {b d : Nat} {h : VH} (p : Pn h d) : Pn (bp b h) d := ⟨bp_wf p.wf, p.at_⟩
theorem ex_bp {b : Nat} {h h1 : VH} (e : Ex h h1) : Ex h (bp b h1) := ⟨e.1, Nat.le_trans e.2 (Nat.le_add_right _ _)⟩
end G
namespace G
section
variable {h : VH} {Q : Val → VH → Prop} {l d : Nat}
theorem less_or_same_ok {v u : Val} {a b : Rat} {n m : Nat} (e1 : Ra v a n) (e2 : Ra u b m) (hl : 5 ≤ l) (w : h.wf) (hn : n + m < 4000) (q : Q (.bl (!decide (b < a))) h) : Gd (run T l i_less_or_same [v, u] h) Q := by
  refine w_runp (body := b_less_or_same) rfl rfl (by omega) w ?_
  unfold b_less_or_same
  walk_at "gos"
  refine lower_ok e2 e1 (by omega) w (by omega) ?_
  walk_at "gos"
  exact ⟨rfl, q⟩
theorem bls_map {α : Type} (f : α → Bool) : ∀ l : List α, blsOf (l.map fun a => Val.bl (f a)) = some (l.map f)
  | [] => rfl
  | a :: l => by
    show (blsOf (l.map fun a => Val.bl (f a))).map (f a :: ·) = _
    rw [bls_map f l]
    rfl
variable {ks : List Rat} {ps : List (List Rat)} {at_ : List Rat} {n mm : Nat}
/-- sizes of the numbers at jumps -/
def Jz (ks : List Rat) (ps : List (List Rat)) (at_ : List Rat) (n : Nat) : Prop := ∀ p ∈ jumpsTo ks ps at_ ks.length, Sq n p.1 ∧ Sq n p.2
theorem is_upper_ok (B : Bok ks ps at_ n mm) (J : Jz ks ps at_ n) (hsz : 3 * n + n * mm + (n + 2) * mm + 2 * n < 7000) (hn : n < 1900) (hl : 8 ≤ l) (w : h.wf) (q : Q (.bl ((jumpsTo ks ps at_ ks.length).all fun p => !decide (p.1 < p.2))) h) : Gd (run T l i_Broken_is_upper [brV ks ps at_] h) Q := by
  refine w_runp (body := b_Broken_is_upper) rfl rfl (by omega) w ?_
  unfold b_Broken_is_upper
  have hln := B.ln
  have hjl := jumpsTo_len (ks := ks) (ps := ps) (at_ := at_) ks.length
  have eb : brV ks ps at_ = .obj c_Broken [(f_knots, .tup (ks.map qv)), (f_polys, .tup (ps.map polyV)), (f_at, .tup (at_.map qv))] := rfl
  rw [eb]
  walk_at "gos"
  refine jumps_ok B hsz (by omega) w ?_
  walk_at "gos"
  refine comp_mapa (l := jumpsTo ks ps at_ ks.length) pairV (fun p => Val.bl (!decide (p.1 < p.2))) (by omega) (fun a ha R hR => ?_) ?_
  · have j := J a ha
    unfold pairV
    walk_at "gos"
    refine less_or_same_ok (ra_qv j.2) (ra_qv j.1) (by omega) w (by omega) ?_
    exact hR
  · walk_at "gos"
    refine i_all (bls_map _ _) ?_
    walk_at "gos"
    rw [List.all_map]
    exact ⟨rfl, q⟩
theorem is_lower_ok (B : Bok ks ps at_ n mm) (J : Jz ks ps at_ n) (hsz : 3 * n + n * mm + (n + 2) * mm + 2 * n < 7000) (hn : n < 1900) (hl : 8 ≤ l) (w : h.wf) (q : Q (.bl ((jumpsTo ks ps at_ ks.length).all fun p => !decide (p.2 < p.1))) h) : Gd (run T l i_Broken_is_lower [brV ks ps at_] h) Q := by
  refine w_runp (body := b_Broken_is_lower) rfl rfl (by omega) w ?_
  unfold b_Broken_is_lower
  have hln := B.ln
  have hjl := jumpsTo_len (ks := ks) (ps := ps) (at_ := at_) ks.length
  have eb : brV ks ps at_ = .obj c_Broken [(f_knots, .tup (ks.map qv)), (f_polys, .tup (ps.map polyV)), (f_at, .tup (at_.map qv))] := rfl
  rw [eb]
  walk_at "gos"
  refine jumps_ok B hsz (by omega) w ?_
  walk_at "gos"
  refine comp_mapa (l := jumpsTo ks ps at_ ks.length) pairV (fun p => Val.bl (!decide (p.2 < p.1))) (by omega) (fun a ha R hR => ?_) ?_
  · have j := J a ha
    unfold pairV
    walk_at "gos"
    refine less_or_same_ok (ra_qv j.1) (ra_qv j.2) (by omega) w (by omega) ?_
    exact hR
  · walk_at "gos"
    refine i_all (bls_map _ _) ?_
    walk_at "gos"
    rw [List.all_map]
    exact ⟨rfl, q⟩
/-- the mean of a function for a share -/
def meanF (ks : List Rat) (ps : List (List Rat)) (at_ xs qs : List Rat) : Rat := sumQ ((xs.zip qs).map fun p => p.2 * brVal ks ps at_ p.1)
/-- a share and a function go together -/
structure Go (ks : List Rat) (ps : List (List Rat)) (at_ xs qs : List Rat) (n mm : Nat) : Prop where
  B : Bok ks ps at_ n mm
  J : Jz ks ps at_ n
  x0 : 0 < xs.length
  xl : xs.length ≤ 8
  ql : qs.length = xs.length
  on : ∀ x ∈ xs, OnK ks x
  sx : ∀ x ∈ xs, Sq n x
  sq : ∀ y ∈ qs, Sq 8 y
  sv : ∀ x ∈ xs, Sq n (brVal ks ps at_ x)
theorem mean_ok {xs qs : List Rat} (G : Go ks ps at_ xs qs n mm) (hsz : 3 * n + n * mm + (n + 2) * mm + 2 * n < 7000) (hn : n < 400) (hl : 7 ≤ l) (w : h.wf) (q : Q (qv (meanF ks ps at_ xs qs)) h) : Gd (run T l i_mean [shV xs qs, brV ks ps at_] h) Q := by
  refine w_runp (body := b_mean) rfl rfl (by omega) w ?_
  unfold b_mean
  have eb : brV ks ps at_ = .obj c_Broken [(f_knots, .tup (ks.map qv)), (f_polys, .tup (ps.map polyV)), (f_at, .tup (at_.map qv))] := rfl
  have es : shV xs qs = .obj c_Share [(f_places, .tup (xs.map qv)), (f_parts, .tup (qs.map qv))] := rfl
  have hx0 := G.x0
  have hxl := G.xl
  have hql := G.ql
  have hlp := G.B.lp
  have hp0 := G.B.p0
  obtain ⟨a, ha⟩ : ∃ a, ks[0]? = some a := ⟨ks[0]'(by omega), List.getElem?_eq_getElem _⟩
  obtain ⟨b, hb⟩ : ∃ b, ks[ks.length - 1]? = some b := ⟨ks[ks.length - 1]'(by omega), List.getElem?_eq_getElem _⟩
  obtain ⟨x, hx⟩ : ∃ a, xs[0]? = some a := ⟨xs[0]'(by omega), List.getElem?_eq_getElem _⟩
  obtain ⟨y, hy⟩ : ∃ b, xs[xs.length - 1]? = some b := ⟨xs[xs.length - 1]'(by omega), List.getElem?_eq_getElem _⟩
  have na := (G.on x (List.mem_of_getElem? hx)).1 a ha
  have nb := (G.on y (List.mem_of_getElem? hy)).2 b hb
  rw [eb, es]
  walk_at "gos"
  refine x_some (sub_tup (k := 0) (by rw [List.getElem?_map, hx]; rfl)) ?_
  walk_at "gos"
  refine x_some (sub_tup (k := 0) (by rw [List.getElem?_map, ha]; rfl)) ?_
  walk_at "gos"
  refine lower_ok (ra_qv (G.sx x (List.mem_of_getElem? hx))) (ra_qv (G.B.sk a (List.mem_of_getElem? ha))) (by omega) w (by omega) ?_
  refine g_neg na ?_
  walk_at "gos"
  refine x_some (sub_last (x := qv b) (by rw [List.length_map, List.getElem?_map, hb]; rfl)).1 ?_
  walk_at "gos"
  refine x_some (sub_last (x := qv y) (by rw [List.length_map, List.getElem?_map, hy]; rfl)).1 ?_
  walk_at "gos"
  refine lower_ok (ra_qv (G.B.sk b (List.mem_of_getElem? hb))) (ra_qv (G.sx y (List.mem_of_getElem? hy))) (by omega) w (by omega) ?_
  refine g_neg nb ?_
  walk_at "gos"
  refine ⟨_, _, rfl, rfl, ?_⟩
  rw [zip2_map]
  have hz : (xs.zip qs).length = xs.length := by rw [List.length_zip]; omega
  have e : (.obj c_Broken [(f_knots, .tup (ks.map qv)), (f_polys, .tup (ps.map polyV)), (f_at, .tup (at_.map qv))] : Val) = brV ks ps at_ := rfl
  refine comp_mapa (l := xs.zip qs) (fun p => .tup [qv p.1, qv p.2]) (fun p => qv (p.2 * brVal ks ps at_ p.1)) (by omega) (fun p hp R hR => ?_) ?_
  · have m := List.of_mem_zip hp
    walk_at "gos"
    rw [e]
    refine value_ok G.B (ra_qv (G.sx _ m.1)) (G.on _ m.1) hsz (by omega) w fun _ => ?_
    walk_at "gos"
    refine times_ok (ra_qv (G.sq _ m.2)) (ra_qv (G.sv _ m.1)) (by omega) w (by omega) ?_
    exact hR
  · walk_at "gos"
    have e1 : (xs.zip qs).map (fun p => qv (p.2 * brVal ks ps at_ p.1)) = ((xs.zip qs).map fun p => p.2 * brVal ks ps at_ p.1).map qv := by rw [List.map_map]; rfl
    rw [e1]
    have sz : ∀ y ∈ (xs.zip qs).map (fun p => p.2 * brVal ks ps at_ p.1), Sq (8 + n) y := fun y hy => by
      obtain ⟨p, hp, rfl⟩ := List.mem_map.mp hy
      have m := List.of_mem_zip hp
      exact Sq.mul (G.sq _ m.2) (G.sv _ m.1)
    have rw_ := (rw_of_qs _ sz (by rw [List.length_map, hz]; omega)).1
    have hm : (8 + n + 1) * xs.length ≤ (8 + n + 1) * 8 := Nat.mul_le_mul_left _ hxl
    refine whole_of_ok rw_ (by rw [List.length_map, List.length_map, hz]; omega) (by omega) w ?_
    rw [snd_of_qs]
    walk_at "gos"
    exact ⟨rfl, q⟩
end
end G
namespace G
/-- one told mean -/
structure RowD where
  ks : List Rat
  ps : List (List Rat)
  at_ : List Rat
  least : Option Rat
  most : Option Rat
def rowV (r : RowD) : Val := .obj c_Told [(f_function, brV r.ks r.ps r.at_), (f_least, oV r.least), (f_most, oV r.most)]
def mx (a b : Rat) : Rat := if a < b then b else a
def missL (here : Rat) : Option Rat → Rat
  | none => 0
  | some b => b - here
def missM (here : Rat) : Option Rat → Rat
  | none => 0
  | some b => -1 * (b - here)
def rowMiss (here : Rat) (r : RowD) (f : Rat) : Rat := mx (mx f (missL here r.least)) (missM here r.most)
def missOf (xs qs : List Rat) : List RowD → Rat → Rat
  | [], f => f
  | r :: rs, f => missOf xs qs rs (rowMiss (meanF r.ks r.ps r.at_ xs qs) r f)
theorem missOf_snoc (xs qs : List Rat) (r : RowD) : ∀ (rs : List RowD) (f : Rat), missOf xs qs (rs ++ [r]) f = rowMiss (meanF r.ks r.ps r.at_ xs qs) r (missOf xs qs rs f)
  | [], f => rfl
  | s :: rs, f => missOf_snoc xs qs r rs _
/-- a told mean that goes with a share -/
structure Rk (lo hi : Rat) (xs qs : List Rat) (r : RowD) : Prop where
  G : Go r.ks r.ps r.at_ xs qs 230 4
  k0 : r.ks[0]? = some lo
  k1 : r.ks[r.ks.length - 1]? = some hi
  sm : Sq 260 (meanF r.ks r.ps r.at_ xs qs)
  sl : ∀ b, r.least = some b → Sq 310 b
  so : ∀ b, r.most = some b → Sq 310 b
section
variable {lo hi : Rat} {xs qs : List Rat}
theorem mx_sq {n : Nat} {a b : Rat} (h1 : Sq n a) (h2 : Sq n b) : Sq n (mx a b) := by
  unfold mx
  split <;> assumption
theorem missL_sq {r : RowD} (R : Rk lo hi xs qs r) : Sq 600 (missL (meanF r.ks r.ps r.at_ xs qs) r.least) := by
  cases e : r.least with
  | none => exact sq_zero (by decide)
  | some b => exact (Sq.sub (R.sl b e) R.sm).mono (by decide)
theorem missM_sq {r : RowD} (R : Rk lo hi xs qs r) : Sq 600 (missM (meanF r.ks r.ps r.at_ xs qs) r.most) := by
  cases e : r.most with
  | none => exact sq_zero (by decide)
  | some b =>
    have h1 : Sq 1 (-1 : Rat) := ⟨by decide, by decide⟩
    exact (Sq.mul h1 (Sq.sub (R.so b e) R.sm)).mono (by decide)
theorem rowMiss_sq {r : RowD} (R : Rk lo hi xs qs r) {f : Rat} (hf : Sq 600 f) : Sq 600 (rowMiss (meanF r.ks r.ps r.at_ xs qs) r f) := mx_sq (mx_sq hf (missL_sq R)) (missM_sq R)
theorem missOf_sq : ∀ {rs : List RowD} {f : Rat}, (∀ r ∈ rs, Rk lo hi xs qs r) → Sq 600 f → Sq 600 (missOf xs qs rs f)
  | [], f, _, hf => hf
  | r :: rs, f, h, hf => missOf_sq (rs := rs) (fun s hs => h s (List.mem_cons_of_mem r hs)) (rowMiss_sq (h r List.mem_cons_self) hf)
variable {h : VH} {Q : Val → VH → Prop} {l d : Nat}
theorem bound_none_ok {v u : Val} (hl : 1 ≤ l) (w : h.wf) (q : Q .non h) : Gd (run T l i_bound_told [v, .non, u] h) Q := by
  refine w_runp (body := b_bound_told) rfl rfl (by omega) w ?_
  unfold b_bound_told
  walk_at "gos"
  exact ⟨rfl, q⟩
theorem bound_some_ok {v u : Val} {a : Rat} {n : Nat} (e : Ra u a n) (hn : n < 4000) (hl : 4 ≤ l) (w : h.wf) (q : Q (qv a) h) : Gd (run T l i_bound_told [v, u, .bl true] h) Q := by
  refine w_runp (body := b_bound_told) rfl rfl (by omega) w ?_
  unfold b_bound_told
  obtain ⟨p, dd, r⟩ := id e
  have hnn : isNon u = false := by
    rcases r.form with ⟨rfl, _⟩ | rfl | rfl <;> rfl
  walk_at "gos"
  rw [hnn]
  walk_at "gos"
  refine is_ratio_ok (by omega) w r ?_
  walk_at "gos"
  refine told_ok e (by omega) w (by omega) ?_
  walk_at "gos"
  exact ⟨rfl, q⟩
/-- a bound as it is passed -/
def Ro (v : Val) (o : Option Rat) (n : Nat) : Prop := (o = none ∧ v = .non) ∨ ∃ a, o = some a ∧ Ra v a n
theorem bound_ok {v u : Val} {o : Option Rat} {b : Bool} {n : Nat} (e : Ro u o n) (hb : o ≠ none → b = true) (hn : n < 4000) (hl : 4 ≤ l) (w : h.wf) (q : Q (oV o) h) : Gd (run T l i_bound_told [v, u, .bl b] h) Q := by
  rcases e with ⟨rfl, rfl⟩ | ⟨a, rfl, r⟩
  · exact bound_none_ok (by omega) w q
  · rw [hb (by simp)]
    exact bound_some_ok r hn hl w q
theorem fld_push {h : VH} {c f : Nat} {fs : List (Nat × Val)} {v : Val} (e : fs.lookup f = some v) : fldV (h.push (.ins c fs)) (.ref h.next) f = some v := by
  unfold fldV
  dsimp only
  rw [push_get]
  exact e
theorem isNon_oV (o : Option Rat) : isNon (oV o) = o.isNone := by cases o <;> rfl
def upB (ks : List Rat) (ps : List (List Rat)) (at_ : List Rat) : Bool := (jumpsTo ks ps at_ ks.length).all fun p => !decide (p.1 < p.2)
def loB (ks : List Rat) (ps : List (List Rat)) (at_ : List Rat) : Bool := (jumpsTo ks ps at_ ks.length).all fun p => !decide (p.2 < p.1)
theorem mk_Told_ok {vl vm : Val} {r : RowD} {n : Nat} (B : Bok r.ks r.ps r.at_ 230 4) (J : Jz r.ks r.ps r.at_ 230) (el : Ro vl r.least n) (em : Ro vm r.most n) (hn : n < 1900) (hu : r.least ≠ none → upB r.ks r.ps r.at_ = true) (ho : r.most ≠ none → loB r.ks r.ps r.at_ = true)
    (ha : r.least ≠ none ∨ r.most ≠ none) (hle : ∀ a b, r.least = some a → r.most = some b → ¬ b < a) (hl : 9 ≤ l) (w : h.wf) (q : Q (rowV r) (bump h)) : Gd (mkV T (run T l) false c_Told [brV r.ks r.ps r.at_, vl, vm] h) Q := by
  obtain ⟨ks, ps, at_, least, most⟩ := r
  dsimp only at B J el em hu ho ha hle ⊢
  refine mk_ok rfl w ?_
  refine w_runn (body := b_Told_init) rfl rfl (by omega) ?_
  unfold b_Told_init
  have w' : ∀ fs, (h.push (.ins c_Told fs)).wf := fun fs => wf_push w
  have sl : ∀ a, least = some a → Sq n a := fun a e => by
    rcases el with ⟨z, _⟩ | ⟨b, z, rb⟩
    · rw [z] at e; cases e
    · rw [z] at e; cases e; exact rb.sq
  have sm : ∀ a, most = some a → Sq n a := fun a e => by
    rcases em with ⟨z, _⟩ | ⟨b, z, rb⟩
    · rw [z] at e; cases e
    · rw [z] at e; cases e; exact rb.sq
  walk_at "gos"
  refine is_upper_ok B J (by decide) (by decide) (by omega) (w' _) ?_
  walk_at "gos"
  refine is_lower_ok B J (by decide) (by decide) (by omega) (w' _) ?_
  have eu : (jumpsTo ks ps at_ ks.length).all (fun p => !decide (p.1 < p.2)) = upB ks ps at_ := rfl
  have eo : (jumpsTo ks ps at_ ks.length).all (fun p => !decide (p.2 < p.1)) = loB ks ps at_ := rfl
  rw [eu, eo]
  have hor : upB ks ps at_ = true ∨ loB ks ps at_ = true := ha.elim (fun z => .inl (hu z)) fun z => .inr (ho z)
  generalize hub : upB ks ps at_ = ub at *
  generalize hlb : loB ks ps at_ = lb at *
  have e9 : (0 : Nat) < 900 := by decide
  have e91 : (1 : Nat) < 900 := by decide
  have e92 : (2 : Nat) < 900 := by decide
  cases ub <;> cases lb
  · rcases hor with z | z <;> cases z
  all_goals
    walk_at "gos"
    refine sf_ok push_get (by exact e9) rfl ?_
    rw [push_set']
    walk_at "gos"
    refine bound_ok el hu (by omega) (by omega) (w' _) ?_
    walk_at "gos"
    refine sf_ok push_get (by exact e91) rfl ?_
    rw [push_set']
    walk_at "gos"
    refine bound_ok em ho (by omega) (by omega) (w' _) ?_
    walk_at "gos"
    refine sf_ok push_get (by exact e92) rfl ?_
    rw [push_set']
    have f1 : fldV (h.push (.ins c_Told [(f_function, brV ks ps at_), (f_least, oV least), (f_most, oV most)])) (.ref h.next) f_least = some (oV least) := fld_push rfl
    have f2 : fldV (h.push (.ins c_Told [(f_function, brV ks ps at_), (f_least, oV least), (f_most, oV most)])) (.ref h.next) f_most = some (oV most) := fld_push rfl
    walk_at "gos"
    refine x_some f1 ?_
    walk_at "gos"
    try rw [isNon_oV]
    cases least with
    | none =>
      walk_at "gos"
      refine x_some f1 ?_
      walk_at "gos"
      try rw [isNon_oV]
      walk_at "gos"
      refine x_some f2 ?_
      walk_at "gos"
      try rw [isNon_oV]
      cases most with
      | none => exact absurd rfl (ha.elim id id)
      | some b =>
        walk_at "gos"
        exact ⟨w' _, rfl, rfl, _, rfl, q⟩
    | some a =>
      walk_at "gos"
      refine x_some f2 ?_
      walk_at "gos"
      try rw [isNon_oV]
      cases most with
      | none =>
        walk_at "gos"
        refine x_some f1 ?_
        walk_at "gos"
        exact ⟨w' _, rfl, rfl, _, rfl, q⟩
      | some b =>
        walk_at "gos"
        refine x_some f2 ?_
        walk_at "gos"
        refine x_some f1 ?_
        walk_at "gos"
        refine lower_ok (ra_qv (sm b rfl)) (ra_qv (sl a rfl)) (by omega) (w' _) (by omega) ?_
        refine g_neg (hle a b rfl rfl) ?_
        walk_at "gos"
        refine x_some f1 ?_
        walk_at "gos"
        exact ⟨w' _, rfl, rfl, _, rfl, q⟩
end
end G
namespace G
section
variable {lo hi : Rat} {xs qs : List Rat} {h : VH} {Q : Val → VH → Prop} {l d : Nat}
theorem sub_tup0 {h : VH} {ks : List Rat} {a : Rat} (e : ks[0]? = some a) : subV h (.tup (ks.map qv)) (.int 0) = some (qv a) := sub_tup (k := 0) (by rw [List.getElem?_map, e]; rfl)
theorem sub_tupL {h : VH} {ks : List Rat} {a : Rat} (e : ks[ks.length - 1]? = some a) : subV h (.tup (ks.map qv)) (.int (-1)) = some (qv a) := (sub_last (x := qv a) (by rw [List.length_map, List.getElem?_map, e]; rfl)).1
/-- rows as they are passed -/
def Rv (v : Val) (rs : List RowD) : Prop := v = .lst (rs.map rowV) ∨ v = .tup (rs.map rowV)
theorem Rv.fseq {v : Val} {rs : List RowD} (r : Rv v rs) : M.fseq v = some (rs.map rowV) := by
  rcases r with rfl | rfl <;> rfl
def fnV (r : RowD) : Val := brV r.ks r.ps r.at_
theorem brV_eq (r : RowD) : fnV r = .obj c_Broken [(f_knots, .tup (r.ks.map qv)), (f_polys, .tup (r.ps.map polyV)), (f_at, .tup (r.at_.map qv))] := rfl
theorem need_stretch_ok {rs : List RowD} (hr : ∀ r ∈ rs, Rk lo hi xs qs r) (hln : rs.length ≤ 1000) (hl : 1 ≤ l) (w : h.wf) (q : Q .non h) : Gd (run T l i_need_stretch [.lst (rs.map fnV)] h) Q := by
  refine w_runp (body := b_need_stretch) rfl rfl (by omega) w ?_
  unfold b_need_stretch
  walk_at "gos"
  refine comp_mapa (l := rs) fnV (fun _ => .tup [qv lo, qv hi]) (by omega) (fun r hm R hR => ?_) ?_
  · rw [brV_eq]
    walk_at "gos"
    refine x_some (sub_tup0 (hr r hm).k0) ?_
    walk_at "gos"
    refine x_some (sub_tupL (hr r hm).k1) ?_
    walk_at "gos"
    exact hR
  · walk_at "gos"
    refine comp_mapa (l := rs) (fun _ => .tup [qv lo, qv hi]) (fun _ => Val.bl false) (by omega) (fun r hm R hR => ?_) ?_
    · walk_at "gos"
      have e0 : subV h (.lst (rs.map fun _ => Val.tup [qv lo, qv hi])) (.int 0) = some (.tup [qv lo, qv hi]) := by
        cases rs with
        | nil => cases hm
        | cons r rs => exact sub_lst (k := 0) rfl
      refine x_some e0 ?_
      walk_at "gos"
      have pv : plB 3 (.tup [qv lo, qv hi]) = true := by unfold qv plB plBs; rfl
      refine c_neP 3 (by decide) pv pv fun b hb => ?_
      cases b with
      | false => exact hR
      | true => exact absurd rfl (hb.mp rfl)
    · walk_at "gos"
      refine i_any (bls_map (fun _ => false) _) ?_
      have : ((rs.map fun _ => false).any id) = false := by
        simp
      rw [this]
      walk_at "gos"
      exact ⟨rfl, q⟩
theorem need_places_ok {v : Val} {rs : List RowD} (rv : Rv v rs) (hr : ∀ r ∈ rs, Rk lo hi xs qs r) (hl : 5 ≤ l) (w : h.wf) (q : Q .non h) : Gd (run T l i_need_places [shV xs qs, v] h) Q := by
  refine w_runp (body := b_need_places) rfl rfl (by omega) w ?_
  unfold b_need_places
  have es : shV xs qs = .obj c_Share [(f_places, .tup (xs.map qv)), (f_parts, .tup (qs.map qv))] := rfl
  walk_at "gos"
  refine x_some rv.fseq ?_
  refine for_fix (fun k σ h' => h' = h ∧ ∃ o2, σ = [some (shV xs qs), some v, o2]) ⟨rfl, none, rfl⟩ ?_ ?_
  · rintro k x σ h' hx ⟨rfl, o2, rfl⟩
    rw [List.getElem?_map] at hx
    obtain ⟨r, ha, rfl⟩ := Option.map_eq_some_iff.mp hx
    have R := hr r (List.mem_of_getElem? ha)
    have G := R.G
    have hx0 := G.x0
    obtain ⟨x, hx⟩ : ∃ a, xs[0]? = some a := ⟨xs[0]'(by omega), List.getElem?_eq_getElem _⟩
    obtain ⟨y, hy⟩ : ∃ b, xs[xs.length - 1]? = some b := ⟨xs[xs.length - 1]'(by omega), List.getElem?_eq_getElem _⟩
    have na := (G.on x (List.mem_of_getElem? hx)).1 _ R.k0
    have nb := (G.on y (List.mem_of_getElem? hy)).2 _ R.k1
    have er : rowV r = .obj c_Told [(f_function, .obj c_Broken [(f_knots, .tup (r.ks.map qv)), (f_polys, .tup (r.ps.map polyV)), (f_at, .tup (r.at_.map qv))]), (f_least, oV r.least), (f_most, oV r.most)] := rfl
    rw [er, es]
    walk_at "gos"
    refine x_some (sub_tup0 hx) ?_
    walk_at "gos"
    refine x_some (sub_tup0 R.k0) ?_
    walk_at "gos"
    refine lower_ok (ra_qv (G.sx x (List.mem_of_getElem? hx))) (ra_qv (G.B.sk lo (List.mem_of_getElem? R.k0))) (by omega) w (by omega) ?_
    refine g_neg na ?_
    walk_at "gos"
    refine x_some (sub_tupL R.k1) ?_
    walk_at "gos"
    refine x_some (sub_tupL hy) ?_
    walk_at "gos"
    refine lower_ok (ra_qv (G.B.sk hi (List.mem_of_getElem? R.k1))) (ra_qv (G.sx y (List.mem_of_getElem? hy))) (by omega) w (by omega) ?_
    refine g_neg nb ?_
    walk_at "gos"
    exact ⟨rfl, _, rfl⟩
  · rintro σ h' ⟨rfl, o2, rfl⟩
    walk_at "gos"
    exact ⟨rfl, q⟩
theorem ra_neg1 : Ra (.int (-1)) (-1 : Rat) 1 := ra_int (i := -1) (by decide) (by decide)
theorem ra_pos1 : Ra (.int 1) (1 : Rat) 1 := ra_int (i := 1) (by decide) (by decide)
def stg (f0 a b : Rat) : Nat → Rat
  | 0 => f0
  | 1 => mx f0 a
  | _ => mx (mx f0 a) b
theorem mx_pos {a b : Rat} (z : a < b) : mx a b = b := if_pos z
theorem mx_neg {a b : Rat} (z : ¬ a < b) : mx a b = a := if_neg z
theorem ra_z (n : Nat) (hn : 0 < n) : Ra (.tup [.int 0, .int 1]) (0 : Rat) n := ra_qv (q := 0) (sq_zero hn)
theorem miss_of_ok {v : Val} {rs : List RowD} (rv : Rv v rs) (hr : ∀ r ∈ rs, Rk lo hi xs qs r) (hl : 9 ≤ l) (w : h.wf) (q : Q (qv (missOf xs qs rs 0)) h) : Gd (run T l i_miss_of [shV xs qs, v] h) Q := by
  refine w_runp (body := b_miss_of) rfl rfl (by omega) w ?_
  unfold b_miss_of
  walk_at "gos"
  refine x_some rv.fseq ?_
  refine for_fix (fun k σ h' => h' = h ∧ k ≤ rs.length ∧ ∃ o3 o4 o5 o6 o7, σ = [some (shV xs qs), some v, some (qv (missOf xs qs (rs.take k) 0)), o3, o4, o5, o6, o7]) ⟨rfl, Nat.zero_le _, none, none, none, none, none, rfl⟩ ?_ ?_
  · rintro k x σ h' hx ⟨rfl, hk, o3, o4, o5, o6, o7, rfl⟩
    rw [List.getElem?_map] at hx
    obtain ⟨r, ha, rfl⟩ := Option.map_eq_some_iff.mp hx
    have hlt := (List.getElem?_eq_some_iff.mp ha).1
    have R := hr r (List.mem_of_getElem? ha)
    have er : rowV r = .obj c_Told [(f_function, brV r.ks r.ps r.at_), (f_least, oV r.least), (f_most, oV r.most)] := rfl
    have sf : Sq 600 (missOf xs qs (rs.take k) 0) := missOf_sq (fun r hm => hr r (List.mem_of_mem_take hm)) (sq_zero (by decide))
    rw [er]
    walk_at "gos"
    refine mean_ok R.G (by decide) (by decide) (by omega) w ?_
    have snoc : missOf xs qs (rs.take (k + 1)) 0 = rowMiss (meanF r.ks r.ps r.at_ xs qs) r (missOf xs qs (rs.take k) 0) := by
      rw [List.take_add_one, ha]
      exact missOf_snoc xs qs r _ _
    have mL := missL_sq R
    have mM := missM_sq R
    have sl := R.sl
    have so := R.so
    have sm := R.sm
    generalize meanF r.ks r.ps r.at_ xs qs = here at *
    generalize missOf xs qs (rs.take k) 0 = f0 at *
    have s1 := mx_sq sf mL
    walk_at "gos"
    refine for_fix (fun j σ h2 => h2 = h' ∧ j ≤ 2 ∧ ∃ o5 o6 o7, σ = [some (shV xs qs), some v, some (qv (stg f0 (missL here r.least) (missM here r.most) j)), some (rowV r), some (qv here), o5, o6, o7]) ⟨rfl, by omega, _, _, _, rfl⟩ ?_ ?_
    · rintro j x σ h2 hx ⟨rfl, hj, o5, o6, o7, rfl⟩
      have hj2 : j = 0 ∨ j = 1 := by
        have := (List.getElem?_eq_some_iff.mp hx).1
        simp at this
        omega
      rcases hj2 with rfl | rfl
      · simp at hx
        subst hx
        generalize missM here r.most = mo at *
        cases e : r.least with
        | none =>
          unfold oV
          walk_at "gos"
          refine lower_ok (ra_qv sf) (ra_z 600 (by decide)) (by omega) w (by omega) ?_
          refine g_if (fun z => ?_) fun z => ?_
          · walk_at "gos"
            exact ⟨rfl, by omega, _, _, _, by rw [show stg f0 (missL here none) mo (0 + 1) = 0 from mx_pos z]; rfl⟩
          · walk_at "gos"
            exact ⟨rfl, by omega, _, _, _, by rw [show stg f0 (missL here none) mo (0 + 1) = f0 from mx_neg z]; rfl⟩
        | some b =>
          rw [e] at mL
          have sb := sl b e
          have hb : isNon (qv b) = false := rfl
          unfold oV
          walk_at "gos"
          refine minus_ok (ra_qv sb) (ra_qv sm) (by omega) w (by omega) ?_
          walk_at "gos"
          refine times_ok ra_pos1 (ra_qv mL) (by omega) w (by omega) ?_
          rw [show (1 : Rat) * (b - here) = missL here (some b) from Rat.one_mul _]
          walk_at "gos"
          refine lower_ok (ra_qv sf) (ra_qv mL) (by omega) w (by omega) ?_
          refine g_if (fun z => ?_) fun z => ?_
          · walk_at "gos"
            exact ⟨rfl, by omega, _, _, _, by rw [show stg f0 (missL here (some b)) mo (0 + 1) = missL here (some b) from mx_pos z]; rfl⟩
          · walk_at "gos"
            exact ⟨rfl, by omega, _, _, _, by rw [show stg f0 (missL here (some b)) mo (0 + 1) = f0 from mx_neg z]; rfl⟩
      · simp at hx
        subst hx
        have es : stg f0 (missL here r.least) (missM here r.most) 1 = mx f0 (missL here r.least) := rfl
        rw [es]
        generalize hf1 : mx f0 (missL here r.least) = f1 at *
        have e2 : ∀ m, mx f1 (missM here r.most) = m → stg f0 (missL here r.least) (missM here r.most) (1 + 1) = m := fun m z => by
          show mx (mx f0 (missL here r.least)) (missM here r.most) = m
          rw [hf1]
          exact z
        cases e : r.most with
        | none =>
          rw [e] at e2
          unfold oV
          walk_at "gos"
          refine lower_ok (ra_qv s1) (ra_z 600 (by decide)) (by omega) w (by omega) ?_
          refine g_if (fun z => ?_) fun z => ?_
          · walk_at "gos"
            exact ⟨rfl, by omega, _, _, _, by rw [e2 0 (mx_pos z)]; rfl⟩
          · walk_at "gos"
            exact ⟨rfl, by omega, _, _, _, by rw [e2 f1 (mx_neg z)]; rfl⟩
        | some b =>
          rw [e] at mM e2
          have sb := so b e
          unfold oV
          walk_at "gos"
          refine minus_ok (ra_qv sb) (ra_qv sm) (by omega) w (by omega) ?_
          walk_at "gos"
          refine times_ok ra_neg1 (ra_qv (Sq.sub sb sm)) (by omega) w (by omega) ?_
          walk_at "gos"
          refine lower_ok (ra_qv s1) (ra_qv mM) (by omega) w (by omega) ?_
          refine g_if (fun z => ?_) fun z => ?_
          · walk_at "gos"
            exact ⟨rfl, by omega, _, _, _, by rw [e2 _ (mx_pos z)]; rfl⟩
          · walk_at "gos"
            exact ⟨rfl, by omega, _, _, _, by rw [e2 _ (mx_neg z)]; rfl⟩
    · rintro σ h2 ⟨rfl, hj, o5, o6, o7, rfl⟩
      walk_at "gos"
      exact ⟨rfl, hlt, some (rowV r), some (qv here), o5, o6, o7, by rw [snoc]; rfl⟩
  · rintro σ h' ⟨rfl, hk, o3, o4, o5, o6, o7, rfl⟩
    walk_at "gos"
    rw [List.length_map, List.take_length]
    exact ⟨rfl, q⟩
theorem missed_ok {v : Val} {rs : List RowD} (rv : Rv v rs) (hr : ∀ r ∈ rs, Rk lo hi xs qs r) (hln : rs.length ≤ 1000) (hl : 10 ≤ l) (w : h.wf) (q : Q (qv (missOf xs qs rs 0)) h) : Gd (run T l i_missed [shV xs qs, v] h) Q := by
  refine w_runp (body := b_missed) rfl rfl (by omega) w ?_
  unfold b_missed
  walk_at "gos"
  refine x_some rv.fseq ?_
  refine comp_mapa (l := rs) rowV fnV (by omega) (fun r hm R hR => ?_) ?_
  · have er : rowV r = .obj c_Told [(f_function, brV r.ks r.ps r.at_), (f_least, oV r.least), (f_most, oV r.most)] := rfl
    rw [er]
    walk_at "gos"
    exact hR
  · walk_at "gos"
    refine need_stretch_ok hr hln (by omega) w ?_
    walk_at "gos"
    refine need_places_ok rv hr (by omega) w ?_
    walk_at "gos"
    refine miss_of_ok rv hr (by omega) w ?_
    walk_at "gos"
    exact ⟨rfl, q⟩
/-- to so many bits; none: just so -/
def gapB : Option Nat → Rat
  | none => 0
  | some m => Rat.divInt 1 (2 ^ m : Nat)
def bitV : Option Nat → Val
  | none => .non
  | some m => .int (m : Nat)
theorem pow_nat {m : Nat} (hm : m ≤ 60) : (2 ^ m : Nat) < 2 ^ 61 := Nat.pow_lt_pow_right (by decide) (by omega)
theorem shl_ok {h : VH} {m : Nat} {R : Val → VH → Prop} (hm : m ≤ 60) (hR : R (.int (2 ^ m : Nat)) h) : outG false (binV h .shl (.int 1) (.int (m : Nat))) h R := by
  have e : binV h .shl (.int 1) (.int (m : Nat)) = some (.v (.int (2 ^ m : Nat))) := by
    show (binI .shl 1 (m : Nat)).map Rv.v = _
    unfold binI
    dsimp only
    rw [if_pos ⟨by omega, by omega, by decide⟩]
    congr 2
    rw [Int.one_mul, Int.toNat_natCast]
    push_cast
    rfl
  rw [e]
  exact o_v hR
theorem is_whole_nat {m : Nat} (hl : 1 ≤ l) (w : h.wf) (q : Q (.bl true) h) : Gd (run T l i_is_whole [.int (m : Nat)] h) Q := by
  refine w_runp (body := b_is_whole) rfl rfl (by omega) w ?_
  unfold b_is_whole
  walk_at "gos"
  exact ⟨rfl, q⟩
theorem fits_ok {v : Val} {rs : List RowD} {o : Option Nat} (rv : Rv v rs) (hr : ∀ r ∈ rs, Rk lo hi xs qs r) (hln : rs.length ≤ 1000) (ho : ∀ m, o = some m → m ≤ 60) (hl : 10 ≤ l) (w : h.wf) (q : Q (.bl (!decide (gapB o < missOf xs qs rs 0))) h) : Gd (run T l i_fits [shV xs qs, v, bitV o] h) Q := by
  refine w_runp (body := b_fits) rfl rfl (by omega) w ?_
  unfold b_fits
  walk_at "gos"
  refine x_some rv.fseq ?_
  refine comp_mapa (l := rs) rowV fnV (by omega) (fun r hm R hR => ?_) ?_
  · have er : rowV r = .obj c_Told [(f_function, brV r.ks r.ps r.at_), (f_least, oV r.least), (f_most, oV r.most)] := rfl
    rw [er]
    walk_at "gos"
    exact hR
  · have sm : Sq 600 (missOf xs qs rs 0) := missOf_sq hr (sq_zero (by decide))
    walk_at "gos"
    refine need_stretch_ok hr hln (by omega) w ?_
    cases o with
    | none =>
      unfold bitV
      walk_at "gos"
      refine need_places_ok rv hr (by omega) w ?_
      walk_at "gos"
      refine miss_of_ok rv hr (by omega) w ?_
      walk_at "gos"
      refine lower_ok (ra_z 1 (by decide)) (ra_qv sm) (by omega) w (by omega) ?_
      walk_at "gos"
      exact ⟨rfl, q⟩
    | some m =>
      have hm := ho m rfl
      unfold bitV
      walk_at "gos"
      refine is_whole_nat (by omega) w ?_
      walk_at "gos"
      refine ⟨fun z => absurd z (by simp), fun _ => ?_⟩
      walk_at "gos"
      have h60 : ((m : Nat) : Int) ≤ 60 := by omega
      refine g_ifn (fun z => absurd h60 z) fun _ => ?_
      walk_at "gos"
      refine need_places_ok rv hr (by omega) w ?_
      walk_at "gos"
      refine shl_ok hm ?_
      walk_at "gos"
      refine miss_of_ok rv hr (by omega) w ?_
      walk_at "gos"
      have hp : 0 < 2 ^ m := Nat.pow_pos (by decide)
      have hlt := pow_nat hm
      have rg : Ra (.tup [.int 1, .int (2 ^ m : Nat)]) (gapB (some m)) 61 := ⟨1, (2 ^ m : Nat), by omega, rfl, by decide, by omega, .inr (.inl rfl)⟩
      refine lower_ok rg (ra_qv sm) (by omega) w (by omega) ?_
      walk_at "gos"
      exact ⟨rfl, q⟩
theorem fits_d_ok {v : Val} {rs : List RowD} (rv : Rv v rs) (hr : ∀ r ∈ rs, Rk lo hi xs qs r) (hln : rs.length ≤ 1000) (hl : 10 ≤ l) (w : h.wf) (q : Q (.bl (!decide (0 < missOf xs qs rs 0))) h) : Gd (run T l i_fits_d [shV xs qs, v] h) Q := by
  have e : Gd (run T l i_fits [shV xs qs, v, .non] h) Q := fits_ok (o := none) rv hr hln (fun m z => by cases z) hl w q
  obtain ⟨l, rfl⟩ : ∃ m, l = m + 1 := ⟨l - 1, by omega⟩
  have e2 : run T (l + 1) i_fits_d [shV xs qs, v] h = run T (l + 1) i_fits [shV xs qs, v, .non] h := by
    unfold M.run
    rw [show T.defs[i_fits_d]? = some (.fn 2 4 (.cons (.set 2 .non) b_fits)) from rfl, show T.defs[i_fits]? = some (.fn 3 4 b_fits) from rfl]
    dsimp only
    rw [if_pos (show [shV xs qs, v].length = 2 from rfl), if_pos (show [shV xs qs, v, Val.non].length = 3 from rfl)]
    have z := pad_run (T := T) (C := M.run T l) (ns := 4) (b0 := b_fits) 1 [shV xs qs, v] h (by show 2 + 1 ≤ 4; decide)
    have z' : evSs T (M.run T l) (begin_ 4 [shV xs qs, v]) (.cons (.set 2 .non) b_fits) h = evSs T (M.run T l) (begin_ 4 [shV xs qs, v, .non]) b_fits h := z
    unfold bindM
    rw [z']
  rw [e2]
  exact e
end
end G
namespace G
theorem trimN_last : ∀ qs : List Rat, 0 < trimN qs → ∃ a, qs[trimN qs - 1]? = some a ∧ a ≠ 0
  | [], h => by cases h
  | q :: qs, h => by
    by_cases z : 0 < trimN qs
    · obtain ⟨a, e, ne⟩ := trimN_last qs z
      refine ⟨a, ?_, ne⟩
      rw [trimN, if_pos z]
      obtain ⟨m, hm⟩ : ∃ m, trimN qs = m + 1 := ⟨trimN qs - 1, by omega⟩
      rw [hm] at e ⊢
      simpa using e
    · have e : trimN (q :: qs) = if q = 0 then 0 else 1 := by rw [trimN, if_neg z]
      rw [e] at h ⊢
      by_cases hq : q = 0
      · rw [if_pos hq] at h
        cases h
      · rw [if_neg hq]
        exact ⟨q, rfl, hq⟩
theorem trimN_eq {qs : List Rat} {m : Nat} (hm : m ≤ qs.length) (hz : ∀ i q, m ≤ i → qs[i]? = some q → q = 0) (hl : m = 0 ∨ ∃ a, qs[m - 1]? = some a ∧ a ≠ 0) : trimN qs = m := by
  have h1 : trimN qs ≤ m := by
    rcases Nat.lt_or_ge m (trimN qs) with z | z
    · obtain ⟨a, e, ne⟩ := trimN_last qs (by omega)
      exact absurd (hz _ a (by omega) e) ne
    · exact z
  rcases hl with rfl | ⟨a, e, ne⟩
  · omega
  · rcases Nat.lt_or_ge (trimN qs) m with z | z
    · exact absurd (trim_rest qs (m - 1) (by omega) a e) ne
    · omega
theorem evalP_add : ∀ (l m : List Rat) (x : Rat), l.length = m.length → evalP ((l.zip m).map fun p => p.1 + p.2) x = evalP l x + evalP m x
  | [], [], x, _ => by show (0 : Rat) = 0 + 0; grind
  | a :: l, b :: m, x, h => by
    have ih := evalP_add l m x (Nat.succ.inj h)
    show a + b + x * evalP ((l.zip m).map fun p => p.1 + p.2) x = a + x * evalP l x + (b + x * evalP m x)
    rw [ih]
    grind
  | [], b :: m, x, h => by cases h
  | a :: l, [], x, h => by cases h
theorem evalP_pad : ∀ (l : List Rat) (k : Nat) (x : Rat), evalP (l ++ List.replicate k 0) x = evalP l x
  | [], k, x => evalP_zeros _ x fun q hq => (List.mem_replicate.mp hq).2
  | a :: l, k, x => by
    show a + x * evalP (l ++ List.replicate k 0) x = _
    rw [evalP_pad l k x]
    rfl
def zsum (a b : List Rat) : List Rat := ((a ++ List.replicate (max a.length b.length - a.length) 0).zip (b ++ List.replicate (max a.length b.length - b.length) 0)).map fun p : Rat × Rat => p.1 + p.2
theorem evalP_zsum (a b : List Rat) (x : Rat) : evalP (zsum a b) x = evalP a x + evalP b x := by
  unfold zsum
  rw [evalP_add _ _ _ (by rw [List.length_append, List.length_append, List.length_replicate, List.length_replicate]; omega), evalP_pad, evalP_pad]
section
variable {h : VH} {Q : Val → VH → Prop} {l d : Nat}
theorem sub_ref {i : Nat} {xs : List Val} {k : Int} (e : h.get i = some (.lst xs)) : subV h (.ref i) (.int k) = (M.ixN xs.length k).bind fun j => xs[j]? := by
  unfold subV
  dsimp only
  rw [e]
theorem ixN_last {n : Nat} (h : 0 < n) : M.ixN n (-1) = some (n - 1) := by
  unfold M.ixN L2.ixN
  rw [if_neg (by omega), if_pos (by omega)]
  congr 1
  omega
theorem sub_refL {i : Nat} {xs : List Val} {x : Val} (e : h.get i = some (.lst xs)) (hx : xs[xs.length - 1]? = some x) : subV h (.ref i) (.int (-1)) = some x := by
  rw [sub_ref e, ixN_last (by have := (List.getElem?_eq_some_iff.mp hx).1; omega)]
  exact hx
theorem sub_refN {i k : Nat} {xs : List Val} {x : Val} (e : h.get i = some (.lst xs)) (hx : xs[k]? = some x) : subV h (.ref i) (.int (k : Nat)) = some x := by
  rw [sub_ref e]
  have := sub_lst (h := h) hx
  exact this
theorem len_ref {i : Nat} {xs : List Val} {m : Bool} (e : h.get i = some (.lst xs)) (q : Q (.int xs.length) h) : outG m (biV h .len [.ref i]) h Q := by
  have e2 : biV h .len [.ref i] = some (.v (.int xs.length)) := by
    show (seqOf h (.ref i)).map _ = _
    unfold seqOf
    dsimp only
    rw [e]
    rfl
  rw [e2]
  exact o_v q
theorem lm_pop {i : Nat} {xs : List Val} {y : Val} (e : h.get i = some (.lst xs)) (hy : xs[xs.length - 1]? = some y) (q : Q y (h.set i (.lst xs.dropLast))) : Gd (lmV .pop (.ref i) [] h) Q := by
  show Gd (lmPop (.ref i) [] h) Q
  unfold lmPop
  dsimp only
  rw [e]
  dsimp only
  rw [hy]
  exact gd_ret q
theorem take_dropLast {α : Type} {l : List α} {m : Nat} (h : m + 1 ≤ l.length) : (l.take (m + 1)).dropLast = l.take m := by
  rw [List.dropLast_eq_take, List.length_take, List.take_take]
  congr 1
  omega
theorem take_last {α : Type} {l : List α} {m : Nat} (h : m + 1 ≤ l.length) : (l.take (m + 1))[(l.take (m + 1)).length - 1]? = l[m]? := by
  rw [List.length_take, List.getElem?_take]
  rw [if_pos (by omega)]
  congr 1
  omega
theorem num_ne {a : Rat} : a.num ≠ 0 ↔ a ≠ 0 := not_congr Rat.num_eq_zero
theorem L_poly_ok {qs : List Rat} (hlen : qs.length ≤ 1000) (hl : 1 ≤ l) (w : h.wf) (q : Q (.lst ((trim qs).map qv)) h) : Gd (run T l i_L_poly [.lst (qs.map qv)] h) Q := by
  refine w_runt (body := b_L_poly) rfl rfl (by omega) ?_
  unfold b_L_poly
  walk_at "gos"
  refine ⟨by rw [List.length_map]; unfold okR; simp; omega, ?_⟩
  have fin : ∀ m, m ≤ qs.length → (∀ i q, m ≤ i → qs[i]? = some q → q = 0) → (m = 0 ∨ ∃ a, qs[m - 1]? = some a ∧ a ≠ 0) → qs.take m = trim qs := fun m h1 h2 h3 => by
    unfold trim
    rw [trimN_eq h1 h2 h3]
  refine for_rng (fun k σ h' => ∃ m o2, h' = h.push (.lst ((qs.take m).map qv)) ∧ σ = [some (.lst (qs.map qv)), some (.ref h.next), o2] ∧ m + k = qs.length ∧ ∀ i q, m ≤ i → qs[i]? = some q → q = 0)
    ⟨qs.length, none, by rw [List.take_length], rfl, rfl, fun i q hi e => by rw [List.getElem?_eq_none hi] at e; cases e⟩ ?_ ?_
  · rintro k σ h' hk ⟨m, o2, rfl, rfl, hm, hz⟩
    have gp : (h.push (.lst ((qs.take m).map qv))).get h.next = some (.lst ((qs.take m).map qv)) := push_get
    walk_at "gos"
    refine c_eqL 3 (by decide) gp (pl_qvs (by decide)) (by rfl) fun b hb => ?_
    refine g_bool (fun hbt => ?_) fun hbf => ?_
    · have h0 : m = 0 := by
        have := List.map_eq_nil_iff.mp (hb.mp hbt)
        rcases List.take_eq_nil_iff.mp this with z | z
        · exact z
        · rw [z] at hm; simpa using (show m = 0 by simp at hm; omega)
      have ef := fin m (by omega) hz (.inl h0)
      walk_at "gos"
      refine frz_l gp ?_
      walk_at "gos"
      rw [ef]
      exact ⟨norefs_qv _, (Ex.push (Ex.self w)).erase (Nat.le_refl _), q⟩
    · have h0 : 0 < m := by
        rcases Nat.eq_zero_or_pos m with z | z
        · subst z
          rw [hb.mpr rfl] at hbf
          cases hbf
        · exact z
      obtain ⟨n, rfl⟩ : ∃ n, m = n + 1 := ⟨m - 1, by omega⟩
      obtain ⟨a, ha⟩ : ∃ a, qs[n]? = some a := ⟨qs[n]'(by omega), List.getElem?_eq_getElem _⟩
      have hla : ((qs.take (n + 1)).map qv)[((qs.take (n + 1)).map qv).length - 1]? = some (qv a) := by
        rw [List.length_map, List.getElem?_map, take_last (by omega), ha]
        rfl
      have sl := sub_refL gp hla
      walk_at "gos"
      refine x_some sl ?_
      walk_at "gos"
      refine g_ifn (fun z => ?_) fun z => ?_
      · have ef := fin (n + 1) (by omega) hz (.inr ⟨a, ha, num_ne.mp z⟩)
        walk_at "gos"
        refine frz_l gp ?_
        walk_at "gos"
        rw [ef]
        exact ⟨norefs_qv _, (Ex.push (Ex.self w)).erase (Nat.le_refl _), q⟩
      · walk_at "gos"
        refine lm_isL gp ?_
        walk_at "gos"
        refine lm_pop gp hla ?_
        walk_at "gos"
        refine ⟨n, _, ?_, rfl, by omega, fun i c hi e => ?_⟩
        · rw [push_set', ← List.map_dropLast, take_dropLast (by omega)]
        · rcases Nat.eq_or_lt_of_le hi with z2 | z2
          · subst z2
            rw [ha] at e
            cases e
            exact Rat.num_eq_zero.mp z
          · exact hz i c z2 e
  · rintro σ h' ⟨m, o2, rfl, rfl, hm, hz⟩
    rw [List.length_map] at hm
    have h0 : m = 0 := by omega
    have ef := fin m (by omega) hz (.inl h0)
    walk_at "gos"
    refine frz_l push_get ?_
    walk_at "gos"
    rw [ef]
    exact ⟨norefs_qv _, (Ex.push (Ex.self w)).erase (Nat.le_refl _), q⟩
theorem flat_rep {z : Val} : ∀ k : Nat, (List.replicate k [z]).flatten = List.replicate k z
  | 0 => rfl
  | k + 1 => by
    rw [List.replicate_succ, List.replicate_succ, List.flatten_cons, flat_rep k]
    rfl
theorem mul_list {z : Val} {k : Nat} {m : Bool} (hk : k ≤ 1000) (q : outG m (some (.nl (List.replicate k z))) h Q) : outG m (binV h .mul (.lst [z]) (.int (k : Nat))) h Q := by
  have e : binV h .mul (.lst [z]) (.int (k : Nat)) = some (.nl (List.replicate k z)) := by
    show (match seqOf h (.lst [z]) with
      | some xs => if sz (xs.length * (k : Int).toNat) && decide ((k : Int) < 1000000) && decide (-1000000 < (k : Int)) then some (Rv.nl (List.replicate (k : Int).toNat xs).flatten) else none
      | none => none) = _
    unfold seqOf
    dsimp only
    rw [if_pos]
    · rw [Int.toNat_natCast]
      rw [flat_rep]
    · rw [Int.toNat_natCast]
      unfold sz
      simp
      omega
  rw [e]
  exact q
theorem L_p_at_ok {ns : List Rat} {v : Val} {x : Rat} {n t s : Nat} (hs : ∀ q ∈ ns, Sq n q) (hx : Rp v x t) (hd : ∀ k, Sq s (evalP (ns.drop k) x)) (hb : s + t + n < 4000) (hlen : ns.length ≤ 1000) (hl : 4 ≤ l) (w : h.wf) (q : Q (qv (evalP ns x)) h) : Gd (run T l i_L_p_at [.lst (ns.map qv), v] h) Q := by
  refine w_runp (body := b_L_p_at) rfl rfl (by omega) w ?_
  unfold b_L_p_at
  walk_at "gos"
  rw [← List.map_reverse]
  refine for_fix (fun k σ h' => h' = h ∧ k ≤ ns.length ∧ ∃ o3, σ = [some (.lst (ns.map qv)), some v, some (qv (evalP (ns.drop (ns.length - k)) x)), o3]) ⟨rfl, Nat.zero_le _, none, by rw [Nat.sub_zero, List.drop_length]; rfl⟩ ?_ ?_
  · rintro k u σ h' hk ⟨rfl, hkl, o3, rfl⟩
    rw [List.getElem?_map] at hk
    obtain ⟨a, ha, rfl⟩ := Option.map_eq_some_iff.mp hk
    have hlt := (List.getElem?_eq_some_iff.mp ha).1
    rw [List.length_reverse] at hlt
    have ma : a ∈ ns := by
      have := List.mem_of_getElem? ha
      rwa [List.mem_reverse] at this
    rw [List.getElem?_reverse hlt] at ha
    have hidx : ns.length - 1 - k = ns.length - (k + 1) := by omega
    rw [hidx] at ha
    have hsa := hs a ma
    have st := evalP_drop (qs := ns) (x := x) ha
    have e1 : ns.length - (k + 1) + 1 = ns.length - k := by omega
    rw [e1] at st
    have h1 := hd (ns.length - k)
    walk_at "gos"
    refine L_times_ok (rp_qv h1) hx (by omega) w (by omega) ?_
    walk_at "gos"
    refine L_plus_ok (rp_qv (Sq.mul h1 hx.ra.sq)) (rp_qv hsa) (by omega) w (by omega) ?_
    walk_at "gos"
    refine ⟨rfl, by omega, some (qv a), ?_⟩
    rw [st]
    rw [show a + x * evalP (ns.drop (ns.length - k)) x = evalP (ns.drop (ns.length - k)) x * x + a by grind]
    rfl
  · rintro σ h' ⟨rfl, hkl, o3, rfl⟩
    walk_at "gos"
    rw [List.length_map, List.length_reverse, Nat.sub_self, List.drop_zero]
    exact ⟨rfl, q⟩
end
end G
namespace G
theorem trim_len (qs : List Rat) : (trim qs).length ≤ qs.length := by
  unfold trim
  rw [List.length_take]
  omega
theorem trim_mem {qs : List Rat} {q : Rat} (h : q ∈ trim qs) : q ∈ qs := List.mem_of_mem_take h
theorem trim_trim (qs : List Rat) : trim (trim qs) = trim qs := trim_of (trimN_trim qs)
section
variable {h : VH} {Q : Val → VH → Prop} {l d : Nat}
theorem map_zeros (a : List Rat) (k : Nat) : a.map qv ++ List.replicate k (Val.tup [.int 0, .int 1]) = (a ++ List.replicate k 0).map qv := by
  rw [List.map_append, List.map_replicate]
  rfl
theorem L_p_plus_ok {a b : List Rat} {n : Nat} (ha : ∀ x ∈ a, Sq n x) (hb : ∀ x ∈ b, Sq n x) (h0 : 0 < n) (hn : n < 1900) (la : a.length ≤ 500) (lb : b.length ≤ 500) (hl : 4 ≤ l) (w : h.wf) (q : Q (.lst ((trim (zsum a b)).map qv)) h) : Gd (run T l i_L_p_plus [.lst (a.map qv), .lst (b.map qv)] h) Q := by
  refine w_runp (body := b_L_p_plus) rfl rfl (by omega) w ?_
  unfold b_L_p_plus
  have hmax : maxI [((a.map qv).length : Int), ((b.map qv).length : Int)] = some ((max a.length b.length : Nat) : Int) := by
    rw [List.length_map, List.length_map]
    show some (if ((b.length : Nat) : Int) > ((a.length : Nat) : Int) then ((b.length : Nat) : Int) else ((a.length : Nat) : Int)) = _
    congr 1
    split <;> omega
  walk_at "gos"
  refine i_max (ns := [((a.map qv).length : Int), ((b.map qv).length : Int)]) rfl hmax ?_
  have e1 : ((max a.length b.length : Nat) : Int) - ((a.map qv).length : Int) = ((max a.length b.length - a.length : Nat) : Int) := by
    rw [List.length_map]
    omega
  have e2 : ((max a.length b.length : Nat) : Int) - ((b.map qv).length : Int) = ((max a.length b.length - b.length : Nat) : Int) := by
    rw [List.length_map]
    omega
  walk_at "gos"
  rw [e1]
  refine mul_list (by omega) ?_
  walk_at "gos"
  rw [add_lists (by rw [List.length_map, List.length_replicate]; omega), map_zeros]
  walk_at "gos"
  rw [e2]
  refine mul_list (by omega) ?_
  walk_at "gos"
  rw [add_lists (by rw [List.length_map, List.length_replicate]; omega), map_zeros]
  walk_at "gos"
  refine ⟨_, _, rfl, rfl, ?_⟩
  rw [zip2_map]
  have pad : ∀ (c : List Rat) (k : Nat), (∀ x ∈ c, Sq n x) → ∀ x ∈ c ++ List.replicate k 0, Sq n x := fun c k hc x hx => by
    rcases List.mem_append.mp hx with z | z
    · exact hc x z
    · rw [(List.mem_replicate.mp z).2]
      exact sq_zero h0
  refine comp_mapa (l := (a ++ List.replicate (max a.length b.length - a.length) 0).zip (b ++ List.replicate (max a.length b.length - b.length) 0)) (fun p => .tup [qv p.1, qv p.2]) (fun p => qv (p.1 + p.2)) (by rw [List.length_zip, List.length_append, List.length_append, List.length_replicate, List.length_replicate]; omega) (fun p hp R hR => ?_) ?_
  · have m := List.of_mem_zip hp
    walk_at "gos"
    refine L_plus_ok (rp_qv (pad a _ ha _ m.1)) (rp_qv (pad b _ hb _ m.2)) (by omega) w (by omega) ?_
    exact hR
  · walk_at "gos"
    have e3 : (((a ++ List.replicate (max a.length b.length - a.length) 0).zip (b ++ List.replicate (max a.length b.length - b.length) 0)).map fun p : Rat × Rat => qv (p.1 + p.2)) = (zsum a b).map qv := by
      unfold zsum
      rw [List.map_map]
      rfl
    rw [e3]
    refine L_poly_ok ?_ (by omega) w ?_
    · unfold zsum
      rw [List.length_map, List.length_zip, List.length_append, List.length_append, List.length_replicate, List.length_replicate]
      omega
    · walk_at "gos"
      exact ⟨rfl, q⟩
theorem L_ratio_dz {m : Int} (m0 : 0 < m) (m1 : m ≤ 10) (p : Pn h d) (hd : d + 4 < 900000000000) (hl : 3 ≤ l) (q : ∀ a d' (b : Nat), d ≤ d' → d' ≤ d + 4 → 0 < b → b ≤ 99 → Dz b m.toNat a → Q (qv a) (sp h d')) : Gd (run T l i_L_ratio [.ref 0, .int m] h) Q := by
  refine w_rund (body := b_L_ratio) rfl rfl (by omega) p.wf ?_
  unfold b_L_ratio
  walk_at "gos"
  refine draw_ok rfl (by omega) p (by decide) (by decide) (by omega) fun i hi => ?_
  walk_at "gos"
  refine L_pick_ok (by simp) (by simp) p.sp (by omega) (by omega) fun v hv => ?_
  rw [sp_sp]
  have hb : ∃ b : Int, v = .int b ∧ 0 < b ∧ b ≤ 99 := by
    simp only [List.mem_cons, List.not_mem_nil, or_false] at hv
    rcases hv with rfl | rfl | rfl | rfl | rfl | rfl | rfl
    · exact ⟨1, rfl, by decide, by decide⟩
    · exact ⟨1, rfl, by decide, by decide⟩
    · exact ⟨2, rfl, by decide, by decide⟩
    · exact ⟨3, rfl, by decide, by decide⟩
    · exact ⟨7, rfl, by decide, by decide⟩
    · exact ⟨10, rfl, by decide, by decide⟩
    · exact ⟨1 + i, rfl, by omega, by omega⟩
  obtain ⟨b, rfl, b0, b1⟩ := hb
  have hm : m.natAbs < 2 ^ 4 := by omega
  have hb7 : b.natAbs < 2 ^ 7 := by omega
  have h2m : (2 * m).natAbs < 2 ^ 5 := by omega
  walk_at "gos"
  refine b_mul (a := 2) (by decide) hm (by omega) ?_
  walk_at "gos"
  refine b_mul h2m hb7 (by omega) ?_
  walk_at "gos"
  have e1 : 2 * m * b = 2 * (m * b) := Int.mul_assoc _ _ _
  have e2 : 0 < m * b := Int.mul_pos m0 b0
  have e3 : m * b ≤ 990 := by
    have := Int.mul_le_mul m1 b1 (by omega) (by omega)
    omega
  refine draw_ok rfl (by omega) p.sp (by omega) (by omega) (by omega) fun k hk => ?_
  rw [sp_sp]
  walk_at "gos"
  refine b_mul hm hb7 (by omega) ?_
  walk_at "gos"
  refine L_q_ok (n := 7) (by omega) hb7 (by omega) (by omega) (wf_set p.wf) ?_
  walk_at "gos"
  refine ⟨_, rfl, q _ _ b.toNat (by omega) (by omega) (by omega) (by omega) ?_⟩
  have eb : b = ((b.toNat : Nat) : Int) := by omega
  have em : m = ((m.toNat : Nat) : Int) := by omega
  have key : ((k : Int) - m * b).natAbs ≤ m.toNat * b.toNat := by
    have : ((m.toNat * b.toNat : Nat) : Int) = m * b := by
      rw [Int.natCast_mul, ← eb, ← em]
    omega
  have := dz_div (a := (k : Int) - m * b) (b := b.toNat) (B := m.toNat) (by omega) key
  rw [← eb] at this
  exact this
theorem L_interval_ok (p : Pn h d) (hd : d + 20 < 900000000000) (hl : 4 ≤ l) (q : ∀ a b d' M, d ≤ d' → d' ≤ d + 9 → a < b → 0 < M → M ≤ 39204 → Dz M 5 a → Dz M 5 b → Q (.tup [qv a, qv b]) (sp h d')) : Gd (run T l i_L_interval [.ref 0, .int 4] h) Q := by
  refine w_rund (body := b_L_interval) rfl rfl (by omega) p.wf ?_
  unfold b_L_interval
  walk_at "gos"
  refine L_ratio_dz (by decide) (by decide) p (by omega) (by omega) fun a d1 A l1 l2 a0 a1 za => ?_
  have sa : Sq 11 a := za.sq a0 (by show 4 * A < 2048; omega) (by show A < 2048; omega)
  walk_at "gos"
  refine L_ratio_dz (by decide) (by decide) p.sp (by omega) (by omega) fun b d2 B l3 l4 b0 b1 zb => ?_
  have sb : Sq 11 b := zb.sq b0 (by show 4 * B < 2048; omega) (by show B < 2048; omega)
  rw [sp_sp]
  have mul_le : ∀ x y : Nat, x ≤ 99 → y ≤ 396 → x * y ≤ 39204 := fun x y hx hy => Nat.mul_le_mul hx hy
  have fin : ∀ (c : Rat) (d3 C : Nat), d2 ≤ d3 → d3 ≤ d2 + 1 → 0 < C → C ≤ 396 → Dz C 5 c → Sq 20 c → a ≠ c → ∀ R : Val → VH → Prop, (∀ x y, ((x = a ∧ y = c) ∨ (x = c ∧ y = a)) → x < y → R (.tup [qv x, qv y]) (sp h d3)) → R (.tup [qv a, qv c]) (sp h d3) ∨ True := fun _ _ _ _ _ _ _ _ _ _ _ _ => .inr trivial
  have go : ∀ (c : Rat) (d3 C : Nat), d2 ≤ d3 → d3 ≤ d2 + 1 → 0 < C → C ≤ 396 → Dz C 5 c → ∀ x y, ((x = a ∧ y = c) ∨ (x = c ∧ y = a)) → x < y → Q (.tup [qv x, qv y]) (sp h d3) := fun c d3 C k1 k2 k3 k4 zc x y hxy hlt => by
    have z1 : Dz (A * C) 5 a := (za.mono (by decide)).lift C
    have z2 : Dz (A * C) 5 c := zc.dvd (Nat.dvd_mul_left _ _)
    have hp : 0 < A * C := Nat.mul_pos a0 k3
    rcases hxy with ⟨rfl, rfl⟩ | ⟨rfl, rfl⟩
    · exact q _ _ d3 (A * C) (by omega) (by omega) hlt hp (mul_le _ _ a1 k4) z1 z2
    · exact q _ _ d3 (A * C) (by omega) (by omega) hlt hp (mul_le _ _ a1 k4) z2 z1
  walk_at "gos"
  refine c_eqQ ?_
  refine g_if (fun e => ?_) fun e => ?_
  · subst e
    walk_at "gos"
    refine draw_ok rfl (by omega) p.sp (by decide) (by decide) (by omega) fun i hi => ?_
    rw [sp_sp]
    have wd : (P.sp h (d2 + 1)).wf := p.sp.wf
    have zi : Dz (1 + (i : Int)).toNat 1 (Rat.divInt 1 (1 + i)) := by
      have := dz_div (a := 1) (b := (1 + (i : Int)).toNat) (B := 1) (by omega) (by show 1 ≤ 1 * _; omega)
      rw [show (((1 + (i : Int)).toNat : Nat) : Int) = 1 + i by omega] at this
      exact this
    walk_at "gos"
    refine L_plus_ok (n := 11) (m := 4) (rp_qv sa) (rp_lit (by omega) (by decide) (by omega)) (by omega) wd (by omega) ?_
    have zc : Dz (A * (1 + (i : Int)).toNat) 5 (a + Rat.divInt 1 (1 + i)) := ((za.lift _).mono (show 4 ≤ 4 by decide)).add (zi.dvd (Nat.dvd_mul_left _ _))
    have sc : Sq 20 (a + Rat.divInt 1 (1 + i)) := (Sq.add sa (Sq.div (n := 4) (by omega) (by decide) (by omega))).mono (by decide)
    have hi1 : (1 + (i : Int)).toNat ≤ 4 := by omega
    have hi0 : 0 < (1 + (i : Int)).toNat := by omega
    have hC : A * (1 + (i : Int)).toNat ≤ 396 := Nat.mul_le_mul a1 hi1
    have g := go _ (d2 + 1) (A * (1 + (i : Int)).toNat) (by omega) (by omega) (Nat.mul_pos a0 hi0) hC zc
    have hne : a < a + Rat.divInt 1 (1 + i) := by
      have := div_pos' (w := 1) (s := 1 + (i : Int)) (by decide) (by omega)
      grind
    walk_at "gos"
    refine L_less_ok (rp_qv sa) (rp_qv sc) (by omega) wd (by omega) ?_
    refine g_pos hne ?_
    walk_at "gos"
    exact ⟨_, rfl, g _ _ (.inl ⟨rfl, rfl⟩) hne⟩
  · have g := go b d2 B (by omega) (by omega) b0 (by omega) (zb.mono (by decide))
    have wd : (P.sp h d2).wf := p.sp.wf
    walk_at "gos"
    refine L_less_ok (rp_qv sa) (rp_qv sb) (by omega) wd (by omega) ?_
    refine g_if (fun z => ?_) fun z => ?_
    · walk_at "gos"
      exact ⟨_, rfl, g _ _ (.inl ⟨rfl, rfl⟩) z⟩
    · walk_at "gos"
      exact ⟨_, rfl, g _ _ (.inr ⟨rfl, rfl⟩) (by grind)⟩
/-! ### the law's functions -/
def polyL (p : List Rat) : Val := .lst (p.map qv)
def fnL (ks : List Rat) (ps : List (List Rat)) (at_ : List Rat) : Val := .tup [.lst (ks.map qv), .lst (ps.map polyL), .lst (at_.map qv)]
theorem toDs_get : ∀ {xs : List Val} {ds : List PyData}, Val.toDs xs = some ds → ∀ (j : Nat) (v : Val), xs[j]? = some v → ∃ e, ds[j]? = some e ∧ v.toD = some e
  | [], ds, h, j, v, hv => by simp at hv
  | x :: xs, ds, h, j, v, hv => by
    unfold Val.toDs at h
    split at h
    · rename_i d1 ds1 q1 q2
      cases h
      cases j with
      | zero =>
        simp at hv
        subst hv
        exact ⟨d1, rfl, q1⟩
      | succ j =>
        obtain ⟨e, e1, e2⟩ := toDs_get q2 j v (by simpa using hv)
        exact ⟨e, by simpa using e1, e2⟩
    · cases h
theorem toDs_len : ∀ {xs : List Val} {ds : List PyData}, Val.toDs xs = some ds → ds.length = xs.length
  | [], ds, h => by
    cases h
    rfl
  | x :: xs, ds, h => by
    unfold Val.toDs at h
    split at h
    · rename_i d1 ds1 q1 q2
      cases h
      rw [List.length_cons, List.length_cons, toDs_len q2]
    · cases h
theorem findIdx_of {α : Type} {p : α → Bool} : ∀ {l : List α} {i : Nat} {a : α}, l[i]? = some a → p a = true → (∀ j b, j < i → l[j]? = some b → p b = false) → l.findIdx? p = some i
  | [], i, a, h, _, _ => by simp at h
  | x :: l, 0, a, h, hp, _ => by
    simp at h
    subst h
    rw [List.findIdx?_cons, if_pos hp]
  | x :: l, i + 1, a, h, hp, hn => by
    have h0 := hn 0 x (by omega) rfl
    have ih := findIdx_of (l := l) (i := i) (a := a) (by simpa using h) hp fun j b hj hb => hn (j + 1) b (by omega) (by simpa using hb)
    rw [List.findIdx?_cons, if_neg (by rw [h0]; decide), ih]
    rfl
theorem lm_idx {xs : List Rat} {x : Rat} {i : Nat} (hx : xs[i]? = some x) (hn : ∀ j y, j < i → xs[j]? = some y → y ≠ x) (q : Q (.int (i : Nat)) h) : Gd (lmV .index (.lst (xs.map qv)) [qv x] h) Q := by
  show Gd (lmIndex (.lst (xs.map qv)) [qv x] h) Q
  have px : plB 2 (qv x) = true := pl_qv (by decide)
  have pls : plBs 2 (xs.map qv) = true := plBs_iff.mpr fun v hv => by
    obtain ⟨y, _, rfl⟩ := List.mem_map.mp hv
    exact pl_qv (by decide)
  obtain ⟨dx, e1, a1, b1⟩ := pl_toD px
  obtain ⟨ds, e2, a2, b2⟩ := pl_toDs pls
  have fi : (ds.findIdx? fun z => PyData.eqv z dx) = some i := by
    obtain ⟨e, g1, g2⟩ := toDs_get e2 i (qv x) (by rw [List.getElem?_map, hx]; rfl)
    refine findIdx_of g1 ((eqv_iff px px g2 e1).mpr rfl) fun j b hj hb => ?_
    have hjl : j < xs.length := by
      have := (List.getElem?_eq_some_iff.mp hb).1
      rw [toDs_len e2, List.length_map] at this
      exact this
    obtain ⟨y, hy⟩ : ∃ y, xs[j]? = some y := ⟨xs[j], List.getElem?_eq_getElem _⟩
    obtain ⟨e', k1, k2⟩ := toDs_get e2 j (qv y) (by rw [List.getElem?_map, hy]; rfl)
    rw [hb] at k1
    cases k1
    have hne := hn j y hj hy
    cases hq : PyData.eqv b dx with
    | false => rfl
    | true =>
      have py : plB 2 (qv y) = true := pl_qv (by decide)
      exact absurd (qv_inj.mp ((eqv_iff py px k2 e1).mp hq)) hne
  have hs : (SeqAt.shaped (.list ds) && SeqAt.shaped dx) = true := by
    unfold SeqAt.shaped
    rw [a1, show (PyData.list ds).canLay0 = true from by rw [PyData.canLay0]; exact a2, decide_eq_true (show dx.depth ≤ 64 by omega), decide_eq_true (show (PyData.list ds).depth ≤ 64 by rw [PyData.depth]; omega)]
    rfl
  unfold lmIndex
  dsimp only
  rw [show (lseq h (.lst (xs.map qv))).bind Val.toDs = some ds from e2, e1]
  dsimp only
  rw [if_pos hs, fi]
  exact gd_ret q
theorem L_f_piece_ok {ks : List Rat} {ps : List (List Rat)} {av : Val} {v : Val} {x : Rat} {n t : Nat} (asc : ks.Pairwise (· < ·)) (lp : ps.length + 1 = ks.length) (hps : ps.length ≤ 1000) (sk : ∀ k ∈ ks, Sq n k) (hx : Rp v x t) (on : OnK ks x) (hn : n + t < 4000) (hl : 2 ≤ l) (w : h.wf)
    (q1 : x ∈ ks → Q .non h) (q2 : x ∉ ks → brIx ks x < ps.length → Q (.int (brIx ks x : Nat)) h) : Gd (run T l i_L_f_piece [.tup [.lst (ks.map qv), .lst (ps.map polyL), av], v] h) Q := by
  refine w_runp (body := b_L_f_piece) rfl rfl (by omega) w ?_
  unfold b_L_f_piece
  walk_at "gos"
  refine ⟨by rw [List.length_map]; unfold okR; simp; omega, ?_⟩
  refine for_rng (fun k σ h' => h' = h ∧ k ≤ ps.length ∧ (∀ j a b, j < k → ks[j]? = some a → ks[j + 1]? = some b → ¬ (a < x ∧ x < b)) ∧ ∃ o2, σ = [some (.tup [.lst (ks.map qv), .lst (ps.map polyL), av]), some v, o2]) ⟨rfl, Nat.zero_le _, fun j a b hj => absurd hj (by omega), none, rfl⟩ ?_ ?_
  · rintro k σ h' hk ⟨rfl, hkl, hno, o2, rfl⟩
    rw [List.length_map] at hk
    obtain ⟨a, ha⟩ : ∃ a, ks[k]? = some a := ⟨ks[k]'(by omega), List.getElem?_eq_getElem _⟩
    obtain ⟨b, hb⟩ : ∃ a, ks[k + 1]? = some a := ⟨ks[k + 1]'(by omega), List.getElem?_eq_getElem _⟩
    have s1 := sk a (List.mem_of_getElem? ha)
    have s2 := sk b (List.mem_of_getElem? hb)
    have ek : (0 + (k : Int) * 1) = ((k : Nat) : Int) := by omega
    have ek1 : ((k : Nat) : Int) + 1 = ((k + 1 : Nat) : Int) := by omega
    rw [ek]
    walk_at "gos"
    refine x_some (sub_lst (k := k) (x := qv a) (by rw [List.getElem?_map, ha]; rfl)) ?_
    walk_at "gos"
    refine L_less_ok (rp_qv s1) hx (by omega) w (by omega) ?_
    have step : ¬ (a < x ∧ x < b) → ∀ j a b, j < k + 1 → ks[j]? = some a → ks[j + 1]? = some b → ¬ (a < x ∧ x < b) := fun z j a' b' hj ea eb => by
      rcases Nat.lt_or_ge j k with y | y
      · exact hno j a' b' y ea eb
      · have : j = k := by omega
        subst this
        rw [ha] at ea
        rw [hb] at eb
        cases ea
        cases eb
        exact z
    refine g_if (fun z => ?_) fun z => ?_
    · walk_at "gos"
      rw [ek1]
      refine x_some (sub_lst (k := k + 1) (x := qv b) (by rw [List.getElem?_map, hb]; rfl)) ?_
      walk_at "gos"
      refine L_less_ok hx (rp_qv s2) (by omega) w (by omega) ?_
      refine g_if (fun z2 => ?_) fun z2 => ?_
      · have e : brIx ks x = k := brIx_of asc ha (by grind) fun k' hk' => by
          rw [hb] at hk'
          cases hk'
          exact z2
        have nm : x ∉ ks := fun m => by
          have := (mem_knot asc ha (by grind) fun k' hk' => by
            rw [hb] at hk'
            cases hk'
            exact z2).mp m
          exact this z
        walk_at "gos"
        refine ⟨rfl, ?_⟩
        have := q2 nm (by omega)
        rw [e] at this
        exact this
      · walk_at "gos"
        exact ⟨rfl, by omega, step fun y => z2 y.2, _, rfl⟩
    · walk_at "gos"
      exact ⟨rfl, by omega, step fun y => z y.1, _, rfl⟩
  · rintro σ h' ⟨rfl, hkl, hno, o2, rfl⟩
    rw [List.length_map] at hno
    walk_at "gos"
    refine ⟨rfl, q1 ?_⟩
    obtain ⟨a, ha⟩ : ∃ a, ks[0]? = some a := ⟨ks[0]'(by omega), List.getElem?_eq_getElem _⟩
    obtain ⟨k, s1, s2, s3⟩ := brIx_spec asc ha (on.1 a ha)
    refine (mem_knot asc s1 s2 s3).mpr fun z => ?_
    have hlt := (List.getElem?_eq_some_iff.mp s1).1
    rcases Nat.lt_or_ge (brIx ks x + 1) ks.length with y | y
    · have hb : ks[brIx ks x + 1]? = some (ks[brIx ks x + 1]) := List.getElem?_eq_getElem _
      exact hno _ _ _ (by omega) s1 hb ⟨z, s3 _ hb⟩
    · have : brIx ks x = ks.length - 1 := by omega
      rw [this] at s1
      exact on.2 _ s1 z
end
end G
namespace G
section
variable {h : VH} {Q : Val → VH → Prop} {l d : Nat}
theorem L_f_at_ok {ks : List Rat} {ps : List (List Rat)} {at_ : List Rat} {v : Val} {x : Rat} {n t s : Nat} (asc : ks.Pairwise (· < ·)) (lp : ps.length + 1 = ks.length) (la : at_.length = ks.length) (hps : ps.length ≤ 1000) (sk : ∀ k ∈ ks, Sq n k) (hp : ∀ p ∈ ps, p.length ≤ 1000 ∧ (∀ q ∈ p, Sq n q) ∧ ∀ k, Sq s (evalP (p.drop k) x))
    (hv : v = qv x) (hx : Sq t x) (on : OnK ks x) (hn : s + t + n < 4000) (hl : 5 ≤ l) (w : h.wf) (q : Q (qv (brVal ks ps at_ x)) h) : Gd (run T l i_L_f_at [fnL ks ps at_, v] h) Q := by
  subst hv
  refine w_runp (body := b_L_f_at) rfl rfl (by omega) w ?_
  unfold b_L_f_at fnL
  walk_at "gos"
  refine L_f_piece_ok asc lp hps sk (rp_qv hx) on (by omega) (by omega) w (fun m => ?_) fun m hlt => ?_
  · obtain ⟨i, hi, ei⟩ := List.getElem_of_mem m
    have hk : ks[i]? = some x := by rw [List.getElem?_eq_getElem hi, ei]
    have eb := (on_knot asc hk).2
    obtain ⟨a, ha⟩ : ∃ a, at_[i]? = some a := ⟨at_[i]'(by omega), List.getElem?_eq_getElem _⟩
    have hbr : brVal ks ps at_ x = a := by
      unfold brVal
      rw [if_pos m, eb, List.getD_eq_getElem?_getD, ha]
      rfl
    walk_at "gos"
    refine ⟨rfl, ?_⟩
    walk_at "gos"
    refine lm_idx hk (fun j y hj hy z => ?_) ?_
    · subst z
      have hlt := List.pairwise_iff_getElem.mp asc j i (by omega) hi hj
      rw [ei, (List.getElem?_eq_some_iff.mp hy).2] at hlt
      grind
    · walk_at "gos"
      refine x_some (sub_lst (k := i) (x := qv a) (by rw [List.getElem?_map, ha]; rfl)) ?_
      walk_at "gos"
      rw [hbr] at q
      exact ⟨rfl, q⟩
  · obtain ⟨p, hp2⟩ : ∃ p, ps[brIx ks x]? = some p := ⟨ps[brIx ks x]'hlt, List.getElem?_eq_getElem _⟩
    have P := hp p (List.mem_of_getElem? hp2)
    have hbr : brVal ks ps at_ x = evalP p x := by
      unfold brVal
      rw [if_neg m, List.getD_eq_getElem?_getD, hp2]
      rfl
    walk_at "gos"
    refine x_some (sub_lst (k := brIx ks x) (x := polyL p) (by rw [List.getElem?_map, hp2]; rfl)) ?_
    walk_at "gos"
    unfold polyL
    refine L_p_at_ok P.2.1 (rp_qv hx) P.2.2 (by omega) P.1 (by omega) w ?_
    walk_at "gos"
    rw [hbr] at q
    exact ⟨rfl, q⟩
theorem push_getn {h : VH} {o : Ob} {i : Nat} (hi : i ≠ h.next) : (h.push o).get i = h.get i := by
  show List.lookup i ((h.next, o) :: h.obs) = List.lookup i h.obs
  rw [List.lookup_cons]
  have : (i == h.next) = false := by simpa using hi
  rw [this]
theorem L_f_limits_ok {ks : List Rat} {ps : List (List Rat)} {j i : Nat} {x : Rat} {n t s : Nat} (hj : h.get j = some (.lst (ps.map polyL))) (hki : ks[i]? = some x) (hi : i ≤ ps.length) (hln : ks.length ≤ 1000) (hp : ∀ p ∈ ps, p.length ≤ 1000 ∧ (∀ q ∈ p, Sq n q) ∧ ∀ k, Sq s (evalP (p.drop k) x))
    (hx : Sq t x) (hn : s + t + n < 4000) (hl : 5 ≤ l) (w : h.wf) (q : Q (.lst (((limL ps x i).toList ++ (limR ps x i).toList).map qv)) h) : Gd (run T l i_L_f_limits [.tup [.lst (ks.map qv), .ref j, .lst []], .int (i : Nat)] h) Q := by
  refine w_runt (body := b_L_f_limits) rfl rfl (by omega) ?_
  unfold b_L_f_limits
  have hjl := get_lt w hj
  have gj : ∀ o, (h.push o).get j = some (.lst (ps.map polyL)) := fun o => by rw [push_getn (by omega)]; exact hj
  have skx : ∀ {h' : VH}, subV h' (.lst (ks.map qv)) (.int (i : Nat)) = some (qv x) := fun {h'} => sub_lst (k := i) (x := qv x) (by rw [List.getElem?_map, hki]; rfl)
  have wp : ∀ o, (h.push o).wf := fun o => wf_push w
  have fin : ∀ (L : List Rat), L = (limL ps x i).toList ++ (limR ps x i).toList → (Val.lst (L.map qv)).noref = true ∧ P.Ex h ((h.push (.lst (L.map qv))).erase h.next) ∧ Q (.lst (L.map qv)) h := fun L e => by
    subst e
    exact ⟨norefs_qv _, (Ex.push (Ex.self w)).erase (Nat.le_refl _), q⟩
  have right : ∀ (L : List Rat), L = (limL ps x i).toList → True := fun _ _ => trivial
  walk_at "gos"
  refine g_if (fun z => ?_) fun z => ?_
  · obtain ⟨m, rfl⟩ : ∃ m, i = m + 1 := ⟨i - 1, by omega⟩
    obtain ⟨p, hp2⟩ : ∃ p, ps[m]? = some p := ⟨ps[m]'(by omega), List.getElem?_eq_getElem _⟩
    have P := hp p (List.mem_of_getElem? hp2)
    have eL : limL ps x (m + 1) = some (evalP p x) := by
      unfold limL
      rw [if_neg (by omega), List.getD_eq_getElem?_getD, show m + 1 - 1 = m by omega, hp2]
      rfl
    have em : ((m + 1 : Nat) : Int) - 1 = ((m : Nat) : Int) := by omega
    walk_at "gos"
    refine lm_isL push_get ?_
    walk_at "gos"
    rw [em]
    refine x_some (sub_refN (gj _) (k := m) (x := polyL p) (by rw [List.getElem?_map, hp2]; rfl)) ?_
    walk_at "gos"
    refine x_some skx ?_
    walk_at "gos"
    unfold polyL
    refine L_p_at_ok P.2.1 (rp_qv hx) P.2.2 (by omega) P.1 (by omega) (wp _) ?_
    walk_at "gos"
    refine lm_app push_get (by simp) ?_
    rw [push_set']
    walk_at "gos"
    refine len_ref (gj _) ?_
    walk_at "gos"
    rw [List.length_map]
    refine g_if (fun z2 => ?_) fun z2 => ?_
    · obtain ⟨p2, hp3⟩ : ∃ p, ps[m + 1]? = some p := ⟨ps[m + 1]'(by omega), List.getElem?_eq_getElem _⟩
      have P2 := hp p2 (List.mem_of_getElem? hp3)
      have eR : limR ps x (m + 1) = some (evalP p2 x) := by
        unfold limR
        rw [if_neg (by omega), List.getD_eq_getElem?_getD, hp3]
        rfl
      walk_at "gos"
      refine lm_isL push_get ?_
      walk_at "gos"
      refine x_some (sub_refN (gj _) (k := m + 1) (x := polyL p2) (by rw [List.getElem?_map, hp3]; rfl)) ?_
      walk_at "gos"
      refine x_some skx ?_
      walk_at "gos"
      unfold polyL
      refine L_p_at_ok P2.2.1 (rp_qv hx) P2.2.2 (by omega) P2.1 (by omega) (wp _) ?_
      walk_at "gos"
      refine lm_app push_get (by simp) ?_
      rw [push_set']
      walk_at "gos"
      refine frz_l push_get ?_
      walk_at "gos"
      exact fin [evalP p x, evalP p2 x] (by rw [eL, eR]; rfl)
    · have eR : limR ps x (m + 1) = none := by
        unfold limR
        rw [if_pos (by omega)]
      walk_at "gos"
      refine frz_l push_get ?_
      walk_at "gos"
      exact fin [evalP p x] (by rw [eL, eR]; rfl)
  · have h0 : i = 0 := by omega
    subst h0
    have eL : limL ps x 0 = none := rfl
    walk_at "gos"
    refine len_ref (gj _) ?_
    walk_at "gos"
    rw [List.length_map]
    refine g_if (fun z2 => ?_) fun z2 => ?_
    · obtain ⟨p2, hp3⟩ : ∃ p, ps[0]? = some p := ⟨ps[0]'(by omega), List.getElem?_eq_getElem _⟩
      have P2 := hp p2 (List.mem_of_getElem? hp3)
      have eR : limR ps x 0 = some (evalP p2 x) := by
        unfold limR
        rw [if_neg (by omega), List.getD_eq_getElem?_getD, hp3]
        rfl
      walk_at "gos"
      refine lm_isL push_get ?_
      walk_at "gos"
      refine x_some (sub_refN (gj _) (k := 0) (x := polyL p2) (by rw [List.getElem?_map, hp3]; rfl)) ?_
      walk_at "gos"
      refine x_some skx ?_
      walk_at "gos"
      unfold polyL
      refine L_p_at_ok P2.2.1 (rp_qv hx) P2.2.2 (by omega) P2.1 (by omega) (wp _) ?_
      walk_at "gos"
      refine lm_app push_get (by simp) ?_
      rw [push_set']
      walk_at "gos"
      refine frz_l push_get ?_
      walk_at "gos"
      exact fin [evalP p2 x] (by rw [eL, eR]; rfl)
    · have eR : limR ps x 0 = none := by
        unfold limR
        rw [if_pos (by omega)]
      walk_at "gos"
      refine frz_l push_get ?_
      walk_at "gos"
      exact fin [] (by rw [eL, eR]; rfl)
end
end G
namespace G
theorem noref_poly (p : List Rat) : (polyV p).noref = true := by
  unfold polyV
  rw [Val.noref, Val.noreff, Val.noref, norefs_qv]
  rfl
theorem norefs_poly : ∀ ps : List (List Rat), Val.norefs (ps.map polyV) = true
  | [] => rfl
  | p :: ps => by
    rw [List.map_cons, Val.norefs, noref_poly, norefs_poly ps]
    rfl
theorem noref_br (ks : List Rat) (ps : List (List Rat)) (at_ : List Rat) : (brV ks ps at_).noref = true := by
  unfold brV
  rw [Val.noref, Val.noreff, Val.noref, norefs_qv, Val.noreff, Val.noref, norefs_poly, Val.noreff, Val.noref, norefs_qv]
  rfl
theorem noref_oV (o : Option Rat) : (oV o).noref = true := by cases o <;> rfl
theorem noref_row (r : RowD) : (rowV r).noref = true := by
  unfold rowV
  rw [Val.noref, Val.noreff, noref_br, Val.noreff, noref_oV, Val.noreff, noref_oV]
  rfl
theorem noref_sh (xs ps : List Rat) : (shV xs ps).noref = true := by
  unfold shV
  rw [Val.noref, Val.noreff, Val.noref, norefs_qv, Val.noreff, Val.noref, norefs_qv]
  rfl
/-- a drawn row of values as it stands for ratios -/
theorem rw_drawn {vs : List Val} {qs : List Rat} {n : Nat} (hl : vs.length = qs.length) (hlen : qs.length ≤ 1000) (hS : ∀ (k : Nat) (a : Rat) (v : Val), qs[k]? = some a → vs[k]? = some v → Ra v a n) : ∃ L : List (Val × Rat), L.map (·.2) = qs ∧ L.length = qs.length ∧ Rw (.lst vs) L n ∧ Rw (.tup vs) L n := by
  have h1 : (vs.zip qs).map (·.1) = vs := List.map_fst_zip (by omega)
  have h2 : ∀ a ∈ vs.zip qs, Ra a.1 a.2 n := fun a ha => by
    obtain ⟨k, hk, rfl⟩ := List.getElem_of_mem ha
    rw [List.length_zip] at hk
    rw [List.getElem_zip]
    exact hS k _ _ (List.getElem?_eq_getElem (by omega)) (List.getElem?_eq_getElem (by omega))
  have h3 : (vs.zip qs).length = qs.length := by rw [List.length_zip]; omega
  exact ⟨vs.zip qs, List.map_snd_zip (by omega), h3, ⟨.inl (by rw [h1]), h2, by omega⟩, ⟨.inr (by rw [h1]), h2, by omega⟩⟩
section
variable {Q : List Val → VH → Prop} {body : Val → Mo (Option Val)} {α : Type}
/-- each item draws and makes objects -/
theorem comp_drawb (f : α → Val) (S : α → Val → Prop) (n : Nat) {l : List α} {h H0 : VH} {d b0 : Nat} (e0 : H0 = bp b0 (P.sp h d)) (hl : l.length ≤ 1000000)
    (hb : ∀ a ∈ l, ∀ b d', d ≤ d' → d' ≤ d + n * l.length → ∀ R : Option Val → VH → Prop, (∀ v b' d'', d' ≤ d'' → d'' ≤ d' + n → S a v → R (some v) (bp b' (P.sp h d''))) → Gd (body (f a) (bp b (P.sp h d'))) R)
    (q : ∀ vs b d', d ≤ d' → d' ≤ d + n * l.length → vs.length = l.length → (∀ (k : Nat) (a : α) (v : Val), l[k]? = some a → vs[k]? = some v → S a v) → Q vs (bp b (P.sp h d'))) : Gd (walkC (.fix (l.map f)) body H0) Q := by
  subst e0
  refine comp_fix (fun k acc h' => ∃ b d', h' = bp b (P.sp h d') ∧ d ≤ d' ∧ d' ≤ d + n * k ∧ acc.length = k ∧ k ≤ l.length ∧ ∀ (j : Nat) (a : α) (v : Val), l[j]? = some a → acc[j]? = some v → S a v) ⟨b0, d, rfl, Nat.le_refl _, by omega, rfl, Nat.zero_le _, fun j a v _ z => by simp at z⟩ (fun k x acc h' hx i => ?_) fun acc h' i => ?_
  · obtain ⟨b, d', rfl, l1, l2, l3, l4, l5⟩ := i
    rw [List.getElem?_map] at hx
    obtain ⟨a, ha, rfl⟩ := Option.map_eq_some_iff.mp hx
    have hlt := (List.getElem?_eq_some_iff.mp ha).1
    have hm : n * k ≤ n * l.length := Nat.mul_le_mul_left _ (by omega)
    have hm2 : n * (k + 1) = n * k + n := Nat.mul_succ _ _
    refine hb a (List.mem_of_getElem? ha) b d' l1 (by omega) _ fun v b' d'' m1 m2 sv => ?_
    refine ⟨by omega, b', d'', rfl, by omega, by omega, by rw [List.length_append, l3]; rfl, hlt, fun j c u hj hu => ?_⟩
    by_cases hjk : j < k
    · rw [List.getElem?_append_left (by omega)] at hu
      exact l5 j c u hj hu
    · rw [List.getElem?_append_right (by omega), l3] at hu
      have : j - k = 0 := by
        have := (List.getElem?_eq_some_iff.mp hu).1
        simp at this
        omega
      have hjk2 : j = k := by omega
      subst hjk2
      rw [this] at hu
      rw [ha] at hj
      cases hj
      cases hu
      exact sv
  · obtain ⟨b, d', rfl, l1, l2, l3, l4, l5⟩ := i
    rw [List.length_map] at l3 l2
    exact q acc b d' l1 l2 l3 l5
end
section
variable {h : VH} {Q : Val → VH → Prop} {l d : Nat}
/-- [passed(x) for x in ..] -/
theorem passed_comp {Q : List Val → VH → Prop} {body : Val → Mo (Option Val)} {qs : List Rat} {n b0 dd : Nat} {H0 : VH} (e0 : H0 = bp b0 (P.sp h d)) (hs : ∀ x ∈ qs, Sq n x) (hn : n < 1800) (h0 : 0 < n) (hlen : qs.length ≤ 1000) (p : Pn h dd) (hd : d + 3 * qs.length + 10 < 900000000000) (hl : 3 ≤ l)
    (hb : ∀ x h' (R : Option Val → VH → Prop), Gd (run T l i_L_passed [.ref 0, x] h') (fun v h2 => R (some v) h2) → Gd (body x h') R)
    (q : ∀ vs b d', d ≤ d' → d' ≤ d + 3 * qs.length → (∃ L : List (Val × Rat), L.map (·.2) = qs ∧ L.length = qs.length ∧ Rw (.lst vs) L (n + 2) ∧ Rw (.tup vs) L (n + 2)) → Q vs (bp b (P.sp h d'))) : Gd (walkC (.fix (qs.map qv)) body H0) Q := by
  refine comp_drawb qv (fun a v => Ra v a (n + 2)) 3 e0 (by omega) (fun a ha b d' l1 l2 R hR => ?_) fun vs b d' l1 l2 hvl hS => ?_
  · refine hb _ _ _ ?_
    refine L_passed_ok (hs a ha) (by omega) h0 (pn_bp p.sp) (by omega) hl fun v d'' m1 m2 r => ?_
    rw [bp_sp, sp_sp]
    exact hR v b d'' m1 m2 r
  · exact q vs b d' l1 l2 (rw_drawn hvl hlen hS)
theorem L_passed_row_ok {qs : List Rat} {n : Nat} (hs : ∀ x ∈ qs, Sq n x) (hn : n < 1800) (h0 : 0 < n) (hlen : qs.length ≤ 1000) (p : Pn h d) (hd : d + 3 * qs.length + 1 + 10 < 900000000000) (hl : 4 ≤ l) (q : ∀ v L d', d ≤ d' → d' ≤ d + 3 * qs.length + 1 → L.map (·.2) = qs → Rw v L (n + 2) → Q v (sp h d')) : Gd (run T l i_L_passed_row [.ref 0, .lst (qs.map qv)] h) Q := by
  refine w_rund (body := b_L_passed_row) rfl rfl (by omega) p.wf ?_
  unfold b_L_passed_row
  walk_at "gos"
  refine comp_draw qv (fun a v => Ra v a (n + 2)) 3 p (by omega) (fun a ha d' l1 l2 R hR => ?_) fun vs d' l1 l2 hvl hS => ?_
  · walk_at "gos"
    refine L_passed_ok (hs a ha) (by omega) h0 p.sp (by omega) (by omega) fun v d'' m1 m2 r => ?_
    rw [sp_sp]
    walk_at "gos"
    exact hR v d'' m1 m2 r
  · walk_at "gos"
    refine L_pick_ok (by simp) (by simp) p.sp (by omega) (by omega) fun v hv => ?_
    rw [sp_sp]
    walk_at "gos"
    obtain ⟨L, g1, g2, g3, g4⟩ := rw_drawn hvl hlen hS
    refine ⟨_, rfl, q v L _ (by omega) (by omega) g1 ?_⟩
    simp only [List.mem_cons, List.not_mem_nil, or_false] at hv
    rcases hv with rfl | rfl
    · exact g3
    · exact g4
def sv (xs ps : List Rat) : Val := .tup [.lst (xs.map qv), .lst (ps.map qv)]
theorem L_made_share_ok {xs ps : List Rat} {n m : Nat} (sx : ∀ x ∈ xs, Sq n x) (hn : n < 1800) (n0 : 0 < n) (sp_ : ∀ x ∈ ps, Sq m x) (m0 : 0 < m) (h0 : 0 < xs.length) (hlen : ps.length = xs.length) (hx8 : xs.length ≤ 8) (hm : m ≤ 100) (asc : xs.Pairwise (· < ·)) (hp : ∀ a ∈ ps, 0 < a) (hs : sumQ ps = 1)
    (p : Pn h d) (hd : d + 200 < 900000000000) (hl : 9 ≤ l) (q : ∀ d', d ≤ d' → d' ≤ d + 60 → Q (shV xs ps) (P.sp h d')) : Gd (run T l i_L_made_share [.ref 0, sv xs ps] h) Q := by
  refine w_runu (body := b_L_made_share) rfl rfl (by omega) p.wf ?_
  unfold b_L_made_share sv
  walk_at "gos"
  refine L_passed_row_ok sx hn n0 (by omega) p (by omega) (by omega) fun v1 L1 d1 k1 k2 g1 r1 => ?_
  walk_at "gos"
  refine L_passed_row_ok sp_ (by omega) m0 (by omega) p.sp (by omega) (by omega) fun v2 L2 d2 k3 k4 g2 r2 => ?_
  rw [sp_sp]
  walk_at "gos"
  have e1 : L1.length = xs.length := by rw [← g1, List.length_map]
  have e2 : L2.length = ps.length := by rw [← g2, List.length_map]
  have hm2 : (m + 2 + 1) * L2.length ≤ (m + 2 + 1) * 8 := Nat.mul_le_mul_left _ (by omega)
  refine mk_Share_ok r1 r2 (by omega) (by omega) (by rw [g1]; exact asc) (fun a ha => hp _ (by rw [← g2]; exact List.mem_map.mpr ⟨a, ha, rfl⟩)) (by rw [g2]; exact hs) (by omega) (by omega) (by omega) p.sp.wf ?_
  rw [g1, g2]
  walk_at "gos"
  exact ⟨noref_sh _ _, d2, (Ex.self p.sp.wf).bump, q d2 (by omega) (by omega)⟩
/-- a function of the law's, as it must be -/
structure Lf (ks : List Rat) (ps : List (List Rat)) (at_ : List Rat) : Prop where
  B : Bok ks ps at_ 230 4
  k5 : ks.length ≤ 5
  tr : ∀ p ∈ ps, trim p = p
theorem L_made_function_ok {ks : List Rat} {ps : List (List Rat)} {at_ : List Rat} (F : Lf ks ps at_) (p : Pn h d) (hd : d + 500 < 900000000000) (hl : 9 ≤ l) (q : ∀ d', d ≤ d' → d' ≤ d + 100 → Q (brV ks ps at_) (P.sp h d')) : Gd (run T l i_L_made_function [.ref 0, fnL ks ps at_] h) Q := by
  refine w_runu (body := b_L_made_function) rfl rfl (by omega) p.wf ?_
  unfold b_L_made_function fnL
  have hlp := F.B.lp
  have hla := F.B.la
  have hk5 := F.k5
  have e0 : h = bp 0 (P.sp h d) := by rw [bp_zero, sp_self p]
  walk_at "gos"
  refine comp_drawb polyL (fun p v => v = polyV p) 12 e0 (by omega) (fun c hc b d' l1 l2 R hR => ?_) fun vs b d' l1 l2 hvl hS => ?_
  · have cc := F.B.spp c hc
    have ct := F.tr c hc
    unfold polyL
    walk_at "gos"
    refine passed_comp (l := l - 1) (qs := c) (n := 230) (h := h) (d := d') (b0 := b) rfl cc.2 (by decide) (by decide) (by omega) p (by omega) (by omega) (fun x h' R' z => ?_) fun us b1 d1 m1 m2 hr => ?_
    · walk_at "gos"
      exact z
    · obtain ⟨L, g1, g2, g3, _⟩ := hr
      walk_at "gos"
      refine mk_Poly_ok g3 (by decide) (by omega) (bp_wf p.sp.wf) ?_
      rw [bp_bump, g1, ct]
      walk_at "gos"
      exact hR _ _ d1 (by omega) (by omega) rfl
  · have ev : vs = ps.map polyV := by
      refine List.ext_getElem (by rw [List.length_map, hvl]) fun k h1 h2 => ?_
      rw [List.getElem_map]
      exact hS k _ _ (List.getElem?_eq_getElem (by omega)) (List.getElem?_eq_getElem h1)
    subst ev
    have hd12 : 12 * ps.length ≤ 48 := by omega
    walk_at "gos"
    refine passed_comp (l := l - 1) (qs := ks) (n := 230) (h := h) (d := d') (b0 := b) rfl F.B.sk (by decide) (by decide) (by omega) p (by omega) (by omega) (fun x h' R' z => ?_) fun us b1 d1 m1 m2 hr => ?_
    · walk_at "gos"
      exact z
    obtain ⟨K, g1, g2, g3, _⟩ := hr
    walk_at "gos"
    refine passed_comp (l := l - 1) (qs := at_) (n := 230) (h := h) (d := d1) (b0 := b1) rfl F.B.sa (by decide) (by decide) (by omega) p (by omega) (by omega) (fun x h' R' z => ?_) fun us2 b2 d2 m3 m4 hr => ?_
    · walk_at "gos"
      exact z
    obtain ⟨A, k1, k2, k3, _⟩ := hr
    walk_at "gos"
    refine mk_Broken_ok (ps := ps) g3 k3 (.inl rfl) (by omega) (by omega) F.B.p0 (by rw [g1]; exact F.B.asc) (by decide) (by decide) (by omega) (bp_wf p.sp.wf) ?_
    rw [bp_bump, g1, k1]
    walk_at "gos"
    exact ⟨noref_br _ _ _, d2, ex_bp (Ex.self p.sp.wf), q d2 (by omega) (by omega)⟩
end
end G
namespace G
section
variable {h : VH} {Q : Val → VH → Prop} {l d : Nat}
/-- a told mean as the law has it -/
def rowL (r : RowD) : Val := .tup [fnL r.ks r.ps r.at_, oV r.least, oV r.most]
structure Lr (r : RowD) : Prop where
  F : Lf r.ks r.ps r.at_
  J : Jz r.ks r.ps r.at_ 230
  sl : ∀ b, r.least = some b → Sq 310 b
  so : ∀ b, r.most = some b → Sq 310 b
  hu : r.least ≠ none → upB r.ks r.ps r.at_ = true
  ho : r.most ≠ none → loB r.ks r.ps r.at_ = true
  ha : r.least ≠ none ∨ r.most ≠ none
  hle : ∀ a b, r.least = some a → r.most = some b → ¬ b < a
theorem L_made_told_ok {r : RowD} (R : Lr r) (p : Pn h d) (hd : d + 600 < 900000000000) (hl : 10 ≤ l) (q : ∀ d', d ≤ d' → d' ≤ d + 120 → Q (rowV r) (P.sp h d')) : Gd (run T l i_L_made_told [.ref 0, rowL r] h) Q := by
  refine w_runu (body := b_L_made_told) rfl rfl (by omega) p.wf ?_
  unfold b_L_made_told rowL
  walk_at "gos"
  rw [show slcV h (.tup [fnL r.ks r.ps r.at_, oV r.least, oV r.most]) (some 1) none = some (.v (.tup [oV r.least, oV r.most])) from by
    show some (Rv.v (.tup (cut _ _ _))) = _
    rw [cut_tail]]
  walk_at "gos"
  have e0 : h = bp 0 (P.sp h d) := by rw [bp_zero, sp_self p]
  refine comp_drawb (l := [r.least, r.most]) oV (fun o v => Ro v o 312) 3 e0 (by simp) (fun o ho b d' l1 l2 R' hR => ?_) fun vs b d' l1 l2 hvl hS => ?_
  · have so : ∀ b, o = some b → Sq 310 b := fun b e => by
      simp only [List.mem_cons, List.not_mem_nil, or_false] at ho
      rcases ho with z | z
      · exact R.sl b (by rw [← z, e])
      · exact R.so b (by rw [← z, e])
    have l2 : d' ≤ d + 3 * 2 := l2
    cases o with
    | none =>
      unfold oV
      walk_at "gos"
      exact hR _ _ d' (by omega) (by omega) (.inl ⟨rfl, rfl⟩)
    | some a =>
      have sa := so a rfl
      have hn : isNon (qv a) = false := rfl
      unfold oV
      walk_at "gos"
      refine L_passed_ok sa (by decide) (by decide) (pn_bp p.sp) (by omega) (by omega) fun v d'' m1 m2 rv => ?_
      rw [bp_sp, sp_sp]
      walk_at "gos"
      exact hR _ _ d'' (by omega) (by omega) (.inr ⟨a, rfl, rv⟩)
  · have l2 : d' ≤ d + 3 * 2 := l2
    have hvl : vs.length = 2 := hvl
    match vs, hvl with
    | [v1, v2], _ =>
      have r1 := hS 0 r.least v1 rfl rfl
      have r2 := hS 1 r.most v2 rfl rfl
      walk_at "gos"
      refine L_made_function_ok R.F (pn_bp p.sp) (by omega) (by omega) fun d1 k1 k2 => ?_
      rw [bp_sp, sp_sp]
      walk_at "gos"
      refine mk_Told_ok R.F.B R.J r1 r2 (by decide) R.hu R.ho R.ha R.hle (by omega) (bp_wf p.sp.wf) ?_
      rw [bp_bump]
      walk_at "gos"
      exact ⟨noref_row r, d1, ex_bp (Ex.self p.sp.wf), q d1 (by omega) (by omega)⟩
theorem L_f_of_ok {ks : List Rat} {ps : List (List Rat)} {at_ : List Rat} (hln : ps.length ≤ 1000) (hl : 1 ≤ l) (w : h.wf) (q : Q (fnL ks ps at_) h) : Gd (run T l i_L_f_of [brV ks ps at_] h) Q := by
  refine w_runp (body := b_L_f_of) rfl rfl (by omega) w ?_
  unfold b_L_f_of brV
  walk_at "gos"
  refine comp_mapa (l := ps) polyV polyL (by omega) (fun p hp R hR => ?_) ?_
  · unfold polyV
    walk_at "gos"
    exact hR
  · walk_at "gos"
    exact ⟨rfl, q⟩
/-- the stretch and its parts -/
structure St (a b : Rat) (M : Nat) : Prop where
  lt : a < b
  m0 : 0 < M
  m1 : M ≤ 39204
  za : Dz M 5 a
  zb : Dz M 5 b
theorem St.sa {a b : Rat} {M : Nat} (S : St a b M) : Sq 18 a := S.za.sq S.m0 (by have := S.m1; show 5 * M < 262144; omega) (by have := S.m1; show M < 262144; omega)
theorem St.sb {a b : Rat} {M : Nat} (S : St a b M) : Sq 18 b := S.zb.sq S.m0 (by have := S.m1; show 5 * M < 262144; omega) (by have := S.m1; show M < 262144; omega)
theorem St.sw {a b : Rat} {M : Nat} (S : St a b M) : Sq 19 (b - a) := (S.zb.sub S.za).sq S.m0 (by have := S.m1; show (5 + 5) * M < 524288; omega) (by have := S.m1; show M < 524288; omega)
/-- a place of the stretch -/
structure Pl (a b : Rat) (M : Nat) (x : Rat) : Prop where
  z : Dz (M * 24) 15 x
  lo : a ≤ x
  hi : x ≤ b
theorem Pl.sq {a b x : Rat} {M : Nat} (S : St a b M) (p : Pl a b M x) : Sq 24 x := p.z.sq (by have := S.m0; omega) (by have := S.m1; show 15 * (M * 24) < 16777216; omega) (by have := S.m1; show M * 24 < 16777216; omega)
theorem divInt_range {j m : Int} (hj : 0 ≤ j) (hm : 0 < m) (hjm : j ≤ m) : 0 ≤ Rat.divInt j m ∧ Rat.divInt j m ≤ 1 := by
  have hmq : (0 : Rat) < (m : Rat) := Rat.intCast_pos.mpr hm
  have hne : (m : Rat) ≠ 0 := by grind
  have e : Rat.divInt j m * (m : Rat) = (j : Rat) := by
    rw [Rat.divInt_eq_div, Rat.div_def, Rat.mul_assoc, Rat.inv_mul_cancel _ hne, Rat.mul_one]
  have h0 : (0 : Rat) ≤ (j : Rat) := by exact_mod_cast hj
  have h1 : (j : Rat) ≤ (m : Rat) := by exact_mod_cast hjm
  constructor
  · refine Rat.not_lt.mp fun z => ?_
    have := Rat.mul_lt_mul_of_pos_right z hmq
    grind
  · refine Rat.not_lt.mp fun z => ?_
    have := Rat.mul_lt_mul_of_pos_right z hmq
    grind
theorem pl_of {a b : Rat} {M : Nat} (S : St a b M) {j : Int} {m k : Nat} (hj : 0 ≤ j) (hm : 0 < m) (hjm : j ≤ m) (e : m * k = 24) : Pl a b M (a + (b - a) * Rat.divInt j m) := by
  obtain ⟨r0, r1⟩ := divInt_range hj (show 0 < ((m : Nat) : Int) by omega) hjm
  have hw : 0 ≤ b - a := by have := S.lt; grind
  have z1 : Dz m 1 (Rat.divInt j m) := dz_div hm (by omega)
  have z2 := ((S.zb.sub S.za).mul z1).lift k
  rw [Nat.mul_assoc, e] at z2
  have m1 := Rat.mul_nonneg hw r0
  have m2 : (b - a) * Rat.divInt j m ≤ b - a := by
    have := Rat.mul_le_mul_of_nonneg_left r1 hw
    rwa [Rat.mul_one] at this
  exact ⟨((S.za.lift 24).add z2), by grind, by grind⟩
theorem pl_lo {a b : Rat} {M : Nat} (S : St a b M) : Pl a b M a := ⟨(S.za.lift 24).mono (by decide), Rat.le_refl, by have := S.lt; grind⟩
theorem pl_hi {a b : Rat} {M : Nat} (S : St a b M) : Pl a b M b := ⟨(S.zb.lift 24).mono (by decide), by have := S.lt; grind, Rat.le_refl⟩
end
end G
namespace G
theorem asc_first {rs : List Rat} (asc : rs.Pairwise (· < ·)) {a : Rat} (ma : a ∈ rs) (lo : ∀ x ∈ rs, a ≤ x) : rs[0]? = some a := by
  cases rs with
  | nil => cases ma
  | cons r rs =>
    rcases List.mem_cons.mp ma with e | m
    · rw [e]
      rfl
    · have h1 := (List.pairwise_cons.mp asc).1 a m
      have h2 := lo r List.mem_cons_self
      exact absurd h1 (by grind)
theorem asc_last {rs : List Rat} (asc : rs.Pairwise (· < ·)) {b : Rat} (mb : b ∈ rs) (hi : ∀ x ∈ rs, x ≤ b) : rs[rs.length - 1]? = some b := by
  obtain ⟨i, h, e⟩ := List.getElem_of_mem mb
  have hk : rs.length - 1 < rs.length := by omega
  rw [List.getElem?_eq_getElem hk]
  rcases Nat.eq_or_lt_of_le (show i ≤ rs.length - 1 by omega) with z | z
  · subst z
    rw [e]
  · have h1 := List.pairwise_iff_getElem.mp asc i (rs.length - 1) h hk z
    have h2 := hi _ (List.getElem_mem hk)
    rw [e] at h1
    exact absurd h1 (by grind)
section
variable {h : VH} {Q : Val → VH → Prop} {l d : Nat}
theorem L_drawn_knots_ok {a b : Rat} {M : Nat} (S : St a b M) (p : Pn h d) (hd : d + 20 < 900000000000) (hl : 4 ≤ l)
    (q : ∀ (ks : List Rat) (d' : Nat), d ≤ d' → d' ≤ d + 3 → 2 ≤ ks.length → ks.length ≤ 5 → ks.Pairwise (· < ·) → (∀ x ∈ ks, Pl a b M x) → ks[0]? = some a → ks[ks.length - 1]? = some b → Q (.lst (ks.map qv)) (P.sp h d')) : Gd (run T l i_L_drawn_knots [.ref 0, qv a, qv b, .int 3] h) Q := by
  refine w_runu (body := b_L_drawn_knots) rfl rfl (by omega) p.wf ?_
  unfold b_L_drawn_knots
  have sa := S.sa
  have sb := S.sb
  have sw := S.sw
  walk_at "gos"
  refine L_minus_ok (rp_qv sb) (rp_qv sa) (by omega) p.push.wf (by omega) ?_
  walk_at "gos"
  refine for_rng (fun k σ h' => ∃ fs d' o6, h' = (P.sp h d').push (.lst ((a :: b :: fs).map qv)) ∧ σ = [some (.ref 0), some (qv a), some (qv b), some (.int 3), some (.ref h.next), some (qv (b - a)), o6] ∧ d ≤ d' ∧ d' ≤ d + k ∧ fs.length = k ∧ ∀ x ∈ fs, Pl a b M x)
    ⟨[], d, none, by rw [sp_self p]; rfl, rfl, by omega, by omega, rfl, by simp⟩ ?_ ?_
  · rintro k σ h' hk ⟨fs, d1, o6, rfl, rfl, l1, l2, l3, l4⟩
    have hk' : k < 3 := hk
    have gp : ((P.sp h d1).push (.lst ((a :: b :: fs).map qv))).get h.next = some (.lst ((a :: b :: fs).map qv)) := push_get
    walk_at "gos"
    refine lm_isL gp ?_
    walk_at "gos"
    refine draw_ok rfl (by omega) (p.sp (d' := d1)).push (by decide) (by decide) (by omega) fun j hj => ?_
    rw [sp_push (h := P.sp h d1) p.pos, sp_sp]
    have w2 : ((P.sp h (d1 + 1)).push (.lst ((a :: b :: fs).map qv))).wf := wf_push p.sp.wf
    walk_at "gos"
    refine L_q_ok (n := 5) (by decide) (by omega) (by omega) (by omega) w2 ?_
    have s1 : Sq 5 (Rat.divInt (1 + (j : Int)) 12) := Sq.div (by decide) (by omega) (by omega)
    walk_at "gos"
    refine L_times_ok (rp_qv sw) (rp_qv s1) (by omega) w2 (by omega) ?_
    have s2 := Sq.mul sw s1
    walk_at "gos"
    refine L_plus_ok (rp_qv sa) (rp_qv s2) (by omega) w2 (by omega) ?_
    walk_at "gos"
    refine lm_app (xs := (a :: b :: fs).map qv) (push_get (h := P.sp h (d1 + 1))) (by rw [List.length_map, List.length_cons, List.length_cons]; omega) ?_
    walk_at "gos"
    refine ⟨fs ++ [a + (b - a) * Rat.divInt (1 + (j : Int)) 12], d1 + 1, _, ?_, rfl, by omega, by omega, by rw [List.length_append, l3]; rfl, fun x hx => ?_⟩
    · show ((P.sp h (d1 + 1)).push (.lst ((a :: b :: fs).map qv))).set (P.sp h (d1 + 1)).next _ = _
      rw [push_set', show a :: b :: (fs ++ [a + (b - a) * Rat.divInt (1 + (j : Int)) 12]) = (a :: b :: fs) ++ [a + (b - a) * Rat.divInt (1 + (j : Int)) 12] from rfl, List.map_append]
      rfl
    · rcases List.mem_append.mp hx with hx | hx
      · exact l4 x hx
      · rw [List.mem_singleton.mp hx]
        exact pl_of S (m := 12) (k := 2) (by omega) (by decide) (by omega) rfl
  · rintro σ h' ⟨fs, d1, o6, rfl, rfl, l1, l2, l3, l4⟩
    have l3 : fs.length = 3 := l3
    have l2 : d1 ≤ d + 3 := l2
    walk_at "gos"
    refine frz_l (xs := (a :: b :: fs).map qv) (push_get (h := P.sp h d1)) ?_
    rw [show ((P.sp h d1).push (.lst ((a :: b :: fs).map qv))).erase h.next = bump (P.sp h d1) from push_erase p.sp.wf]
    have pb : Pn (bump (P.sp h d1)) d1 := p.sp.bump
    have all : ∀ x ∈ a :: b :: fs, Pl a b M x := fun x hx => by
      rcases List.mem_cons.mp hx with e | hx
      · rw [e]
        exact pl_lo S
      rcases List.mem_cons.mp hx with e | hx
      · rw [e]
        exact pl_hi S
      · exact l4 x hx
    walk_at "gos"
    refine L_sorted_ok (qs := a :: b :: fs) (fun x hx => Pl.sq S (all x hx)) (by omega) (by rw [List.length_cons, List.length_cons]; omega) (by omega) pb.wf fun rs a1 a2 a3 => ?_
    have ma : a ∈ rs := (a2 a).mpr List.mem_cons_self
    have mb : b ∈ rs := (a2 b).mpr (List.mem_cons_of_mem _ List.mem_cons_self)
    have all2 : ∀ x ∈ rs, Pl a b M x := fun x hx => all x ((a2 x).mp hx)
    have f1 := asc_first a1 ma fun x hx => (all2 x hx).lo
    have f2 := asc_last a1 mb fun x hx => (all2 x hx).hi
    have len2 : 2 ≤ rs.length := by
      rcases Nat.lt_or_ge rs.length 2 with z | z
      · have i0 := (List.getElem?_eq_some_iff.mp f1).1
        have : rs.length - 1 = 0 := by omega
        rw [this, f1] at f2
        have := S.lt
        cases f2
        exact absurd this (by grind)
      · exact z
    rw [List.length_cons, List.length_cons] at a3
    walk_at "gos"
    exact ⟨norefs_qv _, d1, (Ex.self p.sp.wf).bump, q rs d1 l1 l2 len2 (by omega) a1 all2 f1 f2⟩
theorem le_sum : ∀ {ws : List Int} {x : Int}, (∀ w ∈ ws, 1 ≤ w ∧ w ≤ 9) → x ∈ ws → x ≤ ws.sum
  | [], x, _, h => by cases h
  | w :: ws, x, hw, h => by
    have hw2 := fun v (hv : v ∈ ws) => hw v (List.mem_cons_of_mem _ hv)
    have h1 := ints_sum hw2
    have h0 := hw w List.mem_cons_self
    rw [List.sum_cons]
    rcases List.mem_cons.mp h with e | m
    · omega
    · have := le_sum hw2 m
      omega
/-- parts that make up one -/
structure Pt (ps : List Rat) (s : Nat) : Prop where
  s0 : 0 < s
  s1 : s ≤ 54
  z : ∀ y ∈ ps, Dz s 1 y
  pos : ∀ y ∈ ps, 0 < y
  sum : sumQ ps = 1
theorem Pt.sq {ps : List Rat} {s : Nat} (P : Pt ps s) {y : Rat} (hy : y ∈ ps) : Sq 6 y := (P.z y hy).sq P.s0 (by have := P.s1; show 1 * s < 64; omega) (by have := P.s1; show s < 64; omega)
theorem L_drawn_share_ok {a b : Rat} {M : Nat} (S : St a b M) (p : Pn h d) (hd : d + 30 < 900000000000) (hl : 4 ≤ l)
    (q : ∀ (xs ps : List Rat) (d' s : Nat), d ≤ d' → d' ≤ d + 13 → 0 < xs.length → xs.length ≤ 6 → ps.length = xs.length → xs.Pairwise (· < ·) → (∀ x ∈ xs, Pl a b M x) → Pt ps s → Q (sv xs ps) (P.sp h d')) : Gd (run T l i_L_drawn_share [.ref 0, qv a, qv b, .int 6] h) Q := by
  refine w_runu (body := b_L_drawn_share) rfl rfl (by omega) p.wf ?_
  unfold b_L_drawn_share
  have sa := S.sa
  have sb := S.sb
  have sw := S.sw
  walk_at "gos"
  refine L_minus_ok (rp_qv sb) (rp_qv sa) (by omega) p.wf (by omega) ?_
  walk_at "gos"
  refine draw_ok rfl (by omega) p.push (by decide) (by decide) (by omega) fun i hi => ?_
  rw [sp_push p.pos]
  walk_at "gos"
  refine ⟨by unfold okR; simp; omega, ?_⟩
  refine for_rng (fun k σ h' => ∃ fs d' o6 o7 o8 o9, h' = (P.sp h d').push (.lst (fs.map qv)) ∧ σ = [some (.ref 0), some (qv a), some (qv b), some (.int 6), some (qv (b - a)), some (.ref h.next), o6, o7, o8, o9] ∧ d ≤ d' ∧ d' ≤ d + 1 + k ∧ fs.length = k ∧ ∀ x ∈ fs, Pl a b M x)
    ⟨[], d + 1, none, none, none, none, rfl, rfl, by omega, by omega, rfl, by simp⟩ ?_ ?_
  · rintro k σ h' hk ⟨fs, d1, o6, o7, o8, o9, rfl, rfl, l1, l2, l3, l4⟩
    have hk' : k < 7 := by omega
    have gp : ((P.sp h d1).push (.lst (fs.map qv))).get h.next = some (.lst (fs.map qv)) := push_get
    walk_at "gos"
    refine lm_isL gp ?_
    walk_at "gos"
    refine draw_ok rfl (by omega) (p.sp (d' := d1)).push (by decide) (by decide) (by omega) fun j hj => ?_
    rw [sp_push (h := P.sp h d1) p.pos, sp_sp]
    have w2 : ((P.sp h (d1 + 1)).push (.lst (fs.map qv))).wf := wf_push p.sp.wf
    walk_at "gos"
    refine L_q_ok (n := 5) (by decide) (by omega) (by omega) (by omega) w2 ?_
    have s1 : Sq 5 (Rat.divInt (j : Int) 24) := Sq.div (by decide) (by omega) (by omega)
    walk_at "gos"
    refine L_times_ok (rp_qv sw) (rp_qv s1) (by omega) w2 (by omega) ?_
    have s2 := Sq.mul sw s1
    walk_at "gos"
    refine L_plus_ok (rp_qv sa) (rp_qv s2) (by omega) w2 (by omega) ?_
    walk_at "gos"
    refine lm_app (xs := fs.map qv) (push_get (h := P.sp h (d1 + 1))) (by rw [List.length_map]; omega) ?_
    walk_at "gos"
    refine ⟨fs ++ [a + (b - a) * Rat.divInt (j : Int) 24], d1 + 1, _, o7, o8, o9, ?_, rfl, by omega, by omega, by rw [List.length_append, l3]; rfl, fun x hx => ?_⟩
    · show ((P.sp h (d1 + 1)).push (.lst (fs.map qv))).set (P.sp h (d1 + 1)).next _ = _
      rw [push_set', List.map_append]
      rfl
    · rcases List.mem_append.mp hx with hx | hx
      · exact l4 x hx
      · rw [List.mem_singleton.mp hx]
        exact pl_of S (m := 24) (k := 1) (by omega) (by decide) (by omega) rfl
  · rintro σ h' ⟨fs, d1, o6, o7, o8, o9, rfl, rfl, l1, l2, l3, l4⟩
    have hfl : 0 < fs.length ∧ fs.length ≤ 6 := by omega
    walk_at "gos"
    refine frz_l (xs := fs.map qv) (push_get (h := P.sp h d1)) ?_
    rw [show ((P.sp h d1).push (.lst (fs.map qv))).erase h.next = bump (P.sp h d1) from push_erase p.sp.wf]
    have pb : Pn (bump (P.sp h d1)) d1 := p.sp.bump
    walk_at "gos"
    refine L_sorted_ok (n := 24) (fun x hx => Pl.sq S (l4 x hx)) (by omega) (by omega) (by omega) pb.wf fun rs a1 a2 a3 => ?_
    have hrl : 0 < rs.length := by
      cases rs with
      | nil =>
        cases fs with
        | nil => simp at hfl
        | cons f fs => exact absurd ((a2 f).mpr List.mem_cons_self) (by simp)
      | cons r rs => simp
    walk_at "gos"
    refine comp_draw qv (fun _ v => ∃ w : Int, v = .int w ∧ 1 ≤ w ∧ w ≤ 9) 1 pb (by omega) (fun x hx d' m1 m2 R hR => ?_) fun vs d' m1 m2 hvl hS => ?_
    · walk_at "gos"
      refine draw_ok rfl (by omega) pb.sp (by decide) (by decide) (by omega) fun i hi => ?_
      rw [sp_sp]
      walk_at "gos"
      exact hR _ _ (by omega) (by omega) ⟨_, rfl, by omega, by omega⟩
    · have hws : ∃ ws : List Int, vs = ws.map Val.int ∧ ∀ w ∈ ws, 1 ≤ w ∧ w ≤ 9 := ints_of fun v hv => by
        obtain ⟨k, hk, rfl⟩ := List.getElem_of_mem hv
        exact hS k _ _ (List.getElem?_eq_getElem (by omega)) (List.getElem?_eq_getElem hk)
      refine hws.elim fun ws hws => ?_
      have hv2 := hws.1
      have hw := hws.2
      rw [hv2] at hvl ⊢
      rw [List.length_map] at hvl
      have hsum := ints_sum hw
      have hs0 : 0 < ws.sum := by omega
      have hs1 : ws.sum ≤ 54 := by omega
      walk_at "gos"
      refine comp_mapa (α := Int) Val.int (fun x => qv (Rat.divInt x ws.sum)) (l := ws) (by omega) (fun x hx R hR => ?_) ?_
      · have hx' := hw x hx
        walk_at "gos"
        have ei : intsOf (ws.map Val.int) = some ws := by
          have := ints_map (fun x : Int => x) ws
          rw [List.map_id'] at this
          exact this
        refine i_sum ei ?_
        walk_at "gos"
        refine L_q_ok (n := 7) (by omega) (by omega) (by omega) (by omega) pb.sp.wf ?_
        walk_at "gos"
        exact hR
      · walk_at "gos"
        have e1 : ws.map (fun x => qv (Rat.divInt x ws.sum)) = (ws.map fun x => Rat.divInt x ws.sum).map qv := by
          rw [List.map_map]
          rfl
        rw [e1]
        have es : ((ws.sum.toNat : Nat) : Int) = ws.sum := by omega
        refine ⟨?_, d', ?_, q rs (ws.map fun x => Rat.divInt x ws.sum) d' ws.sum.toNat (by omega) (by omega) hrl (by omega) (by rw [List.length_map]; omega) a1 (fun x hx => l4 x ((a2 x).mp hx)) ⟨by omega, by omega, fun y hy => ?_, fun y hy => ?_, ?_⟩⟩
        · show (Val.tup [.lst (rs.map qv), .lst ((ws.map fun x => Rat.divInt x ws.sum).map qv)]).noref = true
          simp only [Val.noref, Val.norefs, norefs_qv]
          rfl
        · rw [sp_bump, sp_sp]
          exact (Ex.self p.sp.wf).bump
        · obtain ⟨x, hx, rfl⟩ := List.mem_map.mp hy
          have hx' := hw x hx
          have hle : x ≤ ws.sum := le_sum hw hx
          have := dz_div (a := x) (b := ws.sum.toNat) (B := 1) (by omega) (by omega)
          rwa [es] at this
        · obtain ⟨x, hx, rfl⟩ := List.mem_map.mp hy
          have hx' := hw x hx
          exact div_pos' (by omega) hs0
        · rw [sum_div hs0, div_self' hs0]
end
end G
namespace G
/-- the pieces, as far as they are drawn -/
structure Pi (A : Nat) (ps : List (List Rat)) (N k : Nat) : Prop where
  n0 : 0 < N
  nl : N ≤ A ^ 4 * 99 ^ (4 * k)
  na : A ^ 4 ∣ N
  p : ∀ p ∈ ps, p.length ≤ 4 ∧ trim p = p ∧ (∀ c ∈ p, Dz N 4194304 c) ∧ ∀ x, Dz A 15 x → Dz N ((2 * k + 1) * 196608) (evalP p x)
theorem Pi.start {A : Nat} (ha : 0 < A) : Pi A [] (A ^ 4) 0 := ⟨Nat.pow_pos ha, by simp, Nat.dvd_refl _, fun p h => by cases h⟩
theorem Pi.step {A N k C : Nat} {ps : List (List Rat)} {p : List Rat} (P : Pi A ps N k) (c0 : 0 < C) (c1 : C ≤ 99 ^ 4) (hp : p.length ≤ 4 ∧ trim p = p ∧ (∀ c ∈ p, Dz (N * C) 4194304 c) ∧ ∀ x, Dz A 15 x → Dz (N * C) ((2 * (k + 1) + 1) * 196608) (evalP p x)) : Pi A (ps ++ [p]) (N * C) (k + 1) := by
  refine ⟨Nat.mul_pos P.n0 c0, ?_, Nat.dvd_trans P.na (Nat.dvd_mul_right _ _), fun q hq => ?_⟩
  · have := Nat.mul_le_mul P.nl c1
    rw [Nat.mul_assoc, ← Nat.pow_add] at this
    exact this
  · rcases List.mem_append.mp hq with m | m
    · obtain ⟨h1, h2, h3, h4⟩ := P.p q m
      exact ⟨h1, h2, fun c hc => (h3 c hc).lift C, fun x hx => ((h4 x hx).lift C).mono (Nat.mul_le_mul_right _ (by omega))⟩
    · rw [List.mem_singleton.mp m]
      exact hp
theorem raw_dz {A N C : Nat} {qs : List Rat} {x : Rat} (na : A ^ 4 ∣ N) (hl : qs.length ≤ 4) (hC : ∀ q ∈ qs, Dz C 3 q) (hx : Dz A 15 x) : Dz (N * C) 196608 (evalP (trim qs) x) := by
  rw [evalP_trim]
  have h := evalP_dz hx hC
  have d1 : A ^ qs.length ∣ A ^ 4 := Nat.pow_dvd_pow A hl
  have d2 : C * A ^ qs.length ∣ N * C := by
    rw [Nat.mul_comm N C]
    exact Nat.mul_dvd_mul_left C (Nat.dvd_trans d1 na)
  refine (h.dvd d2).mono ?_
  have : (1 + 15) ^ qs.length ≤ (1 + 15) ^ 4 := Nat.pow_le_pow_right (by decide) hl
  have := Nat.mul_le_mul_left 3 this
  exact this
theorem Pi.n187 {A N k : Nat} {ps : List (List Rat)} (P : Pi A ps N k) (hA : A ≤ 940896) (hk : k ≤ 4) : N < 2 ^ 187 := by
  have h1 : A ^ 4 ≤ 940896 ^ 4 := Nat.pow_le_pow_left hA 4
  have h2 : 99 ^ (4 * k) ≤ 99 ^ 16 := Nat.pow_le_pow_right (by decide) (by omega)
  have h3 := Nat.le_trans P.nl (Nat.mul_le_mul h1 h2)
  exact Nat.lt_of_le_of_lt h3 (by decide)
theorem Pi.drop {A N k : Nat} {ps : List (List Rat)} {p : List Rat} {x : Rat} (P : Pi A ps N k) (a0 : 0 < A) (hA : A ≤ 940896) (hk : k ≤ 4) (hp : p ∈ ps) (hx : Dz A 15 x) (j : Nat) : Sq 310 (evalP (p.drop j) x) := by
  obtain ⟨h1, _, h3, _⟩ := P.p p hp
  have h := evalP_dz hx (p := p.drop j) fun c hc => h3 c (List.mem_of_mem_drop hc)
  have hm : (p.drop j).length ≤ 4 := by rw [List.length_drop]; omega
  generalize (p.drop j).length = m at h hm
  have e1 : A ^ m ≤ 940896 ^ 4 := Nat.le_trans (Nat.pow_le_pow_right a0 hm) (Nat.pow_le_pow_left hA 4)
  have e2 : (1 + 15) ^ m ≤ (1 + 15) ^ 4 := Nat.pow_le_pow_right (by decide) hm
  have e3 : N ≤ 2 ^ 187 := Nat.le_of_lt (P.n187 hA hk)
  have e4 := Nat.mul_le_mul e3 e1
  have e5 := Nat.mul_le_mul (Nat.mul_le_mul_left 4194304 e2) e4
  refine h.sq (Nat.mul_pos P.n0 (Nat.pow_pos a0)) (Nat.lt_of_le_of_lt e5 (by decide)) (Nat.lt_of_le_of_lt e4 (by decide))
theorem zsum_len (a b : List Rat) : (zsum a b).length = max a.length b.length := by
  unfold zsum
  rw [List.length_map, List.length_zip, List.length_append, List.length_append, List.length_replicate, List.length_replicate]
  omega
theorem zsum_dz {M B C : Nat} {a b : List Rat} (ha : ∀ x ∈ a, Dz M B x) (hb : ∀ x ∈ b, Dz M C x) : ∀ x ∈ zsum a b, Dz M (B + C) x := fun x hx => by
  unfold zsum at hx
  obtain ⟨p, hp, rfl⟩ := List.mem_map.mp hx
  have m := List.of_mem_zip hp
  have h1 : Dz M B p.1 := by
    rcases List.mem_append.mp m.1 with z | z
    · exact ha _ z
    · rw [(List.mem_replicate.mp z).2]
      exact Dz.zero.mono (Nat.zero_le _)
  have h2 : Dz M C p.2 := by
    rcases List.mem_append.mp m.2 with z | z
    · exact hb _ z
    · rw [(List.mem_replicate.mp z).2]
      exact Dz.zero.mono (Nat.zero_le _)
  exact h1.add h2
theorem evalP_one (j x : Rat) : evalP (trim [j]) x = j := by
  rw [evalP_trim]
  show j + x * 0 = j
  grind
/-- a piece that is moved -/
theorem moved_piece {A N k C : Nat} {ps : List (List Rat)} {qs : List Rat} {j : Rat} (P : Pi A ps N k) (hk : k ≤ 3) (hl : qs.length ≤ 4) (hC : ∀ q ∈ qs, Dz C 3 q) (hj : Dz (N * C) ((2 * k + 1) * 196608 + 196608) j) :
    (trim (zsum (trim qs) (trim [j]))).length ≤ 4 ∧ trim (trim (zsum (trim qs) (trim [j]))) = trim (zsum (trim qs) (trim [j])) ∧ (∀ c ∈ trim (zsum (trim qs) (trim [j])), Dz (N * C) 4194304 c) ∧ ∀ x, Dz A 15 x → Dz (N * C) ((2 * (k + 1) + 1) * 196608) (evalP (trim (zsum (trim qs) (trim [j]))) x) := by
  refine ⟨?_, trim_trim _, fun c hc => ?_, fun x hx => ?_⟩
  · have h1 := trim_len (zsum (trim qs) (trim [j]))
    have h2 := trim_len qs
    have h3 := trim_len [j]
    rw [zsum_len] at h1
    simp only [List.length_cons, List.length_nil] at h3
    omega
  · have h1 : ∀ q ∈ trim qs, Dz (N * C) 3 q := fun q hq => (hC q (trim_mem hq)).dvd (Nat.dvd_mul_left _ _)
    have h2 : ∀ q ∈ trim [j], Dz (N * C) ((2 * k + 1) * 196608 + 196608) q := fun q hq => by
      rw [List.mem_singleton.mp (trim_mem hq)]
      exact hj
    exact (zsum_dz h1 h2 c (trim_mem hc)).mono (by omega)
  · rw [evalP_trim, evalP_zsum, evalP_one]
    exact ((raw_dz P.na hl hC hx).add hj).mono (by omega)
theorem plain_piece {A N k C : Nat} {ps : List (List Rat)} {qs : List Rat} (P : Pi A ps N k) (hl : qs.length ≤ 4) (hC : ∀ q ∈ qs, Dz C 3 q) :
    (trim qs).length ≤ 4 ∧ trim (trim qs) = trim qs ∧ (∀ c ∈ trim qs, Dz (N * C) 4194304 c) ∧ ∀ x, Dz A 15 x → Dz (N * C) ((2 * (k + 1) + 1) * 196608) (evalP (trim qs) x) := by
  refine ⟨Nat.le_trans (trim_len qs) hl, trim_trim _, fun c hc => ((hC c (trim_mem hc)).dvd (Nat.dvd_mul_left _ _)).mono (by decide), fun x hx => (raw_dz P.na hl hC hx).mono (by omega)⟩
/-- the limits at a knot -/
def lims (ps : List (List Rat)) (x : Rat) (i : Nat) : List Rat := (limL ps x i).toList ++ (limR ps x i).toList
/-- what the number at a knot keeps -/
def Keeps (kd : Str) (L : List Rat) (a : Rat) : Prop := (kd ≠ "lower" → ∀ v ∈ L, v ≤ a) ∧ (kd ≠ "upper" → ∀ v ∈ L, a ≤ v)
theorem lims_mem {ps : List (List Rat)} {x v : Rat} {i : Nat} (hi : i ≤ ps.length) (h : v ∈ lims ps x i) : ∃ p ∈ ps, v = evalP p x := by
  unfold lims at h
  rcases List.mem_append.mp h with m | m
  · unfold limL at m
    split at m
    · simp at m
    · rename_i hne
      have e : ps[i - 1]? = some (ps[i - 1]'(by omega)) := List.getElem?_eq_getElem _
      rw [List.getD_eq_getElem?_getD, e] at m
      exact ⟨_, List.getElem_mem _, by simpa using m⟩
  · unfold limR at m
    split at m
    · simp at m
    · rename_i hne
      have e : ps[i]? = some (ps[i]'(by omega)) := List.getElem?_eq_getElem _
      rw [List.getD_eq_getElem?_getD, e] at m
      exact ⟨_, List.getElem_mem _, by simpa using m⟩
theorem lims_pos {ps : List (List Rat)} {x : Rat} {i : Nat} (h0 : 0 < ps.length) (hi : i ≤ ps.length) : lims ps x i ≠ [] := by
  unfold lims limL limR
  by_cases z : i = 0
  · subst z
    rw [if_pos rfl, if_neg (by omega)]
    simp
  · rw [if_neg z]
    simp
theorem jumps_of {ks : List Rat} {ps : List (List Rat)} {at_ : List Rat} {p : Rat × Rat} {m : Nat} (h : p ∈ jumpsTo ks ps at_ m) : ∃ i, i < m ∧ p.1 = at_.getD i 0 ∧ p.2 ∈ lims ps (ks.getD i 0) i := by
  unfold jumpsTo at h
  obtain ⟨i, hi, hp⟩ := List.mem_flatMap.mp h
  unfold jumpsAt at hp
  obtain ⟨v, hv, rfl⟩ := List.mem_map.mp hp
  exact ⟨i, List.mem_range.mp hi, rfl, hv⟩
/-- a function as the law draws it -/
structure Fn (a b : Rat) (M : Nat) (ks : List Rat) (ps : List (List Rat)) (at_ : List Rat) : Prop where
  F : Lf ks ps at_
  J : Jz ks ps at_ 230
  k0 : ks[0]? = some a
  k1 : ks[ks.length - 1]? = some b
  dp : ∀ p ∈ ps, ∀ x, Dz (M * 24) 15 x → ∀ j, Sq 310 (evalP (p.drop j) x)
  val : ∃ N, 0 < N ∧ N < 2 ^ 190 ∧ ∀ x, OnK ks x → Dz (M * 24) 15 x → Dz N 2097152 (brVal ks ps at_ x)
theorem fn_of {a b : Rat} {M N : Nat} {ks : List Rat} {ps : List (List Rat)} {at_ : List Rat} {kd : Str} (S : St a b M) (asc : ks.Pairwise (· < ·)) (k5 : ks.length ≤ 5) (k2 : 2 ≤ ks.length) (kp : ∀ x ∈ ks, Pl a b M x) (k0 : ks[0]? = some a) (k1 : ks[ks.length - 1]? = some b)
    (P : Pi (M * 24) ps N ps.length) (lp : ps.length + 1 = ks.length) (la : at_.length = ks.length) (sa : ∀ v ∈ at_, Dz (N * 3) 2097152 v) (ke : ∀ i x v, ks[i]? = some x → at_[i]? = some v → Keeps kd (lims ps x i) v) :
    Fn a b M ks ps at_ ∧ (kd ≠ "lower" → upB ks ps at_ = true) ∧ (kd ≠ "upper" → loB ks ps at_ = true) := by
  have m0 := S.m0
  have hA : M * 24 ≤ 940896 := by have := S.m1; omega
  have hA0 : 0 < M * 24 := by omega
  have n187 := P.n187 hA (by omega)
  have n0 := P.n0
  have hN3 : N * 3 < 2 ^ 189 := by
    have : (2 : Nat) ^ 189 = 2 ^ 187 * 4 := by decide
    omega
  have sqN : ∀ {v : Rat}, Dz (N * 3) 4194304 v → Sq 230 v := fun h => h.sq (by omega) (Nat.lt_of_le_of_lt (Nat.mul_le_mul_left _ (Nat.le_of_lt hN3)) (by decide)) (Nat.lt_of_lt_of_le hN3 (Nat.pow_le_pow_right (by decide) (by decide)))
  have evz : ∀ p ∈ ps, ∀ x, Dz (M * 24) 15 x → Dz (N * 3) 2097152 (evalP p x) := fun p hp x hx => (((P.p p hp).2.2.2 x hx).lift 3).mono (by omega)
  have jm : ∀ p ∈ jumpsTo ks ps at_ ks.length, ∃ i x v, ks[i]? = some x ∧ at_[i]? = some v ∧ p.1 = v ∧ p.2 ∈ lims ps x i ∧ i ≤ ps.length ∧ x ∈ ks ∧ v ∈ at_ := fun p hp => by
    obtain ⟨i, hi, e1, e2⟩ := jumps_of hp
    have g1 : ks[i]? = some (ks[i]'hi) := List.getElem?_eq_getElem _
    have g2 : at_[i]? = some (at_[i]'(by omega)) := List.getElem?_eq_getElem _
    rw [List.getD_eq_getElem?_getD, g1] at e2
    rw [List.getD_eq_getElem?_getD, g2] at e1
    exact ⟨i, _, _, g1, g2, e1, e2, by omega, List.getElem_mem _, List.getElem_mem _⟩
  refine ⟨⟨⟨⟨asc, lp, la, by omega, fun k hk => (Pl.sq S (kp k hk)).mono (by decide), fun v hv => sqN ((sa v hv).mono (by decide)), fun p hp => ⟨(P.p p hp).1, fun c hc => sqN (((P.p p hp).2.2.1 c hc).lift 3)⟩, by omega⟩, k5, fun p hp => (P.p p hp).2.1⟩, fun p hp => ?_, k0, k1, fun p hp x hx j => P.drop hA0 hA (by omega) hp hx j, N * 3, by omega, Nat.lt_of_lt_of_le hN3 (Nat.pow_le_pow_right (by decide) (by decide)), fun x on hx => ?_⟩, fun hk => ?_, fun hk => ?_⟩
  · obtain ⟨i, x, v, g1, g2, e1, e2, hi, mx, mv⟩ := jm p hp
    obtain ⟨c, hc, e3⟩ := lims_mem hi e2
    rw [e1, e3]
    exact ⟨sqN ((sa v mv).mono (by decide)), sqN ((evz c hc x (kp x mx).z).mono (by decide))⟩
  · unfold brVal
    by_cases m : x ∈ ks
    · rw [if_pos m]
      obtain ⟨i, hi, ei⟩ := List.getElem_of_mem m
      have hk : ks[i]? = some x := by rw [List.getElem?_eq_getElem hi, ei]
      rw [(on_knot asc hk).2]
      have g2 : at_[i]? = some (at_[i]'(by omega)) := List.getElem?_eq_getElem _
      rw [List.getD_eq_getElem?_getD, g2]
      exact sa _ (List.getElem_mem _)
    · rw [if_neg m]
      obtain ⟨k, s1, s2, s3⟩ := brIx_spec asc k0 (on.1 _ k0)
      have hlt := (List.getElem?_eq_some_iff.mp s1).1
      have hb : brIx ks x < ps.length := by
        rcases Nat.lt_or_ge (brIx ks x) ps.length with y | y
        · exact y
        · have e : brIx ks x = ks.length - 1 := by omega
          rw [e] at s1
          have := on.2 k s1
          have hx : x = k := by grind
          rw [hx] at m
          exact absurd (List.mem_of_getElem? s1) m
      have g : ps[brIx ks x]? = some (ps[brIx ks x]'hb) := List.getElem?_eq_getElem _
      rw [List.getD_eq_getElem?_getD, g]
      exact evz _ (List.getElem_mem _) x hx
  · unfold upB
    rw [List.all_eq_true]
    intro p hp
    obtain ⟨i, x, v, g1, g2, e1, e2, hi, mx, mv⟩ := jm p hp
    have := (ke i x v g1 g2).1 hk p.2 e2
    rw [e1]
    simp only [Bool.not_eq_true', decide_eq_false_iff_not]
    grind
  · unfold loB
    rw [List.all_eq_true]
    intro p hp
    obtain ⟨i, x, v, g1, g2, e1, e2, hi, mx, mv⟩ := jm p hp
    have := (ke i x v g1 g2).2 hk p.2 e2
    rw [e1]
    simp only [Bool.not_eq_true', decide_eq_false_iff_not]
    grind
end G
namespace G
/-- two lists of a def's own -/
def two (h : VH) (U V : List Val) : VH := (h.push (.lst U)).push (.lst V)
section
variable {h : VH} {Q : Val → VH → Prop} {l d : Nat} {U V : List Val}
theorem two_get1 : (two h U V).get h.next = some (.lst U) := by
  unfold two
  rw [push_getn (by show h.next ≠ h.next + 1; omega)]
  exact push_get
theorem two_get2 : (two h U V).get (h.next + 1) = some (.lst V) := push_get (h := h.push (.lst U))
theorem two_set1 {o : List Val} : (two h U V).set h.next (.lst o) = two h o V := by
  show VH.mk _ (VH.setL h.next (.lst o) ((h.next + 1, .lst V) :: (h.next, .lst U) :: h.obs)) = _
  unfold VH.setL
  rw [if_neg (by omega)]
  unfold VH.setL
  rw [if_pos rfl]
  rfl
theorem two_set2 {o : List Val} : (two h U V).set (h.next + 1) (.lst o) = two h U o := push_set' (h := h.push (.lst U))
theorem two_pn (p : Pn h d) : Pn (two h U V) d := p.push.push
theorem two_sp (p : Pn h d) {d' : Nat} : P.sp (two h U V) d' = two (P.sp h d') U V := by
  unfold two
  rw [sp_push (h := h.push (.lst U)) p.push.pos, sp_push p.pos]
theorem two_ex (w : h.wf) : Ex h (((two h U V).erase h.next).erase (h.next + 1)) := (((Ex.self w).push.push).erase (Nat.le_refl _)).erase (by omega)
theorem two_get2e (w : h.wf) : ((two h U V).erase h.next).get (h.next + 1) = some (.lst V) := by
  show List.lookup (h.next + 1) (VH.eraseL h.next ((h.next + 1, .lst V) :: (h.next, .lst U) :: h.obs)) = _
  unfold VH.eraseL
  rw [if_neg (by omega), List.lookup_cons]
  simp
theorem kd_eq {T0 : Tb} {C0 : Nat → List Val → Mo Val} {x y : Str} (hx : PyData.strOk x = true) (hy : PyData.strOk y = true) {Q : Val → VH → Prop} (q : Q (.bl (decide (x = y))) h) : GCm T0 C0 .eq (.str x) (.str y) h Q := by
  refine c_eqP 1 (by decide) (by unfold plB; exact hx) (by unfold plB; exact hy) fun b hb => ?_
  have : b = decide (x = y) := by
    rw [Bool.eq_iff_iff, hb, decide_eq_true_iff]
    constructor
    · intro z
      injection z
    · rintro rfl
      rfl
  rw [this]
  exact q
theorem kd_ne {T0 : Tb} {C0 : Nat → List Val → Mo Val} {x y : Str} (hx : PyData.strOk x = true) (hy : PyData.strOk y = true) {Q : Val → VH → Prop} (q : Q (.bl (!decide (x = y))) h) : GCm T0 C0 .ne (.str x) (.str y) h Q := by
  refine c_neP 1 (by decide) (by unfold plB; exact hx) (by unfold plB; exact hy) fun b hb => ?_
  have : b = !decide (x = y) := by
    rw [Bool.eq_iff_iff, hb, Bool.not_eq_true', decide_eq_false_iff_not]
    exact not_congr ⟨fun z => by injection z, fun z => by rw [z]⟩
  rw [this]
  exact q
theorem str_ok : PyData.strOk "plain" = true ∧ PyData.strOk "upper" = true ∧ PyData.strOk "lower" = true := by decide +kernel
/-- the numbers of a piece -/
theorem raw_numbers {Q : List Val → VH → Prop} {body : Val → Mo (Option Val)} {n dd : Nat} {H0 : VH} (p : Pn h dd) (h0 : H0 = two (P.sp h d) U V) (hn : n ≤ 4) (hd : d + 20 < 900000000000) (hl : 3 ≤ l)
    (hb : ∀ x h' (R : Option Val → VH → Prop), Gd (run T l i_L_ratio [.ref 0, .int 3] h') (fun v h2 => R (some v) h2) → Gd (body x h') R)
    (q : ∀ (qs : List Rat) (d' C : Nat), d ≤ d' → d' ≤ d + 4 * n → qs.length = n → 0 < C → C ≤ 99 ^ n → (∀ x ∈ qs, Dz C 3 x) → Q (qs.map qv) (two (P.sp h d') U V)) : Gd (walkC (.rng 0 1 n) body H0) Q := by
  subst h0
  refine comp_rng (fun k acc h' => ∃ qs d' C, h' = two (P.sp h d') U V ∧ acc = qs.map qv ∧ d ≤ d' ∧ d' ≤ d + 4 * k ∧ qs.length = k ∧ 0 < C ∧ C ≤ 99 ^ k ∧ ∀ x ∈ qs, Dz C 3 x) ⟨[], d, 1, rfl, rfl, by omega, by omega, rfl, by decide, by decide, by simp⟩ (fun k acc h' hk i => ?_) fun acc h' i => ?_
  · obtain ⟨qs, d1, C, rfl, rfl, l1, l2, l3, c0, c1, z⟩ := i
    refine hb _ _ _ ?_
    refine L_ratio_dz (by decide) (by decide) (two_pn (p.sp (d' := d1))) (by omega) hl fun a d2 b m1 m2 b0 b1 zb => ?_
    rw [two_sp (p.sp (d' := d1)), sp_sp]
    refine ⟨by rw [List.length_map]; omega, qs ++ [a], d2, C * b, rfl, by rw [List.map_append]; rfl, by omega, by omega, by rw [List.length_append, l3]; rfl, Nat.mul_pos c0 b0, ?_, fun x hx => ?_⟩
    · rw [Nat.pow_succ]
      exact Nat.mul_le_mul c1 b1
    · rcases List.mem_append.mp hx with m | m
      · exact (z x m).lift b
      · rw [List.mem_singleton.mp m]
        exact zb.dvd (Nat.dvd_mul_left _ _)
  · obtain ⟨qs, d1, C, rfl, rfl, l1, l2, l3, c0, c1, z⟩ := i
    exact q qs d1 C l1 l2 l3 c0 c1 z
theorem pow99 {n : Nat} (h : n ≤ 4) : 99 ^ n ≤ 99 ^ 4 := Nat.pow_le_pow_right (by decide) h
/-- the pieces go on -/
def Cont (ks : List Rat) (ps : List (List Rat)) : Prop := ∀ (i : Nat) p p' x, ps[i]? = some p → ps[i + 1]? = some p' → ks[i + 1]? = some x → evalP p x = evalP p' x
theorem cont_snoc {ks : List Rat} {ps : List (List Rat)} {p : List Rat} (c : Cont ks ps) (h : ∀ q x, ps[ps.length - 1]? = some q → ks[ps.length]? = some x → 0 < ps.length → evalP q x = evalP p x) : Cont ks (ps ++ [p]) := fun i q q' x h1 h2 h3 => by
  rcases Nat.lt_or_ge (i + 1) ps.length with z | z
  · rw [List.getElem?_append_left (by omega)] at h1
    rw [List.getElem?_append_left z] at h2
    exact c i q q' x h1 h2 h3
  · have hi := (List.getElem?_eq_some_iff.mp h2).1
    rw [List.length_append] at hi
    have e : i + 1 = ps.length := by simp at hi; omega
    rw [List.getElem?_append_left (by omega)] at h1
    rw [List.getElem?_append_right (by omega), e, Nat.sub_self] at h2
    simp at h2
    subst h2
    rw [e] at h3
    exact h q x (by rw [show ps.length - 1 = i by omega]; exact h1) h3 (by omega)
end
end G
namespace G
theorem lims_eq {ks : List Rat} {ps : List (List Rat)} {i : Nat} {x v v' : Rat} (c : Cont ks ps) (hx : ks[i]? = some x) (hi : i ≤ ps.length) (h1 : v ∈ lims ps x i) (h2 : v' ∈ lims ps x i) : v = v' := by
  have key : ∀ u u', u ∈ (limL ps x i).toList → u' ∈ (limR ps x i).toList → u = u' := fun u u' a b => by
    unfold limL at a
    unfold limR at b
    split at a
    · simp at a
    · rename_i hne
      split at b
      · simp at b
      · rename_i hne2
        have e1 : ps[i - 1]? = some (ps[i - 1]'(by omega)) := List.getElem?_eq_getElem _
        have e2 : ps[i]? = some (ps[i]'(by omega)) := List.getElem?_eq_getElem _
        rw [List.getD_eq_getElem?_getD, e1] at a
        rw [List.getD_eq_getElem?_getD, e2] at b
        have ei : i - 1 + 1 = i := by omega
        have := c (i - 1) _ _ x e1 (by rw [ei]; exact e2) (by rw [ei]; exact hx)
        simp at a b
        rw [a, b]
        exact this
  have one : ∀ {o : Option Rat} {u u' : Rat}, u ∈ o.toList → u' ∈ o.toList → u = u' := fun {o u u'} a b => by
    cases o with
    | none => simp at a
    | some z =>
      simp at a b
      rw [a, b]
  unfold lims at h1 h2
  rcases List.mem_append.mp h1 with a | a
  · rcases List.mem_append.mp h2 with b | b
    · exact one a b
    · exact key _ _ a b
  · rcases List.mem_append.mp h2 with b | b
    · exact (key _ _ b a).symm
    · exact one a b
theorem asc_ends {rs : List Rat} (asc : rs.Pairwise (· < ·)) (hne : rs ≠ []) : ∃ f e, rs[0]? = some f ∧ rs[rs.length - 1]? = some e ∧ f ∈ rs ∧ e ∈ rs ∧ ∀ x ∈ rs, f ≤ x ∧ x ≤ e := by
  have hp : 0 < rs.length := List.length_pos_iff.mpr hne
  refine ⟨rs[0], rs[rs.length - 1], List.getElem?_eq_getElem _, List.getElem?_eq_getElem _, List.getElem_mem _, List.getElem_mem _, fun x hx => ?_⟩
  obtain ⟨i, hi, e⟩ := List.getElem_of_mem hx
  subst e
  constructor
  · rcases Nat.eq_zero_or_pos i with z | z
    · subst z
      exact Rat.le_refl
    · have := List.pairwise_iff_getElem.mp asc 0 i hp hi z
      grind
  · rcases Nat.eq_or_lt_of_le (show i ≤ rs.length - 1 by omega) with z | z
    · subst z
      exact Rat.le_refl
    · have := List.pairwise_iff_getElem.mp asc i (rs.length - 1) hi (by omega) z
      grind
theorem norefs_polyL : ∀ ps : List (List Rat), Val.norefs (ps.map polyL) = true
  | [] => rfl
  | p :: ps => by
    rw [List.map_cons, Val.norefs, norefs_polyL ps, show (polyL p).noref = true from by unfold polyL; rw [Val.noref, norefs_qv]]
    rfl
theorem noref_fnL (ks : List Rat) (ps : List (List Rat)) (at_ : List Rat) : (fnL ks ps at_).noref = true := by
  unfold fnL
  rw [Val.noref, Val.norefs, Val.norefs, Val.norefs, Val.noref, Val.noref, Val.noref, norefs_qv, norefs_polyL, norefs_qv]
  rfl
section
variable {h : VH} {Q : Val → VH → Prop} {l d : Nat}
theorem L_drawn_function_ok {a b : Rat} {M : Nat} {ks : List Rat} {kd : Str} (S : St a b M) (asc : ks.Pairwise (· < ·)) (k5 : ks.length ≤ 5) (k2 : 2 ≤ ks.length) (kp : ∀ x ∈ ks, Pl a b M x) (k0 : ks[0]? = some a) (k1 : ks[ks.length - 1]? = some b) (hkd : kd = "plain" ∨ kd = "upper" ∨ kd = "lower")
    (p : Pn h d) (hd : d + 300 < 900000000000) (hl : 8 ≤ l)
    (q : ∀ (ps : List (List Rat)) (at_ : List Rat) (d' : Nat), d ≤ d' → d' ≤ d + 120 → Fn a b M ks ps at_ → (kd ≠ "lower" → upB ks ps at_ = true) → (kd ≠ "upper" → loB ks ps at_ = true) → Q (fnL ks ps at_) (P.sp h d')) :
    Gd (run T l i_L_drawn_function [.ref 0, .lst (ks.map qv), .int 3, .str kd, .int 3] h) Q := by
  refine w_runu (body := b_L_drawn_function) rfl rfl (by omega) p.wf ?_
  unfold b_L_drawn_function
  have hok : PyData.strOk kd = true := by
    rcases hkd with rfl | rfl | rfl
    · exact str_ok.1
    · exact str_ok.2.1
    · exact str_ok.2.2
  have hA : M * 24 ≤ 940896 := by have := S.m1; omega
  have hA0 : 0 < M * 24 := by have := S.m0; omega
  walk_at "gos"
  refine ⟨by rw [List.length_map]; unfold okR; simp; omega, ?_⟩
  have el : (((ks.map qv).length : Int) - 1).toNat = ks.length - 1 := by rw [List.length_map]; omega
  rw [el]
  refine for_rng (fun k σ h' => ∃ (ps : List (List Rat)) (N d' : Nat) (o7 o8 o9 o10 o11 o12 o13 : Option Val), h' = two (P.sp h d') (ps.map polyL) [] ∧ σ = [some (.ref 0), some (.lst (ks.map qv)), some (.int 3), some (.str kd), some (.int 3), some (.ref h.next), some (.ref (h.next + 1)), o7, o8, o9, o10, o11, o12, o13] ∧ d ≤ d' ∧ d' ≤ d + 20 * k ∧ ps.length = k ∧ Pi (M * 24) ps N k ∧ (kd = "plain" → Cont ks ps))
    ⟨[], _, d, none, none, none, none, none, none, none, by rw [sp_self p]; rfl, rfl, by omega, by omega, rfl, Pi.start hA0, fun _ i p p' x z => by simp at z⟩ ?_ ?_
  · rintro k σ h' hk ⟨ps, N, d1, o7, o8, o9, o10, o11, o12, o13, rfl, rfl, l1, l2, l3, PI, hc⟩
    have hk4 : k < 4 := by omega
    have p1 : Pn (two (P.sp h d1) (ps.map polyL) []) d1 := two_pn p.sp
    have ek : (0 + (k : Int) * 1) = ((k : Nat) : Int) := by omega
    have n187 := PI.n187 hA (by omega)
    walk_at "gos"
    refine draw_ok rfl (by omega) p1 (by decide) (by decide) (by omega) fun i hi => ?_
    rw [two_sp (p.sp (d' := d1)), sp_sp]
    walk_at "gos"
    refine ⟨by unfold okR; simp; omega, ?_⟩
    refine raw_numbers (l := l - 1) (U := ps.map polyL) (V := []) (d := d1 + 1) (n := (1 + (i : Int)).toNat) p rfl (by omega) (by omega) (by omega) (fun x h' R z => ?_) fun qs d2 C m1 m2 hql c0 c1 z => ?_
    · walk_at "gos"
      exact z
    have hq4 : qs.length ≤ 4 := by omega
    have w2 : (two (P.sp h d2) (ps.map polyL) []).wf := (two_pn (p.sp (d' := d2))).wf
    have c4 : C ≤ 99 ^ 4 := Nat.le_trans c1 (pow99 (by omega))
    have sqn : ∀ x ∈ trim qs, Sq 230 x := fun x hx => (z x (trim_mem hx)).sq c0 (Nat.lt_of_le_of_lt (Nat.mul_le_mul_left 3 c4) (by decide)) (Nat.lt_of_le_of_lt c4 (by decide))
    walk_at "gos"
    refine L_poly_ok (by omega) (by omega) w2 ?_
    walk_at "gos"
    refine kd_eq hok str_ok.1 ?_
    have g1 : (two (P.sp h d2) (ps.map polyL) []).get h.next = some (.lst (ps.map polyL)) := two_get1 (h := P.sp h d2)
    have hlen : (ps.map polyL).length ≤ 1000000 := by rw [List.length_map]; omega
    have fin : ∀ (pc : List Rat), two (P.sp h d2) (ps.map polyL ++ [polyL pc]) [] = two (P.sp h d2) ((ps ++ [pc]).map polyL) [] := fun pc => by rw [List.map_append]; rfl
    have st1 : ∀ (o : List Val), (two (P.sp h d2) (ps.map polyL) []).set h.next (.lst o) = two (P.sp h d2) o [] := fun o => two_set1 (h := P.sp h d2)
    refine g_if (fun hpl => ?_) fun hpl => ?_
    · walk_at "gos"
      rw [ek]
      refine g_if (fun hk0 => ?_) fun hk0 => ?_
      · obtain ⟨c, rfl⟩ : ∃ c, k = c + 1 := ⟨k - 1, by omega⟩
        obtain ⟨pl, hpl2⟩ : ∃ c, ps[ps.length - 1]? = some c := ⟨ps[ps.length - 1]'(by omega), List.getElem?_eq_getElem _⟩
        obtain ⟨x, hx⟩ : ∃ x, ks[c + 1]? = some x := ⟨ks[c + 1]'(by omega), List.getElem?_eq_getElem _⟩
        have px := kp x (List.mem_of_getElem? hx)
        have sx := Pl.sq S px
        have mpl := List.mem_of_getElem? hpl2
        have PP := PI.p pl mpl
        have coefs : ∀ q ∈ pl, Sq 230 q := fun q hq => (PP.2.2.1 q hq).sq PI.n0 (Nat.lt_of_le_of_lt (Nat.mul_le_mul_left _ (Nat.le_of_lt n187)) (by decide)) (Nat.lt_of_lt_of_le n187 (Nat.pow_le_pow_right (by decide) (by decide)))
        have skx : ∀ {h' : VH}, subV h' (.lst (ks.map qv)) (.int ((c + 1 : Nat) : Int)) = some (qv x) := fun {h'} => sub_lst (k := c + 1) (x := qv x) (by rw [List.getElem?_map, hx]; rfl)
        have slast : ∀ {R : Val → Prop}, R (polyL pl) → ∃ v, subV (two (P.sp h d2) (ps.map polyL) []) (.ref h.next) (.int (-1)) = some v ∧ R v := fun r => ⟨_, sub_refL g1 (by rw [List.length_map, List.getElem?_map, hpl2]; rfl), r⟩
        have ev1 : Dz (N * C) ((2 * (c + 1) + 1) * 196608) (evalP pl x) := (PP.2.2.2 x px.z).lift C
        have ev2 : Dz (N * C) 196608 (evalP (trim qs) x) := raw_dz PI.na hq4 z px.z
        have hj := ev1.sub ev2
        have nC : N * C < 2 ^ 214 := Nat.lt_of_le_of_lt (Nat.mul_le_mul (Nat.le_of_lt n187) c4) (by decide)
        have nC0 : 0 < N * C := Nat.mul_pos PI.n0 c0
        have sj : Sq 240 (evalP pl x - evalP (trim qs) x) := (hj.mono (show _ ≤ 2097152 by omega)).sq nC0 (Nat.lt_of_le_of_lt (Nat.mul_le_mul_left _ (Nat.le_of_lt nC)) (by decide)) (Nat.lt_of_lt_of_le nC (Nat.pow_le_pow_right (by decide) (by decide)))
        have pd := fun j => PI.drop hA0 hA (by omega) mpl px.z j
        have pp2 := plain_piece PI hq4 z
        have qd : ∀ j, Sq 310 (evalP ((trim qs).drop j) x) := fun j => by
          have PS := PI.step c0 c4 pp2
          exact PS.drop hA0 hA (by omega) (List.mem_append_right _ (List.mem_singleton.mpr rfl)) px.z j
        walk_at "gos"
        refine slast ?_
        walk_at "gos"
        refine x_some skx ?_
        walk_at "gos"
        rw [show polyL pl = .lst (pl.map qv) from rfl]
        refine L_p_at_ok coefs (rp_qv sx) pd (by omega) (by omega) (by omega) w2 ?_
        walk_at "gos"
        refine x_some skx ?_
        walk_at "gos"
        refine L_p_at_ok sqn (rp_qv sx) qd (by omega) (by omega) (by omega) w2 ?_
        walk_at "gos"
        refine L_minus_ok (rp_qv (pd 0)) (rp_qv (qd 0)) (by omega) w2 (by omega) ?_
        walk_at "gos"
        refine L_poly_ok (qs := [evalP pl x - evalP (trim qs) x]) (by simp) (by omega) w2 ?_
        walk_at "gos"
        refine L_p_plus_ok (n := 240) (fun x hx => (sqn x hx).mono (by decide)) (fun y hy => ?_) (by decide) (by decide) ?_ ?_ (by omega) w2 ?_
        · rw [List.mem_singleton.mp (trim_mem hy)]
          exact sj
        · have := trim_len qs
          omega
        · have := trim_len [evalP pl x - evalP (trim qs) x]
          simp at this
          omega
        walk_at "gos"
        refine lm_isL g1 ?_
        walk_at "gos"
        refine lm_app g1 hlen ?_
        walk_at "gos"
        rw [st1]
        have mp := moved_piece PI (by omega) hq4 z (j := evalP pl x - evalP (trim qs) x) hj
        exact ⟨ps ++ [trim (zsum (trim qs) (trim [evalP pl x - evalP (trim qs) x]))], N * C, d2, _, _, _, _, _, _, _, fin _, rfl, by omega, by omega, by rw [List.length_append, l3]; rfl, PI.step c0 c4 mp, fun hp => cont_snoc (hc hp) fun q y hq hy _ => by
          rw [hpl2] at hq
          rw [l3, hx] at hy
          cases hq
          cases hy
          rw [evalP_trim, evalP_zsum, evalP_one]
          grind⟩
      · walk_at "gos"
        refine lm_isL g1 ?_
        walk_at "gos"
        refine lm_app g1 hlen ?_
        walk_at "gos"
        rw [st1]
        exact ⟨ps ++ [trim qs], N * C, d2, _, _, _, _, _, _, _, fin _, rfl, by omega, by omega, by rw [List.length_append, l3]; rfl, PI.step c0 c4 (plain_piece PI hq4 z), fun hp => cont_snoc (hc hp) fun q y hq hy h0 => by omega⟩
    · walk_at "gos"
      refine lm_isL g1 ?_
      walk_at "gos"
      refine lm_app g1 hlen ?_
      walk_at "gos"
      rw [st1]
      exact ⟨ps ++ [trim qs], N * C, d2, _, _, _, _, _, _, _, fin _, rfl, by omega, by omega, by rw [List.length_append, l3]; rfl, PI.step c0 c4 (plain_piece PI hq4 z), fun hp => absurd hp hpl⟩
  · rintro σ h' ⟨ps, N, d1, o7, o8, o9, o10, o11, o12, o13, rfl, rfl, l1, l2, l3, PI, hc⟩
    have lp : ps.length + 1 = ks.length := by omega
    have l2 : d1 ≤ d + 80 := by omega
    have lp4 : ps.length ≤ 4 := by omega
    rw [← l3] at PI
    have n187 := PI.n187 hA lp4
    have hN3 : N * 3 < 2 ^ 189 := by
      have : (2 : Nat) ^ 189 = 2 ^ 187 * 4 := by decide
      omega
    have n0 := PI.n0
    walk_at "gos"
    refine ⟨by rw [List.length_map]; unfold okR; simp; omega, ?_⟩
    have el2 : (((ks.map qv).length : Int)).toNat = ks.length := by rw [List.length_map]; omega
    rw [el2]
    refine for_rng (fun k σ h' => ∃ (at_ : List Rat) (d' : Nat) (o7 o8 o9 o10 o11 o12 o13 : Option Val), h' = two (P.sp h d') (ps.map polyL) (at_.map qv) ∧ σ = [some (.ref 0), some (.lst (ks.map qv)), some (.int 3), some (.str kd), some (.int 3), some (.ref h.next), some (.ref (h.next + 1)), o7, o8, o9, o10, o11, o12, o13] ∧ d1 ≤ d' ∧ d' ≤ d1 + k ∧ at_.length = k ∧ (∀ v ∈ at_, Dz (N * 3) 2097152 v) ∧ ∀ (i : Nat) (x v : Rat), ks[i]? = some x → at_[i]? = some v → Keeps kd (lims ps x i) v)
      ⟨[], d1, _, _, _, _, _, _, _, rfl, rfl, by omega, by omega, rfl, by simp, fun i x v _ z => by simp at z⟩ ?_ ?_
    · rintro k σ h' hk ⟨at_, d2, o7, o8, o9, o10, o11, o12, o13, rfl, rfl, m1, m2, m3, sa, ke⟩
      have ek : (0 + (k : Int) * 1) = ((k : Nat) : Int) := by omega
      obtain ⟨x, hx⟩ : ∃ x, ks[k]? = some x := ⟨ks[k]'(by omega), List.getElem?_eq_getElem _⟩
      have px := kp x (List.mem_of_getElem? hx)
      have sx := Pl.sq S px
      have w2 : (two (P.sp h d2) (ps.map polyL) (at_.map qv)).wf := (two_pn (p.sp (d' := d2))).wf
      have g1 : (two (P.sp h d2) (ps.map polyL) (at_.map qv)).get h.next = some (.lst (ps.map polyL)) := two_get1 (h := P.sp h d2)
      have hp : ∀ p ∈ ps, p.length ≤ 1000 ∧ (∀ q ∈ p, Sq 230 q) ∧ ∀ j, Sq 310 (evalP (p.drop j) x) := fun c hc => by
        have PP := PI.p c hc
        exact ⟨by have := PP.1; omega, fun q hq => (PP.2.2.1 q hq).sq PI.n0 (Nat.lt_of_le_of_lt (Nat.mul_le_mul_left _ (Nat.le_of_lt n187)) (by decide)) (Nat.lt_of_lt_of_le n187 (Nat.pow_le_pow_right (by decide) (by decide))), fun j => PI.drop hA0 hA lp4 hc px.z j⟩
      have hkl : k ≤ ps.length := by omega
      walk_at "gos"
      rw [ek]
      refine L_f_limits_ok g1 hx hkl (by omega) hp sx (by decide) (by omega) w2 ?_
      rw [show (limL ps x k).toList ++ (limR ps x k).toList = lims ps x k from rfl]
      walk_at "gos"
      have sL : ∀ v ∈ lims ps x k, Sq 310 v := fun v hv => by
        obtain ⟨c, hc, e⟩ := lims_mem hkl hv
        rw [e]
        exact (hp c hc).2.2 0
      have zL : ∀ v ∈ lims ps x k, Dz (N * 3) 1769472 v := fun v hv => by
        obtain ⟨c, hc, e⟩ := lims_mem hkl hv
        rw [e]
        exact (((PI.p c hc).2.2.2 x px.z).lift 3).mono (by omega)
      have lL : (lims ps x k).length ≤ 2 := by
        unfold lims
        rw [List.length_append]
        cases limL ps x k <;> cases limR ps x k <;> simp
      refine L_sorted_ok sL (by decide) (by omega) (by omega) w2 fun rs a1 a2 a3 => ?_
      have hne : rs ≠ [] := fun z => by
        have := lims_pos (x := x) (show 0 < ps.length by omega) hkl
        refine this (List.eq_nil_iff_forall_not_mem.mpr fun v hv => ?_)
        rw [z] at a2
        exact absurd ((a2 v).mpr hv) (by simp)
      obtain ⟨f, e, e1', e2', f1, f2, f3⟩ := asc_ends a1 hne
      have sf := sL f ((a2 f).mp f1)
      have se := sL e ((a2 e).mp f2)
      have app : ∀ (v : Rat) (d3 : Nat), (two (P.sp h d3) (ps.map polyL) (at_.map qv)).set (h.next + 1) (.lst (at_.map qv ++ [qv v])) = two (P.sp h d3) (ps.map polyL) ((at_ ++ [v]).map qv) := fun v d3 => by
        rw [List.map_append]
        exact two_set2 (h := P.sp h d3)
      have g2 : ∀ d3, (two (P.sp h d3) (ps.map polyL) (at_.map qv)).get (h.next + 1) = some (.lst (at_.map qv)) := fun d3 => two_get2 (h := P.sp h d3)
      have keep : ∀ v, Dz (N * 3) 2097152 v → Keeps kd (lims ps x k) v → (∀ u ∈ at_ ++ [v], Dz (N * 3) 2097152 u) ∧ ∀ (i : Nat) (y u : Rat), ks[i]? = some y → (at_ ++ [v])[i]? = some u → Keeps kd (lims ps y i) u := fun v hv hk => by
        refine ⟨fun u hu => ?_, fun i y u hy hu => ?_⟩
        · rcases List.mem_append.mp hu with m | m
          · exact sa u m
          · rw [List.mem_singleton.mp m]
            exact hv
        · rcases Nat.lt_or_ge i at_.length with z | z
          · rw [List.getElem?_append_left z] at hu
            exact ke i y u hy hu
          · rw [List.getElem?_append_right z] at hu
            have hi := (List.getElem?_eq_some_iff.mp hu).1
            have e0 : i = k := by simp at hi; omega
            subst e0
            rw [m3, Nat.sub_self] at hu
            rw [hx] at hy
            cases hy
            simp at hu
            subst hu
            exact hk
      have zP : ∀ {u more : Rat}, u ∈ lims ps x k → Dz 3 5 more → Dz (N * 3) 2097152 (u + more) ∧ Dz (N * 3) 2097152 (u - more) := fun hu hm => ⟨((zL _ hu).add (hm.dvd (Nat.dvd_mul_left _ _))).mono (by decide), ((zL _ hu).sub (hm.dvd (Nat.dvd_mul_left _ _))).mono (by decide)⟩
      have hlen2 : (at_.map qv).length ≤ 1000000 := by rw [List.length_map]; omega
      have sF : ∀ {h' : VH}, subV h' (.lst (rs.map qv)) (.int 0) = some (qv f) := fun {h'} => sub_lst (k := 0) (x := qv f) (by rw [List.getElem?_map, e1']; rfl)
      have sE : ∀ {h' : VH}, subV h' (.lst (rs.map qv)) (.int (-1)) = some (qv e) := fun {h'} => (sub_last (x := qv e) (by rw [List.length_map, List.getElem?_map, e2']; rfl)).2
      walk_at "gos"
      refine kd_ne hok str_ok.1 ?_
      refine g_ifn (fun hnp => ?_) fun hpl => ?_
      · walk_at "gos"
        refine L_pick_ok (by simp) (by simp) (two_pn (p.sp (d' := d2))) (by omega) (by omega) fun mv hmv => ?_
        rw [two_sp (p.sp (d' := d2)), sp_sp]
        have hmore : ∃ more, Rp mv more 3 ∧ Dz 3 5 more ∧ 0 ≤ more := by
          simp only [List.mem_cons, List.not_mem_nil, or_false] at hmv
          have d0 : Dz 3 5 (Rat.divInt 0 1) := by rw [Rat.zero_divInt]; exact Dz.zero.mono (by decide)
          have n0' : (0 : Rat) ≤ Rat.divInt 0 1 := by rw [Rat.zero_divInt]; exact Rat.le_refl
          rcases hmv with rfl | rfl | rfl | rfl
          · exact ⟨_, rp_lit (by decide) (by decide) (by decide), d0, n0'⟩
          · exact ⟨_, rp_lit (by decide) (by decide) (by decide), d0, n0'⟩
          · exact ⟨_, rp_lit (by decide) (by decide) (by decide), (dz_div (b := 3) (B := 5) (by decide) (by decide)), Rat.le_of_lt (div_pos' (by decide) (by decide))⟩
          · exact ⟨_, rp_lit (by decide) (by decide) (by decide), ((dz_div (a := 5) (b := 1) (B := 5) (by decide) (by decide)).lift 3), Rat.le_of_lt (div_pos' (by decide) (by decide))⟩
        refine hmore.elim fun more hm => ?_
        have rm := hm.1
        have zm := hm.2.1
        have m0 := hm.2.2
        walk_at "gos"
        refine lm_isL (g2 _) ?_
        walk_at "gos"
        refine kd_eq hok str_ok.2.2 ?_
        have w3 : (two (P.sp h (d2 + 1)) (ps.map polyL) (at_.map qv)).wf := (two_pn (p.sp (d' := d2 + 1))).wf
        refine g_if (fun hlo => ?_) fun hlo => ?_
        · walk_at "gos"
          refine x_some sF ?_
          walk_at "gos"
          refine L_minus_ok (rp_qv sf) rm (by omega) w3 (by omega) ?_
          walk_at "gos"
          refine lm_app (g2 _) hlen2 ?_
          walk_at "gos"
          have kk := keep (f - more) (zP ((a2 f).mp f1) zm).2 ⟨fun z => absurd hlo z, fun _ v hv => by
            have := (f3 v ((a2 v).mpr hv)).1
            grind⟩
          exact ⟨at_ ++ [f - more], d2 + 1, _, _, _, _, _, _, _, app _ _, rfl, by omega, by omega, by rw [List.length_append, m3]; rfl, kk.1, kk.2⟩
        · walk_at "gos"
          refine x_some sE ?_
          walk_at "gos"
          refine L_plus_ok (rp_qv se) rm (by omega) w3 (by omega) ?_
          walk_at "gos"
          refine lm_app (g2 _) hlen2 ?_
          walk_at "gos"
          have hup : kd = "upper" := by
            rcases hkd with z | z | z
            · exact absurd z hnp
            · exact z
            · exact absurd z hlo
          have kk := keep (e + more) (zP ((a2 e).mp f2) zm).1 ⟨fun _ v hv => by
            have := (f3 v ((a2 v).mpr hv)).2
            grind, fun z => absurd hup z⟩
          exact ⟨at_ ++ [e + more], d2 + 1, _, _, _, _, _, _, _, app _ _, rfl, by omega, by omega, by rw [List.length_append, m3]; rfl, kk.1, kk.2⟩
      · walk_at "gos"
        refine lm_isL (g2 _) ?_
        walk_at "gos"
        refine kd_eq hok str_ok.2.2 ?_
        have hnl : ¬ kd = "lower" := fun z => by
          rw [z] at hpl
          exact absurd hpl (by decide)
        refine g_neg hnl ?_
        walk_at "gos"
        refine x_some sE ?_
        walk_at "gos"
        refine L_plus_ok (n := 310) (m := 1) (rp_qv se) (rp_lit (by decide) (by decide) (by decide)) (by omega) w2 (by omega) ?_
        rw [Rat.zero_divInt, Rat.add_zero]
        walk_at "gos"
        refine lm_app (g2 _) hlen2 ?_
        walk_at "gos"
        have kk := keep e ((zL e ((a2 e).mp f2)).mono (by decide)) ⟨fun _ v hv => (f3 v ((a2 v).mpr hv)).2, fun _ v hv => by
          rw [lims_eq (hc hpl) hx hkl ((a2 e).mp f2) hv]
          exact Rat.le_refl⟩
        exact ⟨at_ ++ [e], d2, _, _, _, _, _, _, _, app _ _, rfl, by omega, by omega, by rw [List.length_append, m3]; rfl, kk.1, kk.2⟩
    · rintro σ h' ⟨at_, d2, o7, o8, o9, o10, o11, o12, o13, rfl, rfl, m1, m2, m3, sa, ke⟩
      have FN := fn_of (kd := kd) S asc k5 k2 kp k0 k1 PI lp m3 sa ke
      have g1 : (two (P.sp h d2) (ps.map polyL) (at_.map qv)).get h.next = some (.lst (ps.map polyL)) := two_get1 (h := P.sp h d2)
      have g2 : ((two (P.sp h d2) (ps.map polyL) (at_.map qv)).erase h.next).get (h.next + 1) = some (.lst (at_.map qv)) := two_get2e (h := P.sp h d2) p.sp.wf
      walk_at "gos"
      refine frz_l g1 ?_
      walk_at "gos"
      refine frz_l g2 ?_
      walk_at "gos"
      refine ⟨?_, d2, two_ex (h := P.sp h d2) p.sp.wf, q ps at_ d2 (by omega) (by omega) FN.1 FN.2.1 FN.2.2⟩
      exact noref_fnL ks ps at_
end
end G
namespace G
def b_row_rest : Ss := .cons (.set 11 (.lst true (.cons (.tup (.cons (.int 0) (.cons (.int 1) .nil))) .nil))) (.cons (.ite (.cmp .isnot (.var 9) .non) (.cons (.ex (.lm (.var 11) .append (.cons (.call i_L_minus (.cons (.var 9) (.cons (.var 5) .nil))) .nil))) .nil) .nil) (.cons (.ite (.cmp .isnot (.var 10) .non) (.cons (.ex (.lm (.var 11) .append (.cons (.call i_L_minus (.cons (.var 5) (.cons (.var 10) .nil))) .nil))) .nil) .nil) (.cons (.ret (.tup (.cons (.tup (.cons (.var 4) (.cons (.var 9) (.cons (.var 10) .nil)))) (.cons (.frz (.var 11)) .nil)))) .nil)))

theorem pow12 {h : VH} : binV h .pow (.int 10) (.int 12) = some (.v (.int 1000000000000)) := by
  show (binI .pow 10 12).map Rv.v = _
  unfold binI
  rw [if_pos (by decide)]
  rfl
theorem shl20 {h : VH} : binV h .shl (.int 1) (.int 20) = some (.v (.int 1048576)) := by
  show (binI .shl 1 20).map Rv.v = _
  unfold binI
  rw [if_pos (by decide)]
  rfl
theorem sumQ_dz {M B : Nat} : ∀ {l : List Rat}, (∀ q ∈ l, Dz M B q) → Dz M (B * l.length) (sumQ l)
  | [], _ => Dz.zero.mono (Nat.zero_le _)
  | q :: l, h => by
    have := (h q List.mem_cons_self).add (sumQ_dz (l := l) fun x hx => h x (List.mem_cons_of_mem _ hx))
    refine this.mono ?_
    rw [List.length_cons, Nat.mul_succ]
    omega
/-- a share as the law draws it -/
structure Sh (a b : Rat) (M : Nat) (xs qs : List Rat) (s : Nat) : Prop where
  x0 : 0 < xs.length
  x6 : xs.length ≤ 6
  ql : qs.length = xs.length
  asc : xs.Pairwise (· < ·)
  pl : ∀ x ∈ xs, Pl a b M x
  pt : Pt qs s
section
variable {h : VH} {Q : Val → VH → Prop} {l d : Nat} {a b : Rat} {M s : Nat} {ks : List Rat} {ps : List (List Rat)} {at_ xs qs : List Rat}
theorem onk_of (k0 : ks[0]? = some a) (k1 : ks[ks.length - 1]? = some b) {x : Rat} (p : Pl a b M x) : OnK ks x := ⟨fun c hc => by
  rw [k0] at hc
  cases hc
  have := p.lo
  grind, fun c hc => by
  rw [k1] at hc
  cases hc
  have := p.hi
  grind⟩
theorem val_sq (F : Fn a b M ks ps at_) {x : Rat} (p : Pl a b M x) : Sq 212 (brVal ks ps at_ x) := by
  obtain ⟨N, n0, n1, hv⟩ := F.val
  exact (hv x (onk_of F.k0 F.k1 p) p.z).sq n0 (Nat.lt_of_le_of_lt (Nat.mul_le_mul_left _ (Nat.le_of_lt_succ (Nat.lt_succ_of_lt n1))) (by decide)) (Nat.lt_of_lt_of_le n1 (Nat.pow_le_pow_right (by decide) (by decide)))
theorem part_sq (F : Fn a b M ks ps at_) (H : Sh a b M xs qs s) (k : Nat) : Sq 230 (sumQ (((xs.zip qs).map fun p => p.2 * brVal ks ps at_ p.1).take k)) := by
  obtain ⟨N, n0, n1, hv⟩ := F.val
  have hz : ∀ y ∈ ((xs.zip qs).map fun p => p.2 * brVal ks ps at_ p.1).take k, Dz (s * N) 2097152 y := fun y hy => by
    obtain ⟨p, hp, rfl⟩ := List.mem_map.mp (List.mem_of_mem_take hy)
    have m := List.of_mem_zip hp
    have z1 := H.pt.z p.2 m.2
    have pp := H.pl p.1 m.1
    have z2 := hv p.1 (onk_of F.k0 F.k1 pp) pp.z
    have := z1.mul z2
    rwa [Nat.one_mul] at this
  have hl : (((xs.zip qs).map fun p => p.2 * brVal ks ps at_ p.1).take k).length ≤ 6 := by
    rw [List.length_take, List.length_map, List.length_zip]
    have := H.x6
    omega
  have h1 : s * N ≤ 54 * 2 ^ 190 := Nat.mul_le_mul H.pt.s1 (Nat.le_of_lt n1)
  have h2 : 2097152 * (((xs.zip qs).map fun p => p.2 * brVal ks ps at_ p.1).take k).length ≤ 2097152 * 6 := Nat.mul_le_mul_left _ hl
  exact (sumQ_dz hz).sq (Nat.mul_pos H.pt.s0 n0) (Nat.lt_of_le_of_lt (Nat.mul_le_mul h2 h1) (by decide)) (Nat.lt_of_le_of_lt h1 (by decide))
theorem mean_sq (F : Fn a b M ks ps at_) (H : Sh a b M xs qs s) : Sq 230 (meanF ks ps at_ xs qs) := by
  have := part_sq F H ((xs.zip qs).map fun p => p.2 * brVal ks ps at_ p.1).length
  rwa [List.take_length] at this
theorem go_of (S : St a b M) (F : Fn a b M ks ps at_) (H : Sh a b M xs qs s) : Go ks ps at_ xs qs 230 4 :=
  ⟨F.F.B, F.J, H.x0, by have := H.x6; omega, H.ql, fun x hx => onk_of F.k0 F.k1 (H.pl x hx), fun x hx => (Pl.sq S (H.pl x hx)).mono (by decide), fun y hy => (H.pt.sq hy).mono (by decide), fun x hx => (val_sq F (H.pl x hx)).mono (by decide)⟩
theorem L_share_mean_ok (S : St a b M) (F : Fn a b M ks ps at_) (H : Sh a b M xs qs s) (hl : 7 ≤ l) (w : h.wf) (q : Q (qv (meanF ks ps at_ xs qs)) h) : Gd (run T l i_L_share_mean [sv xs qs, fnL ks ps at_] h) Q := by
  refine w_runp (body := b_L_share_mean) rfl rfl (by omega) w ?_
  unfold b_L_share_mean sv
  have hps : ps.length ≤ 1000 := by have := F.F.B.lp; have := F.F.k5; omega
  walk_at "gos"
  refine ⟨_, _, rfl, rfl, ?_⟩
  rw [zip2_map]
  refine for_fix (fun k σ h' => h' = h ∧ k ≤ (xs.zip qs).length ∧ ∃ o3 o4, σ = [some (.tup [.lst (xs.map qv), .lst (qs.map qv)]), some (fnL ks ps at_), some (qv (sumQ (((xs.zip qs).map fun p => p.2 * brVal ks ps at_ p.1).take k))), o3, o4]) ⟨rfl, Nat.zero_le _, none, none, rfl⟩ ?_ ?_
  · rintro k x σ h' hx ⟨rfl, hk, o3, o4, rfl⟩
    rw [List.getElem?_map] at hx
    obtain ⟨p, hp, rfl⟩ := Option.map_eq_some_iff.mp hx
    have hlt := (List.getElem?_eq_some_iff.mp hp).1
    have m := List.of_mem_zip (List.mem_of_getElem? hp)
    have pp := H.pl p.1 m.1
    have sx := Pl.sq S pp
    have sv := val_sq F pp
    have sq := H.pt.sq m.2
    walk_at "gos"
    refine L_f_at_ok (n := 230) (t := 24) (s := 310) F.F.B.asc F.F.B.lp F.F.B.la hps F.F.B.sk (fun c hc => ⟨by have := (F.F.B.spp c hc).1; omega, (F.F.B.spp c hc).2, fun j => F.dp c hc p.1 pp.z j⟩) rfl sx (onk_of F.k0 F.k1 pp) (by decide) (by omega) w ?_
    walk_at "gos"
    refine L_times_ok (rp_qv sq) (rp_qv sv) (by omega) w (by omega) ?_
    walk_at "gos"
    refine L_plus_ok (rp_qv (part_sq F H k)) (rp_qv (Sq.mul sq sv)) (by omega) w (by omega) ?_
    walk_at "gos"
    refine ⟨rfl, hlt, some (qv p.1), some (qv p.2), ?_⟩
    have e : ((xs.zip qs).map fun p => p.2 * brVal ks ps at_ p.1)[k]? = some (p.2 * brVal ks ps at_ p.1) := by rw [List.getElem?_map, hp]; rfl
    rw [sumQ_take e]
    rfl
  · rintro σ h' ⟨rfl, hk, o3, o4, rfl⟩
    walk_at "gos"
    rw [List.length_map, List.take_of_length_le (by rw [List.length_map]; exact Nat.le_refl _)]
    exact ⟨rfl, q⟩
/-- by how much a told mean is missed -/
def missesOf (here : Rat) (ol om : Option Rat) : List Rat := 0 :: ((ol.map fun u => u - here).toList ++ (om.map fun u => here - u).toList)
theorem row_rest_ok {R : Fl → VH → Prop} {H : VH} {here : Rat} {ol om : Option Rat} {v1 v2 v3 fv v6 v7 v8 : Val} {o11 : Option Val} (sh : Sq 230 here) (sl : ∀ u, ol = some u → Sq 310 u) (so : ∀ u, om = some u → Sq 310 u) (w : H.wf) (hl : 4 ≤ l)
    (hR : R (.rt (.tup [.tup [fv, oV ol, oV om], .lst ((missesOf here ol om).map qv)])) (bump H)) :
    Gd (evSs T (run T l) [some (.ref 0), some v1, some v2, some v3, some fv, some (qv here), some v6, some v7, some v8, some (oV ol), some (oV om), o11] b_row_rest H) R := by
  unfold b_row_rest
  have w' : ∀ o, (H.push o).wf := fun o => wf_push w
  walk_at "gos"
  rw [isNon_oV]
  cases ol with
  | none =>
    walk_at "gos"
    rw [isNon_oV]
    cases om with
    | none =>
      walk_at "gos"
      refine frz_l push_get ?_
      rw [push_erase w]
      walk_at "gos"
      exact hR
    | some m =>
      have sm := so m rfl
      rw [show oV (some m) = qv m from rfl]
      walk_at "gos"
      refine lm_isL push_get ?_
      walk_at "gos"
      refine L_minus_ok (rp_qv sh) (rp_qv sm) (by omega) (w' _) (by omega) ?_
      walk_at "gos"
      refine lm_app push_get (by simp) ?_
      rw [push_set']
      walk_at "gos"
      refine frz_l push_get ?_
      rw [push_erase w]
      walk_at "gos"
      exact hR
  | some u =>
    have su := sl u rfl
    rw [show oV (some u) = qv u from rfl] at hR ⊢
    walk_at "gos"
    refine lm_isL push_get ?_
    walk_at "gos"
    refine L_minus_ok (rp_qv su) (rp_qv sh) (by omega) (w' _) (by omega) ?_
    walk_at "gos"
    refine lm_app push_get (by simp) ?_
    rw [push_set']
    walk_at "gos"
    rw [isNon_oV]
    cases om with
    | none =>
      walk_at "gos"
      refine frz_l push_get ?_
      rw [push_erase w]
      walk_at "gos"
      exact hR
    | some m =>
      have sm := so m rfl
      rw [show oV (some m) = qv m from rfl] at hR ⊢
      walk_at "gos"
      refine lm_isL push_get ?_
      walk_at "gos"
      refine L_minus_ok (rp_qv sh) (rp_qv sm) (by omega) (w' _) (by omega) ?_
      walk_at "gos"
      refine lm_app push_get (by simp) ?_
      rw [push_set']
      walk_at "gos"
      refine frz_l push_get ?_
      rw [push_erase w]
      walk_at "gos"
      exact hR
end
end G
namespace G
def b_row_kind : Ss := .cons (.ite (.cmp .eq (.var 3) (.str "upper")) (.cons (.par [9, 10] (.cons (.call i_L_plus (.cons (.var 5) (.cons (.var 7) .nil))) (.cons .non .nil))) .nil) .nil) (.cons (.ite (.cmp .eq (.var 3) (.str "lower")) (.cons (.par [9, 10] (.cons .non (.cons (.call i_L_minus (.cons (.var 5) (.cons (.var 8) .nil))) .nil))) .nil) .nil) b_row_rest)
def b_row_top : Ss := .cons (.set 3 (.call i_L_pick (.cons (.var 0) (.cons (.lst false (.cons (.str "plain") (.cons (.str "plain") (.cons (.str "upper") (.cons (.str "lower") .nil))))) .nil)))) (.cons (.set 4 (.call i_L_drawn_function (.cons (.var 0) (.cons (.var 1) (.cons (.int 3) (.cons (.var 3) (.cons (.int 3) .nil))))))) (.cons (.par [5, 6] (.cons (.call i_L_share_mean (.cons (.var 2) (.cons (.var 4) .nil))) (.cons (.lst false (.cons (.tup (.cons (.int 0) (.cons (.int 1) .nil))) (.cons (.tup (.cons (.int 1) (.cons (.int 8) .nil))) (.cons (.tup (.cons (.int 1) (.cons (.bin false .shl (.int 1) (.int 20)) .nil))) (.cons (.tup (.cons (.neg (.int 1)) (.cons (.int 3) .nil))) (.cons (.tup (.cons (.neg (.int 5)) (.cons (.int 1) .nil))) (.cons (.tup (.cons (.int 1) (.cons (.bin false .pow (.int 10) (.int 12)) .nil))) (.cons (.tup (.cons (.int 2) (.cons (.int 1) .nil))) .nil)))))))) .nil))) (.cons (.par [7, 8] (.cons (.call i_L_pick (.cons (.var 0) (.cons (.var 6) .nil))) (.cons (.call i_L_pick (.cons (.var 0) (.cons (.var 6) .nil))) .nil))) (.cons (.par [9, 10] (.cons (.call i_L_plus (.cons (.var 5) (.cons (.var 7) .nil))) (.cons (.call i_L_minus (.cons (.var 5) (.cons (.var 8) .nil))) .nil))) (.cons (.ite (.call i_L_less (.cons (.var 10) (.cons (.var 9) .nil))) (.cons (.unt (.cons (.nm 9) (.cons (.nm 10) .nil)) (.ifx (.cmp .eq (.call i_L_draw (.cons (.var 0) (.cons (.int 2) .nil))) (.int 0)) (.tup (.cons .non (.cons (.var 10) .nil))) (.tup (.cons (.var 9) (.cons .non .nil))))) .nil) .nil) b_row_kind)))))
theorem row_top : b_L_row = b_row_top := rfl
section
variable {h : VH} {Q : Val → VH → Prop} {l d : Nat} {a b : Rat} {M s : Nat} {ks xs qs : List Rat}
/-- a told mean of the law's about a share -/
structure Row (a b : Rat) (M : Nat) (ks xs qs : List Rat) (r : RowD) : Prop where
  F : Fn a b M r.ks r.ps r.at_
  e : r.ks = ks
  L : Lr r
theorem row_kind_ok {R : Fl → VH → Prop} {H : VH} {here down up : Rat} {ol om : Option Rat} {kd : Str} {v1 v2 fv v6 dv uv : Val} {o11 : Option Val} (sh : Sq 230 here) (rdn : Rp dv down 41) (rup : Rp uv up 41) (hkd : kd = "plain" ∨ kd = "upper" ∨ kd = "lower") (sl : ∀ u, ol = some u → Sq 310 u) (so : ∀ u, om = some u → Sq 310 u) (w : H.wf) (hl : 4 ≤ l)
    (hR : ∀ pl pm : Option Rat, (pl = ol ∧ pm = om ∧ kd = "plain") ∨ (pl = some (here + down) ∧ pm = none ∧ kd = "upper") ∨ (pl = none ∧ pm = some (here - up) ∧ kd = "lower") → R (.rt (.tup [.tup [fv, oV pl, oV pm], .lst ((missesOf here pl pm).map qv)])) (bump H)) :
    Gd (evSs T (run T l) [some (.ref 0), some v1, some v2, some (.str kd), some fv, some (qv here), some v6, some dv, some uv, some (oV ol), some (oV om), o11] b_row_kind H) R := by
  unfold b_row_kind
  have s1 : Sq 310 (here + down) := (Sq.add sh rdn.ra.sq).mono (by decide)
  have s2 : Sq 310 (here - up) := (Sq.sub sh rup.ra.sq).mono (by decide)
  rcases hkd with rfl | rfl | rfl
  · walk_at "gos"
    refine kd_eq str_ok.1 str_ok.2.1 ?_
    refine g_neg (by decide) ?_
    walk_at "gos"
    refine kd_eq str_ok.1 str_ok.2.2 ?_
    refine g_neg (by decide) ?_
    walk_at "gos"
    exact row_rest_ok sh sl so w hl (hR ol om (.inl ⟨rfl, rfl, rfl⟩))
  · walk_at "gos"
    refine kd_eq str_ok.2.1 str_ok.2.1 ?_
    refine g_pos rfl ?_
    walk_at "gos"
    refine L_plus_ok (rp_qv sh) rdn (by omega) w (by omega) ?_
    walk_at "gos"
    refine kd_eq str_ok.2.1 str_ok.2.2 ?_
    refine g_neg (by decide) ?_
    walk_at "gos"
    exact row_rest_ok (ol := some (here + down)) (om := none) sh (fun u z => by cases z; exact s1) (fun u z => by cases z) w hl (hR _ _ (.inr (.inl ⟨rfl, rfl, rfl⟩)))
  · walk_at "gos"
    refine kd_eq str_ok.2.2 str_ok.2.1 ?_
    refine g_neg (by decide) ?_
    walk_at "gos"
    refine kd_eq str_ok.2.2 str_ok.2.2 ?_
    refine g_pos rfl ?_
    walk_at "gos"
    refine L_minus_ok (rp_qv sh) rup (by omega) w (by omega) ?_
    walk_at "gos"
    exact row_rest_ok (ol := none) (om := some (here - up)) sh (fun u z => by cases z) (fun u z => by cases z; exact s2) w hl (hR _ _ (.inr (.inr ⟨rfl, rfl, rfl⟩)))
theorem L_row_ok (S : St a b M) (H : Sh a b M xs qs s) (asc : ks.Pairwise (· < ·)) (k5 : ks.length ≤ 5) (k2 : 2 ≤ ks.length) (kp : ∀ x ∈ ks, Pl a b M x) (k0 : ks[0]? = some a) (k1 : ks[ks.length - 1]? = some b)
    (p : Pn h d) (hd : d + 600 < 900000000000) (hl : 9 ≤ l)
    (q : ∀ (r : RowD) (d' : Nat), d ≤ d' → d' ≤ d + 130 → Row a b M ks xs qs r → Q (.tup [rowL r, .lst ((missesOf (meanF r.ks r.ps r.at_ xs qs) r.least r.most).map qv)]) (P.sp h d')) :
    Gd (run T l i_L_row [.ref 0, .lst (ks.map qv), sv xs qs] h) Q := by
  refine w_runu (body := b_L_row) rfl rfl (by omega) p.wf ?_
  rw [row_top]
  unfold b_row_top
  walk_at "gos"
  refine L_pick_ok (by simp) (by simp) p (by omega) (by omega) fun kv hkv => ?_
  have hk : ∃ kd : Str, kv = .str kd ∧ (kd = "plain" ∨ kd = "upper" ∨ kd = "lower") := by
    simp only [List.mem_cons, List.not_mem_nil, or_false] at hkv
    rcases hkv with rfl | rfl | rfl | rfl
    · exact ⟨_, rfl, .inl rfl⟩
    · exact ⟨_, rfl, .inl rfl⟩
    · exact ⟨_, rfl, .inr (.inl rfl)⟩
    · exact ⟨_, rfl, .inr (.inr rfl)⟩
  refine hk.elim fun kd hk => ?_
  rw [hk.1]
  have hkd := hk.2
  have hok : PyData.strOk kd = true := by
    rcases hkd with rfl | rfl | rfl
    · exact str_ok.1
    · exact str_ok.2.1
    · exact str_ok.2.2
  walk_at "gos"
  refine L_drawn_function_ok S asc k5 k2 kp k0 k1 hkd p.sp (by omega) (by omega) fun ps at_ d1 m1 m2 F hup hlo => ?_
  rw [sp_sp]
  have wd : (P.sp h d1).wf := p.sp.wf
  have sh := mean_sq F H
  walk_at "gos"
  refine L_share_mean_ok S F H (by omega) wd ?_
  generalize hmean : meanF ks ps at_ xs qs = here at *
  walk_at "gos"
  rw [shl20]
  walk_at "gos"
  rw [pow12]
  walk_at "gos"
  have gap : ∀ v : Val, v ∈ [Val.tup [.int 0, .int 1], .tup [.int 1, .int 8], .tup [.int 1, .int 1048576], .tup [.int (-1), .int 3], .tup [.int (-5), .int 1], .tup [.int 1, .int 1000000000000], .tup [.int 2, .int 1]] → ∃ g, Rp v g 41 := fun v hv => by
    simp only [List.mem_cons, List.not_mem_nil, or_false] at hv
    rcases hv with rfl | rfl | rfl | rfl | rfl | rfl | rfl
    all_goals exact ⟨_, rp_lit (by decide) (by decide) (by decide)⟩
  refine L_pick_ok (by simp) (by simp) p.sp (by omega) (by omega) fun dv hdv => ?_
  rw [sp_sp]
  obtain ⟨down, rdn⟩ := gap dv hdv
  walk_at "gos"
  refine L_pick_ok (by simp) (by simp) p.sp (by omega) (by omega) fun uv huv => ?_
  rw [sp_sp]
  obtain ⟨up, rup⟩ := gap uv huv
  have wd2 : (P.sp h (d1 + 1 + 1)).wf := p.sp.wf
  walk_at "gos"
  refine L_plus_ok (rp_qv sh) rdn (by omega) wd2 (by omega) ?_
  walk_at "gos"
  refine L_minus_ok (rp_qv sh) rup (by omega) wd2 (by omega) ?_
  have s1 : Sq 310 (here + down) := (Sq.add sh rdn.ra.sq).mono (by decide)
  have s2 : Sq 310 (here - up) := (Sq.sub sh rup.ra.sq).mono (by decide)
  have fin : ∀ (ol om : Option Rat) (d2 : Nat), d1 + 2 ≤ d2 → d2 ≤ d1 + 3 → (∀ u, ol = some u → Sq 310 u) → (∀ u, om = some u → Sq 310 u) → (ol ≠ none → kd ≠ "lower") → (om ≠ none → kd ≠ "upper") → (ol ≠ none ∨ om ≠ none) → (∀ u v, ol = some u → om = some v → ¬ v < u) →
      (Val.tup [.tup [fnL ks ps at_, oV ol, oV om], .lst ((missesOf here ol om).map qv)]).noref = true ∧ ∃ d', Ex (P.sp h d') (bump (P.sp h d2)) ∧ Q (.tup [.tup [fnL ks ps at_, oV ol, oV om], .lst ((missesOf here ol om).map qv)]) (P.sp h d') := fun ol om d2 n1 n2 z1 z2 z3 z4 z5 z6 => by
    refine ⟨?_, d2, (Ex.self p.sp.wf).bump, ?_⟩
    · rw [Val.noref, Val.norefs, Val.norefs, Val.norefs, Val.noref, Val.noref, Val.norefs, Val.norefs, Val.norefs, Val.norefs, noref_fnL, noref_oV, noref_oV, norefs_qv]
      rfl
    · have := q ⟨ks, ps, at_, ol, om⟩ d2 (by omega) (by omega) ⟨F, rfl, ⟨F.F, F.J, z1, z2, fun z => hup (z3 z), fun z => hlo (z4 z), z5, z6⟩⟩
      dsimp only at this
      rw [hmean] at this
      exact this
  have some_ne : ∀ {u : Rat}, (some u : Option Rat) ≠ none := fun z => by cases z
  have done : ∀ (ol om : Option Rat) (d2 : Nat), d1 + 2 ≤ d2 → d2 ≤ d1 + 3 → (∀ u, ol = some u → Sq 310 u) → (∀ u, om = some u → Sq 310 u) → (ol ≠ none ∨ om ≠ none) → (∀ u v, ol = some u → om = some v → ¬ v < u) →
      ∀ pl pm : Option Rat, (pl = ol ∧ pm = om ∧ kd = "plain") ∨ (pl = some (here + down) ∧ pm = none ∧ kd = "upper") ∨ (pl = none ∧ pm = some (here - up) ∧ kd = "lower") →
      (Val.tup [.tup [fnL ks ps at_, oV pl, oV pm], .lst ((missesOf here pl pm).map qv)]).noref = true ∧ ∃ d', Ex (P.sp h d') (bump (P.sp h d2)) ∧ Q (.tup [.tup [fnL ks ps at_, oV pl, oV pm], .lst ((missesOf here pl pm).map qv)]) (P.sp h d') := fun ol om d2 n1 n2 z1 z2 z5 z6 pl pm hp => by
    rcases hp with ⟨rfl, rfl, e⟩ | ⟨rfl, rfl, e⟩ | ⟨rfl, rfl, e⟩
    · exact fin _ _ d2 n1 n2 z1 z2 (fun _ => by rw [e]; decide) (fun _ => by rw [e]; decide) z5 z6
    · exact fin _ _ d2 n1 n2 (fun u z => by cases z; exact s1) (fun u z => by cases z) (fun _ => by rw [e]; decide) (fun z => absurd rfl z) (.inl some_ne) (fun u v _ z => by cases z)
    · exact fin _ _ d2 n1 n2 (fun u z => by cases z) (fun u z => by cases z; exact s2) (fun z => absurd rfl z) (fun _ => by rw [e]; decide) (.inr some_ne) (fun u v z _ => by cases z)
  walk_at "gos"
  refine L_less_ok (rp_qv s2) (rp_qv s1) (by omega) wd2 (by omega) ?_
  refine g_if (fun z => ?_) fun z => ?_
  · walk_at "gos"
    refine draw_ok rfl (by omega) p.sp (by decide) (by decide) (by omega) fun i hi => ?_
    rw [sp_sp]
    have wd3 : (P.sp h (d1 + 1 + 1 + 1)).wf := p.sp.wf
    walk_at "gos"
    refine g_if (fun z2 => ?_) fun z2 => ?_
    · walk_at "gos"
      exact row_kind_ok (l := l - 1) (ol := none) (om := some (here - up)) sh rdn rup hkd (fun u z => by cases z) (fun u z => by cases z; exact s2) wd3 (by omega) (done none (some (here - up)) _ (by omega) (by omega) (fun u z => by cases z) (fun u z => by cases z; exact s2) (.inr some_ne) fun u v z _ => by cases z)
    · walk_at "gos"
      exact row_kind_ok (l := l - 1) (ol := some (here + down)) (om := none) sh rdn rup hkd (fun u z => by cases z; exact s1) (fun u z => by cases z) wd3 (by omega) (done (some (here + down)) none _ (by omega) (by omega) (fun u z => by cases z; exact s1) (fun u z => by cases z) (.inl some_ne) fun u v _ z => by cases z)
  · walk_at "gos"
    exact row_kind_ok (l := l - 1) (ol := some (here + down)) (om := some (here - up)) sh rdn rup hkd (fun u z => by cases z; exact s1) (fun u z => by cases z; exact s2) wd2 (by omega) (done (some (here + down)) (some (here - up)) _ (by omega) (by omega) (fun u z => by cases z; exact s1) (fun u z => by cases z; exact s2) (.inl some_ne) fun u v z1 z2 => by
      cases z1
      cases z2
      exact z)
end
end G
namespace G
def b_m17 : Ss := .cons (.set 18 (.call i_fits (.cons (.var 15) (.cons (.var 13) (.cons (.var 17) .nil))))) (.cons (.ite (.or (.not (.isin (.var 18) [.bool])) (.cmp .eq (.var 18) (.call i_L_less (.cons (.tup (.cons (.int 1) (.cons (.bin false .shl (.int 1) (.var 17)) .nil))) (.cons (.var 12) .nil))))) (.cons (.ret (.bl false)) .nil) .nil) (.cons (.ite (.cmp .ne (.callk i_fits (.cons (.var 15) (.cons (.var 13) .nil)) (.var 17)) (.var 18)) (.cons (.ret (.bl false)) .nil) .nil) .nil))
def b_l17 : Ss := .cons (.for_ (.nm 17) (.seq (.lst false (.cons (.int 0) (.cons (.int 3) (.cons (.int 20) (.cons (.int 60) (.cons (.call i_L_draw (.cons (.var 1) (.cons (.int 61) .nil))) .nil))))))) b_m17) .nil
def b_l15 : Ss := .cons (.set 15 (.call i_L_made_share (.cons (.var 1) (.cons (.var 5) .nil)))) (.cons (.ite (.cmp .ne (.call i_missed (.cons (.var 15) (.cons (.call i_L_pick (.cons (.var 1) (.cons (.lst false (.cons (.var 13) (.cons (.bi false .tuple (.cons (.var 13) .nil)) .nil))) .nil))) .nil))) (.var 12)) (.cons (.ret (.bl false)) .nil) .nil) (.cons (.set 16 (.tup (.cons (.call i_fits_d (.cons (.var 15) (.cons (.var 13) .nil))) (.cons (.call i_fits (.cons (.var 15) (.cons (.bi false .tuple (.cons (.var 13) .nil)) (.cons .non .nil)))) .nil)))) (.cons (.ite (.cmp .ne (.bi false .repr (.cons (.var 16) .nil)) (.bi false .repr (.cons (.tup (.cons (.cmp .eq (.var 12) (.tup (.cons (.int 0) (.cons (.int 1) .nil)))) (.cons (.cmp .eq (.var 12) (.tup (.cons (.int 0) (.cons (.int 1) .nil)))) .nil))) .nil))) (.cons (.ret (.bl false)) .nil) .nil) b_l17)))
def b_l12 : Ss := .cons (.set 12 (.sub (.call i_L_sorted (.cons (.var 8) .nil)) (.neg (.int 1)))) (.cons (.set 13 (.comp false (.call i_L_made_told (.cons (.var 1) (.cons (.var 10) .nil))) (.nm 10) (.seq (.var 7)) none [10])) (.cons (.for_ (.cons (.nm 10) (.cons (.nm 14) .nil)) (.zip (.var 7) (.var 13)) (.cons (.ite (.or (.cmp .ne (.tup (.cons (.fld (.var 14) f_least) (.cons (.fld (.var 14) f_most) .nil))) (.slc false (.var 10) (some (.int 1)) none)) (.not (.isin (.fld (.var 14) f_function) [(.own c_Broken)]))) (.cons (.ret (.bl false)) .nil) .nil) (.cons (.ite (.cmp .ne (.call i_L_f_of (.cons (.fld (.var 14) f_function) .nil)) (.tup (.cons (.bi false .list (.cons (.sub (.sub (.var 10) (.int 0)) (.int 0)) .nil)) (.cons (.sub (.sub (.var 10) (.int 0)) (.int 1)) (.cons (.sub (.sub (.var 10) (.int 0)) (.int 2)) .nil))))) (.cons (.ret (.bl false)) .nil) .nil) .nil))) b_l15))
def b_lapB : Ss := .cons (.unt (.cons (.nm 3) (.cons (.nm 4) .nil)) (.call i_L_interval (.cons (.var 1) (.cons (.int 4) .nil)))) (.cons (.par [5, 6] (.cons (.call i_L_drawn_share (.cons (.var 1) (.cons (.var 3) (.cons (.var 4) (.cons (.int 6) .nil))))) (.cons (.call i_L_drawn_knots (.cons (.var 1) (.cons (.var 3) (.cons (.var 4) (.cons (.int 3) .nil))))) .nil))) (.cons (.par [7, 8] (.cons (.lst false .nil) (.cons (.lst false (.cons (.tup (.cons (.int 0) (.cons (.int 1) .nil))) .nil)) .nil))) (.cons (.for_ (.nm 9) (.rng1 (.call i_L_draw (.cons (.var 1) (.cons (.int 6) .nil)))) (.cons (.unt (.cons (.nm 10) (.cons (.nm 11) .nil)) (.call i_L_row (.cons (.var 1) (.cons (.var 6) (.cons (.var 5) .nil))))) (.cons (.par [7, 8] (.cons (.bin false .add (.var 7) (.lst false (.cons (.var 10) .nil))) (.cons (.bin false .add (.var 8) (.var 11)) .nil))) .nil))) b_l12)))
def b_lawT : Ss := .cons (.set 1 (.call i_L_pen (.cons (.var 0) .nil))) (.cons (.for_ (.nm 2) (.rng1 (.int 3)) b_lapB) (.cons (.ret (.bl true)) .nil))
theorem law_top : b_law = b_lawT := rfl

theorem mx_le1 {a b : Rat} : a ≤ mx a b := by
  unfold mx
  split
  · grind
  · exact Rat.le_refl
theorem mx_le2 {a b : Rat} : b ≤ mx a b := by
  unfold mx
  split
  · exact Rat.le_refl
  · grind
theorem mx_or {a b : Rat} : mx a b = a ∨ mx a b = b := by
  unfold mx
  split
  · exact .inr rfl
  · exact .inl rfl
def allMiss (xs qs : List Rat) (rs : List RowD) : List Rat := rs.flatMap fun r => missesOf (meanF r.ks r.ps r.at_ xs qs) r.least r.most
theorem missL_mem {here : Rat} {ol om : Option Rat} : missL here ol ∈ missesOf here ol om := by
  cases ol with
  | none => exact List.mem_cons_self
  | some u => exact List.mem_cons_of_mem _ (List.mem_append_left _ (by simp [missL]))
theorem missM_mem {here : Rat} {ol om : Option Rat} : missM here om ∈ missesOf here ol om := by
  cases om with
  | none => exact List.mem_cons_self
  | some u =>
    refine List.mem_cons_of_mem _ (List.mem_append_right _ ?_)
    simp only [Option.map_some, Option.toList_some, List.mem_singleton, missM]
    grind
theorem missOf_mem {xs qs : List Rat} : ∀ {rs : List RowD} {f : Rat}, missOf xs qs rs f = f ∨ missOf xs qs rs f ∈ allMiss xs qs rs
  | [], f => .inl rfl
  | r :: rs, f => by
    have ih := missOf_mem (xs := xs) (qs := qs) (rs := rs) (f := rowMiss (meanF r.ks r.ps r.at_ xs qs) r f)
    show missOf xs qs rs _ = f ∨ missOf xs qs rs _ ∈ missesOf (meanF r.ks r.ps r.at_ xs qs) r.least r.most ++ allMiss xs qs rs
    rcases ih with e | m
    · rw [e]
      unfold rowMiss
      rcases mx_or (a := mx f (missL (meanF r.ks r.ps r.at_ xs qs) r.least)) (b := missM (meanF r.ks r.ps r.at_ xs qs) r.most) with z | z
      · rw [z]
        rcases mx_or (a := f) (b := missL (meanF r.ks r.ps r.at_ xs qs) r.least) with y | y
        · rw [y]
          exact .inl rfl
        · rw [y]
          exact .inr (List.mem_append_left _ missL_mem)
      · rw [z]
        exact .inr (List.mem_append_left _ missM_mem)
    · exact .inr (List.mem_append_right _ m)
theorem missOf_ge {xs qs : List Rat} : ∀ {rs : List RowD} {f : Rat}, 0 ≤ f → f ≤ missOf xs qs rs f ∧ ∀ v ∈ allMiss xs qs rs, v ≤ missOf xs qs rs f
  | [], f, h => ⟨Rat.le_refl, fun v hv => by cases hv⟩
  | r :: rs, f, h => by
    have g1 : f ≤ rowMiss (meanF r.ks r.ps r.at_ xs qs) r f := Rat.le_trans mx_le1 mx_le1
    have g2 : missL (meanF r.ks r.ps r.at_ xs qs) r.least ≤ rowMiss (meanF r.ks r.ps r.at_ xs qs) r f := Rat.le_trans mx_le2 mx_le1
    have g3 : missM (meanF r.ks r.ps r.at_ xs qs) r.most ≤ rowMiss (meanF r.ks r.ps r.at_ xs qs) r f := mx_le2
    have ih := missOf_ge (xs := xs) (qs := qs) (rs := rs) (f := rowMiss (meanF r.ks r.ps r.at_ xs qs) r f) (Rat.le_trans h g1)
    refine ⟨Rat.le_trans g1 ih.1, fun v hv => ?_⟩
    have hv : v ∈ missesOf (meanF r.ks r.ps r.at_ xs qs) r.least r.most ++ allMiss xs qs rs := hv
    show v ≤ missOf xs qs rs _
    rcases List.mem_append.mp hv with m | m
    · refine Rat.le_trans ?_ ih.1
      rcases List.mem_cons.mp m with e | m
      · rw [e]
        exact Rat.le_trans h g1
      · rcases List.mem_append.mp m with m | m
        · cases e : r.least with
          | none =>
            rw [e] at m
            simp at m
          | some u =>
            rw [e] at m g2
            simp at m
            rw [m]
            exact g2
        · cases e : r.most with
          | none =>
            rw [e] at m
            simp at m
          | some u =>
            rw [e] at m g3
            simp at m
            rw [m]
            have e3 : missM (meanF r.ks r.ps r.at_ xs qs) (some u) = meanF r.ks r.ps r.at_ xs qs - u := by
              unfold missM
              grind
            rw [e3] at g3
            exact g3
    · exact ih.2 v m
theorem miss_due {xs qs : List Rat} {rs : List RowD} {e : Rat} (m : e ∈ 0 :: allMiss xs qs rs) (top : ∀ v ∈ 0 :: allMiss xs qs rs, v ≤ e) : missOf xs qs rs 0 = e := by
  have g := missOf_ge (xs := xs) (qs := qs) (rs := rs) (f := 0) Rat.le_refl
  refine Rat.le_antisymm ?_ ?_
  · rcases missOf_mem (xs := xs) (qs := qs) (rs := rs) (f := 0) with z | z
    · rw [z]
      exact top 0 List.mem_cons_self
    · exact top _ (List.mem_cons_of_mem _ z)
  · rcases List.mem_cons.mp m with z | z
    · rw [z]
      exact g.1
    · exact g.2 e z
section
variable {T0 : Tb} {C0 : Nat → List Val → Mo Val} {h : VH} {Q : Val → VH → Prop}
theorem eqD_bl (x y : Bool) : eqD (.bl x) (.bl y) = some (decide (x = y)) := by cases x <;> cases y <;> rfl
theorem c_eqB {x y : Bool} (q : Q (.bl (decide (x = y))) h) : GCm T0 C0 .eq (.bl x) (.bl y) h Q := c_val (by unfold cmpV; exact eqD_bl x y) q
theorem c_neB {x y : Bool} (q : Q (.bl (!decide (x = y))) h) : GCm T0 C0 .ne (.bl x) (.bl y) h Q := c_val (by unfold cmpV; simp only [eqD_bl]; rfl) q
def bbTxt (x y : Bool) : PySem.Str := (PyData.tuple [.bool x, .bool y]).shown
theorem bb_ok (x y : Bool) : PyData.strOk (bbTxt x y) = true := by cases x <;> cases y <;> decide +kernel
theorem i_repr_bb {x y m : Bool} (k : Q (.str (bbTxt x y)) h) : outG m (biV h .repr [.tup [.bl x, .bl y]]) h Q := by
  have e : biV h .repr [.tup [.bl x, .bl y]] = some (.v (.str (bbTxt x y))) := by
    show (match (Val.tup [.bl x, .bl y]).toD with
      | some d => if d.showable && M.sz d.shown.length && decide (d.depth ≤ 60) && !d.hasDict then some (Rv.v (.str d.shown)) else none
      | none => none) = _
    have e1 : (Val.tup [.bl x, .bl y]).toD = some (.tuple [.bool x, .bool y]) := by
      simp only [Val.toD, Val.toDs]
      rfl
    rw [e1]
    dsimp only
    rw [if_pos (by cases x <;> cases y <;> decide +kernel)]
    rfl
  rw [e]
  exact o_v k
end
section
variable {h : VH} {d : Nat} {a b : Rat} {M s : Nat} {ks xs qs : List Rat} {rs : List RowD} {due : Rat}
theorem rk_of (S : St a b M) (H : Sh a b M xs qs s) {r : RowD} (R : Row a b M ks xs qs r) : Rk a b xs qs r :=
  ⟨go_of S R.F H, R.F.k0, R.F.k1, (mean_sq R.F H).mono (by decide), R.L.sl, R.L.so⟩
theorem due_sq (S : St a b M) (H : Sh a b M xs qs s) (HR : ∀ r ∈ rs, Row a b M ks xs qs r) (he : missOf xs qs rs 0 = due) : Sq 600 due := by
  rw [← he]
  exact missOf_sq (fun r hr => rk_of S H (HR r hr)) (sq_zero (by decide))
theorem m17_ok {R : Fl → VH → Prop} {m : Nat} {H0 : VH} {v0 : Val} {o2 o3 o4 o5 o6 o7 o8 o9 o10 o11 o14 o16 o18 : Option Val} (S : St a b M) (H : Sh a b M xs qs s) (HR : ∀ r ∈ rs, Row a b M ks xs qs r) (h5 : rs.length ≤ 5) (he : missOf xs qs rs 0 = due) (hm : m ≤ 60) (w : H0.wf)
    (hR : ∀ o18, R (.nx [some v0, some (.ref 0), o2, o3, o4, o5, o6, o7, o8, o9, o10, o11, some (qv due), some (.lst (rs.map rowV)), o14, some (shV xs qs), o16, some (.int (m : Nat)), o18]) H0) :
    Gd (evSs T (run T 29) [some v0, some (.ref 0), o2, o3, o4, o5, o6, o7, o8, o9, o10, o11, some (qv due), some (.lst (rs.map rowV)), o14, some (shV xs qs), o16, some (.int (m : Nat)), o18] b_m17 H0) R := by
  unfold b_m17
  have hr : ∀ r ∈ rs, Rk a b xs qs r := fun r hr => rk_of S H (HR r hr)
  have sd := due_sq S H HR he
  walk_at "gos"
  refine fits_ok (o := some m) (.inl rfl) hr (by omega) (fun k z => by cases z; exact hm) (by omega) w ?_
  rw [he]
  walk_at "gos"
  refine shl_ok hm ?_
  walk_at "gos"
  have hp : 0 < 2 ^ m := Nat.pow_pos (by decide)
  have hlt := pow_nat hm
  have rg : Rp (.tup [.int 1, .int (2 ^ m : Nat)]) (gapB (some m)) 61 := ⟨1, (2 ^ m : Nat), by omega, rfl, by decide, by omega, .inl rfl⟩
  refine L_less_ok rg (rp_qv sd) (by omega) w (by omega) ?_
  walk_at "gos"
  refine c_eqB ?_
  have e1 : decide ((!decide (gapB (some m) < due)) = decide (gapB (some m) < due)) = false := by
    cases decide (gapB (some m) < due) <;> rfl
  rw [e1]
  walk_at "gos"
  refine fits_ok (o := some m) (.inl rfl) hr (by omega) (fun k z => by cases z; exact hm) (by omega) w ?_
  rw [he]
  walk_at "gos"
  refine c_neB ?_
  rw [decide_eq_true rfl]
  walk_at "gos"
  exact hR _
end
end G
namespace G
section
variable {h : VH} {d : Nat} {a b : Rat} {M s : Nat} {ks xs qs : List Rat} {rs : List RowD} {due : Rat}
theorem l17_ok {R : Fl → VH → Prop} {v0 : Val} {o2 o3 o4 o5 o6 o7 o8 o9 o10 o11 o14 o16 o17 o18 : Option Val} (S : St a b M) (H : Sh a b M xs qs s) (HR : ∀ r ∈ rs, Row a b M ks xs qs r) (h5 : rs.length ≤ 5) (he : missOf xs qs rs 0 = due) (p : Pn h d) (hd : d + 10 < 900000000000)
    (hR : ∀ o17 o18, R (.nx [some v0, some (.ref 0), o2, o3, o4, o5, o6, o7, o8, o9, o10, o11, some (qv due), some (.lst (rs.map rowV)), o14, some (shV xs qs), o16, o17, o18]) (P.sp h (d + 1))) :
    Gd (evSs T (run T 29) [some v0, some (.ref 0), o2, o3, o4, o5, o6, o7, o8, o9, o10, o11, some (qv due), some (.lst (rs.map rowV)), o14, some (shV xs qs), o16, o17, o18] b_l17 h) R := by
  unfold b_l17
  walk_at "gos"
  refine draw_ok rfl (by omega) p (by decide) (by decide) (by omega) fun i hi => ?_
  walk_at "gos"
  refine for_fix (fun k σ h' => h' = P.sp h (d + 1) ∧ ∃ o17 o18, σ = [some v0, some (.ref 0), o2, o3, o4, o5, o6, o7, o8, o9, o10, o11, some (qv due), some (.lst (rs.map rowV)), o14, some (shV xs qs), o16, o17, o18]) ⟨rfl, _, _, rfl⟩ ?_ ?_
  · rintro k x σ h' hx ⟨rfl, o17, o18, rfl⟩
    have hm : ∃ m : Nat, x = .int (m : Nat) ∧ m ≤ 60 := by
      have := List.mem_of_getElem? hx
      simp only [List.mem_cons, List.not_mem_nil, or_false] at this
      rcases this with rfl | rfl | rfl | rfl | rfl
      · exact ⟨0, rfl, by decide⟩
      · exact ⟨3, rfl, by decide⟩
      · exact ⟨20, rfl, by decide⟩
      · exact ⟨60, rfl, by decide⟩
      · exact ⟨i, rfl, by omega⟩
    obtain ⟨m, rfl, hm⟩ := hm
    walk_at "gos"
    refine m17_ok S H HR h5 he hm p.sp.wf fun o18 => ?_
    walk_at "gos"
    exact ⟨rfl, _, _, rfl⟩
  · rintro σ h' ⟨rfl, o17, o18, rfl⟩
    walk_at "gos"
    exact hR _ _
theorem l15_ok {R : Fl → VH → Prop} {v0 : Val} {o2 o3 o4 o6 o7 o8 o9 o10 o11 o14 o15 o16 o17 o18 : Option Val} (S : St a b M) (H : Sh a b M xs qs s) (HR : ∀ r ∈ rs, Row a b M ks xs qs r) (h5 : rs.length ≤ 5) (he : missOf xs qs rs 0 = due) (p : Pn h d) (hd : d + 400 < 900000000000)
    (hR : ∀ d' o15 o16 o17 o18, d ≤ d' → d' ≤ d + 70 → R (.nx [some v0, some (.ref 0), o2, o3, o4, some (sv xs qs), o6, o7, o8, o9, o10, o11, some (qv due), some (.lst (rs.map rowV)), o14, o15, o16, o17, o18]) (P.sp h d')) :
    Gd (evSs T (run T 29) [some v0, some (.ref 0), o2, o3, o4, some (sv xs qs), o6, o7, o8, o9, o10, o11, some (qv due), some (.lst (rs.map rowV)), o14, o15, o16, o17, o18] b_l15 h) R := by
  unfold b_l15
  have hr : ∀ r ∈ rs, Rk a b xs qs r := fun r hr => rk_of S H (HR r hr)
  have sd := due_sq S H HR he
  have pt := H.pt
  have d0 : 0 ≤ due := by
    rw [← he]
    exact (missOf_ge (xs := xs) (qs := qs) (rs := rs) (f := 0) Rat.le_refl).1
  walk_at "gos"
  refine L_made_share_ok (n := 24) (m := 6) (fun x hx => Pl.sq S (H.pl x hx)) (by decide) (by decide) (fun y hy => pt.sq hy) (by decide) H.x0 H.ql (by have := H.x6; omega) (by decide) H.asc pt.pos pt.sum p (by omega) (by omega) fun d1 k1 k2 => ?_
  walk_at "gos"
  refine L_pick_ok (by simp) (by simp) p.sp (by omega) (by omega) fun v hv => ?_
  rw [sp_sp]
  have rv : Rv v rs := by
    simp only [List.mem_cons, List.not_mem_nil, or_false] at hv
    exact hv
  have w2 : (P.sp h (d1 + 1)).wf := p.sp.wf
  walk_at "gos"
  refine missed_ok rv hr (by omega) (by omega) w2 ?_
  rw [he]
  walk_at "gos"
  refine c_neQ ?_
  refine g_ifn (fun z => absurd rfl z) fun _ => ?_
  walk_at "gos"
  refine fits_d_ok (.inl rfl) hr (by omega) (by omega) w2 ?_
  rw [he]
  walk_at "gos"
  refine fits_ok (o := none) (.inr rfl) hr (by omega) (fun m z => by cases z) (by omega) w2 ?_
  rw [he]
  have eb : (!decide (gapB none < due)) = decide (due = 0) := by
    show (!decide ((0 : Rat) < due)) = decide (due = 0)
    rw [Bool.eq_iff_iff, Bool.not_eq_true', decide_eq_false_iff_not, decide_eq_true_iff]
    constructor
    · intro z
      grind
    · intro z
      grind
  rw [eb, show (!decide ((0 : Rat) < due)) = decide (due = 0) from eb]
  walk_at "gos"
  refine i_repr_bb ?_
  walk_at "gos"
  rw [zero_qv]
  refine c_eqQ ?_
  walk_at "gos"
  rw [zero_qv]
  refine c_eqQ ?_
  walk_at "gos"
  refine i_repr_bb ?_
  walk_at "gos"
  refine kd_ne (bb_ok _ _) (bb_ok _ _) ?_
  refine g_ifn (fun z => absurd rfl z) fun _ => ?_
  walk_at "gos"
  refine l17_ok S H HR h5 he p.sp (by omega) fun o17 o18 => ?_
  rw [sp_sp]
  exact hR _ _ _ _ _ (by omega) (by omega)
end
end G
namespace G
section
variable {h : VH} {d : Nat} {a b : Rat} {M s : Nat} {ks xs qs : List Rat} {rs : List RowD} {due : Rat}
theorem plB_oV (o : Option Rat) : plB 2 (oV o) = true := by
  cases o with
  | none => rfl
  | some u => exact pl_qv (by decide)
theorem plB_two (o u : Option Rat) : plB 3 (.tup [oV o, oV u]) = true := by
  rw [plB, plBs, plBs, plBs, plB_oV, plB_oV]
  rfl
theorem plBs_qv (l : List Rat) (n : Nat) (hn : 0 < n) : plBs n (l.map qv) = true := plBs_iff.mpr fun v hv => by
  obtain ⟨y, _, rfl⟩ := List.mem_map.mp hv
  exact pl_qv hn
theorem plB_fnL (ks : List Rat) (ps : List (List Rat)) (at_ : List Rat) : plB 4 (fnL ks ps at_) = true := by
  unfold fnL
  have h2 : plBs 2 (ps.map polyL) = true := plBs_iff.mpr fun v hv => by
    obtain ⟨y, _, rfl⟩ := List.mem_map.mp hv
    unfold polyL
    rw [plB]
    exact plBs_qv y 1 (by decide)
  rw [plB, plBs, plBs, plBs, plBs, plB, plB, plB, plBs_qv ks 2 (by decide), h2, plBs_qv at_ 2 (by decide)]
  rfl
theorem l12_ok {R : Fl → VH → Prop} {v0 : Val} {o2 o3 o4 o6 o9 o10 o11 o12 o13 o14 o15 o16 o17 o18 : Option Val} (S : St a b M) (H : Sh a b M xs qs s) (HR : ∀ r ∈ rs, Row a b M ks xs qs r) (h5 : rs.length ≤ 5) (p : Pn h d) (hd : d + 2000 < 900000000000)
    (hR : ∀ d' o10 o12 o13 o14 o15 o16 o17 o18, d ≤ d' → d' ≤ d + 700 → R (.nx [some v0, some (.ref 0), o2, o3, o4, some (sv xs qs), o6, some (.lst (rs.map rowL)), some (.lst ((0 :: allMiss xs qs rs).map qv)), o9, o10, o11, o12, o13, o14, o15, o16, o17, o18]) (P.sp h d')) :
    Gd (evSs T (run T 29) [some v0, some (.ref 0), o2, o3, o4, some (sv xs qs), o6, some (.lst (rs.map rowL)), some (.lst ((0 :: allMiss xs qs rs).map qv)), o9, o10, o11, o12, o13, o14, o15, o16, o17, o18] b_l12 h) R := by
  unfold b_l12
  have sm : ∀ v ∈ 0 :: allMiss xs qs rs, Sq 600 v := fun v hv => by
    rcases List.mem_cons.mp hv with e | hv
    · rw [e]
      exact sq_zero (by decide)
    · obtain ⟨r, hr, m⟩ := List.mem_flatMap.mp hv
      have K := rk_of S H (HR r hr)
      rcases List.mem_cons.mp m with e | m
      · rw [e]
        exact sq_zero (by decide)
      rcases List.mem_append.mp m with m | m
      · cases e : r.least with
        | none =>
          rw [e] at m
          simp at m
        | some u =>
          rw [e] at m
          simp at m
          rw [m]
          exact (Sq.sub (K.sl u e) K.sm).mono (by decide)
      · cases e : r.most with
        | none =>
          rw [e] at m
          simp at m
        | some u =>
          rw [e] at m
          simp at m
          rw [m]
          exact (Sq.sub K.sm (K.so u e)).mono (by decide)
  have lm : (0 :: allMiss xs qs rs).length ≤ 100000 := by
    have key : ∀ rs : List RowD, (allMiss xs qs rs).length ≤ 3 * rs.length := fun rs => by
      induction rs with
      | nil => exact Nat.le_refl _
      | cons r rs ih =>
        show (missesOf (meanF r.ks r.ps r.at_ xs qs) r.least r.most ++ allMiss xs qs rs).length ≤ _
        rw [List.length_append, List.length_cons]
        have : (missesOf (meanF r.ks r.ps r.at_ xs qs) r.least r.most).length ≤ 3 := by
          unfold missesOf
          cases r.least <;> cases r.most <;> simp
        omega
    have := key rs
    rw [List.length_cons]
    omega
  walk_at "gos"
  refine L_sorted_ok sm (by decide) lm (by omega) p.wf fun ts a1 a2 a3 => ?_
  have hne : ts ≠ [] := fun z => by
    rw [z] at a2
    exact absurd ((a2 0).mpr List.mem_cons_self) (by simp)
  obtain ⟨f, due, e1, e2, f1, f2, f3⟩ := asc_ends a1 hne
  have he : missOf xs qs rs 0 = due := miss_due ((a2 due).mp f2) fun v hv => (f3 v ((a2 v).mpr hv)).2
  walk_at "gos"
  refine x_some (sub_last (x := qv due) (by rw [List.length_map, List.getElem?_map, e2]; rfl)).2 ?_
  walk_at "gos"
  refine comp_draw rowL (fun r v => v = rowV r) 120 p (by omega) (fun r hr d' l1 l2 R' hR' => ?_) fun vs d' l1 l2 hvl hS => ?_
  · have l2 : d' ≤ d + 600 := by omega
    walk_at "gos"
    refine L_made_told_ok (HR r hr).L p.sp (by omega) (by omega) fun d'' m1 m2 => ?_
    rw [sp_sp]
    walk_at "gos"
    exact hR' _ _ m1 m2 rfl
  · have ev : vs = rs.map rowV := by
      refine List.ext_getElem (by rw [List.length_map, hvl]) fun k h1 h2 => ?_
      rw [List.getElem_map]
      exact hS k _ _ (List.getElem?_eq_getElem (by omega)) (List.getElem?_eq_getElem h1)
    subst ev
    have l2 : d' ≤ d + 600 := by omega
    have w2 : (P.sp h d').wf := p.sp.wf
    walk_at "gos"
    refine ⟨_, _, rfl, rfl, ?_⟩
    rw [zip2_map]
    refine for_fix (fun k σ h' => h' = P.sp h d' ∧ ∃ o10 o14, σ = [some v0, some (.ref 0), o2, o3, o4, some (sv xs qs), o6, some (.lst (rs.map rowL)), some (.lst ((0 :: allMiss xs qs rs).map qv)), o9, o10, o11, some (qv due), some (.lst (rs.map rowV)), o14, o15, o16, o17, o18]) ⟨rfl, _, _, rfl⟩ ?_ ?_
    · rintro k x σ h' hx ⟨rfl, o10, o14, rfl⟩
      rw [List.getElem?_map] at hx
      obtain ⟨⟨r, r'⟩, hz, rfl⟩ := Option.map_eq_some_iff.mp hx
      obtain ⟨g1, g2⟩ := List.getElem?_zip_eq_some.mp hz
      rw [g1] at g2
      cases g2
      have RR := HR r (List.mem_of_getElem? g1)
      have eL : rowL r = .tup [fnL r.ks r.ps r.at_, oV r.least, oV r.most] := rfl
      have eV : rowV r = .obj c_Told [(f_function, brV r.ks r.ps r.at_), (f_least, oV r.least), (f_most, oV r.most)] := rfl
      have hps : r.ps.length ≤ 1000 := by
        have := RR.F.F.B.lp
        have := RR.F.F.k5
        omega
      have isb : ∀ h', isinV h' (brV r.ks r.ps r.at_) [.own c_Broken] = some true := fun _ => rfl
      walk_at "gos"
      rw [eL, eV]
      walk_at "gos"
      rw [show slcV (P.sp h d') (.tup [fnL r.ks r.ps r.at_, oV r.least, oV r.most]) (some 1) none = some (.v (.tup [oV r.least, oV r.most])) from by
        show some (Rv.v (.tup (cut _ _ _))) = _
        rw [cut_tail]]
      walk_at "gos"
      refine c_neP 3 (by decide) (plB_two _ _) (plB_two _ _) fun bb hb => ?_
      have hbf : bb = false := by
        cases bb with
        | false => rfl
        | true => exact absurd rfl (hb.mp rfl)
      rw [hbf]
      walk_at "gos"
      refine L_f_of_ok hps (by omega) w2 ?_
      walk_at "gos"
      have efn : ∀ (ks : List Rat) (ps : List (List Rat)) (at_ : List Rat), fnL ks ps at_ = .tup [.lst (ks.map qv), .lst (ps.map polyL), .lst (at_.map qv)] := fun _ _ _ => rfl
      refine c_neP 4 (by decide) (plB_fnL _ _ _) (plB_fnL r.ks r.ps r.at_) fun bb hb => ?_
      have hbf : bb = false := by
        cases bb with
        | false => rfl
        | true => exact absurd rfl (hb.mp rfl)
      rw [hbf]
      walk_at "gos"
      exact ⟨rfl, _, _, rfl⟩
    · rintro σ h' ⟨rfl, o10, o14, rfl⟩
      walk_at "gos"
      refine l15_ok S H HR h5 he p.sp (by omega) fun d2 o15 o16 o17 o18 m1 m2 => ?_
      rw [sp_sp]
      exact hR _ _ _ _ _ _ _ _ _ (by omega) (by omega)
end
end G
namespace G
theorem pen_ok {T : Tb} {l k : Nat} {h : VH} {ns : List Int} {Q : Val → VH → Prop} (e : T.defs[k]? = some .mkpen) (hl : 1 ≤ l) (hn : ns.length ≤ 1000) (q : Q (.ref h.next) (h.push (.pen 0))) : Gd (M.run T l k [.scr ns] h) Q := by
  obtain ⟨l, rfl⟩ : ∃ m, l = m + 1 := ⟨l - 1, by omega⟩
  unfold M.run
  rw [e]
  dsimp only
  rw [if_pos hn]
  exact gd_ret q
theorem none_wf : VH.none.wf := by
  unfold VH.none VH.wf
  simp
theorem pn_start : Pn (VH.none.push (.pen 0)) 0 := by
  refine ⟨wf_push none_wf, push_get (h := VH.none)⟩
section
variable {h : VH} {d : Nat}
theorem lap_ok {R : Fl → VH → Prop} {v0 : Val} {o2 o3 o4 o5 o6 o7 o8 o9 o10 o11 o12 o13 o14 o15 o16 o17 o18 : Option Val} (p : Pn h d) (hd : d + 5000 < 900000000000)
    (hR : ∀ d' o2 o3 o4 o5 o6 o7 o8 o9 o10 o11 o12 o13 o14 o15 o16 o17 o18, d ≤ d' → d' ≤ d + 2000 → R (.nx [some v0, some (.ref 0), o2, o3, o4, o5, o6, o7, o8, o9, o10, o11, o12, o13, o14, o15, o16, o17, o18]) (P.sp h d')) :
    Gd (evSs T (run T 29) [some v0, some (.ref 0), o2, o3, o4, o5, o6, o7, o8, o9, o10, o11, o12, o13, o14, o15, o16, o17, o18] b_lapB h) R := by
  unfold b_lapB
  walk_at "gos"
  refine L_interval_ok p (by omega) (by omega) fun a b d1 M k1 k2 hab m0 m1 za zb => ?_
  have S : St a b M := ⟨hab, m0, m1, za, zb⟩
  walk_at "gos"
  refine L_drawn_share_ok S p.sp (by omega) (by omega) fun xs qs d2 s k3 k4 x1 x2 x3 x4 x5 x6 => ?_
  rw [sp_sp]
  have H : Sh a b M xs qs s := ⟨x1, x2, x3, x4, x5, x6⟩
  walk_at "gos"
  refine L_drawn_knots_ok S p.sp (by omega) (by omega) fun ks d3 k5 k6 y1 y2 y3 y4 y5 y6 => ?_
  rw [sp_sp]
  walk_at "gos"
  refine draw_ok rfl (by omega) p.sp (by decide) (by decide) (by omega) fun i hi => ?_
  rw [sp_sp]
  walk_at "gos"
  refine ⟨by unfold okR; simp; omega, ?_⟩
  refine for_rng (fun k σ h' => ∃ (rs : List RowD) (d' : Nat) (o9 o10 o11 : Option Val), h' = P.sp h d' ∧ d3 + 1 ≤ d' ∧ d' ≤ d3 + 1 + 130 * k ∧ rs.length = k ∧ (∀ r ∈ rs, Row a b M ks xs qs r) ∧ σ = [some v0, some (.ref 0), o2, some (qv a), some (qv b), some (sv xs qs), some (.lst (ks.map qv)), some (.lst (rs.map rowL)), some (.lst ((0 :: allMiss xs qs rs).map qv)), o9, o10, o11, o12, o13, o14, o15, o16, o17, o18])
    ⟨[], d3 + 1, _, _, _, rfl, by omega, by omega, rfl, by simp, rfl⟩ ?_ ?_
  · rintro k σ h' hk ⟨rs, d4, o9, o10, o11, rfl, m1, m2, m3, HR, rfl⟩
    have hk5 : k < 5 := by omega
    walk_at "gos"
    refine L_row_ok S H y3 y2 y1 y4 y5 y6 p.sp (by omega) (by omega) fun r d5 n1 n2 RR => ?_
    rw [sp_sp]
    walk_at "gos"
    rw [add_lists (by rw [List.length_map]; simp; omega)]
    walk_at "gos"
    have key : ∀ rs : List RowD, (allMiss xs qs rs).length ≤ 3 * rs.length := fun rs => by
      induction rs with
      | nil => exact Nat.le_refl _
      | cons r rs ih =>
        show (missesOf (meanF r.ks r.ps r.at_ xs qs) r.least r.most ++ allMiss xs qs rs).length ≤ _
        rw [List.length_append, List.length_cons]
        have : (missesOf (meanF r.ks r.ps r.at_ xs qs) r.least r.most).length ≤ 3 := by
          unfold missesOf
          cases r.least <;> cases r.most <;> simp
        omega
    have l1 := key rs
    have l2 : (missesOf (meanF r.ks r.ps r.at_ xs qs) r.least r.most).length ≤ 3 := by
      unfold missesOf
      cases r.least <;> cases r.most <;> simp
    rw [add_lists (by rw [List.length_map, List.length_map, List.length_cons]; omega)]
    walk_at "gos"
    refine ⟨rs ++ [r], d5, some (.int (0 + (k : Int) * 1)), some (rowL r), some (.lst ((missesOf (meanF r.ks r.ps r.at_ xs qs) r.least r.most).map qv)), rfl, by omega, by omega, by rw [List.length_append, m3]; rfl, fun t ht => ?_, ?_⟩
    · rcases List.mem_append.mp ht with z | z
      · exact HR t z
      · rw [List.mem_singleton.mp z]
        exact RR
    · have e1 : (rs ++ [r]).map rowL = rs.map rowL ++ [rowL r] := by rw [List.map_append]; rfl
      have e2 : (0 :: allMiss xs qs (rs ++ [r])).map qv = (0 :: allMiss xs qs rs).map qv ++ (missesOf (meanF r.ks r.ps r.at_ xs qs) r.least r.most).map qv := by
        rw [← List.map_append]
        congr 1
        show 0 :: allMiss xs qs (rs ++ [r]) = 0 :: (allMiss xs qs rs ++ _)
        unfold allMiss
        rw [List.flatMap_append]
        simp
      rw [e1, e2]
      rfl
  · rintro σ h' ⟨rs, d4, o9, o10, o11, rfl, m1, m2, m3, HR, rfl⟩
    have h5 : rs.length ≤ 5 := by omega
    walk_at "gos"
    refine l12_ok S H HR h5 p.sp (by omega) fun d5 o10 o12 o13 o14 o15 o16 o17 o18 n1 n2 => ?_
    rw [sp_sp]
    exact hR _ _ _ _ _ _ _ _ _ _ _ _ _ _ _ _ _ _ (by omega) (by omega)
end
theorem law_gd {ns : List Int} {h : VH} (w : h.next = 0) (p0 : Pn (h.push (.pen 0)) 0) (hn : ns.length ≤ 63) : Gd (M.run G.T 30 G.i_law [.scr ns] h) fun v _ => v = .bl true := by
  refine w_run (body := b_law) rfl rfl (by omega) ?_
  rw [law_top]
  unfold b_lawT
  walk_at "gos"
  refine pen_ok rfl (by omega) (by omega) ?_
  rw [w]
  generalize h.push (.pen 0) = h0 at p0
  walk_at "gos"
  rw [show (3 : Int).toNat = 3 from rfl, show 30 - 1 = 29 from rfl]
  refine for_rng (fun k σ h' => ∃ d', Pn h' d' ∧ d' ≤ 2000 * k ∧ k ≤ 3 ∧ ∃ o2 o3 o4 o5 o6 o7 o8 o9 o10 o11 o12 o13 o14 o15 o16 o17 o18, σ = [some (.scr ns), some (.ref 0), o2, o3, o4, o5, o6, o7, o8, o9, o10, o11, o12, o13, o14, o15, o16, o17, o18]) ⟨0, p0, by omega, by omega, _, _, _, _, _, _, _, _, _, _, _, _, _, _, _, _, _, rfl⟩ ?_ ?_
  · rintro k σ h' hk ⟨d', p, l1, l2, o2, o3, o4, o5, o6, o7, o8, o9, o10, o11, o12, o13, o14, o15, o16, o17, o18, rfl⟩
    walk_at "gos"
    refine lap_ok p (by omega) fun d2 o2 o3 o4 o5 o6 o7 o8 o9 o10 o11 o12 o13 o14 o15 o16 o17 o18 m1 m2 => ?_
    walk_at "gos"
    exact ⟨d2, p.sp, by omega, by omega, _, _, _, _, _, _, _, _, _, _, _, _, _, _, _, _, _, rfl⟩
  · rintro σ h' ⟨d', p, l1, l2, o2, o3, o4, o5, o6, o7, o8, o9, o10, o11, o12, o13, o14, o15, o16, o17, o18, rfl⟩
    walk_at "gos"
    rfl
theorem plain (ns : List Int) (hn : ns.length ≤ 63) : (M.run G.T 30 G.i_law [.scr ns] M.VH.none).Good fun r => r.1 = .bl true := by
  have key := law_gd (ns := ns) (h := VH.none) rfl pn_start hn
  exact key.go
end G
end

theorem PySem.Challenge.cw_toldmeans_k09_whole_fits_to_a_gap_holds : PySem.Challenge.rw_toldmeans_k09_whole_fits_to_a_gap.Holds := by
  exact G.final G.plain
