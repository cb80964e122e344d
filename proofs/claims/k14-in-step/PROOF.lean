import PyProof.Rows.All
import Wide.All
import OpenK.AllK
import Wide.FinOn
import KE.KDictKeyed
import PyProof.NeKinds
import HandS.Base
import HandS.Call
import HandS.List
import HandS.Comp
import HandS.Iter
import HandS.Dict
import HandS.More
import HandS.Words
import HandS.WordsExc
import HandS.TupAny
import HandS.Star
import HandS.Style
import HandS.IsInst
import HandS.Conv
import HandS.SetFor
import HandS.Defaults
import HandS.HeadHook1
import HandS.HeadHook2
import HandS.Ends
import HandS.HeadEnd
import KE.KStateDown
import HandS.Head0
import HandS.Head1
import HandS.Head2
import PySem.Challenge.RW_helpedcalls_k14_across_in_step
set_option Elab.async false
set_option linter.all false
set_option maxRecDepth 100000
set_option maxHeartbeats 4000000
/-! The little language: values, expressions, statements, and what they do (no model of Python in sight). -/
namespace Hc

/-- values; lst, dct: lists and dicts that nobody changes any more; obj: what may change, by its number -/
inductive PV where
  | non | bl (b : Bool) | int (i : Int) | str (s : List Nat) | tup (l : List PV) | lst (l : List PV)
  | dct (l : List (PV × PV)) | obj (n : Nat) | fn (n : Nat) | ty (n : Nat)
  deriving Inhabited

/-- what stands at a number -/
inductive IO where
  | lst (l : List PV)
  | dct (l : List (PV × PV))
  | ins (c : Nat) (fs : List (Nat × PV))
  deriving Inhabited
abbrev HP := List IO

/-- slots: unknown, a value, a list or a dict of the frame's own -/
inductive SV where
  | un | pv (v : PV) | ol (l : List PV) | od (l : List (PV × PV))
  deriving Inhabited
abbrev SG := List SV

inductive R (α : Type) where
  | ok (a : α) (h : HP)
  | ex (c : Nat) (fs : List PV) (h : HP)
  | no
  deriving Inhabited
def R.bind {α β : Type} (r : R α) (k : α → HP → R β) : R β := match r with
  | .ok a h => k a h
  | .ex c fs h => .ex c fs h
  | .no => .no
def R.ofO {α β : Type} (o : Option α) (k : α → R β) : R β := match o with
  | some a => k a
  | none => .no
/-- a test's answer -/
def R.tst (v : PV) (a b : R β) : R β := match v with
  | .bl true => a
  | .bl false => b
  | _ => .no

/-- targets -/
inductive T where
  | nm (i : Nat)
  | tp (l : List T)
  deriving Inhabited

/-- operators: 0 + 1 - 2 * 3 // 4 % 5 ** ; comparisons: 0 == 1 != 2 < 3 <= 4 > 5 >= 6 is 7 is not 8 in 9 not in -/
inductive E where
  | var (i : Nat)
  | own (i : Nat)
  | cst (v : PV)
  | star (e : E)
  | tup (es : List E)
  | lst (es : List E)
  | hlst (es : List E)
  | dct (ks vs : List E)
  | hdct (ks vs : List E)
  | and (a b : E)
  | or (a b : E)
  | not (a : E)
  | ite (c a b : E)
  | bin (op : Nat) (a b : E)
  | cmp (op : Nat) (a b : E)
  | chn (o1 o2 : Nat) (a b c : E)
  | sub (a i : E)
  | slc (a lo hi : E)
  | cmp1 (elt : E) (t : T) (it : E) (ifs : List E) (vs : List Nat)
  | cmp2 (elt : E) (t : T) (it : E) (ifs : List E) (t2 : T) (it2 : E) (ifs2 : List E) (vs vs2 : List Nat)
  | call (f : Nat) (es : List E)
  | callv (i : Nat) (es : List E)
  | meth (m : Nat) (o : E) (es : List E)
  | new (c : Nat) (es : List E)
  | bi (b : Nat) (es : List E)
  | bm (b : Nat) (o : E) (es : List E)
  | srt (f : Nat) (e : E)
  | fld (f : Nat) (o : E)
  | rng (a b : E)
  | enm (e : E)
  | stk
  deriving Inhabited

inductive Sm where
  | ret (e : E)
  | rown (i : Nat)
  | set (t : T) (e : E)
  | seto (i : Nat) (e : E)
  | par (is : List (Nat × Bool)) (es : List E)
  | mov (i j : Nat)
  | app (i : Nat) (e : E)
  | ext (i : Nat) (e : E)
  | put (i : Nat) (k v : E)
  | pute (o k v : E)
  | seta (o : E) (f : Nat) (v : E)
  | popt (t : T) (i : Nat)
  | expr (e : E)
  | cond (c : E) (a b : List Sm)
  | whil (c : E) (b : List Sm)
  | forr (t : T) (it : E) (b : List Sm)
  | brk
  | pass
  | rais (c : Nat) (es : List E)
  | tryx (b : List Sm) (hs : List (Nat × Option Nat × List Sm))
  | stk
  deriving Inhabited

/-- a def: how many slots, is it closed (its own objects alone are changed), its body -/
structure Fn where
  ps : Nat
  ns : Nat
  closed : Bool
  body : List Sm
  deriving Inhabited

structure Pg where
  fn : Nat → Option Fn
  /-- the def of a class's method -/
  mt : Nat → Nat → Option Nat
  /-- the class's number of __init__, if it has one -/
  ini : Nat → Option Nat

/-! ### values -/
def pvs (l : List Int) : List PV := l.map .int
mutual
def eqv : PV → PV → Bool
  | .non, .non => true
  | .bl a, .bl b => a == b
  | .bl a, .int j => decide ((if a then 1 else 0) = j)
  | .int i, .bl b => decide (i = (if b then 1 else 0))
  | .int i, .int j => decide (i = j)
  | .str a, .str b => a == b
  | .tup a, .tup b => eqvs a b
  | .lst a, .lst b => eqvs a b
  | _, _ => false
def eqvs : List PV → List PV → Bool
  | [], [] => true
  | x :: xs, y :: ys => if eqv x y then eqvs xs ys else false
  | _, _ => false
end
mutual
/-- plain data, at most so deep -/
def plain : Nat → PV → Bool
  | _, .non | _, .bl _ | _, .int _ | _, .str _ => true
  | n + 1, .tup l => plains n l
  | n + 1, .lst l => plains n l
  | _, _ => false
def plains : Nat → List PV → Bool
  | _, [] => true
  | n, x :: xs => if plain n x then plains n xs else false
end
mutual
/-- may be a key: 8 levels of tuples -/
def keyish : Nat → PV → Bool
  | _, .non | _, .bl _ | _, .int _ | _, .str _ => true
  | n + 1, .tup l => keyishs n l
  | _, _ => false
def keyishs : Nat → List PV → Bool
  | _, [] => true
  | n, x :: xs => if keyish n x then keyishs n xs else false
end
/-- 0: an int or a text; 1: a tuple -/
def kcls : PV → Option Nat
  | .int _ => some 0
  | .str _ => some 0
  | .tup l => if keyishs 7 l then some 1 else none
  | _ => none
/-- the kind of a dict's keys: none for the empty one -/
def dcls : List (PV × PV) → Option Nat
  | [] => none
  | (k, _) :: _ => kcls k
/-- k may be asked of the dict -/
def askable (d : List (PV × PV)) (k : PV) : Bool := match kcls k, dcls d with
  | some 0, none => true
  | some 1, none => true
  | some 0, some 0 => true
  | some 1, some 1 => true
  | _, _ => false
def dget : List (PV × PV) → PV → Option PV
  | [], _ => none
  | (k, v) :: r, x => if eqv k x then some v else dget r x
def dput : List (PV × PV) → PV → PV → List (PV × PV)
  | [], x, v => [(x, v)]
  | (k, w) :: r, x, v => if eqv k x then (k, v) :: r else (k, w) :: dput r x v

def nth {α : Type} : List α → Nat → Option α
  | [], _ => none
  | x :: _, 0 => some x
  | _ :: r, n + 1 => nth r n
def upd {α : Type} : List α → Nat → α → List α
  | [], _, _ => []
  | _ :: r, 0, a => a :: r
  | x :: r, n + 1, a => x :: upd r n a
/-- the place that an index names -/
def ixn (n : Nat) (i : Int) : Option Nat := match i with
  | .ofNat k => if Nat.blt k n then some k else none
  | .negSucc k => if Nat.blt k n then some (n - 1 - k) else none
def sAt {α : Type} (l : List α) (i : Int) : Option α := match i with
  | .ofNat k => nth l k
  | .negSucc k => if Nat.blt k l.length then nth l (l.length - 1 - k) else none
def SZ : Nat := 16777216
def short {α : Type} (l : List α) : Bool := Nat.ble l.length 16777216
/-- a slice's ends -/
def cut (n : Nat) : Int → Nat
  | .ofNat k => if Nat.ble k n then k else n
  | .negSucc k => if Nat.ble (k + 1) n then n - (k + 1) else 0
def slice {α : Type} (l : List α) (lo hi : Option Int) : List α :=
  let n := l.length
  let a := match lo with | some i => cut n i | none => 0
  let b := match hi with | some i => cut n i | none => n
  (l.drop a).take (b - a)

/-- a list, a tuple, as they stand -/
def seqOf (h : HP) : PV → Option (List PV)
  | .tup l => some l
  | .lst l => some l
  | .obj n => match nth h n with
    | some (.lst l) => some l
    | _ => none
  | _ => none
/-- what == sees -/
def seen (h : HP) : PV → PV
  | .obj n => match nth h n with
    | some (.lst l) => .lst l
    | _ => .obj n
  | v => v

def mulOk (i j : Int) : Bool := Nat.blt j.natAbs 18446744073709551616 || Nat.blt i.natAbs 18446744073709551616
def binop (op : Nat) (a b : PV) : Option PV := match op, a, b with
  | 0, .int i, .int j => some (.int (i + j))
  | 0, .tup l, .tup r => let x := l ++ r; if short x then some (.tup x) else none
  | 0, .lst l, .lst r => let x := l ++ r; if short x then some (.lst x) else none
  | 0, .str l, .str r => let x := l ++ r; if short x then some (.str x) else none
  | 1, .int i, .int j => some (.int (i - j))
  | 2, .int i, .int j => if mulOk i j then some (.int (i * j)) else none
  | 3, .int i, .int j => if decide (0 < j ∧ j < 1073741824) then some (.int (i / j)) else none
  | 4, .int i, .int j => if decide (0 < j) then some (.int (i % j)) else none
  | 5, .int i, .int j => if decide (0 ≤ j ∧ j ≤ 64 ∧ 0 ≤ i ∧ i ≤ 1024) then some (.int (i ^ j.toNat)) else none
  | _, _, _ => none

def isNone : PV → Bool
  | .non => true
  | _ => false
def memv (x : PV) : List PV → Bool
  | [] => false
  | y :: r => if eqv y x then true else memv x r
mutual
/-- the order of ints, texts, tuples of such -/
def ltv : PV → PV → Option Bool
  | .int i, .int j => some (decide (i < j))
  | .str a, .str b => some (lts a b)
  | .tup a, .tup b => ltvs a b
  | _, _ => none
def ltvs : List PV → List PV → Option Bool
  | [], [] => some false
  | [], _ :: _ => some true
  | _ :: _, [] => some false
  | x :: xs, y :: ys => if eqv x y then ltvs xs ys else ltv x y
def lts : List Nat → List Nat → Bool
  | _, [] => false
  | [], _ :: _ => true
  | x :: xs, y :: ys => if x == y then lts xs ys else Nat.blt x y
end
def cmpop (h : HP) (op : Nat) (a b : PV) : Option Bool := match op with
  | 0 => match a, b with
    | .int i, .int j => some (decide (i = j))
    | .str x, .str y => some (x == y)
    | a, b => let x := seen h a; let y := seen h b; if plain 40 x && plain 40 y then some (eqv x y) else none
  | 1 => match a, b with
    | .int i, .int j => some (!decide (i = j))
    | .str x, .str y => some (!(x == y))
    | a, b => let x := seen h a; let y := seen h b; if plain 40 x && plain 40 y then some (!eqv x y) else none
  | 2 => match a, b with
    | .int i, .int j => some (decide (i < j))
    | _, _ => none
  | 3 => match a, b with
    | .int i, .int j => some (decide (i ≤ j))
    | _, _ => none
  | 4 => match a, b with
    | .int i, .int j => some (decide (j < i))
    | _, _ => none
  | 5 => match a, b with
    | .int i, .int j => some (decide (j ≤ i))
    | _, _ => none
  | 6 => match b with
    | .non => some (isNone a)
    | .bl y => match a with
      | .bl x => some (x == y)
      | _ => none
    | _ => none
  | 7 => match b with
    | .non => some (!isNone a)
    | .bl y => match a with
      | .bl x => some (!(x == y))
      | _ => none
    | _ => none
  | 8 => match b with
    | .dct d => if askable d a then some (dget d a).isSome else none
    | .obj n => match nth h n with
      | some (.dct d) => if askable d a then some (dget d a).isSome else none
      | some (.lst l) => if plain 40 a && plains 40 l then some (memv a l) else none
      | _ => none
    | .tup l => if plain 40 a && plains 40 l then some (memv a l) else none
    | .lst l => if plain 40 a && plains 40 l then some (memv a l) else none
    | _ => none
  | 9 => match b with
    | .dct d => if askable d a then some (!(dget d a).isSome) else none
    | .obj n => match nth h n with
      | some (.dct d) => if askable d a then some (!(dget d a).isSome) else none
      | some (.lst l) => if plain 40 a && plains 40 l then some (!memv a l) else none
      | _ => none
    | .tup l => if plain 40 a && plains 40 l then some (!memv a l) else none
    | .lst l => if plain 40 a && plains 40 l then some (!memv a l) else none
    | _ => none
  | _ => none

def fget : List (Nat × PV) → Nat → Option PV
  | [], _ => none
  | (g, v) :: r, f => if g == f then some v else fget r f
def fput : List (Nat × PV) → Nat → PV → List (Nat × PV)
  | [], f, v => [(f, v)]
  | (g, w) :: r, f, v => if g == f then (g, v) :: r else (g, w) :: fput r f v

/-- a[i] -/
def item (h : HP) (a i : PV) : Option PV := match a with
  | .tup l => match i with
    | .int k => sAt l k
    | _ => none
  | .lst l => match i with
    | .int k => sAt l k
    | _ => none
  | .str l => match i with
    | .int k => if short l then (match sAt l k with
      | some c => some (.str [c])
      | none => none) else none
    | _ => none
  | .dct d => if askable d i then dget d i else none
  | .obj n => match nth h n with
    | some (.lst l) => match i with
      | .int k => sAt l k
      | _ => none
    | some (.dct d) => if askable d i then dget d i else none
    | _ => none
  | _ => none
def cutv (a : PV) (l r : Option Int) : Option PV := match a with
  | .tup xs => some (.tup (slice xs l r))
  | .lst xs => some (.lst (slice xs l r))
  | _ => none

/-- isinstance: 0 int 1 bool 2 str 3 tuple 4 list -/
def isi (t : Nat) : PV → Option Bool
  | .non => some false
  | .bl _ => some (t == 0 || t == 1)
  | .int _ => some (t == 0)
  | .str _ => some (t == 2)
  | .tup _ => some (t == 3)
  | .lst _ => some (t == 4)
  | _ => none
def allb : List PV → Option Bool
  | [] => some true
  | .bl b :: r => match allb r with
    | some c => some (b && c)
    | none => none
  | _ => none
def anyb : List PV → Option Bool
  | [] => some false
  | .bl b :: r => match anyb r with
    | some c => some (b || c)
    | none => none
  | _ => none
def intsOf : List PV → Option (List Int)
  | [] => some []
  | .int i :: r => match intsOf r with
    | some l => some (i :: l)
    | none => none
  | _ => none
def minI : Int → List Int → Int
  | m, [] => m
  | m, x :: r => minI (if x < m then x else m) r
def maxI : Int → List Int → Int
  | m, [] => m
  | m, x :: r => maxI (if m < x then x else m) r
def distinct : List Int → List Int
  | [] => []
  | x :: r => if r.contains x then distinct r else x :: distinct r
def rgo : Nat → Int → List PV
  | 0, _ => []
  | n + 1, a => .int a :: rgo n (a + 1)
def range (a b : Int) : List PV := rgo (b - a).toNat a
/-- lists alone -/
def lsOf (h : HP) : PV → Option (List PV)
  | .lst l => some l
  | .obj n => match nth h n with
    | some (.lst l) => some l
    | _ => none
  | _ => none
def tpOf : PV → Option (List PV)
  | .tup l => some l
  | _ => none
def lenv (h : HP) : PV → Option Nat
  | .str s => if short s then some s.length else none
  | .dct d => if dcls d = some 1 then none else some d.length
  | .obj n => match nth h n with
    | some (.lst l) => some l.length
    | some (.dct d) => if dcls d = some 1 then none else some d.length
    | _ => none
  | .tup l => some l.length
  | .lst l => some l.length
  | _ => none
/-- built-in functions: 0 len 1 isinstance int 2 .. bool 3 .. str 4 .. tuple 5 .. list 6 .. (tuple, list) 7 int 8 tuple 9 list 10 all 11 any 12 min of a list 13 max of a list
    14 len(set(..)) 15 sum 16 max of two 17 min of two -/
def bfn (h : HP) (b : Nat) (vs : List PV) : Option PV := match b, vs with
  | 0, [v] => match lenv h v with
    | some n => some (.int n)
    | none => none
  | 1, [v] => (isi 0 v).map .bl
  | 2, [v] => (isi 1 v).map .bl
  | 3, [v] => (isi 2 v).map .bl
  | 4, [v] => (isi 3 v).map .bl
  | 5, [v] => (isi 4 v).map .bl
  | 6, [v] => match isi 3 v, isi 4 v with
    | some p, some q => some (.bl (p || q))
    | _, _ => none
  | 7, [.int i] => some (.int i)
  | 7, [.bl k] => some (.int (if k then 1 else 0))
  | 8, [v] => match seqOf h v with
    | some l => some (.tup l)
    | none => none
  | 9, [v] => match seqOf h v with
    | some l => some (.lst l)
    | none => none
  | 10, [v] => match lsOf h v with
    | some l => (allb l).map .bl
    | none => none
  | 11, [v] => match lsOf h v with
    | some l => (anyb l).map .bl
    | none => none
  | 12, [v] => match lsOf h v with
    | some l => match intsOf l with
      | some (m :: r) => some (.int (minI m r))
      | _ => none
    | none => none
  | 13, [v] => match lsOf h v with
    | some l => match intsOf l with
      | some (m :: r) => some (.int (maxI m r))
      | _ => none
    | none => none
  | 14, [v] => match tpOf v with
    | some l => match intsOf l with
      | some r => if Nat.blt r.length 4000 then some (.int (distinct r).length) else none
      | _ => none
    | none => none
  | 15, [v] => match lsOf h v with
    | some l => match intsOf l with
      | some r => some (.int r.sum)
      | _ => none
    | none => none
  | 16, [.int i, .int j] => some (.int (if j > i then j else i))
  | 17, [.int i, .int j] => some (.int (if j < i then j else i))
  | _, _ => none
def dictOf (h : HP) : PV → Option (List (PV × PV))
  | .dct d => some d
  | .obj n => match nth h n with
    | some (.dct d) => some d
    | _ => none
  | _ => none
/-- methods of built-in types: 0 d.get(k) 1 d.get(k, x); the keys are ints, texts -/
def bmf (b : Nat) (d : List (PV × PV)) (vs : List PV) : Option PV := match b, vs with
  | 0, [k] => if askable d k && kcls k == some 0 then some ((dget d k).getD .non) else none
  | 1, [k, x] => if askable d k && kcls k == some 0 then some ((dget d k).getD x) else none
  | _, _ => none

/-- a value handed out of a closed def: its own objects are nobody's any more -/
def frz (h : HP) (base : Nat) : Nat → PV → Option PV
  | 0, _ => none
  | n + 1, v => match v with
    | .obj k => if Nat.blt k base then some v else match nth h k with
      | some (.lst l) => match fzs (frz h base n) l with
        | some l' => some (.lst l')
        | none => none
      | some (.dct d) => match fzd (frz h base n) d with
        | some d' => some (.dct d')
        | none => none
      | _ => none
    | .tup l => match fzs (frz h base n) l with
      | some l' => some (.tup l')
      | none => none
    | .lst l => match fzs (frz h base n) l with
      | some l' => some (.lst l')
      | none => none
    | .dct d => match fzd (frz h base n) d with
      | some d' => some (.dct d')
      | none => none
    | v => some v
where
  fzs (f : PV → Option PV) : List PV → Option (List PV)
    | [] => some []
    | x :: r => match f x with
      | some y => match fzs f r with
        | some l => some (y :: l)
        | none => none
      | none => none
  fzd (f : PV → Option PV) : List (PV × PV) → Option (List (PV × PV))
    | [] => some []
    | (k, x) :: r => match f x with
      | some y => match fzd f r with
        | some l => some ((k, y) :: l)
        | none => none
      | none => none

/-! ### targets -/
def wipe (vs : List Nat) (g : SG) : SG := match vs with
  | [] => g
  | v :: r => upd (wipe r g) v .un
def bind1 : T → PV → SG → Option SG
  | .nm i, v, g => some (upd g i (.pv v))
  | .tp ts, .tup vs, g => bindn ts vs g
  | _, _, _ => none
where
  bindn : List T → List PV → SG → Option SG
    | [], [], g => some g
    | t :: ts, v :: vs, g => match bind1 t v g with
      | some g1 => bindn ts vs g1
      | none => none
    | _, _, _ => none

inductive F where
  | nx (g : SG) | ret (v : PV) | brk (g : SG)
  deriving Inhabited

structure EV where
  e : Nat → Nat → E → SG → HP → R PV
  s : Nat → Nat → List Sm → SG → HP → R F
  w : Nat → Nat → E → List Sm → SG → HP → R F
  f : Nat → Nat → Nat → List PV → HP → R PV

def EV.bot : EV := ⟨fun _ _ _ _ _ => .no, fun _ _ _ _ _ => .no, fun _ _ _ _ _ _ => .no, fun _ _ _ _ _ => .no⟩

/-- a row of expressions, with stars; in a star's place a slot of the frame's own may stand -/
def evs (ev : E → HP → R PV) : List E → HP → R (List PV)
  | [], h => .ok [] h
  | e :: es, h => match e with
    | .star a => (ev a h).bind fun v h1 => R.ofO (seqOf h1 v) fun l => (evs ev es h1).bind fun vs h2 => .ok (l ++ vs) h2
    | e => (ev e h).bind fun v h1 => (evs ev es h1).bind fun vs h2 => .ok (v :: vs) h2
/-- a slice's part -/
def part (ev : E → HP → R PV) (c : E) (h : HP) : R (Option Int) := match c with
  | .cst .non => .ok none h
  | c => (ev c h).bind fun v h1 => match v with
    | .int i => .ok (some i) h1
    | _ => .no
/-- all tests -/
def tests (ev : E → HP → R PV) : List E → HP → R Bool
  | [], h => .ok true h
  | e :: es, h => (ev e h).bind fun v h1 => R.tst v (tests ev es h1) (.ok false h1)
def enum : Nat → List PV → List PV
  | _, [] => []
  | n, x :: r => .tup [.int n, x] :: enum (n + 1) r
/-- what a walk meets -/
def itOf : PV → Option (List PV)
  | .tup l => some l
  | .lst l => some l
  | .str s => some (s.map fun c => .str [c])
  | _ => none
/-- a comprehension's turns; acc: what is made, backwards -/
def turns (t : T) (g : SG) (body : SG → List PV → HP → R (List PV)) : List PV → List PV → HP → R (List PV)
  | [], acc, h => .ok acc h
  | x :: r, acc, h => R.ofO (bind1 t x g) fun g1 => (body g1 acc h).bind fun acc' h1 => turns t g body r acc' h1
/-- a for's turns -/
def fors (t : T) (body : SG → HP → R F) : List PV → SG → HP → R F
  | [], g, h => .ok (.nx g) h
  | x :: r, g, h => R.ofO (bind1 t x g) fun g1 => (body g1 h).bind fun f h1 => match f with
    | .nx g2 => fors t body r g2 h1
    | .brk g2 => .ok (.nx g2) h1
    | .ret v => .ok (.ret v) h1

def ofO (o : Option PV) (h : HP) : R PV := R.ofO o fun v => .ok v h
def mkd (l : List PV) (r : List PV) (acc : List (PV × PV)) : Option (List (PV × PV)) := match l, r with
  | [], [] => some acc
  | k :: ks, v :: vs => if askable acc k then mkd ks vs (dput acc k v) else none
  | _, _ => none
def rngOk (i : Int) : Bool := Nat.blt i.natAbs 4611686018427387904

section
variable (P : Pg) (r : EV)
def evE (wp d : Nat) (c : E) (g : SG) (h : HP) : R PV := match c with
  | .var i => match nth g i with
    | some (.pv v) => .ok v h
    | _ => .no
  | .own i => match nth g i with
    | some (.ol l) => .ok (.lst l) h
    | some (.od l) => .ok (.dct l) h
    | _ => .no
  | .cst v => .ok v h
  | .tup es => (evs (fun e h => r.e wp d e g h) es h).bind fun vs h1 => if short vs then .ok (.tup vs) h1 else .no
  | .lst es => (evs (fun e h => r.e wp d e g h) es h).bind fun vs h1 => if short vs then .ok (.lst vs) h1 else .no
  | .hlst es => (evs (fun e h => r.e wp d e g h) es h).bind fun vs h1 => if short vs then .ok (.obj h1.length) (h1 ++ [.lst vs]) else .no
  | .dct ks vs => (evs (fun e h => r.e wp d e g h) ks h).bind fun l h1 => (evs (fun e h => r.e wp d e g h) vs h1).bind fun m h2 => ofO ((mkd l m []).map .dct) h2
  | .hdct ks vs => (evs (fun e h => r.e wp d e g h) ks h).bind fun l h1 => (evs (fun e h => r.e wp d e g h) vs h1).bind fun m h2 =>
      R.ofO (mkd l m []) fun x => .ok (.obj h2.length) (h2 ++ [.dct x])
  | .and a b => (r.e wp d a g h).bind fun v h1 => R.tst v (r.e wp d b g h1) (.ok (.bl false) h1)
  | .or a b => (r.e wp d a g h).bind fun v h1 => R.tst v (.ok (.bl true) h1) (r.e wp d b g h1)
  | .not a => (r.e wp d a g h).bind fun v h1 => R.tst v (.ok (.bl false) h1) (.ok (.bl true) h1)
  | .ite c a b => (r.e wp d c g h).bind fun v h1 => R.tst v (r.e wp d a g h1) (r.e wp d b g h1)
  | .bin op a b => (r.e wp d a g h).bind fun x h1 => (r.e wp d b g h1).bind fun y h2 => ofO (binop op x y) h2
  | .cmp op a b => (r.e wp d a g h).bind fun x h1 => (r.e wp d b g h1).bind fun y h2 => R.ofO (cmpop h2 op x y) fun k => .ok (.bl k) h2
  | .chn o1 o2 a b c => (r.e wp d a g h).bind fun x h1 => (r.e wp d b g h1).bind fun y h2 => R.ofO (cmpop h2 o1 x y) fun k => match k with
      | true => (r.e wp d c g h2).bind fun z h3 => R.ofO (cmpop h3 o2 y z) fun k => .ok (.bl k) h3
      | false => .ok (.bl false) h2
  | .sub a i => (r.e wp d a g h).bind fun x h1 => (r.e wp d i g h1).bind fun y h2 => ofO (item h2 x y) h2
  | .slc a lo hi => (r.e wp d a g h).bind fun x h1 => (part (fun e h => r.e wp d e g h) lo h1).bind fun y h2 => (part (fun e h => r.e wp d e g h) hi h2).bind fun z h3 => ofO (cutv x y z) h3
  | .cmp1 elt t it ifs vs => (r.e wp d it g h).bind fun x h1 => R.ofO (itOf x) fun l =>
      (turns t (wipe vs g) (fun g1 acc h2 => (tests (fun e h => r.e wp d e g1 h) ifs h2).bind fun b h3 => match b with
          | true => (r.e wp d elt g1 h3).bind fun y h4 => .ok (y :: acc) h4
          | false => .ok acc h3) l [] h1).bind fun acc h2 => if short acc then .ok (.lst acc.reverse) h2 else .no
  | .cmp2 elt t it ifs t2 it2 ifs2 vs vs2 => (r.e wp d it g h).bind fun x h1 => R.ofO (itOf x) fun l =>
      (turns t (wipe vs g) (fun g1 acc h2 => (tests (fun e h => r.e wp d e g1 h) ifs h2).bind fun b h3 => match b with
          | true => (r.e wp d it2 g1 h3).bind fun x2 h4 => R.ofO (itOf x2) fun l2 =>
              turns t2 (wipe vs2 g1) (fun g2 acc h5 => (tests (fun e h => r.e wp d e g2 h) ifs2 h5).bind fun b h6 => match b with
                | true => (r.e wp d elt g2 h6).bind fun y h7 => .ok (y :: acc) h7
                | false => .ok acc h6) l2 acc h4
          | false => .ok acc h3) l [] h1).bind fun acc h2 => if short acc then .ok (.lst acc.reverse) h2 else .no
  | .call f es => (evs (fun e h => r.e wp d e g h) es h).bind fun vs h1 => r.f wp d f vs h1
  | .callv i es => match nth g i with
    | some (.pv (.fn f)) => (evs (fun e h => r.e wp d e g h) es h).bind fun vs h1 => r.f wp d f vs h1
    | _ => .no
  | .meth m o es => (r.e wp d o g h).bind fun x h1 => match x with
    | .obj n => match nth h1 n with
      | some (.ins c fs) => if (fget fs m).isSome then .no else R.ofO (P.mt c m) fun f => (evs (fun e h => r.e wp d e g h) es h1).bind fun vs h2 => r.f wp d f (.obj n :: vs) h2
      | _ => .no
    | _ => .no
  | .new c es => R.ofO (P.ini c) fun f => (evs (fun e h => r.e wp d e g h) es h).bind fun vs h1 => match d with
      | d1 + 1 => (r.f wp d1 f (.obj h1.length :: vs) (h1 ++ [.ins c []])).bind fun v h2 => match v with
        | .non => .ok (.obj h1.length) h2
        | _ => .no
      | 0 => .no
  | .bi b es => (evs (fun e h => r.e wp d e g h) es h).bind fun vs h1 => ofO (bfn h1 b vs) h1
  | .bm b o es => (r.e wp d o g h).bind fun x h1 => match x with
    | .dct dd => if dcls dd == some 1 then .no else (evs (fun e h => r.e wp d e g h) es h1).bind fun vs h2 => ofO (bmf b dd vs) h2
    | _ => .no
  | .fld f o => (r.e wp d o g h).bind fun x h1 => match x with
    | .obj n => match nth h1 n with
      | some (.ins _ fs) => ofO (fget fs f) h1
      | _ => .no
    | _ => .no
  | .rng a b => (r.e wp d a g h).bind fun x h1 => (r.e wp d b g h1).bind fun y h2 => match x, y with
    | .int i, .int j => if rngOk i && rngOk j && Nat.ble (j - i).toNat 16777216 then .ok (.lst (range i j)) h2 else .no
    | _, _ => .no
  | .enm e => (r.e wp d e g h).bind fun x h1 => match x with
    | .lst l => .ok (.lst (enum 0 l)) h1
    | _ => .no
  | _ => .no

/-- a call of the def f, of depth d -/
def evF (wp d : Nat) (f : Nat) (vs : List PV) (h : HP) : R PV := match d with
  | 0 => .no
  | d1 + 1 => R.ofO (P.fn f) fun fn => if Nat.beq vs.length fn.ps then
        let g := vs.map SV.pv ++ List.replicate (fn.ns - fn.ps) SV.un
        if fn.closed then (match r.s h.length d1 fn.body g h with
          | .ok (.nx _) _ => .ok .non h
          | .ok (.ret v) h1 => R.ofO (frz h1 h.length 60 v) fun v' => .ok v' h
          | .ex c fs _ => .ex c fs h
          | _ => .no)
        else (r.s wp d1 fn.body g h).bind fun f h1 => match f with
          | .nx _ => .ok .non h1
          | .ret v => .ok v h1
          | _ => .no
      else .no

def setIx (l : List PV) (i v : PV) : Option (List PV) := match i with
  | .int k => match ixn l.length k with
    | some j => some (upd l j v)
    | none => none
  | _ => none
/-- n[k] = v -/
def hput (wp : Nat) (h : HP) (n : Nat) (k v : PV) : Option HP :=
  if Nat.ble wp n then match nth h n with
    | some (.lst l) => match setIx l k v with
      | some l' => some (upd h n (.lst l'))
      | none => none
    | some (.dct dd) => if askable dd k && Nat.blt dd.length 16777215 then some (upd h n (.dct (dput dd k v))) else none
    | _ => none
  else none
/-- slots of several targets -/
def putAll : List (Nat × Bool) → List PV → SG → Option SG
  | [], [], g => some g
  | (i, false) :: is, v :: vs, g => putAll is vs (upd g i (.pv v))
  | (i, true) :: is, .lst l :: vs, g => putAll is vs (upd g i (.ol l))
  | (i, true) :: is, .dct l :: vs, g => putAll is vs (upd g i (.od l))
  | _, _, _ => none

def ev1 (wp d : Nat) (c : Sm) (g : SG) (h : HP) : R F := match c with
  | .ret e => (r.e wp d e g h).bind fun v h1 => .ok (.ret v) h1
  | .rown i => match nth g i with
    | some (.ol l) => .ok (.ret (.lst l)) h
    | some (.od l) => .ok (.ret (.dct l)) h
    | _ => .no
  | .set t e => (r.e wp d e g h).bind fun v h1 => R.ofO (bind1 t v g) fun g1 => .ok (.nx g1) h1
  | .seto i e => (r.e wp d e g h).bind fun v h1 => match v with
    | .lst l => .ok (.nx (upd g i (.ol l))) h1
    | .dct l => .ok (.nx (upd g i (.od l))) h1
    | _ => .no
  | .par is es => (evs (fun e h => r.e wp d e g h) es h).bind fun vs h1 => R.ofO (putAll is vs g) fun g1 => .ok (.nx g1) h1
  | .mov i j => match nth g j with
    | some (.ol l) => .ok (.nx (upd (upd g j .un) i (.ol l))) h
    | some (.od l) => .ok (.nx (upd (upd g j .un) i (.od l))) h
    | _ => .no
  | .app i e => match nth g i with
    | some (.ol l) => (r.e wp d e g h).bind fun v h1 => if Nat.blt l.length 16777216 then .ok (.nx (upd g i (.ol (l ++ [v])))) h1 else .no
    | some (.pv (.obj n)) => match nth h n with
      | some (.lst _) => (r.e wp d e g h).bind fun v h1 => if Nat.ble wp n then match nth h1 n with
          | some (.lst l) => if Nat.blt l.length 16777216 then .ok (.nx g) (upd h1 n (.lst (l ++ [v]))) else .no
          | _ => .no
        else .no
      | _ => .no
    | _ => .no
  | .ext i e => (r.e wp d e g h).bind fun v h1 => R.ofO (seqOf h1 v) fun m => match nth g i with
        | some (.ol l) => let x := l ++ m; if short x then .ok (.nx (upd g i (.ol x))) h1 else .no
        | some (.pv (.obj n)) => if Nat.ble wp n then match nth h1 n with
            | some (.lst l) => let x := l ++ m; if short x then .ok (.nx g) (upd h1 n (.lst x)) else .no
            | _ => .no
          else .no
        | _ => .no
  | .put i k v => (r.e wp d v g h).bind fun x h1 => (r.e wp d k g h1).bind fun y h2 => match nth g i with
        | some (.ol l) => R.ofO (setIx l y x) fun l' => .ok (.nx (upd g i (.ol l'))) h2
        | some (.od dd) => if askable dd y && Nat.blt dd.length 16777215 then .ok (.nx (upd g i (.od (dput dd y x)))) h2 else .no
        | some (.pv (.obj n)) => R.ofO (hput wp h2 n y x) fun h3 => .ok (.nx g) h3
        | _ => .no
  | .pute o k v => (r.e wp d v g h).bind fun x h1 => (r.e wp d o g h1).bind fun z h2 => (r.e wp d k g h2).bind fun y h3 => match z with
      | .obj n => R.ofO (hput wp h3 n y x) fun h4 => .ok (.nx g) h4
      | _ => .no
  | .seta o f v => (r.e wp d v g h).bind fun x h1 => (r.e wp d o g h1).bind fun z h2 => match z with
      | .obj n => if Nat.ble wp n then match nth h2 n with
          | some (.ins c fs) => if Nat.blt fs.length 900 then .ok (.nx g) (upd h2 n (.ins c (fput fs f x))) else .no
          | _ => .no
        else .no
      | _ => .no
  | .popt t i => match nth g i with
    | some (.ol l) => match l.reverse with
      | x :: r => R.ofO (bind1 t x (upd g i (.ol r.reverse))) fun g1 => .ok (.nx g1) h
      | [] => .no
    | _ => .no
  | .expr e => (r.e wp d e g h).bind fun _ h1 => .ok (.nx g) h1
  | .cond c a b => (r.e wp d c g h).bind fun v h1 => R.tst v (r.s wp d a g h1) (r.s wp d b g h1)
  | .whil c b => r.w wp d c b g h
  | .forr t it b => (r.e wp d it g h).bind fun x h1 => R.ofO (itOf x) fun l => fors t (fun g h => r.s wp d b g h) l g h1
  | .brk => .ok (.brk g) h
  | .pass => .ok (.nx g) h
  | .rais c es => (evs (fun e h => r.e wp d e g h) es h).bind fun vs h1 => .ex c vs h1
  | _ => .no
def evS (wp d : Nat) (cs : List Sm) (g : SG) (h : HP) : R F := match cs with
  | [] => .ok (.nx g) h
  | c :: cs => (ev1 r wp d c g h).bind fun f h1 => match f with
    | .nx g1 => evS wp d cs g1 h1
    | f => .ok f h1
def evW (wp d : Nat) (c : E) (b : List Sm) (g : SG) (h : HP) : R F := (r.e wp d c g h).bind fun v h1 => R.tst v
    ((r.s wp d b g h1).bind fun f h2 => match f with
      | .nx g2 => r.w wp d c b g2 h2
      | .brk g2 => .ok (.nx g2) h2
      | .ret v => .ok (.ret v) h2)
    (.ok (.nx g) h1)
def EV.step : EV := ⟨evE P r, evS r, evW r, evF P r⟩
end
/-- n: how deep the looks may go -/
def ev (P : Pg) (n : Nat) : EV := Nat.rec EV.bot (fun _ r => EV.step P r) n
end Hc

set_option maxHeartbeats 4000000
/-! What a value of the little language is in the abstract heap. -/
namespace Hc
open PySem PySem.Spec PyProof.Rows L2

def strOf (s : List Nat) : Str := ⟨s.toArray⟩
theorem strOf_inj {a b : List Nat} (h : strOf a = strOf b) : a = b := by
  have h1 : a.toArray = b.toArray := congrArg Str.cps h
  simpa using congrArg Array.toList h1

/-- what does not change through the law: the program, where its defs and classes stand, what its names are -/
structure GE where
  prog : Program
  w : World
  K : PySem.W.Frag
  mg : Str → Option Value
  base : Heap
  pg : Pg
  fad : Nat → Addr
  cad : Nat → Addr
  nm : Nat → Str

/-- a moment: what nobody changes any more, and where the numbered objects stand -/
structure Wd where
  I : Addr → Prop
  m : List Addr

mutual
def nk : PV → NestedKey
  | .non => .none
  | .bl b => .num (if b then 1 else 0)
  | .int i => .num i
  | .str s => .text (strOf s)
  | .tup l => .tup (nks l)
  | _ => .none
def nks : List PV → List NestedKey
  | [] => []
  | x :: r => nk x :: nks r
end
/-- a key of an int-and-text dict -/
inductive KR : PV → Key → Prop
  | int (i : Int) : KR (.int i) (.inl i)
  | str (s : List Nat) : KR (.str s) (.inr (strOf s))

/-- a dict whose keys are tuples -/
def NDO (G : GE) (a : Addr) (xs : List (NestedKey × Addr × V)) : HO := .ext fun h =>
  xs.length ≤ sizeLine ∧ (a == sysModules) = false ∧ ∃ ys : List (NestedKey × Addr × Value), Paired (fun (x : NestedKey × Addr × V) (y : NestedKey × Addr × Value) => x.1 = y.1 ∧ x.2.1 = y.2.1 ∧ RelV x.2.2 y.2.2) xs ys ∧
    ∃ o es ep, h.get? a = some o ∧ o.ExactDict ∧ o.data = .dict es ep ∧ es.toList = ys.map (entryOfKey (nestedKind G.prog G.w)) ∧ (ys.map (·.1)).Nodup

/-- a list that nobody changes: tracked, or of the written part -/
def LI (G : GE) (W : Wd) (H : Hp) (a : Addr) (xs : List V) : Prop := (W.I a ∧ Rd H a (.lst xs)) ∨
  ∃ (o : Obj) (its : Array Value) (n : Nat), G.K.lookup a = some o ∧ o.cls = .type "list" ∧ o.dict = none ∧ o.data = .seq its n ∧ its.size ≤ sizeLine ∧ Vals xs its.toList
theorem LI.sql {G : GE} {W : Wd} {H : Hp} {a : Addr} {xs : List V} (h : LI G W H a xs) : SqL G.K H a xs := by
  rcases h with h | h
  · exact .inl h.2
  · exact .inr h
section
variable (G : GE) (W : Wd) (H : Hp)
mutual
inductive RV : PV → V → Prop
  | non : RV .non .non
  | bl (b : Bool) : RV (.bl b) (.bl b)
  | int (i : Int) : RV (.int i) (.int i)
  | str (s : List Nat) : RV (.str s) (.str (strOf s))
  | tup {l a xs} : SqT G.K H a xs → RVs l xs → RV (.tup l) (.ref a)
  | lst {l a xs} : LI G W H a xs → RVs l xs → RV (.lst l) (.ref a)
  | dctk {d a kvs} : W.I a → H a = some (.dK kvs) → RVk d kvs → RV (.dct d) (.ref a)
  | dctn {d a xs} : W.I a → H a = some (NDO G a xs) → d ≠ [] → RVn d xs → RV (.dct d) (.ref a)
  | obj {n a} : W.m[n]? = some a → RV (.obj n) (.ref a)
  | fn (n) : RV (.fn n) (.ref (G.fad n))
inductive RVs : List PV → List V → Prop
  | nil : RVs [] []
  | cons {p x l xs} : RV p x → RVs l xs → RVs (p :: l) (x :: xs)
inductive RVk : List (PV × PV) → List (Key × V) → Prop
  | nil : RVk [] []
  | cons {k v d kk x kvs} : KR k kk → RV v x → RVk d kvs → RVk ((k, v) :: d) ((kk, x) :: kvs)
inductive RVn : List (PV × PV) → List (NestedKey × Addr × V) → Prop
  | nil : RVn [] []
  | cons {l v d q x xs} : RV (.tup l) (.ref q) → keyish 8 (.tup l) = true → RV v x → RVn d xs → RVn ((.tup l, v) :: d) ((nk (.tup l), q, x) :: xs)
end
/-- attributes -/
inductive RF : List (Nat × PV) → List (Str × V) → Prop
  | nil : RF [] []
  | cons {f v fs x xs} : RV G W H v x → RF fs xs → RF ((f, v) :: fs) ((G.nm f, x) :: xs)
/-- a dict's contents at a -/
inductive DA (a : Addr) : List (PV × PV) → Prop
  | k {d kvs} : H a = some (.dK kvs) → RVk G W H d kvs → DA a d
  | n {d xs} : H a = some (NDO G a xs) → d ≠ [] → RVn G W H d xs → DA a d
/-- a numbered object -/
inductive RO : IO → Addr → Prop
  | lst {l a xs} : H a = some (.lst xs) → RVs G W H l xs → RO (.lst l) a
  | dct {d a} : DA G W H a d → RO (.dct d) a
  | ins {c fs a dx xs} : (G.pg.ini c).isSome = true → H a = some (.ins (G.cad c) dx xs) → H dx = some (.own a) → RF G W H fs xs → RO (.ins c fs) a
/-- a value, or a list, a dict of the frame's own that is looked at -/
inductive RT : PV → V → Prop
  | v {p x} : RV G W H p x → RT p x
  | ol {l a xs} : ¬ W.I a → a ∉ W.m → H a = some (.lst xs) → RVs G W H l xs → RT (.lst l) (.ref a)
  | od {d a} : ¬ W.I a → a ∉ W.m → DA G W H a d → RT (.dct d) (.ref a)
end

theorem nth_eq {α : Type} : ∀ (l : List α) (n : Nat), nth l n = l[n]?
  | [], _ => by simp [nth]
  | _ :: _, 0 => by simp [nth]
  | x :: r, n + 1 => by simp [nth, nth_eq r n]
theorem upd_eq {α : Type} : ∀ (l : List α) (n : Nat) (a : α), upd l n a = l.set n a
  | [], _, _ => by simp [upd]
  | _ :: _, 0, _ => by simp [upd]
  | x :: r, n + 1, a => by simp [upd, upd_eq r n a]

section
variable {G : GE} {W W' : Wd} {H H' : Hp}
/-- the values stay what they are while what they lean on stays -/
structure Stay (G : GE) (W : Wd) (H : Hp) (W' : Wd) (H' : Hp) : Prop where
  mp : ∀ (n : Nat) (a : Addr), W.m[n]? = some a → W'.m[n]? = some a
  ii : ∀ a, W.I a → W'.I a
  tp : ∀ a u, Rd H a (.tup u) → Rd H' a (.tup u)
  im : ∀ a o, W.I a → H a = some o → H' a = some o
theorem Stay.sqt (s : Stay G W H W' H') {a : Addr} {xs : List V} (h : SqT G.K H a xs) : SqT G.K H' a xs := by
  rcases h with h | h
  · exact .inl (s.tp _ _ h)
  · exact .inr h
theorem Stay.rd (s : Stay G W H W' H') {a : Addr} {u : HO} (i : W.I a) (h : Rd H a u) : Rd H' a u := by
  rcases h with h | ⟨o, h⟩
  · exact .inl (s.im _ _ i h)
  · exact .inr ⟨o, s.im _ _ i h⟩
theorem LI.stay (s : Stay G W H W' H') {a : Addr} {xs : List V} (h : LI G W H a xs) : LI G W' H' a xs := by
  rcases h with ⟨i, h⟩ | h
  · exact .inl ⟨s.ii _ i, s.rd i h⟩
  · exact .inr h
mutual
theorem RV.stay (s : Stay G W H W' H') : ∀ {p : PV} {x : V}, RV G W H p x → RV G W' H' p x
  | _, _, .non => .non
  | _, _, .bl b => .bl b
  | _, _, .int i => .int i
  | _, _, .str z => .str z
  | _, _, .tup h r => .tup (s.sqt h) (RVs.stay s r)
  | _, _, .lst h r => .lst (h.stay s) (RVs.stay s r)
  | _, _, .dctk i h r => .dctk (s.ii _ i) (s.im _ _ i h) (RVk.stay s r)
  | _, _, .dctn i h e r => .dctn (s.ii _ i) (s.im _ _ i h) e (RVn.stay s r)
  | _, _, .obj h => .obj (s.mp _ _ h)
  | _, _, .fn n => .fn n
theorem RVs.stay (s : Stay G W H W' H') : ∀ {p : List PV} {x : List V}, RVs G W H p x → RVs G W' H' p x
  | _, _, .nil => .nil
  | _, _, .cons h r => .cons (RV.stay s h) (RVs.stay s r)
theorem RVk.stay (s : Stay G W H W' H') : ∀ {p : List (PV × PV)} {x : List (Key × V)}, RVk G W H p x → RVk G W' H' p x
  | _, _, .nil => .nil
  | _, _, .cons k h r => .cons k (RV.stay s h) (RVk.stay s r)
theorem RVn.stay (s : Stay G W H W' H') : ∀ {p : List (PV × PV)} {x : List (NestedKey × Addr × V)}, RVn G W H p x → RVn G W' H' p x
  | _, _, .nil => .nil
  | _, _, .cons k y h r => .cons (RV.stay s k) y (RV.stay s h) (RVn.stay s r)
end
theorem RF.stay (s : Stay G W H W' H') {p x} (h : RF G W H p x) : RF G W' H' p x := by
  induction h with
  | nil => exact .nil
  | cons h _ ih => exact .cons (h.stay s) ih
theorem DA.stay (s : Stay G W H W' H') {a : Addr} {d} (h : DA G W H a d) (k : ∀ o, H a = some o → H' a = some o) : DA G W' H' a d := by
  cases h with
  | k e r => exact .k (k _ e) (r.stay s)
  | n e n r => exact .n (k _ e) n (r.stay s)
theorem RVs.length {l xs} (h : RVs G W H l xs) : l.length = xs.length := by
  induction l generalizing xs with
  | nil => cases h; rfl
  | cons p l ih => cases h with | cons _ r => simp [ih r]
theorem RVs.append : ∀ {l xs m ys}, RVs G W H l xs → RVs G W H m ys → RVs G W H (l ++ m) (xs ++ ys)
  | _, _, _, _, .nil, h => h
  | _, _, _, _, .cons h r, k => .cons h (RVs.append r k)
theorem RVs.get : ∀ {l xs} (_ : RVs G W H l xs) {i : Nat} {p : PV}, l[i]? = some p → ∃ x, xs[i]? = some x ∧ RV G W H p x
  | _, _, .nil, i, p, e => by simp at e
  | _, _, .cons h _, 0, p, e => by simp at e; subst e; exact ⟨_, rfl, h⟩
  | _, _, .cons _ r, i + 1, p, e => by
    obtain ⟨x, e1, h⟩ := RVs.get r (i := i) (p := p) (by simpa using e)
    exact ⟨x, by simpa using e1, h⟩
theorem RVs.getV : ∀ {l xs} (_ : RVs G W H l xs) {i : Nat} {x : V}, xs[i]? = some x → ∃ p, l[i]? = some p ∧ RV G W H p x
  | _, _, .nil, i, p, e => by simp at e
  | _, _, .cons h _, 0, p, e => by simp at e; subst e; exact ⟨_, rfl, h⟩
  | _, _, .cons _ r, i + 1, p, e => by
    obtain ⟨x, e1, h⟩ := RVs.getV r (i := i) (x := p) (by simpa using e)
    exact ⟨x, by simpa using e1, h⟩
theorem RVs.set : ∀ {l xs} (_ : RVs G W H l xs) (i : Nat) {p : PV} {x : V}, RV G W H p x → RVs G W H (l.set i p) (xs.set i x)
  | _, _, .nil, _, _, _, _ => .nil
  | _, _, .cons _ r, 0, _, _, h => .cons h r
  | _, _, .cons k r, i + 1, _, _, h => .cons k (RVs.set r i h)
theorem RVs.take : ∀ {l xs} (_ : RVs G W H l xs) (i : Nat), RVs G W H (l.take i) (xs.take i)
  | _, _, .nil, _ => by simp; exact .nil
  | _, _, .cons _ _, 0 => .nil
  | _, _, .cons k r, i + 1 => .cons k (RVs.take r i)
theorem RVs.drop : ∀ {l xs} (_ : RVs G W H l xs) (i : Nat), RVs G W H (l.drop i) (xs.drop i)
  | _, _, .nil, _ => by simp; exact .nil
  | _, _, .cons k r, 0 => .cons k r
  | _, _, .cons k r, i + 1 => RVs.drop r i
theorem RVs.reverse : ∀ {l xs} (_ : RVs G W H l xs), RVs G W H l.reverse xs.reverse
  | _, _, .nil => .nil
  | _, _, .cons k r => by
    rw [List.reverse_cons, List.reverse_cons]
    exact (RVs.reverse r).append (.cons k .nil)
theorem RVs.one {p x} (h : RV G W H p x) : RVs G W H [p] [x] := .cons h .nil

/-- the numbered objects stand as told -/
structure HR (G : GE) (W : Wd) (h : HP) (H : Hp) : Prop where
  len : W.m.length = h.length
  nd : W.m.Nodup
  ob : ∀ (n : Nat) (io : IO) (a : Addr), h[n]? = some io → W.m[n]? = some a → RO G W H io a
  dj : ∀ a, W.I a → a ∉ W.m
  it : ∀ a, W.I a → H a ≠ none
theorem HR.mt {h : HP} (x : HR G W h H) {a : Addr} (m : a ∈ W.m) : H a ≠ none := by
  obtain ⟨n, hn⟩ := List.getElem?_of_mem m
  have hl : n < h.length := by rw [← x.len]; exact (List.getElem?_eq_some_iff.mp hn).1
  have ho := x.ob n _ a (List.getElem?_eq_getElem hl) hn
  generalize h[n] = io at ho
  cases ho with
  | lst e _ => rw [e]; exact fun z => nomatch z
  | dct e => cases e with
    | k e _ => rw [e]; exact fun z => nomatch z
    | n e _ _ => rw [e]; exact fun z => nomatch z
  | ins _ e _ _ => rw [e]; exact fun z => nomatch z
theorem HR.notTup {h : HP} (x : HR G W h H) {a : Addr} (m : a ∈ W.m) : ∀ u, ¬ Rd H a (.tup u) := by
  intro u r
  obtain ⟨n, hn⟩ := List.getElem?_of_mem m
  have hl : n < h.length := by rw [← x.len]; exact (List.getElem?_eq_some_iff.mp hn).1
  have ho := x.ob n _ a (List.getElem?_eq_getElem hl) hn
  generalize h[n] = io at ho
  cases ho with
  | lst e _ => rcases r with r | ⟨o, r⟩ <;> (rw [e] at r; cases r)
  | dct e => cases e with
    | k e _ => rcases r with r | ⟨o, r⟩ <;> (rw [e] at r; cases r)
    | n e _ _ => rcases r with r | ⟨o, r⟩ <;> (rw [e] at r; unfold NDO at r; cases r)
  | ins _ e _ _ => rcases r with r | ⟨o, r⟩ <;> (rw [e] at r; cases r)

theorem nodup_at {α : Type} {l : List α} (h : l.Nodup) {i j : Nat} {x : α} (a : l[i]? = some x) (b : l[j]? = some x) : i = j := by
  obtain ⟨h1, e1⟩ := List.getElem?_eq_some_iff.mp a
  obtain ⟨h2, e2⟩ := List.getElem?_eq_some_iff.mp b
  exact (List.getElem_inj h).mp (e1.trans e2.symm)
/-- from one moment to a later one: what was tracked stands, but the numbered objects from wp on -/
structure Ext (G : GE) (wp : Nat) (W : Wd) (H : Hp) (W' : Wd) (H' : Hp) : Prop where
  mp : ∀ (n : Nat) (a : Addr), W.m[n]? = some a → W'.m[n]? = some a
  ii : ∀ a, W.I a → W'.I a
  inew : ∀ a, W'.I a → W.I a ∨ H a = none
  mnew : ∀ a, a ∈ W'.m → a ∈ W.m ∨ H a = none
  fr : ∀ a o, H a = some o → (∀ (n : Nat), wp ≤ n → W.m[n]? ≠ some a) → H' a = some o
  tr : ∀ a, H a ≠ none → H' a ≠ none
  tp : ∀ a u, Rd H a (.tup u) → Rd H' a (.tup u)
  im : ∀ a o, W.I a → H a = some o → H' a = some o
  nd : W'.m.Nodup
theorem Ext.stay {wp} (e : Ext G wp W H W' H') : Stay G W H W' H' := ⟨e.mp, e.ii, e.tp, e.im⟩
theorem Ext.refl {wp} (nd : W.m.Nodup) : Ext G wp W H W H := ⟨fun _ _ h => h, fun _ h => h, fun _ h => .inl h, fun _ h => .inl h, fun _ _ h _ => h, fun _ h => h, fun _ _ h => h, fun _ _ _ h => h, nd⟩
theorem Ext.trans {wp} {W1 W2 : Wd} {H1 H2 : Hp} (a : Ext G wp W H W1 H1) (b : Ext G wp W1 H1 W2 H2) : Ext G wp W H W2 H2 where
  mp := fun n x h => b.mp n x (a.mp n x h)
  ii := fun x h => b.ii x (a.ii x h)
  inew := fun x h => by
    rcases b.inew x h with h | h
    · exact a.inew x h
    · exact .inr (Classical.byContradiction fun z => a.tr x z h)
  mnew := fun x h => by
    rcases b.mnew x h with h | h
    · exact a.mnew x h
    · exact .inr (Classical.byContradiction fun z => a.tr x z h)
  fr := fun x o h k => b.fr x o (a.fr x o h k) fun n hn e => by
    rcases a.mnew x (List.mem_of_getElem? e) with z | z
    · obtain ⟨j, hj⟩ := List.getElem?_of_mem z
      have e2 := a.mp j x hj
      -- the same number?
      by_cases q : wp ≤ j
      · exact k j q hj
      · exact q (by rw [← nodup_at a.nd e e2]; exact hn)
    · rw [h] at z; cases z
  tr := fun x h => b.tr x (a.tr x h)
  tp := fun x u h => b.tp x u (a.tp x u h)
  im := fun x o i h => b.im x o (a.ii x i) (a.im x o i h)
  nd := b.nd
end
end Hc

set_option maxHeartbeats 4000000
/-! New objects; == by values. -/
namespace Hc
open PySem PySem.Spec PyProof.Rows L2 PySem.SeqAt

section
variable {G : GE} {W W' : Wd} {H H' : Hp} {h : HP} {p : Addr} {o : HO}
/-- p is nobody's any more -/
def Wd.more (W : Wd) (p : Addr) : Wd := ⟨fun a => W.I a ∨ a = p, W.m⟩
/-- p is a numbered object -/
def Wd.num (W : Wd) (p : Addr) : Wd := ⟨W.I, W.m ++ [p]⟩
theorem up_of {a : Addr} {u : HO} (hp : H p = none) (e : H a = some u) : (L2.upd H p o) a = some u := by
  rw [upd_ne (ne_of_none e hp)]; exact e
theorem up_rd {a : Addr} {u : HO} (hp : H p = none) (e : Rd H a u) : Rd (L2.upd H p o) a u := by
  rcases e with e | ⟨q, e⟩
  · exact .inl (up_of hp e)
  · exact .inr ⟨q, up_of hp e⟩
theorem up_tr {a : Addr} (e : H a ≠ none) : (L2.upd H p o) a ≠ none := by
  unfold L2.upd
  split
  · exact fun z => nomatch z
  · exact e
theorem ext_new {wp} (nd : W.m.Nodup) (hp : H p = none) : Ext G wp W H W (L2.upd H p o) :=
  ⟨fun _ _ h => h, fun _ h => h, fun _ h => .inl h, fun _ h => .inl h, fun _ _ e _ => up_of hp e, fun _ e => up_tr e, fun _ _ e => up_rd hp e, fun _ _ _ e => up_of hp e, nd⟩
theorem ext_more {wp} (nd : W.m.Nodup) (hp : H p = none) : Ext G wp W H (W.more p) (L2.upd H p o) :=
  ⟨fun _ _ h => h, fun _ h => .inl h, fun a h => by
    rcases h with h | h
    · exact .inl h
    · rw [h]; exact .inr hp, fun _ h => .inl h, fun _ _ e _ => up_of hp e, fun _ e => up_tr e, fun _ _ e => up_rd hp e, fun _ _ _ e => up_of hp e, nd⟩
theorem ext_num {wp} (x : HR G W h H) (hp : H p = none) : Ext G wp W H (W.num p) (L2.upd H p o) :=
  ⟨fun n a e => by
    have hl := (List.getElem?_eq_some_iff.mp e).1
    show (W.m ++ [p])[n]? = some a
    rw [List.getElem?_append_left hl]; exact e, fun _ h => h, fun _ h => .inl h, fun a h => by
    rcases List.mem_append.mp h with h | h
    · exact .inl h
    · rw [List.mem_singleton.mp h]; exact .inr hp, fun _ _ e _ => up_of hp e, fun _ e => up_tr e, fun _ _ e => up_rd hp e, fun _ _ _ e => up_of hp e, by
    show (W.m ++ [p]).Nodup
    refine List.nodup_append.mpr ⟨x.nd, by simp, fun a ha b hb => ?_⟩
    rw [List.mem_singleton.mp hb]
    rintro rfl
    exact x.mt ha hp⟩
/-- a numbered object stays one -/
theorem RO.stay {io : IO} {a : Addr} (s : Stay G W H W' H') (k : ∀ b u, (b = a ∨ H b = some (.own a)) → H b = some u → H' b = some u) (r : RO G W H io a) : RO G W' H' io a := by
  cases r with
  | lst e r => exact .lst (k _ _ (.inl rfl) e) (r.stay s)
  | dct d => exact .dct (d.stay s fun o e => k _ _ (.inl rfl) e)
  | ins ec e e2 r => exact .ins ec (k _ _ (.inl rfl) e) (k _ _ (.inr e2) e2) (r.stay s)
theorem HR.keep (x : HR G W h H) (e : Stay G W H W' H') (hm : W'.m = W.m) (dj : ∀ a, W'.I a → a ∉ W.m) (it : ∀ a, W'.I a → H' a ≠ none) (k : ∀ a u, H a = some u → H' a = some u) : HR G W' h H' :=
  ⟨by rw [hm]; exact x.len, by rw [hm]; exact x.nd, fun n io a e1 e2 => (x.ob n io a e1 (by rw [hm] at e2; exact e2)).stay e fun b u _ q => k b u q, fun a i => by rw [hm]; exact dj a i, it⟩
theorem HR.new (x : HR G W h H) (hp : H p = none) : HR G W h (L2.upd H p o) :=
  x.keep (ext_new (wp := 0) x.nd hp).stay rfl x.dj (fun a i => up_tr (x.it a i)) fun _ _ e => up_of hp e
theorem HR.more (x : HR G W h H) (hp : H p = none) : HR G (W.more p) h (L2.upd H p o) :=
  x.keep (ext_more (wp := 0) x.nd hp).stay rfl (fun a i => by
    rcases i with i | i
    · exact x.dj a i
    · rw [i]; exact fun m => x.mt m hp) (fun a i => by
    rcases i with i | i
    · exact up_tr (x.it a i)
    · rw [i, upd_same]; exact fun z => nomatch z) fun _ _ e => up_of hp e
theorem HR.num {io : IO} (x : HR G W h H) (hp : H p = none) (r : RO G (W.num p) (L2.upd H p o) io p) : HR G (W.num p) (h ++ [io]) (L2.upd H p o) := by
  have st := (ext_num (G := G) (wp := 0) (o := o) x hp).stay
  refine ⟨?_, (ext_num (G := G) (wp := 0) (o := o) x hp).nd, fun n i a e1 e2 => ?_, fun a i m => ?_, fun a i => up_tr (x.it a i)⟩
  · show (W.m ++ [p]).length = _
    rw [List.length_append, List.length_append, x.len]; rfl
  · have e2 : (W.m ++ [p])[n]? = some a := e2
    by_cases q : n < h.length
    · rw [List.getElem?_append_left q] at e1
      rw [List.getElem?_append_left (by rw [x.len]; exact q)] at e2
      exact (x.ob n i a e1 e2).stay st fun b u _ q => up_of hp q
    · rw [List.getElem?_append_right (by omega)] at e1
      rw [List.getElem?_append_right (by rw [x.len]; omega)] at e2
      have hn : n - h.length = 0 := by
        have := (List.getElem?_eq_some_iff.mp e1).1
        simp at this; omega
      rw [hn] at e1
      rw [x.len, hn] at e2
      simp at e1 e2
      subst e1 e2
      exact r
  · have m : a ∈ W.m ++ [p] := m
    rcases List.mem_append.mp m with m | m
    · exact x.dj a i m
    · rw [List.mem_singleton.mp m] at i
      exact x.it p i hp
/-- a new list, a new tuple -/
theorem new_lst {l : List PV} {xs : List V} (x : HR G W h H) (hp : H p = none) (r : RVs G W H l xs) :
    (∀ wp, Ext G wp W H (W.more p) (L2.upd H p (.lst xs))) ∧ HR G (W.more p) h (L2.upd H p (.lst xs)) ∧ RV G (W.more p) (L2.upd H p (.lst xs)) (.lst l) (.ref p) :=
  ⟨fun _ => ext_more x.nd hp, x.more hp, .lst (.inl ⟨.inr rfl, .inl upd_same⟩) (r.stay (ext_more (wp := 0) x.nd hp).stay)⟩
theorem new_tup {l : List PV} {xs : List V} (x : HR G W h H) (hp : H p = none) (r : RVs G W H l xs) :
    (∀ wp, Ext G wp W H W (L2.upd H p (.tup xs))) ∧ HR G W h (L2.upd H p (.tup xs)) ∧ RV G W (L2.upd H p (.tup xs)) (.tup l) (.ref p) :=
  ⟨fun _ => ext_new x.nd hp, x.new hp, .tup (.inl (.inl upd_same)) (r.stay (ext_new (wp := 0) x.nd hp).stay)⟩
end

/-! ### a value is one data alone -/
section
variable {G : GE} {W : Wd} {H : Hp} {X : Cx} {pins : List (Addr × Obj)} {σ : L2.St} {s : Shared}
theorem rd_lst_tup {a : Addr} {xs ys : List V} (I : L2.Inv X pins σ H s) (h1 : SqL X.K H a xs) (h2 : SqT X.K H a ys) : False := by
  obtain ⟨its, r, ⟨o, n, e, c, _⟩, _⟩ := I.list h1
  obtain ⟨its', r', ⟨o', e', c', _⟩, _⟩ := I.tuple h2
  rw [e] at e'; cases e'
  rw [c] at c'
  injection c' with z
  exact absurd z (by decide)
mutual
theorem rv_inj (hK : X.K = G.K) (I : L2.Inv X pins σ H s) : ∀ {p q : PV} {n m : Nat} {x : V}, RV G W H p x → RV G W H q x → plain n p = true → plain m q = true → p = q
  | .non, q, _, _, _, h, k, _, _ => by cases h; cases k; rfl
  | .bl b, q, _, _, _, h, k, _, _ => by cases h; cases k; rfl
  | .int i, q, _, _, _, h, k, _, _ => by cases h; cases k; rfl
  | .str z, q, _, _, _, h, k, _, _ => by
    cases h
    generalize e : V.str (strOf z) = x at k
    cases k with
    | str y =>
      injection e with e
      rw [strOf_inj e]
    | _ => cases e
  | .tup l, q, n, m, _, h, k, h1, h2 => by
    cases h with
    | tup a1 r1 =>
      cases k with
      | tup a2 r2 =>
        have e : _ = _ := I.tuple_inj (by rw [hK]; exact a1) (by rw [hK]; exact a2)
        subst e
        cases n with
        | zero => simp [plain] at h1
        | succ n =>
          cases m with
          | zero => simp [plain] at h2
          | succ m => rw [rvs_inj hK I r1 r2 (by simpa [plain] using h1) (by simpa [plain] using h2)]
      | lst a2 _ => exact (rd_lst_tup I (by rw [hK]; exact a2.sql) (by rw [hK]; exact a1)).elim
      | _ => simp [plain] at h2
  | .lst l, q, n, m, _, h, k, h1, h2 => by
    cases h with
    | lst a1 r1 =>
      cases k with
      | lst a2 r2 =>
        have e : _ = _ := I.list_inj (by rw [hK]; exact a1.sql) (by rw [hK]; exact a2.sql)
        subst e
        cases n with
        | zero => simp [plain] at h1
        | succ n =>
          cases m with
          | zero => simp [plain] at h2
          | succ m => rw [rvs_inj hK I r1 r2 (by simpa [plain] using h1) (by simpa [plain] using h2)]
      | tup a2 _ => exact (rd_lst_tup I (by rw [hK]; exact a1.sql) (by rw [hK]; exact a2)).elim
      | _ => simp [plain] at h2
  | .dct _, _, n, _, _, _, _, h1, _ => by cases n <;> simp [plain] at h1
  | .obj _, _, n, _, _, _, _, h1, _ => by cases n <;> simp [plain] at h1
  | .fn _, _, n, _, _, _, _, h1, _ => by cases n <;> simp [plain] at h1
  | .ty _, _, n, _, _, _, _, h1, _ => by cases n <;> simp [plain] at h1
theorem rvs_inj (hK : X.K = G.K) (I : L2.Inv X pins σ H s) : ∀ {p q : List PV} {n m : Nat} {x : List V}, RVs G W H p x → RVs G W H q x → plains n p = true → plains m q = true → p = q
  | [], q, _, _, _, h, k, _, _ => by cases h; cases k; rfl
  | p :: ps, q, n, m, _, h, k, h1, h2 => by
    cases h with
    | cons a1 r1 =>
      cases k with
      | cons a2 r2 =>
        simp only [plains] at h1 h2
        split at h1 <;> split at h2
        · rw [rv_inj hK I a1 a2 (by assumption) (by assumption), rvs_inj hK I r1 r2 h1 h2]
        all_goals first | cases h1 | cases h2
end
mutual
theorem eqv_self : ∀ (n : Nat) (p : PV), plain n p = true → eqv p p = true
  | _, .non, _ => rfl
  | _, .bl b, _ => by simp [eqv]
  | _, .int i, _ => by simp [eqv]
  | _, .str z, _ => by simp [eqv]
  | 0, .tup l, h => by simp [plain] at h
  | n + 1, .tup l, h => by simp only [eqv]; exact eqvs_self n l (by simpa [plain] using h)
  | 0, .lst l, h => by simp [plain] at h
  | n + 1, .lst l, h => by simp only [eqv]; exact eqvs_self n l (by simpa [plain] using h)
  | n, .dct _, h => by cases n <;> simp [plain] at h
  | n, .obj _, h => by cases n <;> simp [plain] at h
  | n, .fn _, h => by cases n <;> simp [plain] at h
  | n, .ty _, h => by cases n <;> simp [plain] at h
theorem eqvs_self : ∀ (n : Nat) (p : List PV), plains n p = true → eqvs p p = true
  | _, [], _ => rfl
  | n, x :: r, h => by
    simp only [plains] at h
    split at h
    · simp only [eqvs]
      rw [eqv_self n x (by assumption), if_pos rfl]
      exact eqvs_self n r h
    · cases h
end
/-- == of two rows, place by place -/
abbrev eqAtJ (xs ys : List PV) (j : Nat) : Bool := eqv (xs.getD j .non) (ys.getD j .non)
theorem eqvs_at : ∀ xs ys : List PV, ((List.range (min xs.length ys.length)).all (eqAtJ xs ys) && xs.length == ys.length) = eqvs xs ys
  | [], [] => rfl
  | [], _ :: _ => by simp [eqvs]
  | _ :: _, [] => by simp [eqvs]
  | x :: xs, y :: ys => by
    have ih := eqvs_at xs ys
    have e1 : min (x :: xs).length (y :: ys).length = min xs.length ys.length + 1 := by simp only [List.length_cons]; omega
    have e2 : ((x :: xs).length == (y :: ys).length) = (xs.length == ys.length) := by simp
    have e3 : (List.range (min xs.length ys.length + 1)).all (eqAtJ (x :: xs) (y :: ys)) = (eqv x y && (List.range (min xs.length ys.length)).all (eqAtJ xs ys)) := by
      rw [List.range_succ_eq_map, List.all_cons, List.all_map]
      first | rfl | simp [eqAtJ, Function.comp_def]
    rw [e1, e2, e3, eqvs, ← ih, Bool.and_assoc]
    cases eqv x y <;> rfl
theorem eqvs_len {xs ys : List PV} (h : xs.length = ys.length) : (List.range xs.length).all (eqAtJ xs ys) = eqvs xs ys := by
  rw [← eqvs_at, h, Nat.min_self, beq_self_eq_true, Bool.and_true]
theorem eqvs_ne {xs ys : List PV} (h : xs.length ≠ ys.length) : eqvs xs ys = false := by
  rw [← eqvs_at, beq_eq_false_iff_ne.mpr h, Bool.and_false]

/-- what stands in the heap of a value -/
inductive AtT (s : Shared) (G : GE) (W : Wd) (H : Hp) : PV → Value → Prop
  | non : AtT s G W H .non .none
  | bl (b : Bool) : AtT s G W H (.bl b) (.bool b)
  | int (i : Int) (t : Tok) : AtT s G W H (.int i) (.int i t)
  | str (z : List Nat) (t : Tok) : AtT s G W H (.str z) (.str (strOf z) t)
  | tup {l a xs its} : RVs G W H l xs → Vals xs its → s.heap.IsTuple a its.toArray → AtT s G W H (.tup l) (.ref a)
  | lst {l a xs its} : RVs G W H l xs → Vals xs its → s.heap.IsList a its.toArray → AtT s G W H (.lst l) (.ref a)
theorem at_of (hK : X.K = G.K) (I : L2.Inv X pins σ H s) {p : PV} {x : V} {u : Value} {n : Nat} (h : RT G W H p x) (r : RelV x u) (pl : plain n p = true) : AtT s G W H p u := by
  have isl : ∀ {a : Addr} {xs : List V}, SqL X.K H a xs → ∃ its : List Value, Vals xs its ∧ s.heap.IsList a its.toArray := fun h =>
    let ⟨its, r, p, _⟩ := I.list h
    ⟨its, r, p.isList⟩
  cases h with
  | v h =>
    cases h with
    | non => cases r; exact .non
    | bl b => cases r; exact .bl b
    | int i => obtain ⟨t, rfl⟩ := r; exact .int i t
    | str z => obtain ⟨t, rfl⟩ := r; exact .str z t
    | tup a rs =>
      cases r
      obtain ⟨its, rv, ht, _⟩ := I.tuple (by rw [hK]; exact a)
      exact .tup rs rv ht
    | lst a rs =>
      cases r
      obtain ⟨its, rv, ht⟩ := isl (by rw [hK]; exact a.sql)
      exact .lst rs rv ht
    | dctk _ _ _ => cases n <;> simp [plain] at pl
    | dctn _ _ _ _ => cases n <;> simp [plain] at pl
    | obj _ => cases n <;> simp [plain] at pl
    | fn _ => cases n <;> simp [plain] at pl
  | ol _ _ a rs =>
    cases r
    obtain ⟨its, rv, ht⟩ := isl (.inl (.inl a))
    exact .lst rs rv ht
  | od _ _ _ => cases n <;> simp [plain] at pl
theorem strOf_beq (a b : List Nat) : (strOf a == strOf b) = (a == b) := by
  by_cases h : a = b
  · subst h; simp
  · have h2 : strOf a ≠ strOf b := fun e => h (strOf_inj e)
    rw [beq_eq_false_iff_ne.mpr h, beq_eq_false_iff_ne.mpr h2]
theorem int_beq (a b : Int) : (a == b) = decide (a = b) := by
  by_cases h : a = b
  · subst h; simp
  · rw [beq_eq_false_iff_ne.mpr h, decide_eq_false h]
/-- the same two things as seen by richCompare, given what their items do -/
theorem rcAt_of {A : Around} {p q : PV} {u v : Value} (a : AtT s G W H p u) (b : AtT s G W H q v) (hu : A.units < cLine)
    (it : ∀ (l m : List PV) (xs ys : List V) (its its' : List Value), RVs G W H l xs → RVs G W H m ys → Vals xs its → Vals ys its' → (p = .tup l ∨ p = .lst l) → (q = .tup m ∨ q = .lst m) →
      ∀ j (h1 : j < its.toArray.size) (h2 : j < its'.toArray.size), EqAt A.in1 s its.toArray[j] its'.toArray[j] (eqAtJ l m j)) : RcAt A s u v (eqv p q) := by
  cases a with
  | non => cases b with
    | non => exact .none_none
    | bl b => exact .none_bool b
    | int i t => exact .none_int i t
    | str z t => exact .none_str _ t
    | tup r v h => exact .none_tuple h hu
    | lst r v h => exact .none_list h hu
  | bl c => cases b with
    | non => exact .bool_none c
    | bl b => exact .bool_bool c b
    | int i t => have := @RcAt.bool_int A s c i t; rw [int_beq] at this; exact this
    | str z t => exact .bool_str c _ t
    | tup r v h => exact .bool_tuple c h hu
    | lst r v h => exact .bool_list c h hu
  | int c u => cases b with
    | non => exact .int_none c u
    | bl b => have := @RcAt.int_bool A s c u b; rw [int_beq] at this; exact this
    | int i t => have := @RcAt.int_int A s c u i t; rw [int_beq] at this; exact this
    | str z t => exact .int_str c u _ t
    | tup r v h => exact .int_tuple c u h hu
    | lst r v h => exact .int_list c u h hu
  | str c u => cases b with
    | non => exact .str_none _ u
    | bl b => exact .str_bool _ u b
    | int i t => exact .str_int _ u i t
    | str z t => have := @RcAt.str_str A s (strOf c) u (strOf z) t; rw [strOf_beq] at this; exact this
    | tup r v h => exact .str_tuple _ u h hu
    | lst r v h => exact .str_list _ u h hu
  | tup r w h => cases b with
    | non => exact .tuple_none h hu
    | bl b => exact .tuple_bool b h hu
    | int i t => exact .tuple_int i t h hu
    | str z t => exact .tuple_str _ t h hu
    | tup r2 w2 h2 =>
      have e := RcAt.tuples h h2 hu (it _ _ _ _ _ _ r r2 w w2 (.inl rfl) (.inl rfl))
      have l1 := r.length.trans w.length
      have l2 := r2.length.trans w2.length
      rw [List.size_toArray, List.size_toArray, ← l1, ← l2, eqvs_at] at e
      exact e
    | lst r2 w2 h2 => exact .tuple_list h h2 hu
  | @lst _ _ _ its1 r w h => cases b with
    | non => exact .list_none h hu
    | bl b => exact .list_bool b h hu
    | int i t => exact .list_int i t h hu
    | str z t => exact .list_str _ t h hu
    | tup r2 w2 h2 => exact .list_tuple h h2 hu
    | @lst _ _ _ its2 r2 w2 h2 =>
      have l1 := r.length.trans w.length
      have l2 := r2.length.trans w2.length
      by_cases hl : its1.length = its2.length
      · have e := RcAt.lists h h2 (by rw [List.size_toArray, List.size_toArray]; exact hl) hu (it _ _ _ _ _ _ r r2 w w2 (.inr rfl) (.inr rfl))
        rw [List.size_toArray, ← l1, eqvs_len (by rw [l1, l2]; exact hl)] at e
        exact e
      · have e := RcAt.lists_lengths h h2 (by rw [List.size_toArray, List.size_toArray]; simpa using hl) hu
        show RcAt A s _ _ (eqvs _ _)
        rw [eqvs_ne (by rw [l1, l2]; exact hl)]
        exact e
theorem rcNe_of {A : Around} {p q : PV} {u v : Value} (a : AtT s G W H p u) (b : AtT s G W H q v) (hu : A.units < cLine)
    (it : ∀ (l m : List PV) (xs ys : List V) (its its' : List Value), RVs G W H l xs → RVs G W H m ys → Vals xs its → Vals ys its' → (p = .tup l ∨ p = .lst l) → (q = .tup m ∨ q = .lst m) →
      ∀ j (h1 : j < its.toArray.size) (h2 : j < its'.toArray.size), EqAt A.in1 s its.toArray[j] its'.toArray[j] (eqAtJ l m j)) : RcNeAt A s u v (!eqv p q) := by
  cases a with
  | non => cases b with
    | non => exact .none_none
    | bl b => exact .none_bool b
    | int i t => exact .none_int i t
    | str z t => exact .none_str _ t
    | tup r v h => exact .none_tuple h hu
    | lst r v h => exact .none_list h hu
  | bl c => cases b with
    | non => exact .bool_none c
    | bl b => exact .bool_bool c b
    | int i t => have := @RcNeAt.bool_int A s c i t; rw [int_beq] at this; exact this
    | str z t => exact .bool_str c _ t
    | tup r v h => exact .bool_tuple c h hu
    | lst r v h => exact .bool_list c h hu
  | int c u => cases b with
    | non => exact .int_none c u
    | bl b => have := @RcNeAt.int_bool A s c u b; rw [int_beq] at this; exact this
    | int i t => have := @RcNeAt.int_int A s c u i t; rw [int_beq] at this; exact this
    | str z t => exact .int_str c u _ t
    | tup r v h => exact .int_tuple c u h hu
    | lst r v h => exact .int_list c u h hu
  | str c u => cases b with
    | non => exact .str_none _ u
    | bl b => exact .str_bool _ u b
    | int i t => exact .str_int _ u i t
    | str z t => have := @RcNeAt.str_str A s (strOf c) u (strOf z) t; rw [strOf_beq] at this; exact this
    | tup r v h => exact .str_tuple _ u h hu
    | lst r v h => exact .str_list _ u h hu
  | tup r w h => cases b with
    | non => exact .tuple_none h hu
    | bl b => exact .tuple_bool b h hu
    | int i t => exact .tuple_int i t h hu
    | str z t => exact .tuple_str _ t h hu
    | tup r2 w2 h2 =>
      have e := RcNeAt.tuples h h2 hu (it _ _ _ _ _ _ r r2 w w2 (.inl rfl) (.inl rfl))
      have l1 := r.length.trans w.length
      have l2 := r2.length.trans w2.length
      rw [List.size_toArray, List.size_toArray, ← l1, ← l2, eqvs_at] at e
      exact e
    | lst r2 w2 h2 => exact .tuple_list h h2 hu
  | @lst _ _ _ its1 r w h => cases b with
    | non => exact .list_none h hu
    | bl b => exact .list_bool b h hu
    | int i t => exact .list_int i t h hu
    | str z t => exact .list_str _ t h hu
    | tup r2 w2 h2 => exact .list_tuple h h2 hu
    | @lst _ _ _ its2 r2 w2 h2 =>
      have l1 := r.length.trans w.length
      have l2 := r2.length.trans w2.length
      by_cases hl : its1.length = its2.length
      · have e := RcNeAt.lists h h2 (by rw [List.size_toArray, List.size_toArray]; exact hl) hu (it _ _ _ _ _ _ r r2 w w2 (.inr rfl) (.inr rfl))
        rw [List.size_toArray, ← l1, eqvs_len (by rw [l1, l2]; exact hl)] at e
        exact e
      · have e := RcNeAt.lists_lengths h h2 (by rw [List.size_toArray, List.size_toArray]; simpa using hl) hu
        show RcNeAt A s _ _ (!eqvs _ _)
        rw [eqvs_ne (by rw [l1, l2]; exact hl)]
        exact e
/-- eqBool, from richCompare and the same-object shortcut -/
theorem eqAt_scal {A : Around} {p q : PV} {u v : Value} (a : AtT s G W H p u) (b : AtT s G W H q v) (hu : A.units < cLine) (rc : RcAt A s u v (eqv p q)) (same : u = v → eqv p q = true) : EqAt A s u v (eqv p q) := by
  by_cases e : u = v
  · subst e
    rw [same rfl]
    exact .same u
  · intro prog w E Q hq
    unfold eqBool
    refine wpAny_holding ?_
    refine wpAny_ite_split (fun hab => absurd (eq_of_beq hab) e) (fun _ => ?_)
    cases a <;> cases b <;> exact wpAny_bind (rc prog w E _ (wpAny_truthy_bool hq))
mutual
theorem eqAt_rv (hK : X.K = G.K) (I : L2.Inv X pins σ H s) : ∀ {n : Nat} {p q : PV} {x y : V} {u v : Value} {m : Nat} {A : Around}, RV G W H p x → RV G W H q y → RelV x u → RelV y v → plain n p = true → plain m q = true → A.units + n < cLine → EqAt A s u v (eqv p q) := by
  intro n p q x y u v m A h k ru rv h1 h2 hu
  have a := at_of hK I (.v h) ru h1
  have b := at_of hK I (.v k) rv h2
  refine eqAt_scal a b (by omega) (rcAt_of a b (by omega) fun l ms xs ys its its' r1 r2 v1 v2 e1 e2 j j1 j2 => ?_) fun e => ?_
  · cases n with
    | zero => rcases e1 with e1 | e1 <;> (subst e1; simp [plain] at h1)
    | succ n =>
      have p1 : plains n l = true := by rcases e1 with e1 | e1 <;> (subst e1; simpa [plain] using h1)
      cases m with
      | zero => rcases e2 with e2 | e2 <;> (subst e2; simp [plain] at h2)
      | succ m =>
        have p2 : plains m ms = true := by rcases e2 with e2 | e2 <;> (subst e2; simpa [plain] using h2)
        have := eqAts_rv hK I (A := A.in1) r1 r2 v1 v2 p1 p2 (by simp only [Around.in1_units]; omega) j (by simpa using j1) (by simpa using j2)
        simpa using this
  · subst e
    have e : x = y := ru.inj rv
    subst e
    rw [rv_inj hK I h k h1 h2]
    exact eqv_self m q h2
termination_by n p => (n, sizeOf p)
theorem eqAts_rv (hK : X.K = G.K) (I : L2.Inv X pins σ H s) : ∀ {n : Nat} {p q : List PV} {x y : List V} {u v : List Value} {m : Nat} {A : Around}, RVs G W H p x → RVs G W H q y → Vals x u → Vals y v → plains n p = true → plains m q = true → A.units + n < cLine →
    ∀ j (h1 : j < u.length) (h2 : j < v.length), EqAt A s u[j] v[j] (eqAtJ p q j) := by
  intro n p q x y u v m A h k ru rv h1 h2 hu j j1 j2
  cases p with
  | nil => cases h; cases ru; exact absurd j1 (Nat.not_lt_zero _)
  | cons a p =>
    cases q with
    | nil => cases k; cases rv; exact absurd j2 (Nat.not_lt_zero _)
    | cons b q =>
      cases h with
      | cons a1 r1 =>
        cases k with
        | cons a2 r2 =>
          cases ru with
          | cons c1 d1 =>
            cases rv with
            | cons c2 d2 =>
              simp only [plains] at h1 h2
              split at h1 <;> split at h2
              · cases j with
                | zero => exact eqAt_rv hK I a1 a2 c1 c2 (by assumption) (by assumption) hu
                | succ j => exact eqAts_rv hK I r1 r2 d1 d2 h1 h2 hu j (Nat.lt_of_succ_lt_succ j1) (Nat.lt_of_succ_lt_succ j2)
              all_goals first | cases h1 | cases h2
termination_by n p => (n, sizeOf p)
end
end
end Hc

set_option maxHeartbeats 4000000
/-! Dicts by values. -/
namespace Hc
open PySem PySem.Spec PyProof.Rows L2 PySem.SeqAt

section
variable {G : GE} {W : Wd} {H : Hp} {X : Cx} {pins : List (Addr × Obj)} {σ : L2.St} {s : Shared}
mutual
theorem nested_rv (hK : X.K = G.K) (I : L2.Inv X pins σ H s) : ∀ {n : Nat} {p : PV} {x : V} {u : Value}, RV G W H p x → RelV x u → keyish n p = true → NestedIs s.heap (nk p) u ∧ (nk p).depth ≤ n
  | n, .non, _, _, h, r, _ => by cases h; cases r; exact ⟨.none, Nat.zero_le _⟩
  | n, .bl b, _, _, h, r, _ => by cases h; cases r; exact ⟨.bool rfl, Nat.zero_le _⟩
  | n, .int i, _, _, h, r, _ => by cases h; obtain ⟨t, rfl⟩ := r; exact ⟨.int i t, Nat.zero_le _⟩
  | n, .str z, _, _, h, r, _ => by cases h; obtain ⟨t, rfl⟩ := r; exact ⟨.text _ t, Nat.zero_le _⟩
  | 0, .tup l, _, _, _, _, h => by simp [keyish] at h
  | n + 1, .tup l, _, _, h, r, hk => by
    cases h with
    | tup a rs =>
      cases r
      obtain ⟨its, rv, ⟨o, e1, e2, m, e3⟩, _⟩ := I.tuple (by rw [hK]; exact a)
      obtain ⟨q1, q2⟩ := nesteds_rv hK I rs rv (show keyishs n l = true by simpa [keyish] using hk)
      refine ⟨.tup e1 e2 e3 (by simpa using q1), ?_⟩
      show NestedKey.depthAll (nks l) + 1 ≤ n + 1
      omega
  | n, .lst _, _, _, _, _, h => by cases n <;> simp [keyish] at h
  | n, .dct _, _, _, _, _, h => by cases n <;> simp [keyish] at h
  | n, .obj _, _, _, _, _, h => by cases n <;> simp [keyish] at h
  | n, .fn _, _, _, _, _, h => by cases n <;> simp [keyish] at h
  | n, .ty _, _, _, _, _, h => by cases n <;> simp [keyish] at h
theorem nesteds_rv (hK : X.K = G.K) (I : L2.Inv X pins σ H s) : ∀ {n : Nat} {p : List PV} {x : List V} {u : List Value}, RVs G W H p x → Vals x u → keyishs n p = true → NestedAll s.heap (nks p) u ∧ NestedKey.depthAll (nks p) ≤ n
  | n, [], _, _, h, r, _ => by cases h; cases r; exact ⟨.nil, Nat.zero_le _⟩
  | n, p :: ps, _, _, h, r, hk => by
    cases h with
    | cons a rs =>
      cases r with
      | cons c d =>
        simp only [keyishs] at hk
        split at hk
        · obtain ⟨q1, q2⟩ := nested_rv hK I a c (by assumption)
          obtain ⟨q3, q4⟩ := nesteds_rv hK I rs d hk
          exact ⟨.cons q1 q3, Nat.max_le.mpr ⟨q2, q4⟩⟩
        · cases hk
end
mutual
theorem eqv_nk : ∀ {n m : Nat} {p q : PV}, keyish n p = true → keyish m q = true → eqv p q = decide (nk p = nk q)
  | n, m, .non, q, _, h => by cases q <;> first | rfl | (cases m <;> simp [keyish] at h) | (simp [eqv, nk])
  | n, m, .bl b, q, _, h => by cases q <;> first | (cases m <;> simp [keyish] at h; done) | (simp [eqv, nk]; try (cases b <;> rename_i c <;> cases c <;> simp))
  | n, m, .int i, q, _, h => by cases q <;> first | (cases m <;> simp [keyish] at h; done) | simp [eqv, nk]
  | n, m, .str z, q, _, h => by
    cases q with
    | str y =>
      simp only [eqv, nk, NestedKey.text.injEq]
      by_cases e : z = y
      · subst e; simp
      · have e2 : ¬ strOf z = strOf y := fun q => e (strOf_inj q)
        rw [beq_eq_false_iff_ne.mpr e, decide_eq_false e2]
    | _ => first | (cases m <;> simp [keyish] at h; done) | simp [eqv, nk]
  | 0, m, .tup l, q, h, _ => by simp [keyish] at h
  | n + 1, m, .tup l, q, h1, h => by
    cases q with
    | tup k =>
      cases m with
      | zero => simp [keyish] at h
      | succ m =>
        simp only [eqv, nk, NestedKey.tup.injEq]
        exact eqvs_nk (by simpa [keyish] using h1) (by simpa [keyish] using h)
    | _ => first | (cases m <;> simp [keyish] at h; done) | simp [eqv, nk]
  | n, m, .lst _, _, h, _ => by cases n <;> simp [keyish] at h
  | n, m, .dct _, _, h, _ => by cases n <;> simp [keyish] at h
  | n, m, .obj _, _, h, _ => by cases n <;> simp [keyish] at h
  | n, m, .fn _, _, h, _ => by cases n <;> simp [keyish] at h
  | n, m, .ty _, _, h, _ => by cases n <;> simp [keyish] at h
theorem eqvs_nk : ∀ {n m : Nat} {p q : List PV}, keyishs n p = true → keyishs m q = true → eqvs p q = decide (nks p = nks q)
  | _, _, [], [], _, _ => by simp [eqvs, nks]
  | _, _, [], _ :: _, _, _ => by simp [eqvs, nks]
  | _, _, _ :: _, [], _, _ => by simp [eqvs, nks]
  | n, m, x :: xs, y :: ys, h, k => by
    simp only [keyishs] at h k
    split at h <;> split at k
    · have e1 := eqv_nk (p := x) (q := y) (by assumption) (by assumption)
      have e2 := eqvs_nk (p := xs) (q := ys) h k
      simp only [eqvs, nks, e1, e2, List.cons.injEq]
      by_cases c : nk x = nk y <;> simp [c]
    all_goals first | cases h | cases k
end

theorem kr_is {k : PV} {kk : Key} {y : V} (c : KR k kk) (r : RV G W H k y) : y = kV kk := by
  cases c with
  | int i => cases r; rfl
  | str z => cases r; rfl
theorem kr_eq {k k' : PV} {kk kk' : Key} (c : KR k kk) (c' : KR k' kk') : eqv k k' = decide (kk = kk') := by
  cases c with
  | int i => cases c' with
    | int j => simp [eqv]
    | str y => simp [eqv]
  | str z => cases c' with
    | int j => simp [eqv]
    | str y =>
      simp only [eqv, Sum.inr.injEq]
      by_cases e : z = y
      · subst e; simp
      · have e2 : ¬ strOf z = strOf y := fun q => e (strOf_inj q)
        rw [beq_eq_false_iff_ne.mpr e, decide_eq_false e2]
theorem kr_of {k : PV} (h : kcls k = some 0) : ∃ kk, KR k kk := by
  cases k with
  | int i => exact ⟨_, .int i⟩
  | str z => exact ⟨_, .str z⟩
  | tup l => simp only [kcls] at h; split at h <;> cases h
  | _ => cases h
theorem kr_cls {k : PV} {kk : Key} (c : KR k kk) : kcls k = some 0 := by cases c <;> rfl
theorem tup_of {k : PV} (h : kcls k = some 1) : ∃ l, k = .tup l ∧ keyish 8 k = true := by
  cases k with
  | tup l =>
    simp only [kcls] at h
    split at h
    · exact ⟨l, rfl, by simpa [keyish] using ‹_›⟩
    · cases h
  | int i => cases h
  | str z => cases h
  | _ => cases h
theorem tup_cls {l : List PV} (h : keyish 8 (.tup l) = true) : kcls (.tup l) = some 1 := by
  have h : keyishs 7 l = true := by simpa [keyish] using h
  simp only [kcls, h, if_true]

/-- the three ways a dict may be asked -/
theorem ask_cases {a : Addr} {d : List (PV × PV)} {k : PV} (h : askable d k = true) (da : DA G W H a d) :
    (∃ kvs kk, H a = some (.dK kvs) ∧ RVk G W H d kvs ∧ KR k kk) ∨ (∃ l, H a = some (.dK []) ∧ d = [] ∧ k = .tup l ∧ keyish 8 k = true) ∨
      ∃ xs l, H a = some (NDO G a xs) ∧ d ≠ [] ∧ RVn G W H d xs ∧ k = .tup l ∧ keyish 8 k = true := by
  unfold askable at h
  cases da with
  | k e r =>
    cases r with
    | nil =>
      simp only [dcls] at h
      split at h
      · rename_i h1 _
        obtain ⟨kk, c⟩ := kr_of h1
        exact .inl ⟨_, kk, e, .nil, c⟩
      · rename_i h1 _
        obtain ⟨l, rfl, q⟩ := tup_of h1
        exact .inr (.inl ⟨l, e, rfl, rfl, q⟩)
      · rename_i h2; cases h2
      · rename_i h2; cases h2
      · cases h
    | cons c v r =>
      simp only [dcls, kr_cls c] at h
      split at h
      · rename_i h2; cases h2
      · rename_i h2; cases h2
      · rename_i h1 _
        obtain ⟨kk, c2⟩ := kr_of h1
        exact .inl ⟨_, kk, e, .cons c v r, c2⟩
      · rename_i h2; cases h2
      · cases h
  | n e ne r =>
    cases r with
    | nil => exact absurd rfl ne
    | cons c y v r =>
      simp only [dcls, tup_cls y] at h
      split at h
      · rename_i h2; cases h2
      · rename_i h2; cases h2
      · rename_i h2; cases h2
      · rename_i h1 _
        obtain ⟨l, rfl, q⟩ := tup_of h1
        exact .inr (.inr ⟨_, l, e, ne, .cons c y v r, rfl, q⟩)
      · cases h

/-! ### int-and-text dicts -/
theorem dget_k {d : List (PV × PV)} {kvs : List (Key × V)} {k : PV} {kk : Key} (c : KR k kk) : RVk G W H d kvs → match dget d k with
    | some v => ∃ x, valV kvs kk = some x ∧ RV G W H v x
    | none => valV kvs kk = none := by
  intro r
  induction d generalizing kvs with
  | nil => cases r; exact rfl
  | cons p d ih =>
    cases r with
    | @cons k1 v1 d1 kk1 x1 kvs1 c1 rv r =>
      simp only [dget]
      rw [kr_eq c1 c]
      by_cases e : kk1 = kk
      · rw [decide_eq_true e, if_pos rfl]
        exact ⟨x1, valV_pos (p := (kk1, x1)) e, rv⟩
      · rw [decide_eq_false e, if_neg Bool.false_ne_true, valV_neg (p := (kk1, x1)) e]
        exact ih r
theorem dput_k {d : List (PV × PV)} {kvs : List (Key × V)} {k v : PV} {kk : Key} {x : V} (c : KR k kk) (rv : RV G W H v x) : RVk G W H d kvs → (kvs.map (·.1)).Nodup → RVk G W H (dput d k v) (putK kvs kk x) := by
  intro r nd
  induction d generalizing kvs with
  | nil => cases r; exact .cons c rv .nil
  | cons p d ih =>
    cases r with
    | @cons k1 v1 d1 kk1 x1 kvs1 c1 rv1 r =>
      simp only [dput]
      rw [kr_eq c1 c]
      have nd2 := List.nodup_cons.mp nd
      by_cases e : kk1 = kk
      · subst e
        rw [decide_eq_true rfl, if_pos rfl]
        have e2 : putK ((kk1, x1) :: kvs1) kk1 x = (kk1, x) :: kvs1 := by
          unfold putK
          rw [if_pos (by simp)]
          rw [List.map_cons, if_pos rfl]
          congr 1
          refine (List.map_congr_left (g := id) fun q hq => ?_).trans (List.map_id _)
          rw [if_neg]
          · rfl
          · intro e; exact nd2.1 (List.mem_map.mpr ⟨q, hq, e⟩)
        rw [e2]
        exact .cons c1 rv r
      · rw [decide_eq_false e, if_neg Bool.false_ne_true]
        have e2 : putK ((kk1, x1) :: kvs1) kk x = (kk1, x1) :: putK kvs1 kk x := by
          unfold putK
          rw [List.any_cons, decide_eq_false e, Bool.false_or, List.map_cons, if_neg e]
          split <;> rfl
        rw [e2]
        exact .cons c1 rv1 (ih r nd2.2)
theorem nodup_dK {a : Addr} {kvs : List (Key × V)} (I : L2.Inv X pins σ H s) (e : H a = some (.dK kvs)) : (kvs.map (·.1)).Nodup ∧ kvs.length ≤ sizeLine := by
  obtain ⟨z, _, vs, r, o, es, ep, _, _, _, _, _, nd⟩ := dk_of I.hok e
  rw [r.keys]
  exact ⟨nd, z⟩

/-! ### dicts whose keys are tuples -/
abbrev NP (x : NestedKey × Addr × V) (y : NestedKey × Addr × Value) : Prop := x.1 = y.1 ∧ x.2.1 = y.2.1 ∧ RelV x.2.2 y.2.2
theorem dget_n {d : List (PV × PV)} {xs : List (NestedKey × Addr × V)} {ys : List (NestedKey × Addr × Value)} {k : PV} (hk : keyish 8 k = true) : RVn G W H d xs → Paired NP xs ys → match dget d k with
    | some v => ∃ p x, atKey ys (nk k) = some p ∧ RelV x p.2 ∧ RV G W H v x
    | none => atKey ys (nk k) = none := by
  intro r pr
  induction d generalizing xs ys with
  | nil => cases r; cases pr; exact rfl
  | cons p d ih =>
    cases r with
    | @cons l1 v1 d1 q1 x1 xs1 c1 y1 rv r =>
      cases pr with
      | @cons _ y _ ys1 e pr =>
        obtain ⟨e1, e2, e3⟩ := e
        simp only [dget]
        rw [eqv_nk y1 hk]
        by_cases e : nk (.tup l1) = nk k
        · rw [decide_eq_true e, if_pos rfl]
          refine ⟨y.2, x1, ?_, e3, rv⟩
          unfold atKey
          rw [List.find?_cons_of_pos (by simpa using e1.symm.trans e)]
          rfl
        · rw [decide_eq_false e, if_neg Bool.false_ne_true]
          have := ih r pr
          have e5 : atKey (y :: ys1) (nk k) = atKey ys1 (nk k) := by
            unfold atKey
            rw [List.find?_cons_of_neg (by simpa using fun z => e (e1.trans z))]
          rw [e5]
          exact this
/-- the new rows -/
def stoX (xs : List (NestedKey × Addr × V)) (k : NestedKey) (q : Addr) (x : V) : List (NestedKey × Addr × V) := match xs with
  | [] => [(k, q, x)]
  | y :: r => if y.1 = k then (y.1, y.2.1, x) :: r else y :: stoX r k q x
theorem stoX_len (k : NestedKey) (q : Addr) (x : V) : ∀ xs, (stoX xs k q x).length ≤ xs.length + 1
  | [] => Nat.le_refl _
  | y :: r => by
    unfold stoX
    split
    · simp
    · have := stoX_len k q x r
      simp only [List.length_cons]; omega
theorem dput_n {d : List (PV × PV)} {xs : List (NestedKey × Addr × V)} {l : List PV} {v : PV} {q : Addr} {x : V} (hk : keyish 8 (.tup l) = true) (rk : RV G W H (.tup l) (.ref q)) (rv : RV G W H v x) : RVn G W H d xs → RVn G W H (dput d (.tup l) v) (stoX xs (nk (.tup l)) q x) := by
  intro r
  induction d generalizing xs with
  | nil => cases r; exact .cons rk hk rv .nil
  | cons p d ih =>
    cases r with
    | @cons l1 v1 d1 q1 x1 xs1 c1 y1 rv1 r =>
      simp only [dput, stoX]
      rw [eqv_nk y1 hk]
      by_cases e : nk (.tup l1) = nk (.tup l)
      · rw [decide_eq_true e, if_pos rfl, if_pos e]
        exact .cons c1 y1 rv r
      · rw [decide_eq_false e, if_neg Bool.false_ne_true, if_neg e]
        exact .cons c1 y1 rv1 (ih r)
theorem stoX_pair {k : NestedKey} {q : Addr} {x : V} {u : Value} (rx : RelV x u) : ∀ {xs : List (NestedKey × Addr × V)} {ys : List (NestedKey × Addr × Value)}, Paired NP xs ys → (ys.map (·.1)).Nodup → Paired NP (stoX xs k q x) (storedH ys k q u)
  | [], _, .nil, _ => .cons ⟨rfl, rfl, rx⟩ .nil
  | y :: r, z :: t, .cons e pr, nd => by
    have nd2 := List.nodup_cons.mp nd
    obtain ⟨e1, e2, e3⟩ := id e
    unfold stoX
    by_cases c : y.1 = k
    · rw [if_pos c]
      have a : atKey (z :: t) k = some z.2 := by
        unfold atKey
        rw [List.find?_cons_of_pos (by simpa using e1.symm.trans c)]
        rfl
      rw [storedH_old a, List.map_cons]
      have m : t.map (putAt k u) = t := map_putAt_of_not_mem t k u (by
        have q : ¬ z.1 ∈ t.map (·.1) := nd2.1
        rw [← e1, c] at q
        exact q)
      rw [m]
      refine .cons ?_ pr
      unfold putAt
      rw [if_pos (e1.symm.trans c)]
      exact ⟨e1, e2, rx⟩
    · rw [if_neg c]
      have hz : ¬ z.1 = k := fun q => c (e1.trans q)
      have a : atKey (z :: t) k = atKey t k := by
        unfold atKey
        rw [List.find?_cons_of_neg (by simpa using hz)]
      have e5 : storedH (z :: t) k q u = z :: storedH t k q u := by
        unfold storedH
        rw [a]
        split
        · rw [List.map_cons]
          unfold putAt
          rw [if_neg hz]
        · rfl
      rw [e5]
      exact .cons e (stoX_pair rx pr nd2.2)
theorem ndo_get {a : Addr} {xs : List (NestedKey × Addr × V)} (hP : X.prog = G.prog) (hw : X.w = G.w) (hK : X.K = G.K) (I : L2.Inv X pins σ H s) {d : List (PV × PV)} (e : H a = some (NDO G a xs)) (r : RVn G W H d xs) :
    xs.length ≤ sizeLine ∧ (a == sysModules) = false ∧ ∃ ys, Paired NP xs ys ∧ s.heap.DictOfH (nestedKind X.prog X.w) a ys := by
  obtain ⟨⟨z, hd, ys, pr, o, es, ep, e1, e2, e3, e4, nd⟩, e5, e6⟩ := (show ObjOk X.prog X.w H s.heap a (NDO G a xs) from I.hok a _ e)
  refine ⟨z, hd, ys, pr, o, es, ep, e1, e2, e3, by rw [hP, hw]; exact e4, ?_, nd⟩
  clear e4 nd z e e5 e6
  induction d generalizing ys xs with
  | nil => cases r; cases pr; exact fun _ h => nomatch h
  | cons p d ih =>
    cases r with
    | cons c y _ r =>
      cases pr with
      | cons ee pr =>
        intro q hq
        rcases List.mem_cons.mp hq with rfl | hq
        · obtain ⟨q1, q2, _⟩ := ee
          obtain ⟨w1, w2⟩ := nested_rv hK I c rfl y
          rw [← q1, ← q2]
          exact ⟨w1, w2⟩
        · exact ih r _ pr q hq
theorem ndo_empty {a : Addr} (I : L2.Inv X pins σ H s) (e : H a = some (.dK [])) : (a == sysModules) = false ∧ s.heap.DictOfH (nestedKind X.prog X.w) a [] := by
  obtain ⟨z, hd, vs, r, o, es, ep, e1, e2, e3, _, pr, _⟩ := dk_of I.hok e
  cases r
  refine ⟨hd, o, es, ep, e1, e2, e3, ?_, fun x h => absurd h (List.not_mem_nil), List.nodup_nil⟩
  generalize es.toList = q at pr
  cases pr
  rfl
theorem ndo_mk {a : Addr} {h' : Heap} {H' : Hp} {xs : List (NestedKey × Addr × V)} {ys : List (NestedKey × Addr × Value)} (hP : X.prog = G.prog) (hw : X.w = G.w) (z : xs.length ≤ sizeLine) (hd : (a == sysModules) = false) (pr : Paired NP xs ys)
    (x : h'.DictOfH (nestedKind X.prog X.w) a ys) : ObjOk X.prog X.w H' h' a (NDO G a xs) := by
  obtain ⟨o, es, ep, e1, e2, e3, e4, _, nd⟩ := x
  refine ⟨⟨z, hd, ys, pr, o, es, ep, e1, e2, e3, by rw [← hP, ← hw]; exact e4, nd⟩, ⟨o, e1⟩, ?_⟩
  rintro h1 h2 ⟨z, hd, ys, pr, o, es, ep, e1, r⟩ k
  exact ⟨z, hd, ys, pr, o, es, ep, k o e1, r⟩

theorem rvk_len : ∀ {d : List (PV × PV)} {kvs : List (Key × V)}, RVk G W H d kvs → d.length = kvs.length
  | _, _, .nil => rfl
  | _, _, .cons _ _ r => by simp [rvk_len r]
theorem rvn_len : ∀ {d : List (PV × PV)} {xs : List (NestedKey × Addr × V)}, RVn G W H d xs → d.length = xs.length
  | _, _, .nil => rfl
  | _, _, .cons _ _ _ r => by simp [rvn_len r]
/-! ### the rules -/
section
variable {A : Around} {E : Value → Shared → Prop} {a : Addr} {d : List (PV × PV)} {k : PV} {y : V} {u : Value}
theorem room8 {A : Around} {prog : Program} {w : World} (h : A.units + 64 < cLine) : (nestedKind prog w).room A.in1 := by
  show A.in1.units + 8 < cLine
  simp only [Around.in1_units]; omega
theorem D_in {Q : Value → Shared → Prop} (hP : X.prog = G.prog) (hw : X.w = G.w) (hK : X.K = G.K) (hu : A.units + 64 < cLine) (I : L2.Inv X pins σ H s) (da : DA G W H a d) (rk : RV G W H k y) (ry : RelV y u) (ask : askable d k = true)
    (h : ∀ s', L2.Inv X pins σ H s' → Q (.bool (dget d k).isSome) s') : wpAny (model X.prog X.w) A (compareOp .In u (.ref a)) Q E s := by
  rcases ask_cases ask da with ⟨kvs, kk, e, r, c⟩ | ⟨l, e, ed, ek, hk⟩ | ⟨xs, l, e, _, r, ek, hk⟩
  · have g := DGet.k (k := kk) e
    rw [← kr_is c rk] at g
    refine d_in (by omega) I g ry fun s' I' => ?_
    have z := dget_k c r
    cases q : dget d k with
    | some v => rw [q] at z; obtain ⟨x, hx, _⟩ := z; rw [hx]; have := h s' I'; rw [q] at this; exact this
    | none => rw [q] at z; rw [z]; have := h s' I'; rw [q] at this; exact this
  · subst ek ed
    cases rk with
    | @tup _ b _ sq rs =>
      cases ry
      obtain ⟨hd, dd⟩ := ndo_empty I e
      exact wpAny_in_heap (room8 hu) (k := nk (.tup l)) (nested_rv hK I (.tup sq rs) rfl hk) hd dd (h _ (I.tok _))
  · subst ek
    cases rk with
    | @tup _ b _ sq rs =>
      cases ry
      obtain ⟨_, hd, ys, pr, dd⟩ := ndo_get hP hw hK I e r
      refine wpAny_in_heap (room8 hu) (k := nk (.tup l)) (nested_rv hK I (.tup sq rs) rfl hk) hd dd ?_
      have z := dget_n hk r pr
      have hh := h _ (I.tok (s.toks + (nestedKind X.prog X.w).draws (nk (.tup l))))
      cases q : dget d (.tup l) with
      | some v => rw [q] at z hh; obtain ⟨p, x, hx, _⟩ := z; rw [hx]; exact hh
      | none => rw [q] at z hh; rw [z]; exact hh
theorem D_notIn {Q : Value → Shared → Prop} (hP : X.prog = G.prog) (hw : X.w = G.w) (hK : X.K = G.K) (hu : A.units + 64 < cLine) (I : L2.Inv X pins σ H s) (da : DA G W H a d) (rk : RV G W H k y) (ry : RelV y u) (ask : askable d k = true)
    (h : ∀ s', L2.Inv X pins σ H s' → Q (.bool (!(dget d k).isSome)) s') : wpAny (model X.prog X.w) A (compareOp .NotIn u (.ref a)) Q E s := by
  rcases ask_cases ask da with ⟨kvs, kk, e, r, c⟩ | ⟨l, e, ed, ek, hk⟩ | ⟨xs, l, e, _, r, ek, hk⟩
  · have g := DGet.k (k := kk) e
    rw [← kr_is c rk] at g
    refine d_notIn (by omega) I g ry fun s' I' => ?_
    have z := dget_k c r
    cases q : dget d k with
    | some v => rw [q] at z; obtain ⟨x, hx, _⟩ := z; rw [hx]; have := h s' I'; rw [q] at this; exact this
    | none => rw [q] at z; rw [z]; have := h s' I'; rw [q] at this; exact this
  · subst ek ed
    cases rk with
    | @tup _ b _ sq rs =>
      cases ry
      obtain ⟨hd, dd⟩ := ndo_empty I e
      exact wpAny_notIn_heap (room8 hu) (k := nk (.tup l)) (nested_rv hK I (.tup sq rs) rfl hk) hd dd (h _ (I.tok _))
  · subst ek
    cases rk with
    | @tup _ b _ sq rs =>
      cases ry
      obtain ⟨_, hd, ys, pr, dd⟩ := ndo_get hP hw hK I e r
      refine wpAny_notIn_heap (room8 hu) (k := nk (.tup l)) (nested_rv hK I (.tup sq rs) rfl hk) hd dd ?_
      have z := dget_n hk r pr
      have hh := h _ (I.tok (s.toks + (nestedKind X.prog X.w).draws (nk (.tup l))))
      cases q : dget d (.tup l) with
      | some v => rw [q] at z hh; obtain ⟨p, x, hx, _⟩ := z; rw [hx]; exact hh
      | none => rw [q] at z hh; rw [z]; exact hh
theorem D_get {v : PV} {Q : Value → Shared → Prop} (hP : X.prog = G.prog) (hw : X.w = G.w) (hK : X.K = G.K) (hu : A.units + 64 < cLine) (I : L2.Inv X pins σ H s) (da : DA G W H a d) (rk : RV G W H k y) (ry : RelV y u) (ask : askable d k = true)
    (g : dget d k = some v) (h : ∀ x w' s', L2.Inv X pins σ H s' → RelV x w' → RV G W H v x → Q w' s') : wpAny (model X.prog X.w) A (getItem (.ref a) u) Q E s := by
  rcases ask_cases ask da with ⟨kvs, kk, e, r, c⟩ | ⟨l, e, ed, ek, hk⟩ | ⟨xs, l, e, _, r, ek, hk⟩
  · have gg := DGet.k (k := kk) e
    have z := dget_k c r
    rw [g] at z
    obtain ⟨x, hx, rv⟩ := z
    rw [← kr_is c rk, hx] at gg
    exact d_getItem (by omega) I gg ry fun w' s' I' rw' => h x w' s' I' rw' rv
  · subst ed; cases g
  · subst ek
    cases rk with
    | @tup _ b _ sq rs =>
      cases ry
      obtain ⟨_, hd, ys, pr, dd⟩ := ndo_get hP hw hK I e r
      have z := dget_n hk r pr
      rw [g] at z
      obtain ⟨p, x, hx, rx, rv⟩ := z
      exact wpAny_getItem_heap (room8 hu) (k := nk (.tup l)) (nested_rv hK I (.tup sq rs) rfl hk) dd hx (h x _ _ (I.tok _) rx rv)
/-- what stands at a behind d[k] = v -/
theorem D_set {v : PV} {z : V} {r : Value} {Q : Unit → Shared → Prop} (hP : X.prog = G.prog) (hw : X.w = G.w) (hK : X.K = G.K) (hu : A.units + 64 < cLine) (I : L2.Inv X pins σ H s) (da : DA G W H a d) (rk : RV G W H k y) (ry : RelV y u) (ask : askable d k = true)
    (hl : d.length < 16777215) (rz : RV G W H v z) (rr : RelV z r)
    (h : ∀ o s', L2.Inv X pins σ (L2.upd H a o) s' → (∀ H' W', (H' a = some o) → Stay G W H W' H' → DA G W' H' a (dput d k v)) → Q () s') : wpAny (model X.prog X.w) A (setItem (.ref a) u r) Q E s := by
  rcases ask_cases ask da with ⟨kvs, kk, e, rk2, c⟩ | ⟨l, e, ed, ek, hk⟩ | ⟨xs, l, e, ne, rn, ek, hk⟩
  · have lk : d.length = kvs.length := rvk_len rk2
    have gg : DPut H a (kV kk) z (L2.upd H a (.dK (putK kvs kk z))) := DPut.k e (by rw [sizeLine_eq, ← lk]; omega)
    rw [← kr_is c rk] at gg
    refine d_setItem (by omega) I gg ry rr fun s' I' => h _ s' I' fun H' W' e' st => ?_
    exact .k e' ((dput_k c rz rk2 (nodup_dK I e).1).stay st)
  · subst ek ed
    cases rk with
    | @tup _ b _ sq rs =>
      cases ry
      obtain ⟨hd, dd⟩ := ndo_empty I e
      refine wpAny_setItem_heap (hsz := Nat.zero_le _) (room8 hu) (k := nk (.tup l)) (nested_rv hK I (.tup sq rs) rfl hk) dd fun h' dd' hs => h (NDO G a (stoX [] (nk (.tup l)) b z)) _ ?_ fun H' W' e' st => ?_
      · obtain ⟨q, _, _, hq, _⟩ := id dd'
        exact d_write I (by rw [e]; exact True.intro) hs ⟨q, hq⟩ (ndo_mk hP hw (by rw [sizeLine_eq]; show 1 ≤ _; omega) hd (stoX_pair rr .nil (by simp)) dd')
      · refine .n e' (by simp [dput]) ?_
        exact (dput_n hk (.tup sq rs) rz .nil).stay st
  · subst ek
    cases rk with
    | @tup _ b _ sq rs =>
      cases ry
      obtain ⟨zl, hd, ys, pr, dd⟩ := ndo_get hP hw hK I e rn
      have lx : d.length = xs.length := rvn_len rn
      have ly : xs.length = ys.length := Paired.length pr
      obtain ⟨_, _, _, _, _, _, _, _, nd⟩ := id dd
      refine wpAny_setItem_heap (hsz := by rw [← ly]; exact zl) (room8 hu) (k := nk (.tup l)) (nested_rv hK I (.tup sq rs) rfl hk) dd fun h' dd' hs => h (NDO G a (stoX xs (nk (.tup l)) b z)) _ ?_ fun H' W' e' st => ?_
      · obtain ⟨q, _, _, hq, _⟩ := id dd'
        exact d_write I (by rw [e]; exact True.intro) hs ⟨q, hq⟩ (ndo_mk hP hw (by have := stoX_len (nk (.tup l)) b z xs; rw [sizeLine_eq]; omega) hd (stoX_pair rr pr nd) dd')
      · refine .n e' ?_ ((dput_n hk (.tup sq rs) rz rn).stay st)
        cases d with
        | nil => exact absurd rfl ne
        | cons p d => simp only [dput]; split <;> simp
end
end
end Hc

set_option maxHeartbeats 4000000
/-! Slots, moments, what an answer is asked to do. -/
namespace Hc
open PySem PySem.Spec PyProof.Rows L2

def isOwn (g : SG) (i : Nat) : Prop := (∃ l, g[i]? = some (.ol l)) ∨ ∃ d, g[i]? = some (.od d)
structure SR (G : GE) (W : Wd) (H : Hp) (g : SG) (σ : L2.St) : Prop where
  len : g.length = σ.length
  pv : ∀ (i : Nat) v, g[i]? = some (.pv v) → ∃ x, σ[i]? = some (some x) ∧ RV G W H v x
  ol : ∀ (i : Nat) l, g[i]? = some (.ol l) → ∃ a xs, σ[i]? = some (some (.ref a)) ∧ ¬ W.I a ∧ a ∉ W.m ∧ H a = some (.lst xs) ∧ RVs G W H l xs
  od : ∀ (i : Nat) d, g[i]? = some (.od d) → ∃ a, σ[i]? = some (some (.ref a)) ∧ ¬ W.I a ∧ a ∉ W.m ∧ DA G W H a d
  dis : ∀ (i j : Nat) a, isOwn g i → isOwn g j → σ[i]? = some (some (.ref a)) → σ[j]? = some (some (.ref a)) → i = j

section
variable {G : GE} {W W' : Wd} {H H' : Hp} {g : SG} {σ : L2.St} {h h' : HP} {wp d : Nat}
theorem DA.some {a : Addr} {x} (t : DA G W H a x) : ∃ o, H a = some o := by
  cases t with
  | k e _ => exact ⟨_, e⟩
  | n e _ _ => exact ⟨_, e⟩
theorem Ext.own {a : Addr} {o : HO} (e : Ext G wp W H W' H') (i : ¬ W.I a) (m : a ∉ W.m) (ho : H a = some o) : ¬ W'.I a ∧ a ∉ W'.m ∧ H' a = some o := by
  refine ⟨fun z => ?_, fun z => ?_, e.fr a o ho fun n _ q => m (List.mem_of_getElem? q)⟩
  · rcases e.inew a z with z | z
    · exact i z
    · rw [ho] at z; cases z
  · rcases e.mnew a z with z | z
    · exact m z
    · rw [ho] at z; cases z
theorem SR.ext (s : SR G W H g σ) (e : Ext G wp W H W' H') : SR G W' H' g σ where
  len := s.len
  pv := fun i v q => let ⟨x, a, b⟩ := s.pv i v q; ⟨x, a, b.stay e.stay⟩
  ol := fun i l q => by
    obtain ⟨a, xs, h1, h2, h3, h4, h5⟩ := s.ol i l q
    obtain ⟨k1, k2, k3⟩ := e.own h2 h3 h4
    exact ⟨a, xs, h1, k1, k2, k3, h5.stay e.stay⟩
  od := fun i l q => by
    obtain ⟨a, h1, h2, h3, h4⟩ := s.od i l q
    obtain ⟨o, ho⟩ := h4.some
    obtain ⟨k1, k2, k3⟩ := e.own h2 h3 ho
    exact ⟨a, h1, k1, k2, h4.stay e.stay fun o e2 => (e.own h2 h3 e2).2.2⟩
  dis := s.dis
theorem RT.ext {p x} (t : RT G W H p x) (e : Ext G wp W H W' H') : RT G W' H' p x := by
  cases t with
  | v r => exact .v (r.stay e.stay)
  | ol h2 h3 h4 h5 =>
    obtain ⟨k1, k2, k3⟩ := e.own h2 h3 h4
    exact .ol k1 k2 k3 (h5.stay e.stay)
  | od h2 h3 h4 =>
    obtain ⟨o, ho⟩ := h4.some
    obtain ⟨k1, k2, k3⟩ := e.own h2 h3 ho
    exact .od k1 k2 (h4.stay e.stay fun o e2 => (e.own h2 h3 e2).2.2)
structure Mo (G : GE) (W : Wd) (g : SG) (h : HP) (σ : L2.St) (H : Hp) : Prop where
  hr : HR G W h H
  sr : SR G W H g σ
theorem Mo.ext (m : Mo G W g h σ H) (e : Ext G wp W H W' H') (r : HR G W' h' H') : Mo G W' g h' σ H' := ⟨r, m.sr.ext e⟩

/-- what is asked of an answer -/
def okR (G : GE) {α : Type} (wp : Nat) (W : Wd) (H : Hp) (r : R α) (Φ : α → HP → Wd → Hp → Prop) : Prop := match r with
  | .ok a h' => ∀ W' H', Ext G wp W H W' H' → HR G W' h' H' → Φ a h' W' H'
  | _ => False
variable {α β : Type}
theorem okR.bind {r : R α} {k : α → HP → R β} {Φ} (x : okR G wp W H (r.bind k) Φ) : okR G wp W H r (fun a h' W' H' => okR G wp W' H' (k a h') Φ) := by
  cases r with
  | ok a h1 =>
    intro W1 H1 e1 r1
    have x : okR G wp W H (k a h1) Φ := x
    revert x
    generalize k a h1 = z
    intro x
    cases z with
    | ok b h2 => exact fun W2 H2 e2 r2 => x W2 H2 (e1.trans e2) r2
    | _ => exact x
  | _ => exact x
theorem okR.imp {r : R α} {Φ Ψ : α → HP → Wd → Hp → Prop} (x : okR G wp W H r Φ) (f : ∀ a h' W' H', Ext G wp W H W' H' → HR G W' h' H' → Φ a h' W' H' → Ψ a h' W' H') : okR G wp W H r Ψ := by
  cases r with
  | ok a h1 => exact fun W1 H1 e1 r1 => f a h1 W1 H1 e1 r1 (x W1 H1 e1 r1)
  | _ => exact x
theorem okR.here {a : α} {Φ} (x : okR G wp W H (.ok a h) Φ) (r : HR G W h H) : Φ a h W H := x W H (Ext.refl r.nd) r
theorem okR.at {a : α} {Φ} (x : okR G wp W H (.ok a h) Φ) (e : Ext G wp W H W' H') (r : HR G W' h H') : Φ a h W' H' := x W' H' e r
theorem okR.ofO {o : Option β} {k : β → R α} {Φ} (x : okR G wp W H (R.ofO o k) Φ) : ∃ a, o = some a ∧ okR G wp W H (k a) Φ := by
  cases o with
  | some a => exact ⟨a, rfl, x⟩
  | none => exact x.elim
theorem okR.tst {v : PV} {a b : R α} {Φ} (x : okR G wp W H (R.tst v a b) Φ) : ∃ c, v = .bl c ∧ okR G wp W H (if c = true then a else b) Φ := by
  cases v with
  | bl c => cases c <;> exact ⟨_, rfl, x⟩
  | _ => exact x.elim
theorem okR.cond {c : Bool} {a : R α} {Φ} (x : okR G wp W H (if c = true then a else .no) Φ) : c = true ∧ okR G wp W H a Φ := by
  cases c with
  | true => exact ⟨rfl, x⟩
  | false => exact x.elim
end

abbrev VP (G : GE) (Q : VK) : PV → HP → Wd → Hp → Prop := fun v _ W' H' => ∀ x, RV G W' H' v x → Q x H'
def tE (G : GE) (d : Nat) (c : E) : TE := fun σ H Q => ∃ W g h wp n, Mo G W g h σ H ∧ okR G wp W H ((ev G.pg n).e wp d c g h) (VP G Q)
def tO (G : GE) (d : Nat) (c : E) : TE := fun σ H Q => ∃ W g h wp n, Mo G W g h σ H ∧ okR G wp W H ((ev G.pg n).e wp d c g h) (fun v _ W' H' => ∀ x, RT G W' H' v x → Q x H')
def tA (G : GE) (d : Nat) (cs : List E) : TA := fun σ H Q => ∃ W g h wp n, Mo G W g h σ H ∧ okR G wp W H (evs (fun e h => (ev G.pg n).e wp d e g h) cs h) (fun vs _ W' H' => ∀ xs, RVs G W' H' vs xs → Q xs H')
def tT (G : GE) (d : Nat) (c : E) : TT := fun σ H Q => ∃ W g h wp n, Mo G W g h σ H ∧ okR G wp W H ((ev G.pg n).e wp d c g h) (fun v _ W' H' => ∃ k, v = .bl k ∧ Q k H')
section
variable {G : GE} {d : Nat} {c : E} {σ : L2.St} {H : Hp}
theorem un_e {W g h wp n} {Φ : PV → HP → Wd → Hp → Prop} (k : okR G wp W H ((ev G.pg n).e wp d c g h) Φ) : ∃ n', okR G wp W H (evE G.pg (ev G.pg n') wp d c g h) Φ := by
  cases n with
  | zero => exact k.elim
  | succ n => exact ⟨n, k⟩
theorem tE.un {Q : VK} (t : tE G d c σ H Q) : ∃ W g h wp n, Mo G W g h σ H ∧ okR G wp W H (evE G.pg (ev G.pg n) wp d c g h) (VP G Q) := by
  obtain ⟨W, g, h, wp, n, m, k⟩ := t
  obtain ⟨n, k⟩ := un_e k
  exact ⟨W, g, h, wp, n, m, k⟩
end
theorem _root_.L2.PE.imp {X : Cx} {e : Expr} {t t' : TE} (p : PE X e t) (f : ∀ σ H Q, t' σ H Q → t σ H Q) : PE X e t' := ⟨fun pins s σ H Q I h => p.run pins s σ H Q I (f σ H Q h)⟩
theorem _root_.L2.PT.imp {X : Cx} {e : Expr} {t t' : TT} (p : PT X e t) (f : ∀ σ H Q, t' σ H Q → t σ H Q) : PT X e t' := ⟨fun pins s σ H Q I h => p.run pins s σ H Q I (f σ H Q h)⟩
theorem _root_.L2.PW.imp {X : Cx} {e : Expr} {t t' : TT} (p : PW X e t) (f : ∀ σ H Q, t' σ H Q → t σ H Q) : PW X e t' := ⟨fun w pins s σ H Q I h => p.run w pins s σ H Q I (f σ H Q h)⟩
theorem _root_.L2.PA.imp {X : Cx} {e : List Expr} {t t' : TA} (p : PA X e t) (f : ∀ σ H Q, t' σ H Q → t σ H Q) : PA X e t' := ⟨fun pos pins s σ H Q I h => p.run pos pins s σ H Q I (f σ H Q h)⟩
theorem _root_.L2.PS.imp {X : Cx} {e : Stmt} {t t' : TS} (p : PS X e t) (f : ∀ D σ H, t' D σ H → t D σ H) : PS X e t' := ⟨fun pins s σ H D I h => p.run pins s σ H D I (f D σ H h)⟩
theorem _root_.L2.PSs.imp {X : Cx} {e : List Stmt} {t t' : TS} (p : PSs X e t) (f : ∀ D σ H, t' D σ H → t D σ H) : PSs X e t' := ⟨fun pins s σ H D I h => p.run pins s σ H D I (f D σ H h)⟩
theorem _root_.L2.PG.imp {X : Cx} {e : Expr} {t t' : TG} (p : PG X e t) (f : ∀ v σ H Q, t' v σ H Q → t v σ H Q) : PG X e t' := ⟨fun pins s σ H v u Q I r h => p.run pins s σ H v u Q I r (f v σ H Q h)⟩
theorem _root_.L2.PI.imp {X : Cx} {tg e : Expr} {t t' : TI} (p : PI X tg e t) (f : ∀ σ H Q, t' σ H Q → t σ H Q) : PI X tg e t' := ⟨fun pins s σ H R I h => p.run pins s σ H R I (f σ H R h)⟩

/-! ### what a looked-at value is -/
section
variable {G : GE} {W : Wd} {H : Hp} {h : HP} {x : V}
theorem RT.int {i} (t : RT G W H (.int i) x) : x = .int i := by cases t with | v r => cases r; rfl
theorem RT.bl {i} (t : RT G W H (.bl i) x) : x = .bl i := by cases t with | v r => cases r; rfl
theorem RT.non (t : RT G W H .non x) : x = .non := by cases t with | v r => cases r; rfl
theorem RT.str {i} (t : RT G W H (.str i) x) : x = .str (strOf i) := by cases t with | v r => cases r; rfl
theorem RT.tup {l} (t : RT G W H (.tup l) x) : ∃ a xs, x = .ref a ∧ SqT G.K H a xs ∧ RVs G W H l xs := by
  cases t with | v r => cases r with | tup a b => exact ⟨_, _, rfl, a, b⟩
theorem RT.lst {l} (t : RT G W H (.lst l) x) : ∃ a xs, x = .ref a ∧ SqL G.K H a xs ∧ RVs G W H l xs := by
  cases t with
  | v r => cases r with | lst a b => exact ⟨_, _, rfl, a.sql, b⟩
  | ol _ _ a b => exact ⟨_, _, rfl, .inl (.inl a), b⟩
theorem RT.obj {n} (t : RT G W H (.obj n) x) : ∃ a, x = .ref a ∧ W.m[n]? = some a := by
  cases t with | v r => cases r with | obj a => exact ⟨_, rfl, a⟩
theorem RT.dct {d} (t : RT G W H (.dct d) x) : ∃ a, x = .ref a ∧ DA G W H a d := by
  cases t with
  | v r => cases r with
    | dctk _ a b => exact ⟨_, rfl, .k a b⟩
    | dctn _ a b c => exact ⟨_, rfl, .n a b c⟩
  | od _ _ a => exact ⟨_, rfl, a⟩
theorem RT.fn {n} (t : RT G W H (.fn n) x) : x = .ref (G.fad n) := by cases t with | v r => cases r; rfl
theorem HR.at {n io} (r : HR G W h H) (t : RT G W H (.obj n) x) (e : nth h n = some io) : ∃ a, x = .ref a ∧ W.m[n]? = some a ∧ RO G W H io a := by
  obtain ⟨a, rfl, m⟩ := t.obj
  rw [nth_eq] at e
  exact ⟨a, rfl, m, r.ob n io a e m⟩
theorem seq_of {p l} (r : HR G W h H) (t : RT G W H p x) (e : seqOf h p = some l) : ∃ a xs, x = .ref a ∧ (SqL G.K H a xs ∨ SqT G.K H a xs) ∧ RVs G W H l xs := by
  unfold seqOf at e
  split at e
  · cases e; obtain ⟨a, xs, e1, e2, e3⟩ := t.tup; exact ⟨a, xs, e1, .inr e2, e3⟩
  · cases e; obtain ⟨a, xs, e1, e2, e3⟩ := t.lst; exact ⟨a, xs, e1, .inl e2, e3⟩
  · split at e
    · cases e
      rename_i h1
      obtain ⟨a, e1, e2, e3⟩ := r.at t h1
      cases e3 with
      | lst e4 e5 => exact ⟨a, _, e1, .inl (.inl (.inl e4)), e5⟩
    · cases e
  · cases e
theorem dict_of {p l} (r : HR G W h H) (t : RT G W H p x) (e : dictOf h p = some l) : ∃ a, x = .ref a ∧ DA G W H a l := by
  unfold dictOf at e
  split at e
  · cases e; exact t.dct
  · split at e
    · cases e
      rename_i h1
      obtain ⟨a, e1, e2, e3⟩ := r.at t h1
      cases e3 with
      | dct e4 => exact ⟨a, e1, e4⟩
    · cases e
  · cases e
/-- what == sees is there to be seen -/
theorem seen_of {p} (r : HR G W h H) (t : RT G W H p x) (n : ¬ ∃ k, seen h p = .obj k) : RT G W H (seen h p) x ∨ ∃ l a xs, seen h p = .lst l ∧ x = .ref a ∧ H a = some (.lst xs) ∧ RVs G W H l xs := by
  cases p with
  | obj k =>
    by_cases q : ∃ l, nth h k = some (.lst l)
    · obtain ⟨l, q⟩ := q
      obtain ⟨a, e1, e2, e3⟩ := r.at t q
      cases e3 with
      | lst e4 e5 =>
        refine .inr ⟨l, a, _, ?_, e1, e4, e5⟩
        simp only [seen, q]
    · exfalso
      apply n
      refine ⟨k, ?_⟩
      simp only [seen]
      split
      · rename_i l hl; exact absurd ⟨l, hl⟩ q
      · rfl
  | _ => exact .inl t
end
end Hc

set_option maxHeartbeats 4000000
/-! Operators. -/
namespace Hc
open PySem PySem.Spec PyProof.Rows L2 PySem.SeqAt

structure Gd (G : GE) (d : Nat) (N : List Str) (sc : Scope) (X : Cx) : Prop where
  prog : X.prog = G.prog
  w : X.w = G.w
  K : X.K = G.K
  mg : X.mg = G.mg
  base : X.base = G.base
  calm : X.calm = true
  room : Room d X.A
  N : X.N = N
  nd : X.N.Nodup
  sc : X.env.scope = sc

def rBin (G : GE) (op : Nat) : R2 := fun x y H Q => ∃ W h wp a b z, HR G W h H ∧ RT G W H a x ∧ RT G W H b y ∧ binop op a b = some z ∧ okR G wp W H (.ok z h) (VP G Q)
def rCmp (G : GE) (op : Nat) : R2 := fun x y H Q => ∃ W h a b k, HR G W h H ∧ RT G W H a x ∧ RT G W H b y ∧ cmpop h op a b = some k ∧ Q (.bl k) H
def rItem (G : GE) : R2 := fun x y H Q => ∃ W h a b z, HR G W h H ∧ RT G W H a x ∧ RT G W H b y ∧ item h a b = some z ∧ ∀ v, RV G W H z v → Q v H

theorem shortE {α : Type} {l : List α} (h : short l = true) : l.length ≤ 16777216 := by unfold short at h; exact Nat.le_of_ble_eq_true h
theorem strOf_len (l : List Nat) : (strOf l).length = l.length := by simp [strOf, Str.length]
theorem strOf_app (l r : List Nat) : strOf l ++ strOf r = strOf (l ++ r) := by
  show (⟨l.toArray ++ r.toArray⟩ : Str) = ⟨(l ++ r).toArray⟩
  simp
theorem inv_add {a b z} : binop 0 a b = some z → (∃ i j, a = .int i ∧ b = .int j ∧ z = .int (i + j)) ∨ (∃ l r, a = .tup l ∧ b = .tup r ∧ (l ++ r).length ≤ 16777216 ∧ z = .tup (l ++ r)) ∨
    (∃ l r, a = .lst l ∧ b = .lst r ∧ (l ++ r).length ≤ 16777216 ∧ z = .lst (l ++ r)) ∨ ∃ l r, a = .str l ∧ b = .str r ∧ (l ++ r).length ≤ 16777216 ∧ z = .str (l ++ r) := by
  have f : ∀ {l r : List PV} {k : List PV → PV}, (if short (l ++ r) then some (k (l ++ r)) else none) = some z → (l ++ r).length ≤ 16777216 ∧ z = k (l ++ r) := by
    intro l r k e
    split at e
    · cases e; exact ⟨shortE (by assumption), rfl⟩
    · cases e
  cases a <;> cases b <;> intro e
  all_goals first
    | (exact nomatch (show (none : Option PV) = some z from e))
    | (cases (show some (PV.int _) = some z from e); exact .inl ⟨_, _, rfl, rfl, rfl⟩)
    | (rename_i l r; obtain ⟨h1, h2⟩ := f (k := .tup) e; exact .inr (.inl ⟨_, _, rfl, rfl, h1, h2⟩))
    | (rename_i l r; obtain ⟨h1, h2⟩ := f (k := .lst) e; exact .inr (.inr (.inl ⟨_, _, rfl, rfl, h1, h2⟩)))
    | skip
  rename_i l r
  have e : (if short (l ++ r) then some (PV.str (l ++ r)) else none) = some z := e
  split at e
  · cases e; exact .inr (.inr (.inr ⟨_, _, rfl, rfl, shortE (by assumption), rfl⟩))
  · cases e
theorem inv_int {op : Nat} {a b z} (ho : op ≠ 0) (e : binop op a b = some z) : ∃ i j, a = .int i ∧ b = .int j := by
  cases a <;> cases b <;> first | exact ⟨_, _, rfl, rfl⟩ | (exfalso; revert e; unfold binop; split <;> first | contradiction | (intro e; cases e; done) | exact absurd rfl ho)

section
variable {G : GE} {d : Nat} {N : List Str} {sc : Scope} {X : Cx}
theorem Gd.u (k : Gd G d N sc X) : X.A.units + 64 < cLine := k.room.units
theorem nil_of {W H} {l : List PV} {xs : List V} (r : RVs G W H l xs) : xs = [] ↔ l = [] := by
  cases r <;> simp
theorem op_addL (k : Gd G d N sc X) {pins s σ H a b v u} {xs ys : List V} {Q : VK} (I : L2.Inv X pins σ H s) (rx : RelV (.ref a) v) (ry : RelV (.ref b) u) (h1 : SqL G.K H a xs) (h2 : SqL G.K H b ys) (hz : xs.length + ys.length ≤ sizeLine)
    (q : ∀ p, H p = none → Q (.ref p) (L2.upd H p (.lst (xs ++ ys)))) : wpAny (model X.prog X.w) X.A (binaryOp .Add v u) (EP X pins σ Q) X.xe s := by
  cases rx
  cases ry
  obtain ⟨its, r, p1, _⟩ := I.list (by rw [k.K]; exact h1)
  obtain ⟨its2, r2, p2, _⟩ := I.list (by rw [k.K]; exact h2)
  have l1 := r.length
  have l2 := r2.length
  obtain ⟨⟨cls, dd, data, sl⟩, ho, hc, n, hd⟩ := id p1.isList
  obtain ⟨⟨cls2, dd2, data2, sl2⟩, ho2, hc2, n2, hd2⟩ := id p2.isList
  simp only at hc hd hc2 hd2
  subst hc hd hc2 hd2
  have ea : its.toArray ++ its2.toArray = (its ++ its2).toArray := by simp
  refine concat_meets ⟨_, ho, rfl⟩ ⟨_, ho2, rfl⟩ noFill_list_add seq_list_add PySem.F.slot_list_add PySem.F.entry_list_add (PySem.F.args_list_add_2 _ _) (list_addW a b its.toArray its2.toArray n n2 dd dd2 sl sl2 (by rw [List.size_toArray, List.size_toArray]; omega)) ⟨ho, ho2, ?_⟩
  rw [ea]
  exact ⟨.ref _, _, I.lnew (t' := s.toks) (r.append r2) (by rw [List.length_append]; omega), rfl, q _ I.fresh⟩
theorem op_add' (k : Gd G d N sc X) : OpR X (binaryOp .Add) (rBin G 0) := by
  intro pins s σ H x y v u Q I rx ry h
  obtain ⟨W, h, wp, a, b, z, r, ta, tb, e, q⟩ := h
  rcases inv_add e with ⟨i, j, rfl, rfl, rfl⟩ | ⟨l, m, rfl, rfl, hl, rfl⟩ | ⟨l, m, rfl, rfl, hl, rfl⟩ | ⟨l, m, rfl, rfl, hl, rfl⟩
  · exact op_add pins s σ H x y v u Q I rx ry ⟨i, j, ta.int, tb.int, q.here r _ (.int _)⟩
  · obtain ⟨p, xs, rfl, h1, r1⟩ := ta.tup
    obtain ⟨p2, ys, rfl, h2, r2⟩ := tb.tup
    have n1 := nil_of r1
    have n2 := nil_of r2
    rw [List.length_append] at hl
    refine op_catA pins s σ H _ _ v u Q I rx ry ⟨p, p2, xs, ys, rfl, rfl, by rw [k.K]; exact h1, by rw [k.K]; exact h2, by rw [← r1.length, ← r2.length, sizeLine_eq]; exact hl, fun e => ?_, fun e1 e => ?_, fun _ _ p hp => ?_⟩
    · have e2 := n1.mp e
      subst e e2
      exact q.here r _ (by simpa using RV.tup h2 r2)
    · have e2 := n2.mp e
      subst e e2
      exact q.here r _ (by simpa using RV.tup h1 r1)
    · obtain ⟨t1, t2, t3⟩ := new_tup r hp (r1.append r2)
      exact q.at (t1 _) t2 _ t3
  · obtain ⟨p, xs, rfl, h1, r1⟩ := ta.lst
    obtain ⟨p2, ys, rfl, h2, r2⟩ := tb.lst
    rw [List.length_append] at hl
    refine op_addL k I rx ry h1 h2 (by rw [← r1.length, ← r2.length, sizeLine_eq]; exact hl) fun p hp => ?_
    obtain ⟨t1, t2, t3⟩ := new_lst r hp (r1.append r2)
    exact q.at (t1 _) t2 _ t3
  · rw [List.length_append] at hl
    refine op_add_str pins s σ H x y v u Q I rx ry ⟨_, _, ta.str, tb.str, by rw [strOf_len, strOf_len, sizeLine_eq]; exact hl, ?_⟩
    rw [strOf_app]
    exact q.here r _ (.str _)
theorem op_int {op : Nat} {o : Operator} {C : Int → Int → Prop} {g : Int → Int → Int} (ho : op ≠ 0) (rule : OpR X (binaryOp o) (rI C fun i j => .int (g i j))) (c : ∀ i j z, binop op (.int i) (.int j) = some z → C i j ∧ z = .int (g i j)) : OpR X (binaryOp o) (rBin G op) := by
  intro pins s σ H x y v u Q I rx ry h
  obtain ⟨W, h, wp, a, b, z, r, ta, tb, e, q⟩ := h
  obtain ⟨i, j, rfl, rfl⟩ := inv_int ho e
  obtain ⟨c1, rfl⟩ := c i j z e
  exact rule pins s σ H x y v u Q I rx ry ⟨i, j, ta.int, tb.int, c1, q.here r _ (.int _)⟩
/-- the operator's number -/
def opOf : Operator → Option Nat
  | .Add => some 0
  | .Sub => some 1
  | .Mult => some 2
  | .FloorDiv => some 3
  | .Mod => some 4
  | .Pow => some 5
  | _ => none
theorem big64 : (2 : Int) ^ 64 = 18446744073709551616 := by decide
theorem op_bin (k : Gd G d N sc X) {o : Operator} {op : Nat} (h : opOf o = some op) : OpR X (binaryOp o) (rBin G op) := by
  cases o <;> first | (exact nomatch (show (none : Option Nat) = some op from h)) | cases h
  · exact op_add' k
  · refine op_int (C := fun _ _ => True) (by decide) (fun pins s σ H x y v u Q I rx ry ⟨i, j, e1, e2, _, q⟩ => op_sub pins s σ H x y v u Q I rx ry ⟨i, j, e1, e2, q⟩) fun i j z e => ?_
    cases e; exact ⟨trivial, rfl⟩
  · refine op_int (by decide) op_mul fun i j z e => ?_
    have e : (if mulOk i j then some (PV.int (i * j)) else none) = some z := e
    split at e
    · rename_i hm
      cases e
      refine ⟨?_, rfl⟩
      unfold mulOk at hm
      unfold CMul
      rw [big64]
      rcases Bool.or_eq_true _ _ |>.mp hm with hm | hm
      · have := Nat.blt_eq.mp hm; right; omega
      · have := Nat.blt_eq.mp hm; left; omega
    · cases e
  · refine op_int (by decide) op_mod fun i j z e => ?_
    have e : (if decide (0 < j) then some (PV.int (i % j)) else none) = some z := e
    split at e
    · rename_i hm
      cases e
      exact ⟨of_decide_eq_true hm, rfl⟩
    · cases e
  · refine op_int (by decide) op_pow fun i j z e => ?_
    have e : (if decide (0 ≤ j ∧ j ≤ 64 ∧ 0 ≤ i ∧ i ≤ 1024) then some (PV.int (i ^ j.toNat)) else none) = some z := e
    split at e
    · rename_i hm
      cases e
      have hm := of_decide_eq_true hm
      refine ⟨⟨hm.1, by omega, by omega⟩, rfl⟩
    · cases e
  · refine op_int (by decide) op_fdiv fun i j z e => ?_
    have e : (if decide (0 < j ∧ j < 1073741824) then some (PV.int (i / j)) else none) = some z := e
    split at e
    · rename_i hm
      cases e
      have hm := of_decide_eq_true hm
      exact ⟨⟨hm.1, hm.2⟩, rfl⟩
    · cases e

/-! ### comparisons -/
theorem inv_eq {h a b k} (e : cmpop h 0 a b = some k) : plain 40 (seen h a) = true ∧ plain 40 (seen h b) = true ∧ k = eqv (seen h a) (seen h b) := by
  have g : (let x := seen h a; let y := seen h b; if plain 40 x && plain 40 y then some (eqv x y) else none) = some k → plain 40 (seen h a) = true ∧ plain 40 (seen h b) = true ∧ k = eqv (seen h a) (seen h b) := by
    intro e
    simp only at e
    split at e
    · rename_i q; cases e; exact ⟨(Bool.and_eq_true _ _ ▸ q).1, (Bool.and_eq_true _ _ ▸ q).2, rfl⟩
    · cases e
  unfold cmpop at e
  simp only at e
  split at e
  · cases e; exact ⟨rfl, rfl, rfl⟩
  · cases e; exact ⟨rfl, rfl, rfl⟩
  · exact g e
theorem inv_ne {h a b k} (e : cmpop h 1 a b = some k) : plain 40 (seen h a) = true ∧ plain 40 (seen h b) = true ∧ k = !eqv (seen h a) (seen h b) := by
  have g : (let x := seen h a; let y := seen h b; if plain 40 x && plain 40 y then some (!eqv x y) else none) = some k → plain 40 (seen h a) = true ∧ plain 40 (seen h b) = true ∧ k = !eqv (seen h a) (seen h b) := by
    intro e
    simp only at e
    split at e
    · rename_i q; cases e; exact ⟨(Bool.and_eq_true _ _ ▸ q).1, (Bool.and_eq_true _ _ ▸ q).2, rfl⟩
    · cases e
  unfold cmpop at e
  simp only at e
  split at e
  · cases e; exact ⟨rfl, rfl, rfl⟩
  · cases e; exact ⟨rfl, rfl, rfl⟩
  · exact g e
theorem seen_at {W H h pins σ s p x u} (k : Gd G d N sc X) (I : L2.Inv X pins σ H s) (r : HR G W h H) (t : RT G W H p x) (ru : RelV x u) (pl : plain 40 (seen h p) = true) : AtT s G W H (seen h p) u := by
  rcases seen_of r t (fun ⟨z, e⟩ => by rw [e] at pl; simp [plain] at pl) with t | ⟨l, a, xs, e1, e2, e3, e4⟩
  · exact at_of k.K I t ru pl
  · subst e2
    cases ru
    rw [e1]
    obtain ⟨its, rr, p, _⟩ := I.list (.inl (.inl e3))
    exact .lst e4 rr p.isList
theorem op_eq' (k : Gd G d N sc X) : OpR X (compareOp .Eq) (rCmp G 0) := by
  intro pins s σ H x y v u Q I rx ry h
  obtain ⟨W, h, a, b, z, r, ta, tb, e, q⟩ := h
  obtain ⟨p1, p2, rfl⟩ := inv_eq e
  have hu := k.u
  refine rcAt_of (A := X.A) (seen_at k I r ta rx p1) (seen_at k I r tb ry p2) (by omega) (fun l ms xs ys its its' r1 r2 v1 v2 e1 e2 j j1 j2 => ?_) X.prog X.w X.xe _ ⟨.bl _, H, I, rfl, q⟩
  have q1 : plains 39 l = true := by rcases e1 with e1 | e1 <;> (rw [e1] at p1; simpa [plain] using p1)
  have q2 : plains 39 ms = true := by rcases e2 with e2 | e2 <;> (rw [e2] at p2; simpa [plain] using p2)
  have := eqAts_rv k.K I (A := X.A.in1) r1 r2 v1 v2 q1 q2 (by simp only [Around.in1_units]; omega) j (by simpa using j1) (by simpa using j2)
  simpa using this
theorem op_ne' (k : Gd G d N sc X) : OpR X (compareOp .NotEq) (rCmp G 1) := by
  intro pins s σ H x y v u Q I rx ry h
  obtain ⟨W, h, a, b, z, r, ta, tb, e, q⟩ := h
  obtain ⟨p1, p2, rfl⟩ := inv_ne e
  have hu := k.u
  refine rcNe_of (A := X.A) (seen_at k I r ta rx p1) (seen_at k I r tb ry p2) (by omega) (fun l ms xs ys its its' r1 r2 v1 v2 e1 e2 j j1 j2 => ?_) X.prog X.w X.xe _ ⟨.bl _, H, I, rfl, q⟩
  have q1 : plains 39 l = true := by rcases e1 with e1 | e1 <;> (rw [e1] at p1; simpa [plain] using p1)
  have q2 : plains 39 ms = true := by rcases e2 with e2 | e2 <;> (rw [e2] at p2; simpa [plain] using p2)
  have := eqAts_rv k.K I (A := X.A.in1) r1 r2 v1 v2 q1 q2 (by simp only [Around.in1_units]; omega) j (by simpa using j1) (by simpa using j2)
  simpa using this
theorem memv_any (x : PV) : ∀ l, memv x l = l.any fun y => eqv y x
  | [] => rfl
  | y :: r => by
    simp only [memv, List.any_cons, memv_any x r]
    cases eqv y x <;> rfl
theorem any_same {p : PV} : ∀ {l : List PV} {its : List Value} {e : Value → Bool}, l.length = its.length → (∀ (j : Nat) q u, l[j]? = some q → its[j]? = some u → e u = eqv q p) → its.any e = l.any fun y => eqv y p
  | [], [], _, _, _ => rfl
  | _ :: _, [], _, h, _ => by simp at h
  | [], _ :: _, _, h, _ => by simp at h
  | q :: l, u :: its, e, h, f => by
    rw [List.any_cons, List.any_cons, f 0 q u rfl rfl, any_same (by simpa using h) fun j q u h1 h2 => f (j + 1) q u (by simpa using h1) (by simpa using h2)]
/-- membership's witness -/
theorem mem_of {W H pins σ s} {A : Around} (k : Gd G d N sc X) (I : L2.Inv X pins σ H s) {p : PV} {l : List PV} {x : V} {xs : List V} {u : Value} {its : List Value} (h1 : RT G W H p x) (ru : RelV x u) (h2 : RVs G W H l xs) (rs : Vals xs its) (p1 : plain 40 p = true) (p2 : plains 40 l = true)
    (hu : A.units + 45 < cLine) : ∃ e : Value → Bool, (∀ w ∈ its, EqAt A s w u (e w)) ∧ its.any e = memv p l := by
  classical
  have ll : l.length = its.length := h2.length.trans rs.length
  have pn : ∀ (l : List PV) (n j : Nat) q, plains n l = true → l[j]? = some q → plain n q = true := by
    intro l n
    induction l with
    | nil => intro j q _ e; simp at e
    | cons a r ih =>
      intro j q e1 e2
      simp only [plains] at e1
      split at e1
      · cases j with
        | zero => simp at e2; subst e2; assumption
        | succ j => exact ih j q e1 (by simpa using e2)
      · cases e1
  have one : ∀ (j : Nat) q w, l[j]? = some q → its[j]? = some w → ∃ y, RV G W H q y ∧ RelV y w := by
    intro j q w e1 e2
    obtain ⟨y, hy, ry⟩ := h2.get e1
    obtain ⟨w', hw, rw'⟩ := rs.get hy
    rw [e2] at hw; cases hw
    exact ⟨y, ry, rw'⟩
  let e : Value → Bool := fun w => decide (∃ (j : Nat) (q : PV), l[j]? = some q ∧ its[j]? = some w ∧ eqv q p = true)
  have he : ∀ (j : Nat) q w, l[j]? = some q → its[j]? = some w → e w = eqv q p := by
    intro j q w e1 e2
    cases hq : eqv q p with
    | true => exact decide_eq_true ⟨j, q, e1, e2, hq⟩
    | false =>
      refine decide_eq_false fun ⟨j', q', e3, e4, h⟩ => ?_
      obtain ⟨y, a1, a2⟩ := one j q w e1 e2
      obtain ⟨y', b1, b2⟩ := one j' q' w e3 e4
      have := a2.inj b2
      subst this
      have := rv_inj k.K I a1 b1 (pn l 40 j q p2 e1) (pn l 40 j' q' p2 e3)
      subst this
      rw [hq] at h; cases h
  refine ⟨e, fun w hw => ?_, ?_⟩
  · obtain ⟨j, hj⟩ := List.getElem?_of_mem hw
    have hlt : j < l.length := by rw [ll]; exact (List.getElem?_eq_some_iff.mp hj).1
    have hq := List.getElem?_eq_getElem hlt
    obtain ⟨y, a1, a2⟩ := one j _ w hq hj
    rw [he j _ w hq hj]
    have pq := pn l 40 j _ p2 hq
    have b := at_of k.K I h1 ru p1
    have a := at_of k.K I (.v a1) a2 pq
    generalize l[j] = q at *
    refine eqAt_scal a b (by omega) (rcAt_of a b (by omega) fun l1 l2 xs ys it1 it2 r1 r2 v1 v2 e1 e2 i i1 i2 => ?_) fun e => ?_
    · have q1 : plains 39 l1 = true := by rcases e1 with e1 | e1 <;> (rw [e1] at pq; simpa [plain] using pq)
      have q2 : plains 39 l2 = true := by rcases e2 with e2 | e2 <;> (rw [e2] at p1; simpa [plain] using p1)
      have := eqAts_rv k.K I (A := A.in1) r1 r2 v1 v2 q1 q2 (by simp only [Around.in1_units]; omega) i (by simpa using i1) (by simpa using i2)
      simpa using this
    · subst e
      have e : y = x := a2.inj ru
      subst e
      cases h1 with
      | v h1 => rw [rv_inj k.K I a1 h1 pq p1]; exact eqv_self 40 p p1
      | ol n1 n2 n3 n4 =>
        -- a list of the frame's own is no item
        cases a1 with
        | lst i1 _ =>
          rcases i1 with ⟨i1, _⟩ | ⟨o, _, _, e1, _⟩
          · exact absurd i1 n1
          · have e2 := I.mod.kin _ _ (by rw [k.K]; exact e1)
            have := (I.bs _ _ e2).2
            rw [n3] at this; cases this
        | tup h _ => exact (rd_lst_tup I (.inl (.inl n3)) (by rw [k.K]; exact h)).elim
        | dctk i1 _ _ => exact absurd i1 n1
        | dctn i1 _ _ _ => exact absurd i1 n1
        | obj m => exact absurd (List.mem_of_getElem? m) n2
        | fn z => simp [plain] at pq
      | od _ _ _ => simp [plain] at p1
  · rw [memv_any]
    exact any_same ll he
end
end Hc

set_option maxHeartbeats 4000000
/-! Comparisons, items. -/
namespace Hc
open PySem PySem.Spec PyProof.Rows L2 PySem.SeqAt
section
variable {G : GE} {d : Nat} {N : List Str} {sc : Scope} {X : Cx}
theorem inv_in {h a b k} (e : cmpop h 8 a b = some k) : (∃ d, dictOf h b = some d ∧ askable d a = true ∧ k = (dget d a).isSome) ∨ ∃ l, seqOf h b = some l ∧ plain 40 a = true ∧ plains 40 l = true ∧ k = memv a l := by
  have f : ∀ l : List PV, (if plain 40 a && plains 40 l then some (memv a l) else none) = some k → plain 40 a = true ∧ plains 40 l = true ∧ k = memv a l := by
    intro l e
    split at e
    · rename_i q; cases e; exact ⟨(Bool.and_eq_true _ _ ▸ q).1, (Bool.and_eq_true _ _ ▸ q).2, rfl⟩
    · cases e
  have g : ∀ l : List (PV × PV), (if askable l a then some (dget l a).isSome else none) = some k → askable l a = true ∧ k = (dget l a).isSome := by
    intro l e
    split at e
    · cases e; exact ⟨by assumption, rfl⟩
    · cases e
  unfold cmpop at e
  simp only at e
  split at e
  · exact .inl ⟨_, rfl, g _ e⟩
  · split at e
    · rename_i q; exact .inl ⟨_, by simp [dictOf, q], g _ e⟩
    · rename_i q; exact .inr ⟨_, by simp [seqOf, q], f _ e⟩
    · cases e
  · exact .inr ⟨_, rfl, f _ e⟩
  · exact .inr ⟨_, rfl, f _ e⟩
  · cases e
theorem inv_nin {h a b k} (e : cmpop h 9 a b = some k) : (∃ d, dictOf h b = some d ∧ askable d a = true ∧ k = !(dget d a).isSome) ∨ ∃ l, seqOf h b = some l ∧ plain 40 a = true ∧ plains 40 l = true ∧ k = !memv a l := by
  have f : ∀ l : List PV, (if plain 40 a && plains 40 l then some (!memv a l) else none) = some k → plain 40 a = true ∧ plains 40 l = true ∧ k = !memv a l := by
    intro l e
    split at e
    · rename_i q; cases e; exact ⟨(Bool.and_eq_true _ _ ▸ q).1, (Bool.and_eq_true _ _ ▸ q).2, rfl⟩
    · cases e
  have g : ∀ l : List (PV × PV), (if askable l a then some (!(dget l a).isSome) else none) = some k → askable l a = true ∧ k = !(dget l a).isSome := by
    intro l e
    split at e
    · cases e; exact ⟨by assumption, rfl⟩
    · cases e
  unfold cmpop at e
  simp only at e
  split at e
  · exact .inl ⟨_, rfl, g _ e⟩
  · split at e
    · rename_i q; exact .inl ⟨_, by simp [dictOf, q], g _ e⟩
    · rename_i q; exact .inr ⟨_, by simp [seqOf, q], f _ e⟩
    · cases e
  · exact .inr ⟨_, rfl, f _ e⟩
  · exact .inr ⟨_, rfl, f _ e⟩
  · cases e
theorem ask_rv {W H l a x} (t : RT G W H a x) (e : askable l a = true) : RV G W H a x := by
  cases t with
  | v r => exact r
  | ol _ _ _ _ => simp [askable, kcls] at e
  | od _ _ _ => simp [askable, kcls] at e
theorem op_in' (k : Gd G d N sc X) : OpR X (compareOp .In) (rCmp G 8) := by
  intro pins s σ H x y v u Q I rx ry h
  obtain ⟨W, h, a, b, z, r, ta, tb, e, q⟩ := h
  have hu := k.u
  rcases inv_in e with ⟨l, e1, e2, rfl⟩ | ⟨l, e1, e2, e3, rfl⟩
  · obtain ⟨p, rfl, da⟩ := dict_of r tb e1
    cases ry
    exact D_in k.prog k.w k.K hu I da (ask_rv ta e2) rx e2 fun s' I' => ⟨.bl _, H, I', rfl, q⟩
  · obtain ⟨p, xs, rfl, hs, rs⟩ := seq_of r tb e1
    cases ry
    rcases hs with hs | hs
    · obtain ⟨its, rr, pl, _⟩ := I.list (by rw [k.K]; exact hs)
      obtain ⟨ee, m1, m2⟩ := mem_of (A := X.A.in1) k I ta rx rs rr e2 e3 (by simp only [Around.in1_units]; omega)
      refine in_listAt ee pl.isList (fun w hw => m1 w (by simpa using hw)) ⟨.bl _, H, I, rfl, ?_⟩
      rw [show its.toArray.any ee = its.any ee by simp, m2]
      exact q
    · obtain ⟨its, rr, pl, _⟩ := I.tuple (by rw [k.K]; exact hs)
      obtain ⟨ee, m1, m2⟩ := mem_of (A := X.A.in1) k I ta rx rs rr e2 e3 (by simp only [Around.in1_units]; omega)
      refine in_tupleAt ee pl (fun w hw => m1 w (by simpa using hw)) ⟨.bl _, H, I, rfl, ?_⟩
      rw [show its.toArray.any ee = its.any ee by simp, m2]
      exact q
theorem op_nin' (k : Gd G d N sc X) : OpR X (compareOp .NotIn) (rCmp G 9) := by
  intro pins s σ H x y v u Q I rx ry h
  obtain ⟨W, h, a, b, z, r, ta, tb, e, q⟩ := h
  have hu := k.u
  rcases inv_nin e with ⟨l, e1, e2, rfl⟩ | ⟨l, e1, e2, e3, rfl⟩
  · obtain ⟨p, rfl, da⟩ := dict_of r tb e1
    cases ry
    exact D_notIn k.prog k.w k.K hu I da (ask_rv ta e2) rx e2 fun s' I' => ⟨.bl _, H, I', rfl, q⟩
  · obtain ⟨p, xs, rfl, hs, rs⟩ := seq_of r tb e1
    cases ry
    rcases hs with hs | hs
    · obtain ⟨its, rr, pl, _⟩ := I.list (by rw [k.K]; exact hs)
      obtain ⟨ee, m1, m2⟩ := mem_of (A := X.A.in1) k I ta rx rs rr e2 e3 (by simp only [Around.in1_units]; omega)
      refine notIn_listAt ee pl.isList (fun w hw => m1 w (by simpa using hw)) ⟨.bl _, H, I, rfl, ?_⟩
      rw [show its.toArray.any ee = its.any ee by simp, m2]
      exact q
    · obtain ⟨its, rr, pl, _⟩ := I.tuple (by rw [k.K]; exact hs)
      obtain ⟨ee, m1, m2⟩ := mem_of (A := X.A.in1) k I ta rx rs rr e2 e3 (by simp only [Around.in1_units]; omega)
      refine notIn_tupleAt ee pl (fun w hw => m1 w (by simpa using hw)) ⟨.bl _, H, I, rfl, ?_⟩
      rw [show its.toArray.any ee = its.any ee by simp, m2]
      exact q
theorem isnone_of {W H a x} (t : RT G W H a x) : decide (x = .non) = isNone a := by
  cases t with
  | v r => cases r <;> simp [isNone]
  | ol _ _ _ _ => simp [isNone]
  | od _ _ _ => simp [isNone]
theorem op_is' (k : Gd G d N sc X) : OpR X (compareOp .Is) (rCmp G 6) := by
  intro pins s σ H x y v u Q I rx ry h
  obtain ⟨W, h, a, b, z, r, ta, tb, e, q⟩ := h
  unfold cmpop at e
  simp only at e
  split at e
  · cases e
    refine op_isN pins s σ H x y v u Q I rx ry ⟨tb.non, ?_⟩
    rw [isnone_of ta]; exact q
  · split at e
    · cases e
      rename_i b1 _ b2
      refine op_isBl pins s σ H x y v u Q I rx ry ⟨_, _, ta.bl, tb.bl, ?_⟩
      rw [show decide (b2 = b1) = (b2 == b1) by cases b1 <;> cases b2 <;> rfl]
      exact q
    · cases e
  · cases e
theorem op_isn' (k : Gd G d N sc X) : OpR X (compareOp .IsNot) (rCmp G 7) := by
  intro pins s σ H x y v u Q I rx ry h
  obtain ⟨W, h, a, b, z, r, ta, tb, e, q⟩ := h
  unfold cmpop at e
  simp only at e
  split at e
  · cases e
    refine op_notN pins s σ H x y v u Q I rx ry ⟨tb.non, ?_⟩
    rw [isnone_of ta]; exact q
  · split at e
    · cases e
      rename_i b1 _ b2
      refine op_notBl pins s σ H x y v u Q I rx ry ⟨_, _, ta.bl, tb.bl, ?_⟩
      rw [show decide (b2 = b1) = (b2 == b1) by cases b1 <;> cases b2 <;> rfl]
      exact q
    · cases e
  · cases e
theorem op_ord {op : Nat} {o : CmpOp} {p : Int → Int → Bool} (rule : OpR X (compareOp o) (rI0 fun i j => .bl (p i j))) (c : ∀ h a b z, cmpop h op a b = some z → ∃ i j, a = .int i ∧ b = .int j ∧ z = p i j) : OpR X (compareOp o) (rCmp G op) := by
  intro pins s σ H x y v u Q I rx ry h
  obtain ⟨W, h, a, b, z, r, ta, tb, e, q⟩ := h
  obtain ⟨i, j, rfl, rfl, rfl⟩ := c h a b z e
  exact rule pins s σ H x y v u Q I rx ry ⟨i, j, ta.int, tb.int, q⟩
def cmpOf : CmpOp → Nat
  | .Eq => 0 | .NotEq => 1 | .Lt => 2 | .LtE => 3 | .Gt => 4 | .GtE => 5 | .Is => 6 | .IsNot => 7 | .In => 8 | .NotIn => 9
theorem op_cmp (k : Gd G d N sc X) (o : CmpOp) : OpR X (compareOp o) (rCmp G (cmpOf o)) := by
  have f : ∀ {op : Nat} {p : Int → Int → Bool}, (∀ h i j, cmpop h op (.int i) (.int j) = some (p i j)) → (op = 2 ∨ op = 3 ∨ op = 4 ∨ op = 5) → ∀ (h : HP) (a b : PV) z, cmpop h op a b = some z → ∃ i j, a = .int i ∧ b = .int j ∧ z = p i j := by
    intro op p c ho h a b z e
    have : ∃ i j, a = .int i ∧ b = .int j := by
      rcases ho with rfl | rfl | rfl | rfl <;> cases a <;> cases b <;> first | exact ⟨_, _, rfl, rfl⟩ | exact nomatch (show (none : Option Bool) = some z from e)
    obtain ⟨i, j, rfl, rfl⟩ := this
    rw [c] at e
    cases e
    exact ⟨_, _, rfl, rfl, rfl⟩
  cases o
  · exact op_eq' k
  · exact op_ne' k
  · exact op_ord op_lt (f (fun _ _ _ => rfl) (by decide))
  · exact op_ord op_le (f (fun _ _ _ => rfl) (by decide))
  · exact op_ord op_gt (f (fun _ _ _ => rfl) (by decide))
  · exact op_ord op_ge (f (fun _ _ _ => rfl) (by decide))
  · exact op_is' k
  · exact op_isn' k
  · exact op_in' k
  · exact op_nin' k

/-! ### items -/
theorem atI_of {l : List PV} {i : Int} {p : PV} {W H} {xs : List V} (r : RVs G W H l xs) (e : sAt l i = some p) : ∃ x, atI xs i = some x ∧ RV G W H p x := by
  have hl := r.length
  unfold sAt at e
  unfold atI ixN
  split at e
  · rename_i k
    rw [nth_eq] at e
    obtain ⟨x, e1, e2⟩ := r.get e
    have hk := (List.getElem?_eq_some_iff.mp e1).1
    refine ⟨x, ?_, e2⟩
    have h0 : (0 : Int) ≤ Int.ofNat k := Int.natCast_nonneg k
    have h1 : Int.ofNat k < (xs.length : Int) := by show (k : Int) < _; omega
    rw [if_pos h0, if_pos h1]
    exact e1
  · rename_i k
    split at e
    · rename_i hb
      have hb := Nat.blt_eq.mp hb
      rw [nth_eq] at e
      obtain ⟨x, e1, e2⟩ := r.get e
      refine ⟨x, ?_, e2⟩
      have h0 : ¬ (0 : Int) ≤ Int.negSucc k := by omega
      have h1 : -(xs.length : Int) ≤ Int.negSucc k := by omega
      rw [if_neg h0, if_pos h1]
      show xs[(Int.negSucc k + (xs.length : Int)).toNat]? = some x
      rw [show (Int.negSucc k + (xs.length : Int)).toNat = l.length - 1 - k by omega]
      exact e1
    · cases e
theorem atI_nat' {l : List Nat} {i : Int} {p : Nat} (e : sAt l i = some p) : atI l i = some p := by
  unfold sAt at e
  unfold atI ixN
  split at e
  · rename_i k
    rw [nth_eq] at e
    have hk := (List.getElem?_eq_some_iff.mp e).1
    have h0 : (0 : Int) ≤ Int.ofNat k := Int.natCast_nonneg k
    have h1 : Int.ofNat k < (l.length : Int) := by show (k : Int) < _; omega
    rw [if_pos h0, if_pos h1]
    exact e
  · rename_i k
    split at e
    · rename_i hb
      have hb := Nat.blt_eq.mp hb
      rw [nth_eq] at e
      have h0 : ¬ (0 : Int) ≤ Int.negSucc k := by omega
      have h1 : -(l.length : Int) ≤ Int.negSucc k := by omega
      rw [if_neg h0, if_pos h1]
      show l[(Int.negSucc k + (l.length : Int)).toNat]? = some p
      rw [show (Int.negSucc k + (l.length : Int)).toNat = l.length - 1 - k by omega]
      exact e
    · cases e
theorem inv_item {h a b z} (e : item h a b = some z) : (∃ l i, seqOf h a = some l ∧ b = .int i ∧ sAt l i = some z) ∨ (∃ l, dictOf h a = some l ∧ askable l b = true ∧ dget l b = some z) ∨ ∃ l i c, a = .str l ∧ b = .int i ∧ sAt l i = some c ∧ l.length ≤ 16777216 ∧ z = .str [c] := by
  have g : ∀ l : List (PV × PV), (if askable l b then dget l b else none) = some z → askable l b = true ∧ dget l b = some z := by
    intro l e
    split at e
    · exact ⟨by assumption, e⟩
    · cases e
  cases a with
  | tup l => cases b with
    | int i => exact .inl ⟨_, i, rfl, rfl, e⟩
    | _ => exact nomatch (show (none : Option PV) = some z from e)
  | lst l => cases b with
    | int i => exact .inl ⟨_, i, rfl, rfl, e⟩
    | _ => exact nomatch (show (none : Option PV) = some z from e)
  | str l => cases b with
    | int i =>
      have e : (if short l then (match sAt l i with | some c => some (PV.str [c]) | none => none) else none) = some z := e
      split at e
      · rename_i hb
        split at e
        · cases e; exact .inr (.inr ⟨_, _, _, rfl, rfl, by assumption, shortE hb, rfl⟩)
        · cases e
      · cases e
    | _ => exact nomatch (show (none : Option PV) = some z from e)
  | dct l => exact .inr (.inl ⟨_, rfl, g _ e⟩)
  | obj n =>
    cases q : nth h n with
    | none => rw [show item h (.obj n) b = none by simp [item, q]] at e; cases e
    | some io => cases io with
      | lst l => cases b with
        | int i => exact .inl ⟨l, i, by simp [seqOf, q], rfl, by simpa [item, q] using e⟩
        | _ => simp [item, q] at e
      | dct l => exact .inr (.inl ⟨l, by simp [dictOf, q], g _ (by simpa [item, q] using e)⟩)
      | ins c f => simp [item, q] at e
  | _ => exact nomatch (show (none : Option PV) = some z from e)
theorem da_type {pins σ H s W a l} (k : Gd G d N sc X) (I : L2.Inv X pins σ H s) (t : DA G W H a l) : s.TypeIs (.ref a) "dict" ∧ (∀ b, Value.ref a = .ref b → ∃ ob, s.heap.get? b = some ob ∧ ob.dict = none) ∧ (a == sysModules) = false := by
  cases t with
  | k e r =>
    exact isD_at I (.inl ⟨_, .inl e⟩)
  | n e _ r =>
    obtain ⟨_, hd, ys, _, dd⟩ := ndo_get k.prog k.w k.K I e r
    refine ⟨dd.typeIs, fun b q => ?_, hd⟩
    cases q
    obtain ⟨o, es, ep, e1, e2, _⟩ := dd
    exact ⟨o, e1, e2.2.1⟩
theorem ix_item (k : Gd G d N sc X) : IxR X (rItem G) := by
  intro value slice pins s σ H x y v u Q I rx ry h hs
  obtain ⟨W, h, a, b, z, r, ta, tb, e, q⟩ := h
  rcases inv_item e with ⟨l, i, e1, rfl, e2⟩ | ⟨l, e1, e2, e3⟩ | ⟨l, i, c, rfl, rfl, e1, hl, rfl⟩
  · obtain ⟨p, xs, rfl, hq, rs⟩ := seq_of r ta e1
    obtain ⟨w, e3, e4⟩ := atI_of rs e2
    rcases hq with hq | hq
    · exact ix_list value slice pins s σ H _ _ v u Q I rx ry ⟨p, xs, i, w, rfl, tb.int, by rw [k.K]; exact hq, e3, q w e4⟩ hs
    · exact ix_tup value slice pins s σ H _ _ v u Q I rx ry ⟨p, xs, i, w, rfl, tb.int, by rw [k.K]; exact hq, e3, q w e4⟩ hs
  · obtain ⟨p, rfl, da⟩ := dict_of r ta e1
    cases rx
    have hu := k.u
    exact tail_any (da_type k I da).1 PySem.F.slot_dict_getitem.lookup (D_get k.prog k.w k.K hu I da (ask_rv tb e2) ry e2 e3 fun x w' s' I' rw' rv => ⟨x, H, I', rw', q x rv⟩) hs
  · refine ix_str value slice pins s σ H x y v u Q I rx ry ⟨strOf l, i, c, ta.str, tb.int, by rw [strOf_len, sizeLine_eq]; exact hl, atI_nat' (by simpa [strOf] using e1), q _ (.str [c])⟩ hs
end
end Hc

set_option maxHeartbeats 4000000
/-! Which expression of the program a little expression stands for. -/
namespace Hc
open PySem PySem.Spec PyProof.Rows L2

structure Tab where
  fn : Str → Option Nat
  cls : Str → Option Nat
  cst : Str → Option PV
  fld : Str → Option Nat
  nofld : Nat → Bool
  free : List Str
def noSl : Expr → Bool
  | .Slice .. => false
  | _ => true
def noSet : Expr → Bool
  | .Set .. => false
  | _ => true
def noStar : Expr → Bool
  | .Starred .. => false
  | _ => true
def noCall0 : Expr → Bool
  | .Call (.Name _ _) [] [] _ => false
  | _ => true
theorem noSl_ix {b : Expr} (h : noSl b = true) : PlainIx b := by
  intro o i
  cases b <;> first | rfl | cases h
theorem noSet_m {b : Expr} (op : CmpOp) (h : noSet b = true) : behindInMarks op b = false := by
  cases b <;> first | rfl | cases h
theorem noSet_f {b : Expr} (h : noSet b = true) (env : Env) (x : Value) : foldedSetIterable b env x = pure x := by
  cases b <;> first | rfl | cases h
theorem noStar_e {e : Expr} {es : List Expr} {env : Env} (h : noStar e = true) : starEach (e :: es) env = (false, eval e env) :: starEach es env := by
  cases e <;> first | rfl | cases h
theorem noStars {pos : Pos} {env : Env} : ∀ {es : List Expr}, es.all noStar = true → (backTo pos (starEach es env)).any (·.1) = false
  | [], _ => rfl
  | e :: es, h => by
    simp only [List.all_cons, Bool.and_eq_true] at h
    rw [noStar_e h.1]
    have := noStars (pos := pos) (env := env) h.2
    simpa [backTo] using this
theorem noCall_b {e : Expr} {f : Str} {env : Env} {w : Sem Value} (h : noCall0 e = true) : attributeBase e f env w = w := by
  unfold attributeBase
  split
  · simp [noCall0] at h
  · rfl
def nameIx (x : Str) : List Str → Nat → Option Nat
  | [], _ => none
  | y :: r, n => if decide (y = x) then some n else nameIx x r (n + 1)
def visB (sc : Scope) (x : Str) : Bool := match sc.names.lookup x with
  | some .local => true
  | some .cell => true
  | some .free => true
  | _ => false
def locB (sc : Scope) (x : Str) : Bool := match sc.names.lookup x with
  | some .local => true
  | _ => false
def glB (sc : Scope) (x : Str) : Bool := match sc.names.lookup x with
  | some .globalImplicit => true
  | _ => false
def plainName (x : Str) : Bool := !(x == ("__debug__" : Str)) && !(x == ("__classdict__" : Str)) && !(x == ("__name__" : Str))
def ixB (N : List Str) (i : Nat) (x : Str) : Bool := decide (N[i]? = some x)
def varB (N : List Str) (sc : Scope) (i : Nat) (x : Str) : Bool := ixB N i x && visB sc x && plainName x
def cstB : PV → Const → Bool
  | .non, .none => true
  | .bl a, .bool b => a == b
  | .int a, .int b => decide (a = b)
  | .str a, .str b => decide (b.cps = a.toArray)
  | _, _ => false

/-- what is known of the program's names -/
structure GF (G : GE) (T : Tab) : Prop where
  fn : ∀ x f, T.fn x = some f → G.mg x = some (.ref (G.fad f)) ∧ PySem.W.keepIn G.K (.ref (G.fad f)) = true
  cls : ∀ x c, T.cls x = some c → G.mg x = some (.ref (G.cad c))
  cst : ∀ x v, T.cst x = some v → ∃ u y, G.mg x = some u ∧ RelV y u ∧ ∀ W H, RV G W H v y
  free : ∀ x, x ∈ T.free → G.mg x = none
  fx : ∀ x f, T.fn x = some f → (G.pg.fn f).isSome = true
  mt : ∀ c m f, G.pg.mt c m = some f → Cls G.K (G.cad c) ∧ Meth G.K (G.cad c) (G.nm m) (G.fad f) ∧ (G.pg.fn f).isSome = true
  mkr : ∀ c f, G.pg.ini c = some f → Mk G.K (G.cad c) (G.fad f) ∧ (G.pg.fn f).isSome = true
  fld : ∀ x f, T.fld x = some f → G.nm f = x
  inj : ∀ f g, G.nm f = G.nm g → f = g
  ic : ∀ c, (G.pg.ini c).isSome = true → Cls G.K (G.cad c) ∧ ∀ f, T.nofld f = true → NoAttr G.K (G.cad c) (G.nm f)

abbrev VT (G : GE) (Q : VK) : PV → HP → Wd → Hp → Prop := fun v _ W' H' => ∀ x, RT G W' H' v x → Q x H'
abbrev BP (Q : Bool → Hp → Prop) : PV → HP → Wd → Hp → Prop := fun v _ _ H' => ∃ k, v = .bl k ∧ Q k H'
abbrev AP' (G : GE) (Q : List V → Hp → Prop) : List PV → HP → Wd → Hp → Prop := fun vs _ W' H' => ∀ xs, RVs G W' H' vs xs → Q xs H'
def Snd (G : GE) (d : Nat) (N : List Str) (rec : Scope → E → Expr → Bool) : Prop := ∀ sc c e, rec sc c e = true → ∀ X, Gd G d N sc X → PE X e (tE G d c)
section
variable {G : GE} {T : Tab} {d : Nat} {N : List Str} {sc : Scope} {X : Cx} {rec : Scope → E → Expr → Bool}
theorem vis_of (k : Gd G d N sc X) {x : Str} (h : visB sc x = true) : Vis X.env.scope x := by
  unfold visB at h
  unfold Vis
  rw [k.sc]
  split at h
  · exact .inl (by assumption)
  · exact .inr (.inl (by assumption))
  · exact .inr (.inr (by assumption))
  · cases h
theorem gl_of (k : Gd G d N sc X) {x : Str} (h : glB sc x = true) : Gl X x := by
  unfold glB at h
  show X.env.scope.names.lookup x = _
  rw [k.sc]
  split at h
  · assumption
  · cases h
theorem plain_of {x : Str} (h : plainName x = true) : (x == ("__debug__" : Str)) = false ∧ (x == ("__classdict__" : Str)) = false ∧ x ≠ "__name__" := by
  unfold plainName at h
  simp only [Bool.and_eq_true, Bool.not_eq_true'] at h
  exact ⟨h.1.1, h.1.2, fun e => by have := h.2; rw [e, beq_self_eq_true] at this; cases this⟩
theorem pe_v (k : Gd G d N sc X) {i : Nat} {x : Str} {pos : Pos} (h : varB N sc i x = true) : PE X (.Name x pos) (tVar i) := by
  unfold varB at h
  simp only [Bool.and_eq_true] at h
  obtain ⟨⟨h1, h2⟩, h3⟩ := h
  exact pe_var (by rw [k.N]; exact of_decide_eq_true h1) (vis_of k h2) (plain_of h3).1 (plain_of h3).2.1
theorem r_var (k : Gd G d N sc X) {i : Nat} {x : Str} {pos : Pos} (h : varB N sc i x = true) : PE X (.Name x pos) (tE G d (.var i)) :=
  (pe_v k h).imp fun σ H Q t => by
    obtain ⟨W, g, h, wp, n, m, q⟩ := t.un
    have q : okR G wp W H (match nth g i with | some (.pv v) => .ok v h | _ => .no) (VP G Q) := q
    split at q
    · rename_i v e
      rw [nth_eq] at e
      obtain ⟨x, e1, e2⟩ := m.sr.pv i v e
      exact ⟨x, e1, q.here m.hr x e2⟩
    · exact q.elim
theorem r_own (k : Gd G d N sc X) {i : Nat} {x : Str} {pos : Pos} (h : varB N sc i x = true) : PE X (.Name x pos) (tO G d (.own i)) :=
  (pe_v k h).imp fun σ H Q t => by
    obtain ⟨W, g, h, wp, n, m, q⟩ := t
    obtain ⟨n, q⟩ := un_e q
    have q : okR G wp W H (match nth g i with | some (.ol l) => .ok (.lst l) h | some (.od l) => .ok (.dct l) h | _ => .no) (VT G Q) := q
    split at q
    · rename_i v e
      rw [nth_eq] at e
      obtain ⟨a, xs, e1, e2, e3, e4, e5⟩ := m.sr.ol i v e
      exact ⟨_, e1, q.here m.hr _ (.ol e2 e3 e4 e5)⟩
    · rename_i v e
      rw [nth_eq] at e
      obtain ⟨a, e1, e2, e3, e4⟩ := m.sr.od i v e
      exact ⟨_, e1, q.here m.hr _ (.od e2 e3 e4)⟩
    · exact q.elim
theorem e_o {e : Expr} {c : E} (h : PE X e (tE G d c)) : PE X e (tO G d c) := h.imp fun σ H Q ⟨W, g, h, wp, n, m, q⟩ =>
  ⟨W, g, h, wp, n, m, q.imp fun v _ W' H' _ _ f x r => f x (.v r)⟩
/-- an operand: an own list, an own dict may be looked at -/
def ckO (N : List Str) (rec : Scope → E → Expr → Bool) (sc : Scope) (c : E) (e : Expr) : Bool := match c with
  | .own i => (match e with
    | .Name x _ => varB N sc i x
    | _ => false)
  | c => rec sc c e
theorem ckO_ok (s : Snd G d N rec) {c : E} {e : Expr} (h : ckO N rec sc c e = true) (k : Gd G d N sc X) : PE X e (tO G d c) := by
  unfold ckO at h
  split at h
  · split at h
    · exact r_own k h
    · cases h
  · exact e_o (s sc c e h X k)
theorem strOf_cps {b : Str} {a : List Nat} (h : b.cps = a.toArray) : b = strOf a := by cases b; exact congrArg Str.mk h
theorem r_cst {v : PV} {c : Const} {j : Nat} {pos : Pos} (h : cstB v c = true) : PE X (.Constant c j pos) (tE G d (.cst v)) := by
  have f : ∀ {x : V}, (∀ W H, RV G W H v x) → ∀ σ H Q, tE G d (.cst v) σ H Q → tC x σ H Q := by
    intro x r σ H Q t
    obtain ⟨W, g, h, wp, n, m, q⟩ := t.un
    exact (show okR G wp W H (.ok v h) (VP G Q) from q).here m.hr x (r _ _)
  unfold cstB at h
  split at h
  · exact pe_non.imp (f fun _ _ => .non)
  · cases eq_of_beq h; exact pe_bl.imp (f fun _ _ => .bl _)
  · cases of_decide_eq_true h; exact pe_int.imp (f fun _ _ => .int _)
  · rw [strOf_cps (of_decide_eq_true h)]; exact pe_str.imp (f fun _ _ => .str _)
  · cases h
theorem r_gcst (F : GF G T) (k : Gd G d N sc X) {v : PV} {x : Str} {pos : Pos} (h1 : T.cst x = some v) (h2 : glB sc x = true) (h3 : plainName x = true) : PE X (.Name x pos) (tE G d (.cst v)) := by
  obtain ⟨u, y, e1, e2, e3⟩ := F.cst x v h1
  refine (pe_glob (gl_of k h2) (by rw [k.mg]; exact e1) e2 (plain_of h3).1).imp fun σ H Q t => ?_
  obtain ⟨W, g, h, wp, n, m, q⟩ := t.un
  exact (show okR G wp W H (.ok v h) (VP G Q) from q).here m.hr y (e3 _ _)
theorem r_gfn (F : GF G T) (k : Gd G d N sc X) {f : Nat} {x : Str} {pos : Pos} (h1 : T.fn x = some f) (h2 : glB sc x = true) (h3 : plainName x = true) : PE X (.Name x pos) (tE G d (.cst (.fn f))) := by
  obtain ⟨e1, e2⟩ := F.fn x f h1
  refine (pe_glob (v := .ref (G.fad f)) (gl_of k h2) (by rw [k.mg]; exact e1) rfl (plain_of h3).1).imp fun σ H Q t => ?_
  obtain ⟨W, g, h, wp, n, m, q⟩ := t.un
  exact (show okR G wp W H (.ok (.fn f) h) (VP G Q) from q).here m.hr _ (.fn f)
theorem r_neg {i : Int} {j : Nat} {p pos : Pos} : PE X (.UnaryOp .USub (.Constant (.int i) j p) pos) (tE G d (.cst (.int (-i)))) :=
  (pe_un un_neg pe_int).imp fun σ H Q t => by
    obtain ⟨W, g, h, wp, n, m, q⟩ := t.un
    exact ⟨i, rfl, (show okR G wp W H (.ok (.int (-i)) h) (VP G Q) from q).here m.hr _ (.int _)⟩
/-- rows of expressions -/
def ckA (N : List Str) (rec : Scope → E → Expr → Bool) (sc : Scope) : List E → List Expr → Bool
  | [], [] => true
  | c :: cs, e :: es => (match c with
    | .star a => (match e with
      | .Starred e _ => ckO N rec sc a e
      | _ => false)
    | c => noStar e && rec sc c e) && ckA N rec sc cs es
  | _, _ => false
theorem ckA_ok (s : Snd G d N rec) (k : Gd G d N sc X) : ∀ {cs : List E} {es : List Expr}, ckA N rec sc cs es = true → PA X es (tA G d cs)
  | [], [], _ => pa_nil.imp fun σ H Q ⟨W, g, h, wp, n, m, q⟩ => (show okR G wp W H (.ok [] h) _ from q).here m.hr [] .nil
  | [], _ :: _, h => nomatch h
  | _ :: _, [], h => nomatch h
  | c :: cs, e :: es, h => by
    simp only [ckA, Bool.and_eq_true] at h
    obtain ⟨h1, h2⟩ := h
    have ih := ckA_ok s k h2
    split at h1
    · split at h1
      · refine (StX.pa_star (ckO_ok s h1 k) ih (by rfl)).imp fun σ H Q ⟨W, g, h, wp, n, m, q⟩ => ?_
        have q : okR G wp W H (((ev G.pg n).e wp d _ g h).bind fun v h1 => R.ofO (seqOf h1 v) fun l => (evs (fun e h => (ev G.pg n).e wp d e g h) cs h1).bind fun vs h2 => .ok (l ++ vs) h2) (AP' G Q) := q
        refine ⟨W, g, h, wp, n, m, q.bind.imp fun v h1 W1 H1 e1 r1 q1 x rx => ?_⟩
        obtain ⟨l, e2, q1⟩ := q1.ofO
        obtain ⟨a, xs, e3, e4, e5⟩ := seq_of r1 rx e2
        refine ⟨a, xs, e3, by rw [k.K]; exact e4.symm, W1, g, h1, wp, n, m.ext e1 r1, q1.bind.imp fun vs h2 W2 H2 e6 r2 q2 ys ry => ?_⟩
        exact q2.here r2 _ ((e5.stay e6.stay).append ry)
      · cases h1
    · rename_i hns
      simp only [Bool.and_eq_true] at h1
      refine (pa_cons (s sc c e h1.2 X k) ih (noStar_e h1.1)).imp fun σ H Q ⟨W, g, h, wp, n, m, q⟩ => ?_
      have q : okR G wp W H (((ev G.pg n).e wp d c g h).bind fun v h1 => (evs (fun e h => (ev G.pg n).e wp d e g h) cs h1).bind fun vs h2 => .ok (v :: vs) h2) (fun vs _ W' H' => ∀ xs, RVs G W' H' vs xs → Q xs H') := by
        cases c <;> first | exact q | exact absurd rfl (hns _)
      refine ⟨W, g, h, wp, n, m, q.bind.imp fun v h1 W1 H1 e1 r1 q1 x rx => ⟨W1, g, h1, wp, n, m.ext e1 r1, q1.bind.imp fun vs h2 W2 H2 e6 r2 q2 ys ry => ?_⟩⟩
      exact q2.here r2 _ (.cons (rx.stay e6.stay) ry)
abbrev evs' (G : GE) (n wp d : Nat) (g : SG) : List E → HP → R (List PV) := evs (fun e h => (ev G.pg n).e wp d e g h)
theorem r_tup {cs : List E} {es : List Expr} {x1} {pos : Pos} (h : PA X es (tA G d cs)) : PE X (.Tuple es x1 pos) (tE G d (.tup cs)) :=
  (pe_tup h).imp fun σ H Q t => by
    obtain ⟨W, g, h, wp, n, m, q⟩ := t.un
    have q : okR G wp W H ((evs' G n wp d g cs h).bind fun vs h1 => if short vs then .ok (.tup vs) h1 else .no) (VP G Q) := q
    refine ⟨W, g, h, wp, n, m, q.bind.imp fun vs h1 W1 H1 e1 r1 q1 xs rs => ?_⟩
    obtain ⟨z, q1⟩ := q1.cond
    refine ⟨by rw [← rs.length, sizeLine_eq]; exact shortE z, fun p hp => ?_⟩
    obtain ⟨t1, t2, t3⟩ := new_tup r1 hp rs
    exact q1.at (t1 _) t2 _ t3
/-- what stands at a new address -/
def NL (G : GE) (W : Wd) (H : Hp) (v : PV) (a : Addr) : Prop := match v with
  | .lst l => ∃ xs, H a = some (.lst xs) ∧ RVs G W H l xs
  | .dct d => DA G W H a d
  | _ => False
abbrev NPo (G : GE) (H : Hp) (Q : VK) : PV → HP → Wd → Hp → Prop := fun v _ W' H' => ∀ a, H a = none → ¬ W'.I a → a ∉ W'.m → NL G W' H' v a → Q (.ref a) H'
/-- a new list, a new dict: nobody's yet -/
def tN (G : GE) (d : Nat) (c : E) : TE := fun σ H Q => ∃ W g h wp n, Mo G W g h σ H ∧ okR G wp W H ((ev G.pg n).e wp d c g h) (NPo G H Q)
theorem give_ext' {wp : Nat} {W0 W : Wd} {H0 H : Hp} {D : Addr} (e : Ext G wp W0 H0 W H) (h : H0 D = none) : Ext G wp W0 H0 (W.more D) H where
  mp := e.mp
  ii := fun a i => .inl (e.ii a i)
  inew := fun a i => by
    rcases i with i | rfl
    · exact e.inew a i
    · exact .inr h
  mnew := e.mnew
  fr := e.fr
  tr := e.tr
  tp := e.tp
  im := e.im
  nd := e.nd
theorem give_stay' {W : Wd} {H : Hp} {D : Addr} : Stay G W H (W.more D) H := ⟨fun _ _ h => h, fun _ h => .inl h, fun _ _ h => h, fun _ _ _ h => h⟩
theorem give_hr' {W : Wd} {hp : HP} {H : Hp} {D : Addr} (r : HR G W hp H) (nm : D ∉ W.m) (h : H D ≠ none) : HR G (W.more D) hp H where
  len := r.len
  nd := r.nd
  ob := fun n io a e1 e2 => (r.ob n io a e1 e2).stay give_stay' fun _ _ _ e => e
  dj := fun a i => by
    rcases i with i | rfl
    · exact r.dj a i
    · exact nm
  it := fun a i => by
    rcases i with i | rfl
    · exact r.it a i
    · exact h
theorem NL.some {W H v a} (n : NL G W H v a) : H a ≠ none := by
  unfold NL at n
  split at n
  · obtain ⟨xs, e, _⟩ := n; rw [e]; exact fun z => nomatch z
  · obtain ⟨o, e⟩ := n.some; rw [e]; exact fun z => nomatch z
  · exact n.elim
theorem NL.rv {W H v a} (n : NL G W H v a) : RV G (W.more a) H v (.ref a) := by
  unfold NL at n
  split at n
  · obtain ⟨xs, e, r⟩ := n; exact .lst (.inl ⟨.inr rfl, .inl e⟩) (r.stay give_stay')
  · cases n with
    | k e r => exact .dctk (.inr rfl) e (r.stay give_stay')
    | n e ne r => exact .dctn (.inr rfl) e ne (r.stay give_stay')
  · exact n.elim
theorem tE.n {c : E} {σ H Q} (t : tE G d c σ H Q) : tN G d c σ H Q := by
  obtain ⟨W, g, h, wp, n, m, q⟩ := t
  refine ⟨W, g, h, wp, n, m, ?_⟩
  revert q
  generalize (ev G.pg n).e wp d c g h = r
  intro q
  cases r with
  | ok v h' => exact fun W' H' e r a h0 ni nm nl => q (W'.more a) H' (give_ext' e h0) (give_hr' r nm nl.some) _ nl.rv
  | _ => exact q
theorem n_e {e : Expr} {c : E} (h : PE X e (tN G d c)) : PE X e (tE G d c) := h.imp fun σ H Q t => t.n
theorem n_lst {cs : List E} {es : List Expr} {pos : Pos} (h : PA X es (tA G d cs)) : PE X (.List es pos) (tN G d (.lst cs)) :=
  (pe_lst h).imp fun σ H Q t => by
    obtain ⟨W, g, h, wp, n, m, q⟩ := t
    obtain ⟨n, q⟩ := un_e q
    have q : okR G wp W H ((evs' G n wp d g cs h).bind fun vs h1 => if short vs then .ok (.lst vs) h1 else .no) (NPo G H Q) := q
    refine ⟨W, g, h, wp, n, m, q.bind.imp fun vs h1 W1 H1 e1 r1 q1 xs rs => ?_⟩
    obtain ⟨z, q1⟩ := q1.cond
    refine ⟨by rw [← rs.length, sizeLine_eq]; exact shortE z, fun p hp => ?_⟩
    have st : Ext G wp W1 H1 W1 (L2.upd H1 p (.lst xs)) := ext_new r1.nd hp
    exact q1.at st (r1.new hp) p (Classical.byContradiction fun z => e1.tr p z hp) (fun i => r1.it p i hp) (fun mm => r1.mt mm hp) ⟨xs, upd_same, rs.stay st.stay⟩
theorem r_lst {cs : List E} {es : List Expr} {pos : Pos} (h : PA X es (tA G d cs)) : PE X (.List es pos) (tE G d (.lst cs)) := n_e (n_lst h)
theorem num_at {W : Wd} {p : Addr} {h : HP} {H : Hp} (r : HR G W h H) : (W.num p).m[h.length]? = some p := by
  show (W.m ++ [p])[h.length]? = some p
  rw [← r.len]; simp
theorem r_hlst {cs : List E} {es : List Expr} {pos : Pos} (h : PA X es (tA G d cs)) : PE X (.List es pos) (tE G d (.hlst cs)) :=
  (pe_lst h).imp fun σ H Q t => by
    obtain ⟨W, g, h, wp, n, m, q⟩ := t.un
    have q : okR G wp W H ((evs' G n wp d g cs h).bind fun vs h1 => if short vs then .ok (.obj h1.length) (h1 ++ [.lst vs]) else .no) (VP G Q) := q
    refine ⟨W, g, h, wp, n, m, q.bind.imp fun vs h1 W1 H1 e1 r1 q1 xs rs => ?_⟩
    obtain ⟨z, q1⟩ := q1.cond
    refine ⟨by rw [← rs.length, sizeLine_eq]; exact shortE z, fun p hp => ?_⟩
    have st : Ext G wp W1 H1 (W1.num p) (L2.upd H1 p (.lst xs)) := ext_num r1 hp
    exact q1.at st (r1.num hp (.lst upd_same (rs.stay st.stay))) _ (.obj (num_at r1))
theorem n_dct0 {pos : Pos} : PE X (.Dict [] [] pos) (tN G d (.dct [] [])) :=
  pe_dnewK.imp fun σ H Q t => by
    obtain ⟨W, g, h, wp, n, m, q⟩ := t
    obtain ⟨n, q⟩ := un_e q
    have q : okR G wp W H (.ok (.dct []) h) (NPo G H Q) := q
    intro p hp
    exact q.at (ext_new m.hr.nd hp) (m.hr.new hp) p hp (fun i => m.hr.it p i hp) (fun mm => m.hr.mt mm hp) (.k upd_same .nil)
theorem r_dct0 {pos : Pos} : PE X (.Dict [] [] pos) (tE G d (.dct [] [])) := n_e n_dct0
theorem r_hdct0 {pos : Pos} : PE X (.Dict [] [] pos) (tE G d (.hdct [] [])) :=
  pe_dnewK.imp fun σ H Q t => by
    obtain ⟨W, g, h, wp, n, m, q⟩ := t.un
    have q : okR G wp W H (.ok (.obj h.length) (h ++ [.dct []])) (VP G Q) := q
    intro p hp
    exact q.at (ext_num m.hr hp) (m.hr.num hp (.dct (.k upd_same .nil))) _ (.obj (num_at m.hr))

/-! tests -/
theorem e_t {e : Expr} {c : E} (h : PE X e (tE G d c)) (he : ∀ whole, isTrue e X.env whole = (do let v ← whole; standAt e.pos; holding [v] (truthy v))) : PT X e (tT G d c) :=
  (pt_val h he).imp fun σ H Q ⟨W, g, h, wp, n, m, q⟩ => ⟨W, g, h, wp, n, m, q.imp fun v _ W' H' _ _ ⟨k, e, f⟩ x r => by
    subst e; cases r; exact ⟨k, rfl, f⟩⟩
theorem r_bin (k : Gd G d N sc X) {o : Operator} {op : Nat} {a b : Expr} {ca cb : E} {pos : Pos} (ho : opOf o = some op) (ha : PE X a (tO G d ca)) (hb : PE X b (tO G d cb)) : PE X (.BinOp a o b pos) (tE G d (.bin op ca cb)) :=
  (pe_op (op_bin k ho) ha hb).imp fun σ H Q t => by
    obtain ⟨W, g, h, wp, n, m, q⟩ := t.un
    have q : okR G wp W H (((ev G.pg n).e wp d ca g h).bind fun x h1 => ((ev G.pg n).e wp d cb g h1).bind fun y h2 => ofO (binop op x y) h2) (VP G Q) := q
    refine ⟨W, g, h, wp, n, m, q.bind.imp fun v1 h1 W1 H1 e1 r1 q1 x rx => ⟨W1, g, h1, wp, n, m.ext e1 r1, q1.bind.imp fun v2 h2 W2 H2 e2 r2 q2 y ry => ?_⟩⟩
    obtain ⟨z, e3, q3⟩ := q2.ofO
    exact ⟨W2, h2, wp, v1, v2, z, r2, rx.ext e2, ry, e3, q3⟩
theorem r_cmpv (k : Gd G d N sc X) {o : CmpOp} {a b : Expr} {ca cb : E} {pos : Pos} (hm : noSet b = true) (ha : PE X a (tO G d ca)) (hb : PE X b (tO G d cb)) : PE X (.Compare a [o] [b] pos) (tE G d (.cmp (cmpOf o) ca cb)) :=
  (pe_cmpR (op_cmp k o) ha hb (noSet_m o hm)).imp fun σ H Q t => by
    obtain ⟨W, g, h, wp, n, m, q⟩ := t.un
    have q : okR G wp W H (((ev G.pg n).e wp d ca g h).bind fun x h1 => ((ev G.pg n).e wp d cb g h1).bind fun y h2 => R.ofO (cmpop h2 (cmpOf o) x y) fun k => .ok (.bl k) h2) (VP G Q) := q
    refine ⟨W, g, h, wp, n, m, q.bind.imp fun v1 h1 W1 H1 e1 r1 q1 x rx => ⟨W1, g, h1, wp, n, m.ext e1 r1, q1.bind.imp fun v2 h2 W2 H2 e2 r2 q2 y ry => ?_⟩⟩
    obtain ⟨z, e3, q3⟩ := q2.ofO
    exact ⟨W2, h2, v1, v2, z, r2, rx.ext e2, ry, e3, q3.here r2 _ (.bl z)⟩
theorem r_cmpt (k : Gd G d N sc X) {o : CmpOp} {a b : Expr} {ca cb : E} {pos : Pos} (hm : noSet b = true) (ha : PE X a (tO G d ca)) (hb : PE X b (tO G d cb)) : PT X (.Compare a [o] [b] pos) (tT G d (.cmp (cmpOf o) ca cb)) :=
  (pt_cmpR (op_cmp k o) ha hb (noSet_m o hm)).imp fun σ H Q ⟨W, g, h, wp, n, m, q⟩ => by
    obtain ⟨n, q⟩ := un_e q
    have q : okR G wp W H (((ev G.pg n).e wp d ca g h).bind fun x h1 => ((ev G.pg n).e wp d cb g h1).bind fun y h2 => R.ofO (cmpop h2 (cmpOf o) x y) fun k => .ok (.bl k) h2) (BP Q) := q
    refine ⟨W, g, h, wp, n, m, q.bind.imp fun v1 h1 W1 H1 e1 r1 q1 x rx => ⟨W1, g, h1, wp, n, m.ext e1 r1, q1.bind.imp fun v2 h2 W2 H2 e2 r2 q2 y ry => ?_⟩⟩
    obtain ⟨z, e3, q3⟩ := q2.ofO
    obtain ⟨z', e4, q4⟩ := q3.here r2
    cases e4
    exact ⟨W2, h2, v1, v2, z, r2, rx.ext e2, ry, e3, z, rfl, q4⟩
theorem chn_t {o1 o2 : CmpOp} {ca cb cc : E} {σ : L2.St} {H : Hp} {wp W g h n} {Φ : PV → HP → Wd → Hp → Prop} {Q : VK} (m : Mo G W g h σ H)
    (q : okR G wp W H (((ev G.pg n).e wp d ca g h).bind fun x h1 => ((ev G.pg n).e wp d cb g h1).bind fun y h2 => R.ofO (cmpop h2 (cmpOf o1) x y) fun k => match k with
      | true => ((ev G.pg n).e wp d cc g h2).bind fun z h3 => R.ofO (cmpop h3 (cmpOf o2) y z) fun k => .ok (.bl k) h3
      | false => .ok (.bl false) h2) Φ) (fin : ∀ k h' W' H', Φ (.bl k) h' W' H' → Q (.bl k) H') : tChain (rCmp G (cmpOf o1)) (rCmp G (cmpOf o2)) (tO G d ca) (tO G d cb) (tO G d cc) σ H Q := by
  refine ⟨W, g, h, wp, n, m, q.bind.imp fun v1 h1 W1 H1 e1 r1 q1 x rx => ⟨W1, g, h1, wp, n, m.ext e1 r1, q1.bind.imp fun v2 h2 W2 H2 e2 r2 q2 y ry => ?_⟩⟩
  obtain ⟨z, e3, q3⟩ := q2.ofO
  refine ⟨W2, h2, v1, v2, z, r2, rx.ext e2, ry, e3, z, rfl, ?_⟩
  cases z with
  | false => exact fin _ _ _ _ (q3.here r2)
  | true =>
    refine ⟨W2, g, h2, wp, n, (m.ext e1 r1).ext e2 r2, q3.bind.imp fun v3 h3 W3 H3 e4 r3 q4 y3 ry3 => ?_⟩
    obtain ⟨z, e5, q5⟩ := q4.ofO
    exact ⟨W3, h3, v2, v3, z, r3, ry.ext e4, ry3, e5, fin _ _ _ _ (q5.here r3)⟩
theorem r_chnv (k : Gd G d N sc X) {o1 o2 : CmpOp} {a b c : Expr} {ca cb cc : E} {pos : Pos} (hm : noSet c = true) (ha : PE X a (tO G d ca)) (hb : PE X b (tO G d cb)) (hc : PE X c (tO G d cc)) : PE X (.Compare a [o1, o2] [b, c] pos) (tE G d (.chn (cmpOf o1) (cmpOf o2) ca cb cc)) :=
  (pe_chain (op_cmp k o1) (op_cmp k o2) ha hb hc (noSet_m o2 hm)).imp fun σ H Q t => by
    obtain ⟨W, g, h, wp, n, m, q⟩ := t.un
    exact chn_t m q fun k _ _ _ f => f _ (.bl k)
theorem r_chnt (k : Gd G d N sc X) {o1 o2 : CmpOp} {a b c : Expr} {ca cb cc : E} {pos : Pos} (hm : noSet c = true) (ha : PE X a (tO G d ca)) (hb : PE X b (tO G d cb)) (hc : PE X c (tO G d cc)) : PT X (.Compare a [o1, o2] [b, c] pos) (tT G d (.chn (cmpOf o1) (cmpOf o2) ca cb cc)) :=
  (pt_chain (op_cmp k o1) (op_cmp k o2) ha hb hc (noSet_m o2 hm)).imp fun σ H Q ⟨W, g, h, wp, n, m, q⟩ => by
    obtain ⟨n, q⟩ := un_e q
    exact chn_t m q fun k _ _ _ ⟨k', e, f⟩ => by cases e; exact ⟨k, rfl, f⟩
theorem r_not {a : Expr} {c : E} {pos : Pos} (ha : PE X a (tE G d c)) : PE X (.UnaryOp .Not a pos) (tE G d (.not c)) :=
  (pe_not ha).imp fun σ H Q t => by
    obtain ⟨W, g, h, wp, n, m, q⟩ := t.un
    have q : okR G wp W H (((ev G.pg n).e wp d c g h).bind fun v h1 => R.tst v (.ok (.bl false) h1) (.ok (.bl true) h1)) (VP G Q) := q
    refine ⟨W, g, h, wp, n, m, q.bind.imp fun v h1 W1 H1 e1 r1 q1 x rx => ?_⟩
    obtain ⟨b, rfl, q2⟩ := q1.tst
    cases rx
    refine ⟨b, rfl, ?_⟩
    cases b <;> exact q2.here r1 _ (.bl _)
theorem r_nott {a : Expr} {c : E} {pos : Pos} (ha : PT X a (tT G d c)) : PT X (.UnaryOp .Not a pos) (tT G d (.not c)) :=
  (pt_not ha).imp fun σ H Q ⟨W, g, h, wp, n, m, q⟩ => by
    obtain ⟨n, q⟩ := un_e q
    have q : okR G wp W H (((ev G.pg n).e wp d c g h).bind fun v h1 => R.tst v (.ok (.bl false) h1) (.ok (.bl true) h1)) (BP Q) := q
    refine ⟨W, g, h, wp, n, m, q.bind.imp fun v h1 W1 H1 e1 r1 q1 => ?_⟩
    obtain ⟨b, rfl, q2⟩ := q1.tst
    refine ⟨b, rfl, ?_⟩
    cases b <;> (obtain ⟨k, e, f⟩ := q2.here r1; cases e; exact f)
theorem r_and {a b : Expr} {rest : List Expr} {ca cb : E} {pos : Pos} (ha : PE X a (tE G d ca)) (hb : PE X (.BoolOp .And (b :: rest) pos) (tE G d cb)) : PE X (.BoolOp .And (a :: b :: rest) pos) (tE G d (.and ca cb)) :=
  (pe_and ha hb).imp fun σ H Q t => by
    obtain ⟨W, g, h, wp, n, m, q⟩ := t.un
    have q : okR G wp W H (((ev G.pg n).e wp d ca g h).bind fun v h1 => R.tst v ((ev G.pg n).e wp d cb g h1) (.ok (.bl false) h1)) (VP G Q) := q
    refine ⟨W, g, h, wp, n, m, q.bind.imp fun v h1 W1 H1 e1 r1 q1 x rx => ?_⟩
    obtain ⟨b, rfl, q2⟩ := q1.tst
    cases rx
    refine ⟨b, rfl, ?_⟩
    cases b
    · exact q2.here r1 _ (.bl _)
    · exact ⟨W1, g, h1, wp, n, m.ext e1 r1, q2⟩
theorem r_or {a b : Expr} {rest : List Expr} {ca cb : E} {pos : Pos} (ha : PE X a (tE G d ca)) (hb : PE X (.BoolOp .Or (b :: rest) pos) (tE G d cb)) : PE X (.BoolOp .Or (a :: b :: rest) pos) (tE G d (.or ca cb)) :=
  (pe_or ha hb).imp fun σ H Q t => by
    obtain ⟨W, g, h, wp, n, m, q⟩ := t.un
    have q : okR G wp W H (((ev G.pg n).e wp d ca g h).bind fun v h1 => R.tst v (.ok (.bl true) h1) ((ev G.pg n).e wp d cb g h1)) (VP G Q) := q
    refine ⟨W, g, h, wp, n, m, q.bind.imp fun v h1 W1 H1 e1 r1 q1 x rx => ?_⟩
    obtain ⟨b, rfl, q2⟩ := q1.tst
    cases rx
    refine ⟨b, rfl, ?_⟩
    cases b
    · exact ⟨W1, g, h1, wp, n, m.ext e1 r1, q2⟩
    · exact q2.here r1 _ (.bl _)
theorem r_andt {a b : Expr} {rest : List Expr} {ca cb : E} {pos : Pos} (ha : PT X a (tT G d ca)) (hb : PW X (.BoolOp .And (b :: rest) pos) (tT G d cb)) : PW X (.BoolOp .And (a :: b :: rest) pos) (tT G d (.and ca cb)) :=
  (pw_and ha hb).imp fun σ H Q ⟨W, g, h, wp, n, m, q⟩ => by
    obtain ⟨n, q⟩ := un_e q
    have q : okR G wp W H (((ev G.pg n).e wp d ca g h).bind fun v h1 => R.tst v ((ev G.pg n).e wp d cb g h1) (.ok (.bl false) h1)) (BP Q) := q
    refine ⟨W, g, h, wp, n, m, q.bind.imp fun v h1 W1 H1 e1 r1 q1 => ?_⟩
    obtain ⟨b, rfl, q2⟩ := q1.tst
    refine ⟨b, rfl, ?_⟩
    cases b
    · obtain ⟨k, e, f⟩ := q2.here r1; cases e; exact f
    · exact ⟨W1, g, h1, wp, n, m.ext e1 r1, q2⟩
theorem r_ort {a b : Expr} {rest : List Expr} {ca cb : E} {pos : Pos} (ha : PT X a (tT G d ca)) (hb : PW X (.BoolOp .Or (b :: rest) pos) (tT G d cb)) : PW X (.BoolOp .Or (a :: b :: rest) pos) (tT G d (.or ca cb)) :=
  (pw_or ha hb).imp fun σ H Q ⟨W, g, h, wp, n, m, q⟩ => by
    obtain ⟨n, q⟩ := un_e q
    have q : okR G wp W H (((ev G.pg n).e wp d ca g h).bind fun v h1 => R.tst v (.ok (.bl true) h1) ((ev G.pg n).e wp d cb g h1)) (BP Q) := q
    refine ⟨W, g, h, wp, n, m, q.bind.imp fun v h1 W1 H1 e1 r1 q1 => ?_⟩
    obtain ⟨b, rfl, q2⟩ := q1.tst
    refine ⟨b, rfl, ?_⟩
    cases b
    · exact ⟨W1, g, h1, wp, n, m.ext e1 r1, q2⟩
    · obtain ⟨k, e, f⟩ := q2.here r1; cases e; exact f
theorem r_ite {c a b : Expr} {cc ca cb : E} {pos : Pos} (hc : PT X c (tT G d cc)) (ha : PE X a (tE G d ca)) (hb : PE X b (tE G d cb)) : PE X (.IfExp c a b pos) (tE G d (.ite cc ca cb)) :=
  (pe_ifExp hc ha hb).imp fun σ H Q t => by
    obtain ⟨W, g, h, wp, n, m, q⟩ := t.un
    have q : okR G wp W H (((ev G.pg n).e wp d cc g h).bind fun v h1 => R.tst v ((ev G.pg n).e wp d ca g h1) ((ev G.pg n).e wp d cb g h1)) (VP G Q) := q
    refine ⟨W, g, h, wp, n, m, q.bind.imp fun v h1 W1 H1 e1 r1 q1 => ?_⟩
    obtain ⟨b, rfl, q2⟩ := q1.tst
    refine ⟨b, rfl, ?_⟩
    cases b <;> exact ⟨W1, g, h1, wp, n, m.ext e1 r1, q2⟩
theorem r_sub (k : Gd G d N sc X) {a b : Expr} {ca cb : E} {pos : Pos} (hs : noSl b = true) (ha : PE X a (tO G d ca)) (hb : PE X b (tE G d cb)) : PE X (.Subscript a b pos) (tE G d (.sub ca cb)) :=
  (pe_ix (ix_item k) ha (e_o hb) (noSl_ix hs)).imp fun σ H Q t => by
    obtain ⟨W, g, h, wp, n, m, q⟩ := t.un
    have q : okR G wp W H (((ev G.pg n).e wp d ca g h).bind fun x h1 => ((ev G.pg n).e wp d cb g h1).bind fun y h2 => ofO (item h2 x y) h2) (VP G Q) := q
    refine ⟨W, g, h, wp, n, m, q.bind.imp fun v1 h1 W1 H1 e1 r1 q1 x rx => ⟨W1, g, h1, wp, n, m.ext e1 r1, q1.bind.imp fun v2 h2 W2 H2 e2 r2 q2 y ry => ?_⟩⟩
    obtain ⟨z, e3, q3⟩ := q2.ofO
    exact ⟨W2, h2, v1, v2, z, r2, rx.ext e2, ry, e3, fun v rv => q3.here r2 v rv⟩
end
end Hc

set_option maxHeartbeats 4000000
/-! Slices, calls, fields, built-in functions. -/
namespace Hc
open PySem PySem.Spec PyProof.Rows L2
section
variable {G : GE} {T : Tab} {d : Nat} {N : List Str} {sc : Scope} {X : Cx} {rec : Scope → E → Expr → Bool}
/-! slices -/
theorem cut_eq (n : Nat) (i : Int) (dd : Nat) : cut n i = HT.sIx n dd (some i) := by
  cases i with
  | ofNat k =>
    show (if Nat.ble k n = true then k else n) = (if ((k : Nat) : Int) < 0 then (((k : Nat) : Int) + (n : Int)).toNat else min ((k : Nat) : Int).toNat n)
    rw [if_neg (Int.not_lt.mpr (Int.natCast_nonneg k))]
    simp only [Int.ofNat_eq_natCast, Int.toNat_natCast]
    by_cases h : k ≤ n
    · rw [if_pos (Nat.ble_eq_true_of_le h)]; omega
    · rw [if_neg (fun z => h (Nat.le_of_ble_eq_true z))]; omega
  | negSucc k =>
    show (if Nat.ble (k + 1) n = true then n - (k + 1) else 0) = (if (Int.negSucc k) < 0 then ((Int.negSucc k) + (n : Int)).toNat else min (Int.negSucc k).toNat n)
    rw [if_pos (Int.negSucc_lt_zero k)]
    by_cases h : k + 1 ≤ n
    · rw [if_pos (Nat.ble_eq_true_of_le h)]; omega
    · rw [if_neg (fun z => h (Nat.le_of_ble_eq_true z))]; omega
theorem cut_none (n dd : Nat) : HT.sIx n dd none = dd := rfl
theorem slice_rv {W H} {l : List PV} {xs : List V} (r : RVs G W H l xs) (lo hi : Option Int) : RVs G W H (slice l lo hi) (cutV xs lo hi) := by
  have hl := r.length
  cases lo with
  | none => cases hi with
    | none =>
      show RVs G W H ((l.drop 0).take (l.length - 0)) ((xs.drop 0).take (xs.length - 0))
      rw [hl]; exact (r.drop _).take _
    | some j =>
      show RVs G W H ((l.drop 0).take (cut l.length j - 0)) ((xs.drop 0).take (HT.sIx xs.length xs.length (some j) - 0))
      rw [cut_eq _ _ xs.length, hl]; exact (r.drop _).take _
  | some i => cases hi with
    | none =>
      show RVs G W H ((l.drop (cut l.length i)).take (l.length - cut l.length i)) ((xs.drop (HT.sIx xs.length 0 (some i))).take (xs.length - HT.sIx xs.length 0 (some i)))
      rw [cut_eq _ _ 0, hl]; exact (r.drop _).take _
    | some j =>
      show RVs G W H ((l.drop (cut l.length i)).take (cut l.length j - cut l.length i)) ((xs.drop (HT.sIx xs.length 0 (some i))).take (HT.sIx xs.length xs.length (some j) - HT.sIx xs.length 0 (some i)))
      rw [cut_eq _ i 0, cut_eq _ j xs.length, hl]; exact (r.drop _).take _
def rCut (G : GE) : V → Option Int → Option Int → Hp → VK → Prop := fun x lo hi H Q => ∃ W h wp a z, HR G W h H ∧ RT G W H a x ∧ cutv a lo hi = some z ∧ okR G wp W H (.ok z h) (VP G Q)
theorem inv_cut {a z lo hi} (e : cutv a lo hi = some z) : (∃ l, a = .tup l ∧ z = .tup (slice l lo hi)) ∨ ∃ l, a = .lst l ∧ z = .lst (slice l lo hi) := by
  cases a <;> first | (exact nomatch (show (none : Option PV) = some z from e)) | (cases e; exact .inl ⟨_, rfl, rfl⟩) | (cases e; exact .inr ⟨_, rfl, rfl⟩)
theorem sl_cut (k : Gd G d N sc X) : SlR X (rCut G) := by
  intro pins s σ H x v vl vu lo hi sl Q I rx hs pl pu h
  obtain ⟨W, h, wp, a, z, r, ta, e, q⟩ := h
  rcases inv_cut e with ⟨l, rfl, rfl⟩ | ⟨l, rfl, rfl⟩
  · obtain ⟨p, xs, rfl, h1, r1⟩ := ta.tup
    refine sl_tupA pins s σ H _ v vl vu lo hi sl Q I rx hs pl pu ⟨p, xs, rfl, by rw [k.K]; exact h1, fun hw => ?_, fun _ p hp => ?_⟩
    · have e : cutV xs lo hi = xs := by unfold cutV; rw [hw.1, hw.2]; simp
      have := slice_rv r1 lo hi
      rw [e] at this
      exact q.here r _ (.tup h1 this)
    · obtain ⟨t1, t2, t3⟩ := new_tup r hp (slice_rv r1 lo hi)
      exact q.at (t1 _) t2 _ t3
  · obtain ⟨p, xs, rfl, h1, r1⟩ := ta.lst
    refine sl_list pins s σ H _ v vl vu lo hi sl Q I rx hs pl pu ⟨p, xs, rfl, by rw [k.K]; exact h1, fun p hp => ?_⟩
    obtain ⟨t1, t2, t3⟩ := new_lst r hp (slice_rv r1 lo hi)
    exact q.at (t1 _) t2 _ t3
abbrev OP (Q : Option Int → Hp → Prop) : Option Int → HP → Wd → Hp → Prop := fun o _ _ H' => Q o H'
def tPO (G : GE) (d : Nat) (c : E) : TO := fun σ H Q => ∃ W g h wp n, Mo G W g h σ H ∧ okR G wp W H (part (fun e h => (ev G.pg n).e wp d e g h) c h) (OP Q)
theorem _root_.L2.PO.imp {X : Cx} {e : Option Expr} {t t' : TO} (p : PO X e t) (f : ∀ σ H Q, t' σ H Q → t σ H Q) : PO X e t' := ⟨fun pins s σ H Q I h => p.run pins s σ H Q I (f σ H Q h)⟩
def ckP (rec : Scope → E → Expr → Bool) (sc : Scope) (c : E) (e : Option Expr) : Bool := match e with
  | none => (match c with
    | .cst .non => true
    | _ => false)
  | some e => (match c with
    | .cst .non => false
    | c => rec sc c e)
theorem ckP_ok (s : Snd G d N rec) {c : E} {e : Option Expr} (h : ckP rec sc c e = true) (k : Gd G d N sc X) : PO X e (tPO G d c) := by
  unfold ckP at h
  split at h
  · split at h
    · exact po_none.imp fun σ H Q ⟨W, g, h, wp, n, m, q⟩ => (show okR G wp W H (.ok none h) (OP Q) from q).here m.hr
    · cases h
  · split at h
    · cases h
    · rename_i hn
      exact (po_some (s sc _ _ h X k)).imp fun σ H Q ⟨W, g, h, wp, n, m, q⟩ => by
        have q : okR G wp W H (((ev G.pg n).e wp d c g h).bind fun v h1 => match v with | .int i => .ok (some i) h1 | _ => .no) (OP Q) := by
          unfold part at q
          split at q
          · exact (hn rfl).elim
          · exact q
        refine ⟨W, g, h, wp, n, m, q.bind.imp fun v h' W' H' _ r1 q1 x rx => ?_⟩
        cases v with
        | int i => cases rx; exact ⟨i, rfl, q1.here r1⟩
        | _ => exact q1.elim
theorem r_slc (k : Gd G d N sc X) {a : Expr} {lo hi : Option Expr} {ca cl ch : E} {p2 pos : Pos} (ha : PE X a (tO G d ca)) (hl : PO X lo (tPO G d cl)) (hh : PO X hi (tPO G d ch)) : PE X (.Subscript a (.Slice lo hi none p2) pos) (tE G d (.slc ca cl ch)) :=
  (pe_slice (sl_cut k) ha hl hh).imp fun σ H Q t => by
    obtain ⟨W, g, h, wp, n, m, q⟩ := t.un
    have q : okR G wp W H (((ev G.pg n).e wp d ca g h).bind fun x h1 => (part (fun e h => (ev G.pg n).e wp d e g h) cl h1).bind fun y h2 => (part (fun e h => (ev G.pg n).e wp d e g h) ch h2).bind fun z h3 => ofO (cutv x y z) h3) (VP G Q) := q
    refine ⟨W, g, h, wp, n, m, q.bind.imp fun v1 h1 W1 H1 e1 r1 q1 x rx => ⟨W1, g, h1, wp, n, m.ext e1 r1, q1.bind.imp fun l h2 W2 H2 e2 r2 q2 => ⟨W2, g, h2, wp, n, (m.ext e1 r1).ext e2 r2, q2.bind.imp fun u h3 W3 H3 e3 r3 q3 => ?_⟩⟩⟩
    obtain ⟨z, e4, q4⟩ := q3.ofO
    exact ⟨W3, h3, wp, v1, z, r3, (rx.ext e2).ext e3, e4, q4⟩

/-! calls of the program's own -/
def spF (G : GE) (d : Nat) (f : Nat) : Sp := fun vs H Q _ => ∃ W h wp ps n fn, G.pg.fn f = some fn ∧ HR G W h H ∧ RVs G W H ps vs ∧ ps.length = fn.ps ∧ okR G wp W H ((ev G.pg n).f wp d f ps h) (VP G Q)
/-- the program's defs do what the little language says, at calls so deep -/
def FS (G : GE) (d : Nat) : Prop := ∀ f, (G.pg.fn f).isSome = true → ∃ fd pss, FnOk G.prog G.w G.K G.mg G.base CX0 d (G.fad f) fd pss (spF G d f) ∧ Binds G.K fd pss []
theorem fn_at (k : Gd G d N sc X) {e : Nat} (F : FS G e) {f : Nat} (hf : (G.pg.fn f).isSome = true) : ∃ fd pss, FnOk X.prog X.w X.K X.mg X.base CX0 e (G.fad f) fd pss (spF G e f) ∧ Binds X.K fd pss [] := by
  rw [k.prog, k.w, k.K, k.mg, k.base]; exact F f hf
theorem call_sp {f n wp : Nat} {vs : List PV} {xs : List V} {h : HP} {W H} {Q : VK} {E : XK} (r : HR G W h H) (rs : RVs G W H vs xs) (q : okR G wp W H ((ev G.pg n).f wp d f vs h) (VP G Q)) : spF G d f xs H Q E := by
  cases n with
  | zero => exact q.elim
  | succ n =>
    have q0 := q
    cases d with
    | zero => exact q.elim
    | succ d1 =>
      obtain ⟨fn, e, q⟩ := (show okR G wp W H (R.ofO (G.pg.fn f) fun fn => if Nat.beq vs.length fn.ps = true then _ else .no) (VP G Q) from q).ofO
      refine ⟨W, h, wp, vs, n + 1, fn, e, r, rs, ?_, q0⟩
      exact Nat.eq_of_beq_eq_true q.cond.1
theorem r_call (F : GF G T) (k : Gd G d N sc X) (fs : FS G d) {f : Nat} {x : Str} {e : Expr} {es : List Expr} {cs : List E} {p pos : Pos} (h1 : T.fn x = some f) (h2 : glB sc x = true) (h3 : plainName x = true) (h4 : (e :: es).all noStar = true) (ha : PA X (e :: es) (tA G d cs)) : PE X (.Call (.Name x p) (e :: es) [] pos) (tE G d (.call f cs)) := by
  obtain ⟨fd, pss, fo, bi⟩ := fn_at k fs (F.fx x f h1)
  obtain ⟨m1, m2⟩ := F.fn x f h1
  simp only [List.all_cons, Bool.and_eq_true] at h4
  refine (pe_call fo k.room (gl_of k h2) (by rw [k.mg]; exact m1) (by rw [k.K]; exact m2) bi .nil pass0 ha (plain_of h3).1 (noStar_e h4.1) (noStars h4.2)).imp fun σ H Q t => ?_
  obtain ⟨W, g, h, wp, n, m, q⟩ := t.un
  have q : okR G wp W H ((evs' G n wp d g cs h).bind fun vs h1 => (ev G.pg n).f wp d f vs h1) (VP G Q) := q
  exact ⟨W, g, h, wp, n, m, q.bind.imp fun vs h1 W1 H1 e1 r1 q1 xs rs => by
    show spF G d f (xs ++ []) H1 Q E0
    rw [List.append_nil]; exact call_sp r1 rs q1⟩
theorem r_call0 (F : GF G T) (k : Gd G d N sc X) (fs : FS G d) {f : Nat} {x : Str} {p pos : Pos} (h1 : T.fn x = some f) (h2 : glB sc x = true) (h3 : plainName x = true) : PE X (.Call (.Name x p) [] [] pos) (tE G d (.call f [])) := by
  obtain ⟨fd, pss, fo, bi⟩ := fn_at k fs (F.fx x f h1)
  obtain ⟨m1, m2⟩ := F.fn x f h1
  refine (pe_call0 fo k.room (gl_of k h2) (by rw [k.mg]; exact m1) (by rw [k.K]; exact m2) bi .nil pass0 (plain_of h3).1).imp fun σ H Q t => ?_
  obtain ⟨W, g, h, wp, n, m, q⟩ := t.un
  exact call_sp (E := E0) m.hr .nil (show okR G wp W H ((ev G.pg n).f wp d f [] h) (VP G Q) from q)
theorem meth_eq {o : Expr} {m : Str} {es : List Expr} {apos pos : Pos} {env : Env} (hb : attributeBase o m env (eval o env) = eval o env) (hf : methodCallForm (es.length + ([] : List Keyword).length) (backTo pos (starEach es env)) (backToKw pos (keywordEach [] env)) = true) (hl : (apos.endLine == pos.line) = true) :
    eval (.Call (.Attribute o m apos) es [] pos) env = (do
      let ov ← eval o env
      standAt apos.atName
      let (f, first) ← holding [ov] (getMethod ov m (do return (← importBound o env).getD true))
      callWith pos f first (backTo pos (starEach es env)) (backToKw pos (keywordEach [] env))) := by
  show (do
    let ov ← attributeBase o m env (eval o env)
    standAt apos.atName
    methodCall o m apos pos env ov (es.length + ([] : List Keyword).length) (backTo pos (starEach es env)) (backToKw pos (keywordEach [] env))) = _
  rw [hb]
  unfold methodCall calleeOf methodCallPos
  rw [hf, hl]
  rfl
theorem form_of {pos : Pos} {env : Env} {es : List Expr} (h : es.all noStar = true) (hl : es.length < 30) : methodCallForm (es.length + ([] : List Keyword).length) (backTo pos (starEach es env)) (backToKw pos (keywordEach [] env)) = true := by
  unfold methodCallForm
  have h1 : (backTo pos (starEach es env)).all (fun x => !x.1) = true := by
    have := noStars (pos := pos) (env := env) h
    rw [List.any_eq_false] at this
    rw [List.all_eq_true]
    intro x hx
    have := this x hx
    simpa using this
  rw [h1]
  simp [backToKw, keywordEach, hl]
theorem look_nm (F : GF G T) {W H} {fs : List (Nat × PV)} {xs : List (Str × V)} (r : RF G W H fs xs) (f : Nat) : match fget fs f with
    | some v => ∃ x, xs.lookup (G.nm f) = some x ∧ RV G W H v x
    | none => xs.lookup (G.nm f) = none := by
  induction r with
  | nil => rfl
  | @cons g v fs x xs rv r ih =>
    simp only [fget, List.lookup_cons]
    by_cases e : g = f
    · subst e
      simp only [beq_self_eq_true, if_true]
      exact ⟨x, rfl, rv⟩
    · have e2 : (G.nm f == G.nm g) = false := beq_eq_false_iff_ne.mpr fun z => e (F.inj _ _ z).symm
      rw [beq_eq_false_iff_ne.mpr e, e2]
      exact ih
theorem r_fld (F : GF G T) (k : Gd G d N sc X) {f : Nat} {x : Str} {o : Expr} {c : E} {pos : Pos} (h1 : T.fld x = some f) (h2 : T.nofld f = true) (h3 : noCall0 o = true) (ho : PE X o (tE G d c)) : PE X (.Attribute o x pos) (tE G d (.fld f c)) := by
  refine (pe_fld ho (noCall_b h3)).imp fun σ H Q t => ?_
  obtain ⟨W, g, h, wp, n, m, q⟩ := t.un
  have q : okR G wp W H (((ev G.pg n).e wp d c g h).bind fun x h1 => match x with
    | .obj n => match nth h1 n with
      | some (.ins _ fs) => ofO (fget fs f) h1
      | _ => .no
    | _ => .no) (VP G Q) := q
  refine ⟨W, g, h, wp, n, m, q.bind.imp fun v1 h1' W1 H1 e1 r1 q1 y ry => ?_⟩
  split at q1
  · split at q1
    · rename_i n1 c1 fs e2
      obtain ⟨v, e3, q2⟩ := q1.ofO
      obtain ⟨a, rfl, _, e5⟩ := r1.at (.v ry) e2
      cases e5 with
      | ins ic e6 _ rf =>
        have lk := look_nm F rf f
        rw [e3] at lk
        obtain ⟨x', l1, l2⟩ := lk
        obtain ⟨c2, c3⟩ := F.ic c1 ic
        rw [F.fld x f h1] at l1
        have c3 := c3 f h2
        rw [F.fld x f h1] at c3
        exact ⟨a, _, _, _, x', rfl, e6, by rw [k.K]; exact c2, by rw [k.K]; exact c3, l1, q2.here r1 x' l2⟩
    · exact q1.elim
  · exact q1.elim
theorem r_meth (F : GF G T) (k : Gd G d N sc X) (fs : FS G d) {mm : Nat} {x : Str} {o : Expr} {es : List Expr} {c : E} {cs : List E} {apos pos : Pos} (h1 : T.fld x = some mm) (h3 : noCall0 o = true) (h4 : es.all noStar = true) (h5 : es.length < 30) (h6 : (apos.endLine == pos.line) = true)
    (h7 : cs.length = es.length) (ho : PE X o (tE G d c)) (ha : PA X es (tA G d cs)) : PE X (.Call (.Attribute o x apos) es [] pos) (tE G d (.meth mm c cs)) := by
  refine ⟨fun pins s σ H Q I t => ?_⟩
  obtain ⟨W, g, h, wp, n, m, q⟩ := t.un
  have q : okR G wp W H (((ev G.pg n).e wp d c g h).bind fun x h1 => match x with
    | .obj n1 => match nth h1 n1 with
      | some (.ins c fs) => if (fget fs mm).isSome then .no else R.ofO (G.pg.mt c mm) fun f => (evs' G n wp d g cs h1).bind fun vs h2 => (ev G.pg n).f wp d f (.obj n1 :: vs) h2
      | _ => .no
    | _ => .no) (VP G Q) := q
  have qq := q
  revert q
  cases hr : (ev G.pg n).e wp d c g h with
  | ok v h1' =>
    intro q
    have q : okR G wp W H (match v with
      | .obj n1 => match nth h1' n1 with
        | some (.ins c fs) => if (fget fs mm).isSome then .no else R.ofO (G.pg.mt c mm) fun f => (evs' G n wp d g cs h1').bind fun vs h2 => (ev G.pg n).f wp d f (.obj n1 :: vs) h2
        | _ => .no
      | _ => .no) (VP G Q) := q
    cases v with
    | obj n1 =>
      have q : okR G wp W H (match nth h1' n1 with
        | some (.ins c fs) => if (fget fs mm).isSome then .no else R.ofO (G.pg.mt c mm) fun f => (evs' G n wp d g cs h1').bind fun vs h2 => (ev G.pg n).f wp d f (.obj n1 :: vs) h2
        | _ => .no) (VP G Q) := q
      revert q
      cases e2 : nth h1' n1 with
      | none => exact fun q => q.elim
      | some io => cases io with
       | lst _ => exact fun q => q.elim
       | dct _ => exact fun q => q.elim
       | ins c1 fs1 =>
        intro q
        have q : okR G wp W H (if (fget fs1 mm).isSome then .no else R.ofO (G.pg.mt c1 mm) fun f => (evs' G n wp d g cs h1').bind fun vs h2 => (ev G.pg n).f wp d f (.obj n1 :: vs) h2) (VP G Q) := q
        cases e3 : (fget fs1 mm).isSome with
        | true => rw [e3] at q; exact q.elim
        | false =>
          rw [e3] at q
          obtain ⟨f, e4, q⟩ := (show okR G wp W H (R.ofO (G.pg.mt c1 mm) fun f => (evs' G n wp d g cs h1').bind fun vs h2 => (ev G.pg n).f wp d f (.obj n1 :: vs) h2) (VP G Q) from q).ofO
          obtain ⟨m0, m1, m2⟩ := F.mt c1 mm f e4
          rw [F.fld x mm h1] at m1
          obtain ⟨fd, pss, fo, bi⟩ := fn_at k fs m2
          have key : tMeth (G.cad c1) x (spF G d f) [] E0 (tE G d c) (tA G d cs) σ H Q := by
            refine ⟨W, g, h, wp, n, m, ?_⟩
            rw [hr]
            intro W1 H1 e5 r1 y ry
            obtain ⟨a, rfl, _, e6⟩ := r1.at (.v ry) e2
            cases e6 with
            | ins ic e7 _ rf =>
              have lk := look_nm F rf mm
              have en : fget fs1 mm = none := Option.not_isSome_iff_eq_none.mp (by rw [e3]; exact Bool.false_ne_true)
              rw [en] at lk
              rw [F.fld x mm h1] at lk
              refine ⟨a, _, _, rfl, e7, lk, W1, g, h1', wp, n, m.ext e5 r1, ?_⟩
              have q2 : okR G wp W1 H1 ((evs' G n wp d g cs h1').bind fun vs h2 => (ev G.pg n).f wp d f (.obj n1 :: vs) h2) (VP G Q) := by
                revert q
                generalize ((evs' G n wp d g cs h1').bind fun vs h2 => (ev G.pg n).f wp d f (.obj n1 :: vs) h2) = z
                intro q
                cases z with
                | ok b h2 => exact fun W2 H2 e7 r2 => q W2 H2 (e5.trans e7) r2
                | _ => exact q
              exact q2.bind.imp fun vs h2 W2 H2 e8 r2 q3 xs rs => by
                show spF G d f (V.ref a :: (xs ++ [])) H2 Q E0
                rw [List.append_nil]
                exact call_sp r2 (.cons (ry.stay e8.stay) rs) q3
          cases es with
          | nil =>
            have ha' : tMeth (G.cad c1) x (spF G d f) [] E0 (tE G d c) tNil σ H Q := by
              cases cs with
              | nil =>
                obtain ⟨W, g, h, wp, n, m, q⟩ := key
                exact ⟨W, g, h, wp, n, m, q.imp fun _ _ _ _ _ _ f y ry => by
                  obtain ⟨a, dx, fs, e1, e2, e3, W2, g2, h2, wp2, n2, m2, q2⟩ := f y ry
                  exact ⟨a, dx, fs, e1, e2, e3, (show okR G wp2 W2 _ (.ok [] h2) _ from q2).here m2.hr [] .nil⟩⟩
              | cons _ _ => cases h7
            exact (pe_meth0 (pl := do return (← importBound o X.env).getD true) ho (by rw [k.K]; exact m0) (by rw [k.K]; exact m1) fo k.room bi .nil pass0 (meth_eq (noCall_b h3) (form_of h4 h5) h6)).run pins s σ H Q I ha'
          | cons e es =>
            simp only [List.all_cons, Bool.and_eq_true] at h4
            exact (pe_meth (pl := do return (← importBound o X.env).getD true) ho (by rw [k.K]; exact m0) (by rw [k.K]; exact m1) fo k.room bi .nil pass0 ha (noStar_e h4.1) (noStars h4.2) (meth_eq (noCall_b h3) (form_of (by simp only [List.all_cons, Bool.and_eq_true]; exact h4) h5) h6)).run pins s σ H Q I key
    | _ => exact q.elim
  | ex a b c => intro q; exact q.elim
  | no => intro q; exact q.elim
end
end Hc

set_option maxHeartbeats 4000000
/-! Targets, what is walked over, comprehensions. -/
namespace Hc
open PySem PySem.Spec PyProof.Rows L2
section
variable {G : GE} {T : Tab} {d : Nat} {N : List Str} {sc : Scope} {X : Cx} {rec : Scope → E → Expr → Bool}
theorem okR.move {α} {r : R α} {wp W H W' H'} {Φ : α → HP → Wd → Hp → Prop} (q : okR G wp W H r Φ) (e : Ext G wp W H W' H') : okR G wp W' H' r Φ := by
  cases r with
  | ok b h2 => exact fun W2 H2 e2 r2 => q W2 H2 (e.trans e2) r2
  | _ => exact q
/-! an object of the frame's own changes -/
def Mv : HO → Prop
  | .lst _ => True
  | .dK _ => True
  | .ext _ => True
  | .ins _ _ _ => True
  | _ => False
theorem Mv.noTup {H : Hp} {D : Addr} {u : HO} (h : H D = some u) (m : Mv u) : ∀ z, ¬ Rd H D (.tup z) := by
  intro z r
  rcases r with r | ⟨o, r⟩ <;> (rw [h] at r; cases r; exact m)
theorem put_stay {W : Wd} {H : Hp} {D : Addr} {u o : HO} (h : H D = some u) (m : Mv u) (i : ¬ W.I D) : Stay G W H W (L2.upd H D o) where
  mp := fun _ _ h => h
  ii := fun _ h => h
  tp := fun a z r => by
    by_cases e : a = D
    · subst e; exact (m.noTup h z r).elim
    · rcases r with r | ⟨q, r⟩
      · exact .inl (by rw [upd_ne e]; exact r)
      · exact .inr ⟨q, by rw [upd_ne e]; exact r⟩
  im := fun a z ia e => by
    by_cases e2 : a = D
    · subst e2; exact (i ia).elim
    · rw [upd_ne e2]; exact e
theorem put_hr {W : Wd} {hp : HP} {H : Hp} {D : Addr} {u o : HO} (r : HR G W hp H) (h : H D = some u) (m : Mv u) (i : ¬ W.I D) (nm : D ∉ W.m) : HR G W hp (L2.upd H D o) where
  len := r.len
  nd := r.nd
  ob := fun n io a e1 e2 => (r.ob n io a e1 e2).stay (put_stay h m i) fun b v q e => by
    by_cases e3 : b = D
    · subst e3
      rcases q with q | q
      · subst q; exact (nm (List.mem_of_getElem? e2)).elim
      · rw [h] at q; cases q; exact m.elim
    · rw [upd_ne e3]; exact e
  dj := r.dj
  it := fun a ia => by
    by_cases e : a = D
    · subst e; exact (i ia).elim
    · rw [upd_ne e]; exact r.it a ia
theorem put_ext {wp : Nat} {W0 W : Wd} {H0 H : Hp} {D : Addr} {o : HO} (e : Ext G wp W0 H0 W H) (h : H0 D = none) : Ext G wp W0 H0 W (L2.upd H D o) where
  mp := e.mp
  ii := e.ii
  inew := e.inew
  mnew := e.mnew
  fr := fun a u ha k => by
    have : a ≠ D := fun z => by subst z; rw [h] at ha; cases ha
    rw [upd_ne this]; exact e.fr a u ha k
  tr := fun a ha => by
    have : a ≠ D := fun z => by subst z; exact ha h
    rw [upd_ne this]; exact e.tr a ha
  tp := fun a u r => by
    have : a ≠ D := fun z => by subst z; rcases r with r | ⟨_, r⟩ <;> (rw [h] at r; cases r)
    rcases e.tp a u r with r | ⟨q, r⟩
    · exact .inl (by rw [upd_ne this]; exact r)
    · exact .inr ⟨q, by rw [upd_ne this]; exact r⟩
  im := fun a u i ha => by
    have : a ≠ D := fun z => by subst z; rw [h] at ha; cases ha
    rw [upd_ne this]; exact e.im a u i ha
  nd := e.nd
/-- an object is nobody's from here on -/
theorem give_ext {wp : Nat} {W0 W : Wd} {H0 H : Hp} {D : Addr} (e : Ext G wp W0 H0 W H) (h : H0 D = none) : Ext G wp W0 H0 (W.more D) H where
  mp := e.mp
  ii := fun a i => .inl (e.ii a i)
  inew := fun a i => by
    rcases i with i | rfl
    · exact e.inew a i
    · exact .inr h
  mnew := e.mnew
  fr := e.fr
  tr := e.tr
  tp := e.tp
  im := e.im
  nd := e.nd
theorem give_stay {W : Wd} {H : Hp} {D : Addr} : Stay G W H (W.more D) H := ⟨fun _ _ h => h, fun _ h => .inl h, fun _ _ h => h, fun _ _ _ h => h⟩
theorem give_hr {W : Wd} {hp : HP} {H : Hp} {D : Addr} (r : HR G W hp H) (nm : D ∉ W.m) (h : H D ≠ none) : HR G (W.more D) hp H where
  len := r.len
  nd := r.nd
  ob := fun n io a e1 e2 => (r.ob n io a e1 e2).stay give_stay fun _ _ _ e => e
  dj := fun a i => by
    rcases i with i | rfl
    · exact r.dj a i
    · exact nm
  it := fun a i => by
    rcases i with i | rfl
    · exact r.it a i
    · exact h

/-! targets -/
def cellB (sc : Scope) (x : Str) : Bool := match sc.names.lookup x with
  | some .cell => true
  | _ => false
mutual
def tslots : Hc.T → List Nat
  | .nm i => [i]
  | .tp l => tsl l
def tsl : List Hc.T → List Nat
  | [] => []
  | t :: ts => tslots t ++ tsl ts
end
/-- the slots differ only there -/
def Off (l : List Nat) (σ σ' : L2.St) : Prop := ∀ i, i ∉ l → σ'[i]? = σ[i]?
theorem SR.set {W H g σ} (s : SR G W H g σ) {i : Nat} {p : PV} {x : V} (hi : i < g.length) (r : RV G W H p x) : SR G W H (Hc.upd g i (.pv p)) (σ.set i (some x)) := by
  rw [upd_eq]
  have hj : ∀ {j : Nat} {v : SV}, (g.set i (.pv p))[j]? = some v → (j = i ∧ v = .pv p) ∨ (j ≠ i ∧ g[j]? = some v) := by
    intro j v e
    by_cases q : j = i
    · subst q; rw [List.getElem?_set_self hi] at e; cases e; exact .inl ⟨rfl, rfl⟩
    · rw [List.getElem?_set_ne (fun z => q z.symm)] at e; exact .inr ⟨q, e⟩
  have hs : ∀ {j : Nat}, j ≠ i → (σ.set i (some x))[j]? = σ[j]? := fun q => List.getElem?_set_ne (fun z => q z.symm)
  have ho : ∀ {j}, isOwn (g.set i (.pv p)) j → j ≠ i ∧ isOwn g j := by
    rintro j (⟨l, e⟩ | ⟨l, e⟩)
    · rcases hj e with ⟨_, q⟩ | ⟨q1, q2⟩
      · cases q
      · exact ⟨q1, .inl ⟨l, q2⟩⟩
    · rcases hj e with ⟨_, q⟩ | ⟨q1, q2⟩
      · cases q
      · exact ⟨q1, .inr ⟨l, q2⟩⟩
  refine ⟨by simp [s.len], fun j v e => ?_, fun j l e => ?_, fun j l e => ?_, fun j k a h1 h2 e1 e2 => ?_⟩
  · rcases hj e with ⟨q1, q2⟩ | ⟨q1, q2⟩
    · cases q2; subst q1; exact ⟨x, List.getElem?_set_self (by rw [← s.len]; exact hi), r⟩
    · rw [hs q1]; exact s.pv j v q2
  · rcases hj e with ⟨q1, q2⟩ | ⟨q1, q2⟩
    · cases q2
    · rw [hs q1]; exact s.ol j l q2
  · rcases hj e with ⟨q1, q2⟩ | ⟨q1, q2⟩
    · cases q2
    · rw [hs q1]; exact s.od j l q2
  · obtain ⟨n1, o1⟩ := ho h1
    obtain ⟨n2, o2⟩ := ho h2
    rw [hs n1] at e1; rw [hs n2] at e2
    exact s.dis j k a o1 o2 e1 e2
def gT (G : GE) (t : Hc.T) : TG := fun v σ H Q => ∃ W g p g', SR G W H g σ ∧ RV G W H p v ∧ bind1 t p g = some g' ∧ ∀ σ', SR G W H g' σ' → Off (tslots t) σ σ' → Q σ' H
def gTs (G : GE) (ts : List Hc.T) : TGs := fun vs σ H Q => ∃ W g ps g', SR G W H g σ ∧ RVs G W H ps vs ∧ bind1.bindn ts ps g = some g' ∧ ∀ σ', SR G W H g' σ' → Off (tsl ts) σ σ' → Q σ' H
mutual
def ckG (F : Str → Bool) (N : List Str) (sc : Scope) : Hc.T → Expr → Bool
  | .nm i, e => (match e with
    | .Name x _ => ixB N i x && (locB sc x || (cellB sc x && F x))
    | _ => false)
  | .tp ts, e => (match e with
    | .Tuple es _ _ => ckGs F N sc ts es
    | _ => false)
def ckGs (F : Str → Bool) (N : List Str) (sc : Scope) : List Hc.T → List Expr → Bool
  | [], [] => true
  | t :: ts, e :: es => noStar e && ckG F N sc t e && ckGs F N sc ts es
  | _, _ => false
end
theorem loc_eq {x : Str} (h : locB sc x = true) : sc.names.lookup x = some .local := by
  unfold locB at h; split at h
  · assumption
  · cases h
theorem cell_eq {x : Str} (h : cellB sc x = true) : sc.names.lookup x = some .cell := by
  unfold cellB at h; split at h
  · assumption
  · cases h
theorem noStar_a {e : Expr} {es : List Expr} {env : Env} (h : noStar e = true) : assignEach (e :: es) env = (false, assign e env) :: assignEach es env := by
  cases e <;> first | rfl | cases h
theorem ckGs_l {F : Str → Bool} {env : Env} : ∀ {ts : List Hc.T} {es : List Expr}, ckGs F N sc ts es = true → (assignEach es env).length = ts.length ∧ (assignEach es env).findIdx? (·.1) = none
  | [], [], _ => ⟨rfl, rfl⟩
  | [], _ :: _, h => by simp [ckGs] at h
  | _ :: _, [], h => by simp [ckGs] at h
  | t :: ts, e :: es, h => by
    simp only [ckGs, Bool.and_eq_true] at h
    obtain ⟨l1, l2⟩ := ckGs_l (F := F) (env := env) h.2
    rw [noStar_a h.1.1]
    refine ⟨by simp [l1], ?_⟩
    rw [List.findIdx?_cons, l2]
    rfl
theorem bindn_len : ∀ {ts : List Hc.T} {ps : List PV} {g g' : SG}, bind1.bindn ts ps g = some g' → ps.length = ts.length
  | [], [], _, _, _ => rfl
  | [], _ :: _, _, _, h => by simp [bind1.bindn] at h
  | _ :: _, [], _, _, h => by simp [bind1.bindn] at h
  | t :: ts, p :: ps, g, g', h => by
    simp only [bind1.bindn] at h
    split at h
    · simp [bindn_len h]
    · cases h
mutual
theorem ckG_ok {F : Str → Bool} (k : Gd G d N sc X) (hF : ∀ x, F x = true → X.fn x = true) : ∀ {t : Hc.T} {e : Expr}, ckG F N sc t e = true → PG X e (gT G t)
  | .nm i, e, h => by
    unfold ckG at h
    split at h
    · rename_i x pos
      simp only [Bool.and_eq_true, Bool.or_eq_true] at h
      obtain ⟨h1, h2⟩ := h
      have hi : X.N[i]? = some x := by rw [k.N]; exact of_decide_eq_true h1
      have hl : L2.Loc X.env.scope x ∧ (X.fn x = true ∨ X.env.scope.names.lookup x = some .local) := by
        unfold L2.Loc
        rw [k.sc]
        rcases h2 with h2 | ⟨h2, h3⟩
        · exact ⟨.inl (loc_eq h2), .inr (loc_eq h2)⟩
        · exact ⟨.inr (cell_eq h2), .inl (hF x h3)⟩
      refine ⟨fun pins s σ H v u Q I r t => ?_⟩
      refine (pg_name (pos := pos) k.nd hi hl.1 hl.2).run pins s σ H v u Q I r ?_
      obtain ⟨W, g, p, g', sr, rv, e, q⟩ := t
      have e : some (Hc.upd g i (.pv p)) = some g' := e
      cases e
      have hlt : i < g.length := by
        rw [sr.len, I.len]; exact (List.getElem?_eq_some_iff.mp hi).1
      exact q _ (sr.set hlt rv) fun j hj => List.getElem?_set_ne (fun z => hj (by simp [tslots, z]))
    · cases h
  | .tp ts, e, h => by
    unfold ckG at h
    split at h
    · rename_i es n pos
      obtain ⟨l1, l2⟩ := ckGs_l (env := X.env) h
      refine (pg_tup k.calm (ckGs_ok k hF h) l1 l2).imp fun v σ H Q t => ?_
      obtain ⟨W, g, p, g', sr, rv, e, q⟩ := t
      cases p with
      | tup l =>
        cases rv with
        | @tup _ a xs s1 rs =>
          have e : bind1.bindn ts l g = some g' := by simpa [bind1] using e
          exact ⟨a, xs, rfl, by rw [k.K]; exact s1, by rw [← rs.length]; exact bindn_len e, W, g, l, g', sr, rs, e, fun σ' s' o => q σ' s' (by simpa [tslots] using o)⟩
      | _ => simp [bind1] at e
    · cases h
theorem ckGs_ok {F : Str → Bool} (k : Gd G d N sc X) (hF : ∀ x, F x = true → X.fn x = true) : ∀ {ts : List Hc.T} {es : List Expr}, ckGs F N sc ts es = true → PGs X es (gTs G ts)
  | [], [], _ => by
    refine ⟨fun pins s σ H vs us Q I r t => pgs_nil.run pins s σ H vs us Q I r ?_⟩
    obtain ⟨W, g, ps, g', sr, rs, e, q⟩ := t
    cases ps with
    | nil => cases rs; cases e; exact ⟨rfl, q σ sr fun _ _ => rfl⟩
    | cons _ _ => simp [bind1.bindn] at e
  | [], _ :: _, h => by simp [ckGs] at h
  | _ :: _, [], h => by simp [ckGs] at h
  | t :: ts, e :: es, h => by
    simp only [ckGs, Bool.and_eq_true] at h
    refine ⟨fun pins s σ H vs us Q I r tt => (pgs_cons (ckG_ok k hF h.1.2) (ckGs_ok k hF h.2) (by rw [noStar_a h.1.1]; rfl)).run pins s σ H vs us Q I r ?_⟩
    obtain ⟨W, g, ps, g', sr, rs, e, q⟩ := tt
    cases ps with
    | nil => simp [bind1.bindn] at e
    | cons p ps =>
      cases rs with
      | @cons _ x _ xs r1 rs =>
        simp only [bind1.bindn] at e
        split at e
        · rename_i g1 e1
          refine ⟨x, xs, rfl, W, g, p, g1, sr, r1, e1, fun σ1 s1 o1 => ⟨W, g1, ps, g', s1, rs, e, fun σ2 s2 o2 => q σ2 s2 fun i hi => ?_⟩⟩
          simp only [tsl, List.mem_append, not_or] at hi
          rw [o2 i hi.2, o1 i hi.1]
        · cases e
end

/-! what is walked over -/
structure JOk (G : GE) (l : List PV) (J : It) (Kp : Wd → Hp → Prop) : Prop where
  go : ∀ W H i, Kp W H → i < l.length → J.go i H
  stop : ∀ W H i, Kp W H → l.length ≤ i → J.stop i H
  yld : ∀ W H h i x H', i < l.length → Kp W H → HR G W h H → J.yld i H x H' → ∃ p, l[i]? = some p ∧ (∀ wp, Ext G wp W H W H') ∧ HR G W h H' ∧ RV G W H' p x
abbrev LP (G : GE) (K : Wd → Hp → Wd → Hp → Prop) (R : It → Hp → Prop) : PV → HP → Wd → Hp → Prop := fun v _ W' H' => ∃ l, itOf v = some l ∧ ∀ J, JOk G l J (K W' H') → R J H'
/-- K: how the moments of the walk go on from its beginning -/
def tI (G : GE) (d : Nat) (K : Wd → Hp → Wd → Hp → Prop) (c : E) : TI := fun σ H R => ∃ W g h wp n, Mo G W g h σ H ∧ okR G wp W H ((ev G.pg n).e wp d c g h) (LP G K R)
theorem jok_list {W H} {a : Addr} {l : List PV} {xs : List V} {Kp : Wd → Hp → Prop} (r : RVs G W H l xs) (f : ∀ W' H', Kp W' H' → Stay G W H W' H' ∧ SqL X.K H' a xs) : JOk G l (Itl X.K a) Kp where
  go := fun W' H' i k hi => by
    have hl := r.length
    have hi : i < xs.length := by omega
    exact ⟨xs, xs[i], (f W' H' k).2, List.getElem?_eq_getElem hi⟩
  stop := fun W' H' i k hi => ⟨xs, (f W' H' k).2, by rw [← r.length]; exact hi⟩
  yld := fun W' H' h i x H2 hi k hr ⟨e, q⟩ => by
    subst e
    obtain ⟨s, q1⟩ := f W' H2 k
    obtain ⟨p, e1, e2⟩ := r.getV (q xs q1)
    exact ⟨p, e1, fun _ => Ext.refl hr.nd, hr, e2.stay s⟩
theorem jok_tup {W H} {a : Addr} {l : List PV} {xs : List V} {Kp : Wd → Hp → Prop} (r : RVs G W H l xs) (f : ∀ W' H', Kp W' H' → Stay G W H W' H' ∧ SqT X.K H' a xs) : JOk G l (Itt X.K a) Kp where
  go := fun W' H' i k hi => by
    have hl := r.length
    have hi : i < xs.length := by omega
    exact ⟨xs, xs[i], (f W' H' k).2, List.getElem?_eq_getElem hi⟩
  stop := fun W' H' i k hi => ⟨xs, (f W' H' k).2, by rw [← r.length]; exact hi⟩
  yld := fun W' H' h i x H2 hi k hr ⟨e, q⟩ => by
    subst e
    obtain ⟨s, q1⟩ := f W' H2 k
    obtain ⟨p, e1, e2⟩ := r.getV (q xs q1)
    exact ⟨p, e1, fun _ => Ext.refl hr.nd, hr, e2.stay s⟩
theorem jok_str {z : List Nat} {Kp : Wd → Hp → Prop} : JOk G (z.map fun c => .str [c]) (Its (strOf z)) Kp where
  go := fun W' H' i k hi => by simpa [strOf, Its] using hi
  stop := fun W' H' i k hi => by simpa [strOf, Its] using hi
  yld := fun W' H' h i x H2 hi k hr ⟨e, c, e1, e2⟩ => by
    subst e e2
    refine ⟨.str [c], ?_, fun _ => Ext.refl hr.nd, hr, .str [c]⟩
    have e1 : z[i]? = some c := by simpa [strOf] using e1
    simp [e1]
theorem rgo_len : ∀ (n : Nat) (a : Int), (rgo n a).length = n
  | 0, _ => rfl
  | n + 1, a => by simp [rgo, rgo_len n]
theorem rgo_at : ∀ (n : Nat) (a : Int) (i : Nat), i < n → (rgo n a)[i]? = some (.int (a + i))
  | 0, _, _, h => absurd h (Nat.not_lt_zero _)
  | n + 1, a, 0, _ => by simp [rgo]
  | n + 1, a, i + 1, h => by
    simp only [rgo, List.getElem?_cons_succ]
    rw [rgo_at n (a + 1) i (by omega)]
    congr 2
    omega
theorem jok_rng {lo : Int} {n : Nat} {Kp : Wd → Hp → Prop} : JOk G (rgo n lo) (Itr lo n) Kp where
  go := fun W' H' i k hi => by rw [rgo_len] at hi; exact hi
  stop := fun W' H' i k hi => by rw [rgo_len] at hi; exact hi
  yld := fun W' H' h i x H2 hi k hr ⟨e, e2⟩ => by
    subst e e2
    rw [rgo_len] at hi
    exact ⟨_, rgo_at n lo i hi, fun _ => Ext.refl hr.nd, hr, .int _⟩
theorem enum_len : ∀ (l : List PV) (n : Nat), (enum n l).length = l.length
  | [], _ => rfl
  | x :: r, n => by simp [enum, enum_len r]
theorem enum_at : ∀ (l : List PV) (n i : Nat) (p : PV), l[i]? = some p → (enum n l)[i]? = some (.tup [.int ((n + i : Nat) : Int), p])
  | [], _, _, _, h => by simp at h
  | x :: r, n, 0, p, h => by simp at h; subst h; simp [enum]
  | x :: r, n, i + 1, p, h => by
    simp only [enum, List.getElem?_cons_succ]
    rw [enum_at r (n + 1) i p (by simpa using h)]
    congr 5
    omega
theorem jok_enum {W H} {a : Addr} {l : List PV} {xs : List V} {Kp : Wd → Hp → Prop} (r : RVs G W H l xs) (f : ∀ W' H', Kp W' H' → Stay G W H W' H' ∧ SqL X.K H' a xs) : JOk G (enum 0 l) (Ite X.K a) Kp where
  go := fun W' H' i k hi => by
    rw [enum_len] at hi
    have hl := r.length
    have hi : i < xs.length := by omega
    exact ⟨xs, xs[i], (f W' H' k).2, List.getElem?_eq_getElem hi⟩
  stop := fun W' H' i k hi => by
    rw [enum_len] at hi
    exact ⟨xs, (f W' H' k).2, by rw [← r.length]; exact hi⟩
  yld := fun W' H' h i x H2 hi k hr ⟨tt, y, e, e1, e2, q⟩ => by
    subst e e2
    obtain ⟨s, q1⟩ := f W' H' k
    obtain ⟨p, e3, e4⟩ := r.getV (q xs q1)
    obtain ⟨t1, t2, t3⟩ := new_tup hr e1 (.cons (.int (i : Nat)) (.cons (e4.stay s) .nil))
    refine ⟨_, by have := enum_at l 0 i p e3; rw [Nat.zero_add] at this; exact this, t1, t2, t3⟩
/-- an own list may be walked over where nothing of the frame's own changes -/
abbrev KX (G : GE) (W : Wd) (H : Hp) (W' : Wd) (H' : Hp) : Prop := ∃ wp, Ext G wp W H W' H'
abbrev KS (G : GE) (W : Wd) (H : Hp) (W' : Wd) (H' : Hp) : Prop := Stay G W H W' H'
theorem sq_stay {W H W' H'} {a : Addr} {xs : List V} (s : Stay G W H W' H') (i : W.I a) (h : Rd H a (.lst xs)) : SqL G.K H' a xs := .inl (s.rd i h)
theorem i_val {tg e : Expr} {c : E} {K : Wd → Hp → Wd → Hp → Prop} (k : Gd G d N sc X) (hK : ∀ W H W' H', K W H W' H' → Stay G W H W' H') (he : PE X e (tE G d c)) : PI X tg e (tI G d K c) := by
  refine ⟨fun pins s σ H R I t => ?_⟩
  obtain ⟨W, g, h, wp, n, m, q⟩ := t
  have q0 := q
  revert q
  cases hr : (ev G.pg n).e wp d c g h with
  | ok v h1 =>
    intro q
    have q : ∀ W' H', Ext G wp W H W' H' → HR G W' h1 H' → ∃ l, itOf v = some l ∧ ∀ J, JOk G l J (K W' H') → R J H' := q
    have key : ∀ {Q : VK}, (∀ W' H' x, Ext G wp W H W' H' → HR G W' h1 H' → RV G W' H' v x → Q x H') → tE G d c σ H Q := by
      intro Q f
      refine ⟨W, g, h, wp, n, m, ?_⟩
      rw [hr]
      exact fun W' H' e r x rx => f W' H' x e r rx
    cases v with
    | tup l =>
      refine (pi_tup he).run pins s σ H R I (key fun W' H' x e r rx => ?_)
      obtain ⟨l', e1, f⟩ := q W' H' e r
      cases e1
      cases rx with
      | @tup _ a xs s1 rs =>
        have s1 : SqT X.K H' a xs := by rw [k.K]; exact s1
        exact ⟨a, rfl, ⟨xs, s1⟩, f _ (jok_tup rs fun W2 H2 k2 => ⟨hK _ _ _ _ k2, by rw [k.K] at s1 ⊢; exact (hK _ _ _ _ k2).sqt s1⟩)⟩
    | lst l =>
      refine (pi_list he).run pins s σ H R I (key fun W' H' x e r rx => ?_)
      obtain ⟨l', e1, f⟩ := q W' H' e r
      cases e1
      cases rx with
      | @lst _ a xs s1 rs =>
        exact ⟨a, rfl, ⟨xs, by rw [k.K]; exact s1.sql⟩, f _ (jok_list rs fun W2 H2 k2 => ⟨hK _ _ _ _ k2, by rw [k.K]; exact (s1.stay (hK _ _ _ _ k2)).sql⟩)⟩
    | str z =>
      refine (pi_str he).run pins s σ H R I (key fun W' H' x e r rx => ?_)
      obtain ⟨l', e1, f⟩ := q W' H' e r
      cases e1
      cases rx
      exact ⟨_, rfl, f _ jok_str⟩
    | _ =>
      refine (pi_tup he).run pins s σ H R I (key fun W' H' x e r rx => ?_)
      obtain ⟨l', e1, f⟩ := q W' H' e r
      cases e1
  | ex a b c => intro q; exact q.elim
  | no => intro q; exact q.elim
end
end Hc

set_option maxHeartbeats 4000000
/-! Walks over own lists, ranges, enumerate; comprehensions. -/
namespace Hc
open PySem PySem.Spec PyProof.Rows L2
section
variable {G : GE} {T : Tab} {d : Nat} {N : List Str} {sc : Scope} {X : Cx} {rec : Scope → E → Expr → Bool}
/-- the own slot's list, looked at through a whole walk -/
theorem own_look {i n wp W g h σ H} {Φ : PV → HP → Wd → Hp → Prop} (m : Mo G W g h σ H) (q : okR G wp W H ((ev G.pg n).e wp d (.own i) g h) Φ) (f : ∀ l, Φ (.dct l) h W H → False) : ∃ a xs l, σ[i]? = some (some (.ref a)) ∧ ¬ W.I a ∧ a ∉ W.m ∧ H a = some (.lst xs) ∧ RVs G W H l xs ∧ Φ (.lst l) h W H := by
  obtain ⟨n, q⟩ := un_e q
  have q : okR G wp W H (match nth g i with | some (.ol l) => .ok (.lst l) h | some (.od l) => .ok (.dct l) h | _ => .no) Φ := q
  split at q
  · rename_i v e
    rw [nth_eq] at e
    obtain ⟨a, xs, e1, e2, e3, e4, e5⟩ := m.sr.ol i v e
    exact ⟨a, xs, v, e1, e2, e3, e4, e5, q.here m.hr⟩
  · exact (f _ (q.here m.hr)).elim
  · exact q.elim
theorem i_own {tg : Expr} {i : Nat} {x : Str} {pos : Pos} (k : Gd G d N sc X) (h : varB N sc i x = true) : PI X tg (.Name x pos) (tI G d (KX G) (.own i)) := by
  refine (pi_list (pe_v k h)).imp fun σ H R ⟨W, g, h, wp, n, m, q⟩ => ?_
  obtain ⟨a, xs, l, e1, e2, e3, e4, e5, l', e6, f⟩ := own_look m q (fun l ⟨l', e, _⟩ => nomatch e)
  cases e6
  refine ⟨_, e1, a, rfl, ⟨xs, .inl (.inl e4)⟩, f _ (jok_list e5 fun W2 H2 ⟨wp, e⟩ => ⟨e.stay, .inl (.inl (e.own e2 e3 e4).2.2)⟩)⟩
def freeB (T : Tab) (sc : Scope) (x y : Str) : Bool := decide (x = y) && glB sc x && decide (x ∈ T.free)
theorem r62 {i : Int} (h : rngOk i = true) : -(2 ^ 62) ≤ i ∧ i < 2 ^ 62 := by
  unfold rngOk at h
  have h := Nat.blt_eq.mp h
  have e : (2 : Int) ^ 62 = 4611686018427387904 := by decide
  rw [e]
  omega
theorem i_rng2 {tg : Expr} {K} {a b : Expr} {ca cb : E} {p pos : Pos} (F : GF G T) (k : Gd G d N sc X) (h : freeB T sc "range" "range" = true) (n1 : noStar a = true) (n2 : noStar b = true) (ha : PE X a (tE G d ca)) (hb : PE X b (tE G d cb)) : PI X tg (.Call (.Name "range" p) [a, b] [] pos) (tI G d K (.rng ca cb)) := by
  unfold freeB at h
  simp only [Bool.and_eq_true] at h
  refine (pi_range2 (gl_of k h.1.2) (by rw [k.mg]; exact F.free _ (of_decide_eq_true h.2)) (pa_cons ha (pa_cons hb pa_nil (noStar_e n2)) (noStar_e n1)) (by rw [noStar_e n1, noStar_e n2]; rfl) (by rw [noStar_e n2]; rfl)).imp fun σ H R ⟨W, g, h, wp, n, m, q⟩ => ?_
  obtain ⟨n, q⟩ := un_e q
  have q : okR G wp W H (((ev G.pg n).e wp d ca g h).bind fun x h1 => ((ev G.pg n).e wp d cb g h1).bind fun y h2 => match x, y with
    | .int i, .int j => if rngOk i && rngOk j && Nat.ble (j - i).toNat 16777216 then .ok (.lst (range i j)) h2 else .no
    | _, _ => .no) (LP G K R) := q
  refine ⟨W, g, h, wp, n, m, q.bind.imp fun v1 h1 W1 H1 e1 r1 q1 x rx => ⟨W1, g, h1, wp, n, m.ext e1 r1, q1.bind.imp fun v2 h2 W2 H2 e2 r2 q2 y ry => ?_⟩⟩
  split at q2
  · obtain ⟨hb, q3⟩ := q2.cond
    simp only [Bool.and_eq_true] at hb
    cases rx
    cases ry
    obtain ⟨l, e3, f⟩ := q3.here r2
    cases e3
    exact ⟨_, _, rfl, ⟨(r62 hb.1.1).1, (r62 hb.1.1).2, (r62 hb.1.2).1, (r62 hb.1.2).2⟩, f _ jok_rng⟩
  · exact q2.elim
theorem i_rng1 {tg : Expr} {K} {b : Expr} {cb : E} {p pos : Pos} (F : GF G T) (k : Gd G d N sc X) (h : freeB T sc "range" "range" = true) (n2 : noStar b = true) (hb : PE X b (tE G d cb)) : PI X tg (.Call (.Name "range" p) [b] [] pos) (tI G d K (.rng (.cst (.int 0)) cb)) := by
  unfold freeB at h
  simp only [Bool.and_eq_true] at h
  refine (pi_range1 (gl_of k h.1.2) (by rw [k.mg]; exact F.free _ (of_decide_eq_true h.2)) (pa_cons hb pa_nil (noStar_e n2)) (by rw [noStar_e n2]; rfl)).imp fun σ H R ⟨W, g, h, wp, n, m, q⟩ => ?_
  obtain ⟨n, q⟩ := un_e q
  have q : okR G wp W H (((ev G.pg n).e wp d (.cst (.int 0)) g h).bind fun x h1 => ((ev G.pg n).e wp d cb g h1).bind fun y h2 => match x, y with
    | .int i, .int j => if rngOk i && rngOk j && Nat.ble (j - i).toNat 16777216 then .ok (.lst (range i j)) h2 else .no
    | _, _ => .no) (LP G K R) := q
  cases n with
  | zero => exact q.elim
  | succ n =>
    have q : okR G wp W H (((ev G.pg (n + 1)).e wp d cb g h).bind fun y h2 => match y with
      | .int j => if rngOk 0 && rngOk j && Nat.ble (j - 0).toNat 16777216 then .ok (.lst (range 0 j)) h2 else .no
      | _ => .no) (LP G K R) := by
      have q : okR G wp W H (((ev G.pg (n + 1)).e wp d cb g h).bind fun y h2 => match PV.int 0, y with
        | .int i, .int j => if rngOk i && rngOk j && Nat.ble (j - i).toNat 16777216 then .ok (.lst (range i j)) h2 else .no
        | _, _ => .no) (LP G K R) := q
      refine Eq.mp (congrArg (fun z => okR G wp W H (Hc.R.bind _ z) _) ?_) q
      funext y h2
      cases y <;> rfl
    refine ⟨W, g, h, wp, n + 1, m, q.bind.imp fun v2 h2 W2 H2 e2 r2 q2 y ry => ?_⟩
    cases v2 with
    | int j =>
      obtain ⟨hb, q3⟩ := (show okR G wp W2 H2 (if rngOk 0 && rngOk j && Nat.ble (j - 0).toNat 16777216 then .ok (.lst (range 0 j)) h2 else .no) (LP G K R) from q2).cond
      simp only [Bool.and_eq_true] at hb
      cases ry
      obtain ⟨l, e3, f⟩ := q3.here r2
      cases e3
      refine ⟨_, rfl, (r62 hb.1.2).1, (r62 hb.1.2).2, f _ ?_⟩
      unfold range
      rw [Int.sub_zero]
      exact jok_rng
    | _ => exact q2.elim
theorem enm_un {K n wp W g h H} {c : E} {R : It → Hp → Prop} (q : okR G wp W H ((ev G.pg n).e wp d (.enm c) g h) (LP G K R)) : ∃ n, okR G wp W H ((ev G.pg n).e wp d c g h) (fun v h' W' H' => ∃ l, v = .lst l ∧ ∀ J, JOk G (enum 0 l) J (K W' H') → R J H') := by
  obtain ⟨n, q⟩ := un_e q
  have q : okR G wp W H (((ev G.pg n).e wp d c g h).bind fun x h1 => match x with
    | .lst l => .ok (.lst (enum 0 l)) h1
    | _ => .no) (LP G K R) := q
  refine ⟨n, q.bind.imp fun v h' W' H' e r q1 => ?_⟩
  split at q1
  · obtain ⟨l, e1, f⟩ := q1.here r
    cases e1
    exact ⟨_, rfl, f⟩
  · exact q1.elim
theorem i_enm {es : List Expr} {tn : Nat} {tp : Pos} {K : Wd → Hp → Wd → Hp → Prop} {b : Expr} {cb : E} {p pos : Pos} (F : GF G T) (k : Gd G d N sc X) (hK : ∀ W H W' H', K W H W' H' → Stay G W H W' H') (h : freeB T sc "enumerate" "enumerate" = true) (n2 : noStar b = true) (hb : PE X b (tE G d cb)) : PI X (.Tuple es tn tp) (.Call (.Name "enumerate" p) [b] [] pos) (tI G d K (.enm cb)) := by
  unfold freeB at h
  simp only [Bool.and_eq_true] at h
  refine (pi_enum (gl_of k h.1.2) (by rw [k.mg]; exact F.free _ (of_decide_eq_true h.2)) (pa_cons hb pa_nil (noStar_e n2)) (by rw [noStar_e n2]; rfl)).imp fun σ H R ⟨W, g, h, wp, n, m, q⟩ => ?_
  obtain ⟨n, q⟩ := enm_un q
  refine ⟨W, g, h, wp, n, m, q.imp fun v h' W' H' e r ⟨l, e1, f⟩ x rx => ?_⟩
  subst e1
  cases rx with
  | @lst _ a xs s1 rs =>
    exact ⟨a, xs, rfl, by rw [k.K]; exact s1.sql, f _ (jok_enum rs fun W2 H2 k2 => ⟨hK _ _ _ _ k2, by rw [k.K]; exact (s1.stay (hK _ _ _ _ k2)).sql⟩)⟩
theorem i_enmO {es : List Expr} {tn : Nat} {tp : Pos} {i : Nat} {x : Str} {p p2 pos : Pos} (F : GF G T) (k : Gd G d N sc X) (h : freeB T sc "enumerate" "enumerate" = true) (hv : varB N sc i x = true) : PI X (.Tuple es tn tp) (.Call (.Name "enumerate" p) [.Name x p2] [] pos) (tI G d (KX G) (.enm (.own i))) := by
  unfold freeB at h
  simp only [Bool.and_eq_true] at h
  refine (pi_enum (gl_of k h.1.2) (by rw [k.mg]; exact F.free _ (of_decide_eq_true h.2)) (pa_cons (pe_v k hv) pa_nil rfl) rfl).imp fun σ H R ⟨W, g, h, wp, n, m, q⟩ => ?_
  obtain ⟨n, q⟩ := enm_un q
  obtain ⟨a, xs, l, e1, e2, e3, e4, e5, l', e6, f⟩ := own_look m q (fun l ⟨l', e, _⟩ => nomatch e)
  cases e6
  exact ⟨_, e1, a, xs, rfl, .inl (.inl e4), f _ (jok_enum e5 fun W2 H2 ⟨wp, e⟩ => ⟨e.stay, .inl (.inl (e.own e2 e3 e4).2.2)⟩)⟩
def isTup : Expr → Bool
  | .Tuple .. => true
  | _ => false
/-- ow: own lists may be walked over -/
def ckI (ow : Bool) (T : Tab) (N : List Str) (rec : Scope → E → Expr → Bool) (sc : Scope) (tg : Expr) (c : E) (e : Expr) : Bool := match c with
  | .own i => ow && (match e with
    | .Name x _ => varB N sc i x
    | _ => false)
  | .rng a b => (match e with
    | .Call (.Name f _) [e1] [] _ => freeB T sc f "range" && (match a with
      | .cst (.int i) => decide (i = 0)
      | _ => false) && noStar e1 && rec sc b e1
    | .Call (.Name f _) [e1, e2] [] _ => freeB T sc f "range" && noStar e1 && noStar e2 && rec sc a e1 && rec sc b e2
    | _ => false)
  | .enm c => isTup tg && (match e with
    | .Call (.Name f _) [e1] [] _ => freeB T sc f "enumerate" && (match c with
      | .own i => ow && (match e1 with
        | .Name x _ => varB N sc i x
        | _ => false)
      | c => noStar e1 && rec sc c e1)
    | _ => false)
  | c => noSet e && rec sc c e
abbrev KO (G : GE) (ow : Bool) : Wd → Hp → Wd → Hp → Prop := match ow with
  | true => KX G
  | false => KS G
theorem KO.st {ow W H W' H'} (h : KO G ow W H W' H') : Stay G W H W' H' := by
  cases ow with
  | true => obtain ⟨_, e⟩ := h; exact e.stay
  | false => exact h
theorem ckI_ok {ow : Bool} {tg : Expr} {c : E} {e : Expr} (F : GF G T) (s : Snd G d N rec) (k : Gd G d N sc X) (h : ckI ow T N rec sc tg c e = true) : PI X tg e (tI G d (KO G ow) c) ∧ ∀ env x, foldedSetIterable e env x = pure x := by
  have fb : ∀ {f y : Str}, freeB T sc f y = true → f = y := fun h => by
    unfold freeB at h; simp only [Bool.and_eq_true] at h; exact of_decide_eq_true h.1.1
  unfold ckI at h
  split at h
  · simp only [Bool.and_eq_true] at h
    obtain ⟨rfl, h⟩ := h
    split at h
    · exact ⟨i_own k h, fun _ _ => rfl⟩
    · cases h
  · split at h
    · simp only [Bool.and_eq_true] at h
      obtain ⟨⟨⟨h1, h2⟩, h3⟩, h4⟩ := h
      have := fb h1
      subst this
      split at h2
      · cases of_decide_eq_true h2
        exact ⟨i_rng1 F k h1 h3 (s _ _ _ h4 X k), fun _ _ => rfl⟩
      · cases h2
    · simp only [Bool.and_eq_true] at h
      obtain ⟨⟨⟨⟨h1, h2⟩, h3⟩, h4⟩, h5⟩ := h
      have := fb h1
      subst this
      exact ⟨i_rng2 F k h1 h2 h3 (s _ _ _ h4 X k) (s _ _ _ h5 X k), fun _ _ => rfl⟩
    · cases h
  · simp only [Bool.and_eq_true] at h
    obtain ⟨h0, h⟩ := h
    cases tg <;> first | cases h0 | skip
    split at h
    · simp only [Bool.and_eq_true] at h
      obtain ⟨h1, h⟩ := h
      have := fb h1
      subst this
      split at h
      · simp only [Bool.and_eq_true] at h
        obtain ⟨rfl, h⟩ := h
        split at h
        · exact ⟨i_enmO F k h1 h, fun _ _ => rfl⟩
        · cases h
      · simp only [Bool.and_eq_true] at h
        exact ⟨i_enm F k (fun _ _ _ _ h => KO.st h) h1 h.1 (s _ _ _ h.2 X k), fun _ _ => rfl⟩
    · cases h
  · simp only [Bool.and_eq_true] at h
    exact ⟨i_val k (fun _ _ _ _ h => KO.st h) (s _ _ _ h.2 X k), fun env x => noSet_f h.1 env x⟩
end
end Hc

set_option maxHeartbeats 4000000
/-! Comprehensions. -/
namespace Hc
open PySem PySem.Spec PyProof.Rows L2
section
variable {G : GE} {T : Tab} {d : Nat} {N : List Str} {sc : Scope} {X : Cx} {rec : Scope → E → Expr → Bool}
theorem wipe_set {i : Nat} {v : Option V} : ∀ {vs : List Nat} {σ : L2.St}, i ∈ vs → L2.wipe (σ.set i v) vs = L2.wipe σ vs
  | [], _, h => nomatch h
  | j :: vs, σ, h => by
    simp only [L2.wipe]
    by_cases e : i ∈ vs
    · rw [wipe_set e]
    · rcases List.mem_cons.mp h with h | h
      · subst h
        apply List.ext_getElem?
        intro k
        by_cases q : k = i
        · subst q
          by_cases hl : k < σ.length
          · rw [List.getElem?_set_self (by rw [wipe_length, List.length_set]; exact hl), List.getElem?_set_self (by rw [wipe_length]; exact hl)]
          · rw [List.getElem?_eq_none (by rw [List.length_set, wipe_length, List.length_set]; omega), List.getElem?_eq_none (by rw [List.length_set, wipe_length]; omega)]
        · rw [List.getElem?_set_ne (fun z => q z.symm), List.getElem?_set_ne (fun z => q z.symm)]
          have f : ∀ {vs : List Nat} {σ σ' : L2.St}, σ.length = σ'.length → (σ[k]? = σ'[k]?) → (L2.wipe σ vs)[k]? = (L2.wipe σ' vs)[k]? := by
            intro vs
            induction vs with
            | nil => exact fun _ e => e
            | cons a vs ih =>
              intro σ σ' hl e
              simp only [L2.wipe]
              by_cases q2 : k = a
              · subst q2
                by_cases hk : k < σ.length
                · rw [List.getElem?_set_self (by rw [wipe_length]; exact hk), List.getElem?_set_self (by rw [wipe_length]; omega)]
                · rw [List.getElem?_eq_none (by rw [List.length_set, wipe_length]; omega), List.getElem?_eq_none (by rw [List.length_set, wipe_length]; omega)]
              · rw [List.getElem?_set_ne (fun z => q2 z.symm), List.getElem?_set_ne (fun z => q2 z.symm)]
                exact ih hl e
          exact f (by simp) (List.getElem?_set_ne (fun z => q z.symm))
      · exact absurd h e
theorem wipe_off {vs : List Nat} {σ σ' : L2.St} (hl : σ'.length = σ.length) (o : Off vs σ σ') : L2.wipe σ' vs = L2.wipe σ vs := by
  apply List.ext_getElem?
  intro k
  by_cases q : k ∈ vs
  · have f : ∀ {vs : List Nat} {σ : L2.St}, k ∈ vs → k < σ.length → (L2.wipe σ vs)[k]? = some none := by
      intro vs
      induction vs with
      | nil => exact fun h => nomatch h
      | cons a vs ih =>
        intro σ h hk
        simp only [L2.wipe]
        by_cases q2 : k = a
        · subst q2; rw [List.getElem?_set_self (by rw [wipe_length]; exact hk)]
        · rw [List.getElem?_set_ne (fun z => q2 z.symm)]
          exact ih (by rcases List.mem_cons.mp h with h | h; exact absurd h q2; exact h) hk
    by_cases hk : k < σ.length
    · rw [f q hk, f q (by omega)]
    · rw [List.getElem?_eq_none (by rw [wipe_length]; omega), List.getElem?_eq_none (by rw [wipe_length]; omega)]
  · rw [wipe_out q, wipe_out q, o k q]
theorem wipe_wipe {vs : List Nat} {σ : L2.St} : L2.wipe (L2.wipe σ vs) vs = L2.wipe σ vs :=
  wipe_off (wipe_length _ _) fun i hi => wipe_out hi
theorem SR.un {W H g σ} (s : SR G W H g σ) (i : Nat) : SR G W H (Hc.upd g i .un) (σ.set i none) := by
  rw [upd_eq]
  have hj : ∀ {j : Nat} {v : SV}, (g.set i .un)[j]? = some v → v ≠ .un → j ≠ i ∧ g[j]? = some v := by
    intro j v e hv
    by_cases q : j = i
    · subst q
      by_cases hl : j < g.length
      · rw [List.getElem?_set_self hl] at e; cases e; exact absurd rfl hv
      · rw [List.getElem?_eq_none (by simp; omega)] at e; cases e
    · rw [List.getElem?_set_ne (fun z => q z.symm)] at e; exact ⟨q, e⟩
  have hs : ∀ {j : Nat}, j ≠ i → (σ.set i none)[j]? = σ[j]? := fun q => List.getElem?_set_ne (fun z => q.symm z)
  have ho : ∀ {j}, isOwn (g.set i .un) j → j ≠ i ∧ isOwn g j := by
    rintro j (⟨l, e⟩ | ⟨l, e⟩)
    · obtain ⟨q1, q2⟩ := hj e (by intro z; cases z); exact ⟨q1, .inl ⟨l, q2⟩⟩
    · obtain ⟨q1, q2⟩ := hj e (by intro z; cases z); exact ⟨q1, .inr ⟨l, q2⟩⟩
  refine ⟨by simp [s.len], fun j v e => ?_, fun j l e => ?_, fun j l e => ?_, fun j k a h1 h2 e1 e2 => ?_⟩
  · obtain ⟨q1, q2⟩ := hj e (by intro z; cases z); rw [hs q1]; exact s.pv j v q2
  · obtain ⟨q1, q2⟩ := hj e (by intro z; cases z); rw [hs q1]; exact s.ol j l q2
  · obtain ⟨q1, q2⟩ := hj e (by intro z; cases z); rw [hs q1]; exact s.od j l q2
  · obtain ⟨n1, o1⟩ := ho h1
    obtain ⟨n2, o2⟩ := ho h2
    rw [hs n1] at e1; rw [hs n2] at e2
    exact s.dis j k a o1 o2 e1 e2
theorem SR.wipe {W H} : ∀ {vs : List Nat} {g σ}, SR G W H g σ → SR G W H (Hc.wipe vs g) (L2.wipe σ vs)
  | [], _, _, s => s
  | v :: vs, _, _, s => (SR.wipe (vs := vs) s).un v
theorem okR.keep {α β} {wp W1 H1 W' H'} {r : R α} {k : α → HP → R β} {Ψ} (x : okR G wp W1 H1 (r.bind k) Ψ) : okR G wp W' H' r (fun a h _ _ => okR G wp W1 H1 (k a h) Ψ) := by
  cases r with
  | ok a h => exact fun _ _ _ _ => x
  | _ => exact x
theorem R.assoc {α β γ} (r : R α) (k : α → HP → R β) (k2 : β → HP → R γ) : (r.bind k).bind k2 = r.bind fun a h => (k a h).bind k2 := by
  cases r <;> rfl
theorem body_len {r : R Bool} {e : HP → R PV} {acc acc' : List PV} {h' : HP} : (r.bind fun b h3 => match b with | true => (e h3).bind fun y h4 => .ok (y :: acc) h4 | false => .ok acc h3) = .ok acc' h' → acc.length ≤ acc'.length := by
  cases r with
  | ok b h3 => cases b with
    | false => intro e; cases e; exact Nat.le_refl _
    | true =>
      intro q
      have q : ((e h3).bind fun y h4 => R.ok (y :: acc) h4) = .ok acc' h' := q
      revert q
      cases e h3 with
      | ok y h4 => intro q; cases q; simp
      | ex _ _ _ => intro q; cases q
      | no => intro q; cases q
  | ex _ _ _ => intro e; cases e
  | no => intro e; cases e
theorem turns_len {t : Hc.T} {g : SG} {body : SG → List PV → HP → R (List PV)} (hb : ∀ g1 acc h acc' h', body g1 acc h = .ok acc' h' → acc.length ≤ acc'.length) : ∀ {l : List PV} {acc : List PV} {h : HP} {acc' : List PV} {h' : HP}, turns t g body l acc h = .ok acc' h' → acc.length ≤ acc'.length
  | [], _, _, _, _, e => by cases (show R.ok _ _ = R.ok _ _ from e); exact Nat.le_refl _
  | x :: r, acc, h, acc', h', e => by
    have e : (R.ofO (bind1 t x g) fun g1 => (body g1 acc h).bind fun acc' h1 => turns t g body r acc' h1) = .ok acc' h' := e
    cases hb1 : bind1 t x g with
    | none => rw [hb1] at e; cases e
    | some g1 =>
      rw [hb1] at e
      have e : ((body g1 acc h).bind fun acc' h1 => turns t g body r acc' h1) = .ok acc' h' := e
      cases h2 : body g1 acc h with
      | ok a2 hh => rw [h2] at e; exact Nat.le_trans (hb _ _ _ _ _ h2) (turns_len hb (l := r) e)
      | ex _ _ _ => rw [h2] at e; cases e
      | no => rw [h2] at e; cases e
theorem bind1_len' : (∀ (t : Hc.T) (p : PV) (g g' : SG), bind1 t p g = some g' → g'.length = g.length) ∧ ∀ (ts : List Hc.T) (ps : List PV) (g g' : SG), bind1.bindn ts ps g = some g' → g'.length = g.length := by
  have key : ∀ n : Nat, (∀ (t : Hc.T) (p : PV) (g g' : SG), sizeOf t < n → bind1 t p g = some g' → g'.length = g.length) ∧ ∀ (ts : List Hc.T) (ps : List PV) (g g' : SG), sizeOf ts < n → bind1.bindn ts ps g = some g' → g'.length = g.length := by
    intro n
    induction n with
    | zero => exact ⟨fun _ _ _ _ h => absurd h (Nat.not_lt_zero _), fun _ _ _ _ h => absurd h (Nat.not_lt_zero _)⟩
    | succ n ih =>
      refine ⟨fun t p g g' h e => ?_, fun ts ps g g' h e => ?_⟩
      · cases t with
        | nm i => cases (show some (Hc.upd g i (.pv p)) = some g' from by simpa [bind1] using e); rw [upd_eq]; simp
        | tp l => cases p with
          | tup ps => exact ih.2 l ps g g' (by simp at h; omega) (by simpa [bind1] using e)
          | _ => simp [bind1] at e
      · cases ts with
        | nil => cases ps with
          | nil => cases (show some g = some g' from by simpa [bind1.bindn] using e); rfl
          | cons _ _ => simp [bind1.bindn] at e
        | cons t ts => cases ps with
          | nil => simp [bind1.bindn] at e
          | cons p ps =>
            simp only [bind1.bindn] at e
            split at e
            · rename_i g1 e1
              rw [ih.2 ts ps g1 g' (by simp at h; omega) e, ih.1 t p g g1 (by simp at h; omega) e1]
            · cases e
  exact ⟨fun t p g g' => (key (sizeOf t + 1)).1 t p g g' (Nat.lt_succ_self _), fun t p g g' => (key (sizeOf t + 1)).2 t p g g' (Nat.lt_succ_self _)⟩
theorem bind1_len {t : Hc.T} {p : PV} {g g' : SG} (h : bind1 t p g = some g') : g'.length = g.length := bind1_len'.1 t p g g' h
/-- ifs: none or one -/
def ckF (rect : Scope → E → Expr → Bool) (sc : Scope) (cs : List E) (es : List Expr) : Bool := match cs, es with
  | [], [] => true
  | [c], [e] => rect sc c e
  | _, _ => false
def SndT (G : GE) (d : Nat) (N : List Str) (rec : Scope → E → Expr → Bool) : Prop := ∀ sc c e, rec sc c e = true → ∀ X, Gd G d N sc X → PT X e (tT G d c)
def tTs (G : GE) (d : Nat) (cs : List E) : TT := fun σ H Q => ∃ W g h wp n, Mo G W g h σ H ∧ okR G wp W H (tests (fun e h => (ev G.pg n).e wp d e g h) cs h) (fun b _ _ H' => Q b H')
theorem _root_.L2.PTs.imp {X : Cx} {e : List Expr} {t t' : TT} (p : PTs X e t) (f : ∀ σ H Q, t' σ H Q → t σ H Q) : PTs X e t' := ⟨fun pins s σ H Q I h => p.run pins s σ H Q I (f σ H Q h)⟩
theorem ckF_ok {rect : Scope → E → Expr → Bool} (s : SndT G d N rect) {cs : List E} {es : List Expr} (h : ckF rect sc cs es = true) (k : Gd G d N sc X) : PTs X es (tTs G d cs) := by
  unfold ckF at h
  split at h
  · exact pts_nil.imp fun σ H Q ⟨W, g, h, wp, n, m, q⟩ => (show okR G wp W H (.ok true h) (fun b _ _ H' => Q b H') from q).here m.hr
  · exact (pts_one (s sc _ _ h X k)).imp fun σ H Q ⟨W, g, h, wp, n, m, q⟩ => by
      have q : okR G wp W H (((ev G.pg n).e wp d _ g h).bind fun v h1 => R.tst v (.ok true h1) (.ok false h1)) (fun b _ _ H' => Q b H') := q
      refine ⟨W, g, h, wp, n, m, q.bind.imp fun v h1 W1 H1 e1 r1 q1 => ?_⟩
      obtain ⟨b, rfl, q2⟩ := q1.tst
      refine ⟨b, rfl, ?_⟩
      cases b <;> exact q2.here r1
  · cases h
theorem Gd.blk (k : Gd G d N sc X) (s : Shared) (H : Hp) (scope : Scope) (cl : List (Str × Addr)) (C : Addr) (fp : List Addr) : Gd G d N (relS scope sc) (X.blk s H scope (compEnvC scope cl C X.env) fp) :=
  ⟨k.prog, k.w, k.K, k.mg, k.base, k.calm, k.room, k.N, k.nd, by rw [← k.sc]; rfl⟩
def ownOf (N : List Str) (vs : List Nat) : List (Str × Nat) := vs.map fun i => (N.getD i Str.empty, i)
theorem ownOf_2 (N : List Str) (vs : List Nat) : (ownOf N vs).map (·.2) = vs := by
  unfold ownOf; rw [List.map_map]; exact List.map_id _
/-- the result list's moment -/
structure LcI (G : GE) (wp : Nat) (W1 : Wd) (H1 : Hp) (D : Addr) (W : Wd) (h : HP) (acc : List PV) (H : Hp) : Prop where
  ex : Ext G wp W1 H1 W H
  hr : HR G W h H
  it : ∃ xs, H D = some (.lst xs) ∧ RVs G W H acc.reverse xs
  ni : ¬ W.I D
  nm : D ∉ W.m
theorem LcI.step {wp W1 H1 D W h acc H W' h' H'} (l : LcI G wp W1 H1 D W h acc H) (e : Ext G wp W H W' H') (r : HR G W' h' H') : LcI G wp W1 H1 D W' h' acc H' := by
  obtain ⟨xs, e1, e2⟩ := l.it
  obtain ⟨k1, k2, k3⟩ := e.own l.ni l.nm e1
  exact ⟨l.ex.trans e, r, ⟨xs, k3, e2.stay e.stay⟩, k1, k2⟩
theorem LcI.app {wp W1 H1 D W h acc H p x} (l : LcI G wp W1 H1 D W h acc H) (hD : H1 D = none) (rv : RV G W H p x) {xs} (e : H D = some (.lst xs)) : LcI G wp W1 H1 D W h (p :: acc) (L2.upd H D (.lst (xs ++ [x]))) := by
  obtain ⟨ys, e1, e2⟩ := l.it
  rw [e] at e1; cases e1
  have st := put_stay (G := G) (o := .lst (xs ++ [x])) e trivial l.ni
  refine ⟨put_ext l.ex hD, put_hr l.hr e trivial l.ni l.nm, ⟨_, upd_same, ?_⟩, l.ni, l.nm⟩
  rw [List.reverse_cons]
  exact (e2.stay st).append (.cons (rv.stay st) .nil)
theorem RVs.take_len {W H} {l : List PV} {xs : List V} (r : RVs G W H l xs) : xs.length = l.length := r.length.symm
theorem lc_start {wp W h H D} (r : HR G W h H) (hD : H D = none) : LcI G wp W H D W h [] (L2.upd H D (.lst [])) :=
  ⟨ext_new r.nd hD, r.new hD, ⟨[], upd_same, .nil⟩, fun i => r.it D i hD, fun m => r.mt m hD⟩
theorem lc_end {wp W1 H1 D W h acc H Hs} {Q : VK} (l : LcI G wp W1 H1 D W h acc H) (hD : Hs D = none) (q : okR G wp W1 H1 (.ok (.lst acc.reverse) h) (NPo G Hs Q)) : Q (.ref D) H := by
  obtain ⟨xs, e1, e2⟩ := l.it
  exact q.at l.ex l.hr D hD l.ni l.nm ⟨xs, e1, e2⟩
theorem r_cmp1 (F : GF G T) (k : Gd G d N sc X) {elt tg iter : Expr} {ifs : List Expr} {scope : Scope} {pos : Pos} {ce ci : E} {t : Hc.T} {cfs : List E} {vs : List Nat}
    (hi : PI X tg iter (tI G d (KX G) ci)) (hfs : ∀ env x, foldedSetIterable iter env x = pure x) (hb : blkC N sc scope (ownOf N vs) = true) (ht : (tslots t).all (fun i => decide (i ∈ vs)) = true)
    (hg : ckG (fun x => scope.names.lookup x == some .cell) N (relS scope sc) t tg = true)
    (hf : ∀ X', Gd G d N (relS scope sc) X' → PTs X' ifs (tTs G d cfs)) (he : ∀ X', Gd G d N (relS scope sc) X' → PE X' elt (tE G d ce)) :
    (PE X (.ListComp elt [⟨tg, iter, ifs, 0⟩] scope pos) (tN G d (.cmp1 ce t ci cfs vs))) ∧
    (∀ {i : Nat} {y : Str} {py spos : Pos}, N[i]? = some y → sc.names.lookup y = some .local → swapsWith (.ListComp elt [⟨tg, iter, ifs, 0⟩] scope pos) (some (.Name y py)) spos.line X.env = pure true →
      PS X (.Assign [.Name y py] (.ListComp elt [⟨tg, iter, ifs, 0⟩] scope pos) spos) (tAsg (tN G d (.cmp1 ce t ci cfs vs)) (gName i))) := by
  have ok : BlkOk X.N X.env.scope scope (ownOf N vs) := by rw [k.N, k.sc]; exact blkOk_by hb
  have hg' : ∀ (s : Shared) (H : Hp) (C : Addr) (cl : List (Str × Addr)) (fp : List Addr), PG (X.blk s H scope (compEnvC scope cl C X.env) fp) tg (gT G t) := fun s H C cl fp => ckG_ok (k.blk s H scope cl C fp) (fun x h => h) hg
  have hf' := fun (s : Shared) (H : Hp) (C : Addr) (cl : List (Str × Addr)) (fp : List Addr) => hf _ (k.blk s H scope cl C fp)
  have he' := fun (s : Shared) (H : Hp) (C : Addr) (cl : List (Str × Addr)) (fp : List Addr) => he _ (k.blk s H scope cl C fp)
  have main : ∀ σ H Q, tN G d (.cmp1 ce t ci cfs vs) σ H Q → tLc (tI G d (KX G) ci) (gT G t) (tTs G d cfs) (tE G d ce) ((ownOf N vs).map (·.2)) σ H Q := by
    rw [ownOf_2]
    intro σ H Q tt
    obtain ⟨W, g, h, wp, n, m, q⟩ := tt
    obtain ⟨n, q⟩ := un_e q
    let body : SG → List PV → HP → R (List PV) := fun g1 acc h2 => (tests (fun e h => (ev G.pg n).e wp d e g1 h) cfs h2).bind fun b h3 => match b with
      | true => ((ev G.pg n).e wp d ce g1 h3).bind fun y h4 => .ok (y :: acc) h4
      | false => .ok acc h3
    have q : okR G wp W H (((ev G.pg n).e wp d ci g h).bind fun x h1 => R.ofO (itOf x) fun l => (turns t (Hc.wipe vs g) body l [] h1).bind fun acc h2 => if short acc then .ok (.lst acc.reverse) h2 else .no) (NPo G H Q) := q
    refine ⟨W, g, h, wp, n, m, q.bind.imp fun v h1 W1 H1 e1 r1 q1 => ?_⟩
    obtain ⟨l, e2, q2⟩ := q1.ofO
    refine ⟨l, e2, fun J jk D hD => ?_⟩
    let fin : List PV → HP → R PV := fun acc h2 => if short acc then .ok (.lst acc.reverse) h2 else .no
    refine ⟨fun i mm H' => ∃ W' h' acc, LcI G wp W1 H1 D W' h' acc H' ∧ i ≤ l.length ∧ mm = l.length - i ∧ okR G wp W1 H1 ((turns t (Hc.wipe vs g) body (l.drop i) acc h').bind fin) (NPo G H Q),
      ⟨l.length, W1, h1, [], lc_start r1 hD, Nat.zero_le _, rfl, by rw [List.drop_zero]; exact q2⟩, fun i mm H' ⟨W', h', acc, li, hil, hm, q3⟩ => ?_⟩
    have kx : KX G W1 H1 W' H' := ⟨wp, li.ex⟩
    by_cases hi2 : i < l.length
    · right
      refine ⟨jk.go W' H' i kx hi2, fun H' => ∃ W' h' acc, LcI G wp W1 H1 D W' h' acc H' ∧ okR G wp W1 H1 ((turns t (Hc.wipe vs g) body (l.drop (i + 1)) acc h').bind fin) (NPo G H Q),
        fun H2 ⟨W2, h2, acc2, li2, q4⟩ => ⟨l.length - (i + 1), by omega, W2, h2, acc2, li2, hi2, rfl, q4⟩, fun x H2 hy => ?_⟩
      obtain ⟨p, hp, ey, ry, rp⟩ := jk.yld W' H' h' i x H2 hi2 kx li.hr hy
      have li := li.step (ey wp) ry
      have hd : l.drop i = p :: l.drop (i + 1) := by
        rw [List.drop_eq_getElem_cons hi2]
        rw [List.getElem?_eq_getElem hi2] at hp
        cases hp; rfl
      rw [hd] at q3
      have q3 : okR G wp W1 H1 ((R.ofO (bind1 t p (Hc.wipe vs g)) fun g1 => (body g1 acc h').bind fun acc' h1 => turns t (Hc.wipe vs g) body (l.drop (i + 1)) acc' h1).bind fin) (NPo G H Q) := q3
      cases hb1 : bind1 t p (Hc.wipe vs g) with
      | none => rw [hb1] at q3; exact q3.elim
      | some g1 =>
        rw [hb1] at q3
        have q3 : okR G wp W1 H1 (((body g1 acc h').bind fun acc' h1 => turns t (Hc.wipe vs g) body (l.drop (i + 1)) acc' h1).bind fin) (NPo G H Q) := q3
        rw [R.assoc] at q3
        have sr0 : SR G W1 H1 (Hc.wipe vs g) (L2.wipe σ vs) := ((m.ext e1 r1).sr).wipe
        have sr1 : SR G _ H2 (Hc.wipe vs g) (L2.wipe σ vs) := sr0.ext li.ex
        refine ⟨W', Hc.wipe vs g, p, g1, sr1, rp, hb1, fun σ2 s2 o2 => ?_⟩
        have hl2 : σ2.length = σ.length := by rw [← s2.len]; have := sr1.len; rw [wipe_length] at this; rw [← this]; exact (bind1_len hb1)
        have hw : L2.wipe σ2 vs = L2.wipe σ vs := by
          have : Off vs (L2.wipe σ vs) σ2 := fun j hj => o2 j fun z => hj (of_decide_eq_true (List.all_eq_true.mp ht j z))
          rw [wipe_off (by rw [wipe_length]; exact hl2) this, wipe_wipe]
        refine ⟨hw, W', g1, h', wp, n, ⟨li.hr, s2⟩, ?_⟩
        have q3 : okR G wp W1 H1 (((tests (fun e h => (ev G.pg n).e wp d e g1 h) cfs h').bind fun b h3 => match b with
          | true => ((ev G.pg n).e wp d ce g1 h3).bind fun y h4 => .ok (y :: acc) h4
          | false => .ok acc h3).bind fun acc' h1 => (turns t (Hc.wipe vs g) body (l.drop (i + 1)) acc' h1).bind fin) (NPo G H Q) := q3
        rw [R.assoc] at q3
        refine (okR.keep q3).imp fun b h3 W3 H3 e3 r3 q4 => ?_
        have li3 := li.step e3 r3
        cases b with
        | false => exact ⟨W3, h3, acc, li3, q4⟩
        | true =>
          have q4 : okR G wp W1 H1 ((((ev G.pg n).e wp d ce g1 h3).bind fun y h4 => .ok (y :: acc) h4).bind fun acc' h1 => (turns t (Hc.wipe vs g) body (l.drop (i + 1)) acc' h1).bind fin) (NPo G H Q) := q4
          rw [R.assoc] at q4
          refine ⟨W3, g1, h3, wp, n, ⟨r3, s2.ext e3⟩, (okR.keep q4).imp fun y h4 W4 H4 e4 r4 q5 x rx => ?_⟩
          have li4 := li3.step e4 r4
          obtain ⟨xs, e5, e6⟩ := li4.it
          refine ⟨xs, e5, ?_, W4, h4, y :: acc, li4.app hD rx e5, q5⟩
          have hlen : (y :: acc).length ≤ 16777216 := by
            have q6 : okR G wp W1 H1 ((turns t (Hc.wipe vs g) body (l.drop (i + 1)) (y :: acc) h4).bind fin) (NPo G H Q) := q5
            revert q6
            cases ht2 : turns t (Hc.wipe vs g) body (l.drop (i + 1)) (y :: acc) h4 with
            | ok a2 hh2 =>
              intro q6
              have q6 : okR G wp W1 H1 (if short a2 then .ok (.lst a2.reverse) hh2 else .no) (NPo G H Q) := q6
              have l1 := shortE q6.cond.1
              have l2 := turns_len (fun g1 acc h acc' h' e => body_len e) ht2
              omega
            | _ => exact fun q6 => q6.elim
          have hx := e6.length
          rw [List.length_reverse] at hx
          rw [List.length_cons] at hlen
          rw [sizeLine_eq]; omega
    · left
      have : i = l.length := by omega
      refine ⟨jk.stop W' H' i kx (by omega), ?_⟩
      rw [this, List.drop_length] at q3
      have q3 : okR G wp W1 H1 (if short acc then .ok (.lst acc.reverse) h' else .no) (NPo G H Q) := q3
      exact lc_end li (Classical.byContradiction fun z => e1.tr D z hD) q3.cond.2
  refine ⟨(pe_lc k.calm k.nd hi ok hg' hf' he' (fun x => hfs _ x)).imp main, fun h1 h2 h3 => ?_⟩
  exact (ps_setLc k.calm k.nd (by rw [k.N]; exact h1) (by rw [k.sc]; exact h2) h3 hi ok hg' hf' he' (fun x => hfs _ x)).imp fun D σ H t => main σ H _ t
end
end Hc

set_option maxHeartbeats 4000000
/-! New instances, built-in functions. -/
namespace Hc
open PySem PySem.Spec PyProof.Rows L2
section
variable {G : GE} {T : Tab} {d : Nat} {N : List Str} {sc : Scope} {X : Cx} {rec : Scope → E → Expr → Bool}
/-! new instances -/
theorem new_t {d1 c f : Nat} {cs : List E} (hc : G.pg.ini c = some f) {σ : L2.St} {H : Hp} {Q : VK} (t : tE G (d1 + 1) (.new c cs) σ H Q) : tMake (G.cad c) (spF G d1 f) [] E0 (tA G (d1 + 1) cs) σ H Q := by
  obtain ⟨W, g, h, wp, n, m, q⟩ := t.un
  obtain ⟨f', e, q⟩ := (show okR G wp W H (R.ofO (G.pg.ini c) fun f => (evs' G n wp (d1 + 1) g cs h).bind fun vs h1 => ((ev G.pg n).f wp d1 f (.obj h1.length :: vs) (h1 ++ [.ins c []])).bind fun v h2 => match v with
        | .non => .ok (.obj h1.length) h2
        | _ => .no) (VP G Q) from q).ofO
  rw [hc] at e
  cases e
  refine ⟨W, g, h, wp, n, m, q.bind.imp fun vs h1 W1 H1 e1 r1 q1 xs rs x dx hx hd hne => ?_⟩
  show spF G d1 f (V.ref x :: (xs ++ [])) _ _ _
  rw [List.append_nil]
  have ex1 : Ext G wp W1 H1 W1 (L2.upd H1 dx (.own x)) := ext_new r1.nd hd
  have hr1 : HR G W1 h1 (L2.upd H1 dx (.own x)) := r1.new hd
  have hx1 : (L2.upd H1 dx (.own x)) x = none := by rw [upd_ne (fun z => hne z.symm)]; exact hx
  have ex2 : Ext G wp W1 (L2.upd H1 dx (.own x)) (W1.num x) (L2.upd (L2.upd H1 dx (.own x)) x (.ins (G.cad c) dx [])) := ext_num hr1 hx1
  have hr2 := hr1.num (io := .ins c []) hx1 (.ins (by rw [hc]; rfl) upd_same (by rw [upd_ne hne]; exact upd_same) .nil)
  have ex := ex1.trans ex2
  have ro : RV G (W1.num x) (L2.upd (L2.upd H1 dx (.own x)) x (.ins (G.cad c) dx [])) (.obj h1.length) (.ref x) := .obj (num_at r1)
  refine call_sp hr2 (.cons ro (rs.stay ex.stay)) ((q1.move ex).bind.imp fun v h2 W2 H2 e3 r3 q3 y ry => ?_)
  cases v with
  | non => cases ry; exact ⟨rfl, q3.here r3 _ (ro.stay e3.stay)⟩
  | _ => exact q3.elim
theorem r_new (F : GF G T) {d1 : Nat} (k : Gd G (d1 + 1) N sc X) (fs : FS G d1) {c f : Nat} {x : Str} {es : List Expr} {cs : List E} {p pos : Pos} (h1 : T.cls x = some c) (hc : G.pg.ini c = some f) (h2 : glB sc x = true) (h3 : plainName x = true) (h4 : es.all noStar = true) (h7 : cs.length = es.length) (ha : PA X es (tA G (d1 + 1) cs)) : PE X (.Call (.Name x p) es [] pos) (tE G (d1 + 1) (.new c cs)) := by
  obtain ⟨m1, m2⟩ := F.mkr c f hc
  obtain ⟨fd, pss, fo, bi⟩ := fn_at k fs m2
  have mm : Mk X.K (G.cad c) (G.fad f) := by rw [k.K]; exact m1
  have mg : X.mg x = some (.ref (G.cad c)) := by rw [k.mg]; exact F.cls x c h1
  cases es with
  | nil =>
    cases cs with
    | nil =>
      refine (pe_make0 mm fo k.room (gl_of k h2) mg bi .nil pass0 (plain_of h3).1).imp fun σ H Q t => ?_
      obtain ⟨W, g, h, wp, n, m, q⟩ := new_t hc t
      exact (show okR G wp W H (.ok [] h) _ from q).here m.hr [] .nil
    | cons _ _ => cases h7
  | cons e es =>
    simp only [List.all_cons, Bool.and_eq_true] at h4
    exact (pe_make mm fo k.room (gl_of k h2) mg bi .nil pass0 ha (plain_of h3).1 (noStar_e h4.1) (noStars h4.2)).imp fun σ H Q t => new_t hc t
/-! built-in functions of one argument -/
def rB1 (G : GE) (b : Nat) : List V → Hp → VK → Prop := fun xs H Q => ∃ W h wp a x z, xs = [x] ∧ HR G W h H ∧ RT G W H a x ∧ bfn h b [a] = some z ∧ okR G wp W H (.ok z h) (VP G Q)
theorem b1_t {b : Nat} {c : E} (hs : ∀ e, c ≠ .star e) {σ : L2.St} {H : Hp} {Q : VK} (t : tE G d (.bi b [c]) σ H Q) : tCB (rB1 G b) (tCons (tO G d c) tNil) σ H Q := by
  obtain ⟨W, g, h, wp, n, m, q⟩ := t.un
  have q : okR G wp W H (((ev G.pg n).e wp d c g h).bind fun v h1 => ofO (bfn h1 b [v]) h1) (VP G Q) := by
    have q : okR G wp W H ((evs' G n wp d g [c] h).bind fun vs h1 => ofO (bfn h1 b vs) h1) (VP G Q) := q
    have e : evs' G n wp d g [c] h = ((ev G.pg n).e wp d c g h).bind fun v h1 => .ok [v] h1 := by
      cases c <;> first | rfl | exact absurd rfl (hs _)
    rw [e, R.assoc] at q
    exact q
  refine ⟨W, g, h, wp, n, m, q.bind.imp fun v h1 W1 H1 e1 r1 q1 x rx => ?_⟩
  obtain ⟨z, e2, q2⟩ := q1.ofO
  exact ⟨W1, h1, wp, v, x, z, rfl, r1, rx, e2, q2⟩
theorem r_b1 (F : GF G T) (k : Gd G d N sc X) {b : Nat} {c : E} {e : Expr} {x y : Str} {id : String} {p pos : Pos} (hc : CallR X (.builtin id) (rB1 G b)) (hb : freeB T sc x y = true) (hv : bootBuiltins y = some (.builtin id)) (hn : plainName y = true) (hs : ∀ e, c ≠ .star e) (h2 : noStar e = true) (he : PE X e (tO G d c)) : PE X (.Call (.Name x p) [e] [] pos) (tE G d (.bi b [c])) := by
  unfold freeB at hb
  simp only [Bool.and_eq_true] at hb
  obtain ⟨⟨h3, h4⟩, h5⟩ := hb
  have := of_decide_eq_true h3
  subst this
  exact (pe_callB hc (gl_of k h4) (by rw [k.mg]; exact F.free _ (of_decide_eq_true h5)) hv (pa_cons he pa_nil (noStar_e h2)) (plain_of hn).2.2 (plain_of hn).1 (noStar_e h2) rfl).imp fun σ H Q t => b1_t hs t
theorem r_b1T (F : GF G T) (k : Gd G d N sc X) {b : Nat} {c : E} {e : Expr} {x y : Str} {id : String} {p pos : Pos} (hc : CallR X (.type id) (rB1 G b)) (hb : freeB T sc x y = true) (hv : bootBuiltins y = some (.type id)) (hn : plainName y = true) (hs : ∀ e, c ≠ .star e) (h2 : noStar e = true) (he : PE X e (tO G d c)) : PE X (.Call (.Name x p) [e] [] pos) (tE G d (.bi b [c])) := by
  unfold freeB at hb
  simp only [Bool.and_eq_true] at hb
  obtain ⟨⟨h3, h4⟩, h5⟩ := hb
  have := of_decide_eq_true h3
  subst this
  exact (pe_callTy hc (gl_of k h4) (by rw [k.mg]; exact F.free _ (of_decide_eq_true h5)) hv (pa_cons he pa_nil (noStar_e h2)) (plain_of hn).2.2 (plain_of hn).1 (noStar_e h2) rfl).imp fun σ H Q t => b1_t hs t
theorem c_len (k : Gd G d N sc X) : CallR X (.builtin "len") (rB1 G 0) := by
  intro pins s σ H xs us Q I r h
  obtain ⟨W, h, wp, a, x, z, rfl, hr, ta, e, q⟩ := h
  have e : (match lenv h a with | some n => some (PV.int n) | none => none) = some z := e
  split at e
  · rename_i n e1
    cases e
    have q := q.here hr _ (.int n)
    by_cases hs : ∃ l, seqOf h a = some l ∧ n = l.length
    · obtain ⟨l, e2, rfl⟩ := hs
      obtain ⟨p, ys, rfl, e3, e4⟩ := seq_of hr ta e2
      exact call_len_seq pins s σ H _ us Q I r ⟨p, ys, rfl, by rw [k.K]; exact e3, by rw [← e4.length]; exact q⟩
    · by_cases hd : ∃ l, dictOf h a = some l ∧ n = l.length ∧ dcls l ≠ some 1
      · obtain ⟨l, e2, rfl, nd⟩ := hd
        obtain ⟨p, rfl, da⟩ := dict_of hr ta e2
        obtain ⟨u, rfl, ru⟩ := vals1 r
        cases ru
        cases da with
        | k e3 e4 => exact d_len I (.inl e3) fun t s' I' => ⟨.int _, H, I', ⟨t, rfl⟩, by rw [← rvk_len e4]; exact q⟩
        | n _ ne e4 =>
          exfalso
          cases e4 with
          | nil => exact ne rfl
          | cons r1 ky _ _ => exact nd (by simpa [dcls, kcls, keyish] using ky)
      · cases a with
        | str y =>
          have e1 : (if short y then some y.length else none) = some n := e1
          split at e1
          · cases e1
            have := ta.str
            subst this
            exact call_len_str pins s σ H _ us Q I r ⟨_, rfl, by rw [strOf_len, sizeLine_eq]; exact shortE (by assumption), by rw [strOf_len]; exact q⟩
          · cases e1
        | tup l => exact absurd ⟨l, rfl, (Option.some.inj e1).symm⟩ hs
        | lst l => exact absurd ⟨l, rfl, (Option.some.inj e1).symm⟩ hs
        | dct l =>
          have e1 : (if dcls l = some 1 then none else some l.length) = some n := e1
          split at e1
          · cases e1
          · exact absurd ⟨l, rfl, (Option.some.inj e1).symm, by assumption⟩ hd
        | obj m =>
          cases hm : nth h m with
          | none => simp [lenv, hm] at e1
          | some io => cases io with
            | lst l => exact absurd ⟨l, by simp [seqOf, hm], by simpa [lenv, hm] using e1.symm⟩ hs
            | dct l =>
              have e1 : (if dcls l = some 1 then none else some l.length) = some n := by simpa [lenv, hm] using e1
              split at e1
              · cases e1
              · exact absurd ⟨l, by simp [dictOf, hm], (Option.some.inj e1).symm, by assumption⟩ hd
            | ins _ _ => simp [lenv, hm] at e1
        | _ => exact nomatch (show (none : Option Nat) = some n from e1)
  · cases e
theorem c_int : CallR X (.type "int") (rB1 G 7) := by
  intro pins s σ H xs us Q I r h
  obtain ⟨W, h, wp, a, x, z, rfl, hr, ta, e, q⟩ := h
  cases a with
  | int i =>
    cases e
    have := ta.int
    subst this
    exact call_int1 pins s σ H _ us Q I r (.inl ⟨i, rfl, q.here hr _ (.int i)⟩)
  | bl b =>
    cases e
    have := ta.bl
    subst this
    exact call_int1 pins s σ H _ us Q I r (.inr ⟨b, rfl, q.here hr _ (.int _)⟩)
  | _ => exact nomatch (show (none : Option PV) = some z from e)
theorem c_tup (k : Gd G d N sc X) : CallR X (.type "tuple") (rB1 G 8) := by
  intro pins s σ H xs us Q I r h
  obtain ⟨W, h, wp, a, x, z, rfl, hr, ta, e, q⟩ := h
  have e : (match seqOf h a with | some l => some (PV.tup l) | none => none) = some z := e
  split at e
  · rename_i l e1
    cases e
    obtain ⟨p, ys, rfl, e3, e4⟩ := seq_of hr ta e1
    rcases e3 with e3 | e3
    · refine call_tuple_of pins s σ H _ us Q I r ⟨p, ys, rfl, .inl ⟨by rw [k.K]; exact e3, fun l' hl => ?_⟩⟩
      obtain ⟨t1, t2, t3⟩ := new_tup hr hl e4
      exact q.at (t1 _) t2 _ t3
    · exact call_tuple_of pins s σ H _ us Q I r ⟨p, ys, rfl, .inr ⟨by rw [k.K]; exact e3, q.here hr _ (.tup e3 e4)⟩⟩
  · cases e
theorem c_lst (k : Gd G d N sc X) : CallR X (.type "list") (rB1 G 9) := by
  intro pins s σ H xs us Q I r h
  obtain ⟨W, h, wp, a, x, z, rfl, hr, ta, e, q⟩ := h
  have e : (match seqOf h a with | some l => some (PV.lst l) | none => none) = some z := e
  split at e
  · rename_i l e1
    cases e
    obtain ⟨p, ys, rfl, e3, e4⟩ := seq_of hr ta e1
    refine call_list_of pins s σ H _ us Q I r ⟨p, ys, rfl, by rw [k.K]; exact e3, fun l' hl => ?_⟩
    obtain ⟨t1, t2, t3⟩ := new_lst hr hl e4
    exact q.at (t1 _) t2 _ t3
  · cases e
theorem allb_of {W H} : ∀ {l : List PV} {xs : List V} {b : Bool}, RVs G W H l xs → allb l = some b → ∃ bs : List Bool, xs = bs.map V.bl ∧ b = bs.all id
  | [], _, _, r, e => by cases r; cases e; exact ⟨[], rfl, rfl⟩
  | p :: l, _, b, r, e => by
    cases r with
    | cons r1 rs =>
      cases p with
      | bl c =>
        cases r1
        have e : (match allb l with | some d => some (c && d) | none => none) = some b := e
        split at e
        · rename_i d e1
          cases e
          obtain ⟨bs, z1, z2⟩ := allb_of rs e1
          exact ⟨c :: bs, by rw [z1]; rfl, by rw [z2]; rfl⟩
        · cases e
      | _ => exact nomatch (show (none : Option Bool) = some b from e)
theorem anyb_of {W H} : ∀ {l : List PV} {xs : List V} {b : Bool}, RVs G W H l xs → anyb l = some b → ∃ bs : List Bool, xs = bs.map V.bl ∧ b = bs.any id
  | [], _, _, r, e => by cases r; cases e; exact ⟨[], rfl, rfl⟩
  | p :: l, _, b, r, e => by
    cases r with
    | cons r1 rs =>
      cases p with
      | bl c =>
        cases r1
        have e : (match anyb l with | some d => some (c || d) | none => none) = some b := e
        split at e
        · rename_i d e1
          cases e
          obtain ⟨bs, z1, z2⟩ := anyb_of rs e1
          exact ⟨c :: bs, by rw [z1]; rfl, by rw [z2]; rfl⟩
        · cases e
      | _ => exact nomatch (show (none : Option Bool) = some b from e)
theorem ints_of {W H} : ∀ {l : List PV} {xs : List V} {ns : List Int}, RVs G W H l xs → intsOf l = some ns → xs = ns.map V.int
  | [], _, _, r, e => by cases r; cases e; rfl
  | p :: l, _, ns, r, e => by
    cases r with
    | cons r1 rs =>
      cases p with
      | int c =>
        cases r1
        have e : (match intsOf l with | some d => some (c :: d) | none => none) = some ns := e
        split at e
        · rename_i d e1
          cases e
          rw [ints_of rs e1]; rfl
        · cases e
      | _ => exact nomatch (show (none : Option (List Int)) = some ns from e)
theorem lst_of {W H} {h : HP} {p : PV} {x : V} {l} (r : HR G W h H) (t : RT G W H p x) (e : lsOf h p = some l) : ∃ a xs, x = .ref a ∧ SqL G.K H a xs ∧ RVs G W H l xs := by
  unfold lsOf at e
  split at e
  · cases e; obtain ⟨a, xs, e1, e2, e3⟩ := t.lst; exact ⟨a, xs, e1, e2, e3⟩
  · split at e
    · cases e
      rename_i h1
      obtain ⟨a, e1, e2, e3⟩ := r.at t h1
      cases e3 with
      | lst e4 e5 => exact ⟨a, _, e1, .inl (.inl e4), e5⟩
    · cases e
  · cases e
theorem c_all (k : Gd G d N sc X) : CallR X (.builtin "all") (rB1 G 10) := by
  intro pins s σ H xs us Q I r h
  obtain ⟨W, h, wp, a, x, z, rfl, hr, ta, e, q⟩ := h
  have e : (match lsOf h a with | some l => (allb l).map PV.bl | none => none) = some z := e
  split at e
  · rename_i l e1
    obtain ⟨p, ys, rfl, e3, e4⟩ := lst_of hr ta e1
    cases e2 : allb l with
    | none => rw [e2] at e; cases e
    | some b =>
      rw [e2] at e; cases e
      obtain ⟨bs, rfl, rfl⟩ := allb_of e4 e2
      exact cr_all k.calm pins s σ H _ us Q I r ⟨p, bs, rfl, by rw [k.K]; exact e3, q.here hr _ (.bl _)⟩
  · cases e
theorem c_any (k : Gd G d N sc X) : CallR X (.builtin "any") (rB1 G 11) := by
  intro pins s σ H xs us Q I r h
  obtain ⟨W, h, wp, a, x, z, rfl, hr, ta, e, q⟩ := h
  have e : (match lsOf h a with | some l => (anyb l).map PV.bl | none => none) = some z := e
  split at e
  · rename_i l e1
    obtain ⟨p, ys, rfl, e3, e4⟩ := lst_of hr ta e1
    cases e2 : anyb l with
    | none => rw [e2] at e; cases e
    | some b =>
      rw [e2] at e; cases e
      obtain ⟨bs, rfl, rfl⟩ := anyb_of e4 e2
      exact cr_any k.calm pins s σ H _ us Q I r ⟨p, bs, rfl, by rw [k.K]; exact e3, q.here hr _ (.bl _)⟩
  · cases e
theorem minI_ok : ∀ (r : List Int) (m : Int), minI m r ∈ m :: r ∧ ∀ y ∈ m :: r, minI m r ≤ y
  | [], m => ⟨by simp [minI], fun y h => by simp [minI] at h ⊢; omega⟩
  | x :: r, m => by
    have hz : (if x < m then x else m) ≤ x ∧ (if x < m then x else m) ≤ m ∧ ((if x < m then x else m) = x ∨ (if x < m then x else m) = m) := by
      split
      · exact ⟨by omega, by omega, .inl rfl⟩
      · exact ⟨by omega, by omega, .inr rfl⟩
    simp only [minI]
    generalize (if x < m then x else m) = z at hz ⊢
    obtain ⟨h1, h2⟩ := minI_ok r z
    obtain ⟨z1, z2, z3⟩ := hz
    constructor
    · rcases List.mem_cons.mp h1 with h | h
      · rw [h]; rcases z3 with rfl | rfl <;> simp
      · simp [h]
    · intro y hy
      have h0 := h2 z (List.mem_cons_self ..)
      rcases List.mem_cons.mp hy with rfl | hy
      · omega
      · rcases List.mem_cons.mp hy with rfl | hy
        · omega
        · exact h2 y (List.mem_cons_of_mem _ hy)
theorem c_min (k : Gd G d N sc X) : CallR X (.builtin "min") (rB1 G 12) := by
  intro pins s σ H xs us Q I r h
  obtain ⟨W, h, wp, a, x, z, rfl, hr, ta, e, q⟩ := h
  have e : (match lsOf h a with | some l => (match intsOf l with | some (m :: r) => some (PV.int (minI m r)) | _ => none) | none => none) = some z := e
  split at e
  · rename_i l e1
    obtain ⟨p, ys, rfl, e3, e4⟩ := lst_of hr ta e1
    split at e
    · rename_i m rr e2
      cases e
      have := ints_of e4 e2
      subst this
      refine cr_min k.calm pins s σ H _ us Q I r ⟨p, m :: rr, rfl, by rw [k.K]; exact e3, by simp, fun y h1 h2 => ?_⟩
      obtain ⟨g1, g2⟩ := minI_ok rr m
      have : y = minI m rr := Int.le_antisymm (h2 _ g1) (g2 y h1)
      subst this
      exact q.here hr _ (.int _)
    · cases e
  · cases e
/-! isinstance -/
def tyName : Nat → Option String
  | 1 => some "int" | 2 => some "bool" | 3 => some "str" | 4 => some "tuple" | 5 => some "list" | _ => none
def tyP : PV → String
  | .non => "NoneType" | .bl _ => "bool" | .int _ => "int" | .str _ => "str" | .tup _ => "tuple" | _ => "list"
theorem ty_of {W H} {h : HP} {p : PV} {x : V} (k : Gd G d N sc X) (t : RT G W H p x) (e : ∃ b, isi 0 p = some b) : ∃ ty, TyX X.K H x (.type ty) ∧ ty = tyP p := by
  rw [k.K]
  cases p with
  | non => have := t.non; subst this; exact ⟨_, .base .non, rfl⟩
  | bl b => have := t.bl; subst this; exact ⟨_, .base (.bl b), rfl⟩
  | int b => have := t.int; subst this; exact ⟨_, .base (.int b), rfl⟩
  | str b => have := t.str; subst this; exact ⟨_, .base (.str _), rfl⟩
  | tup l =>
    obtain ⟨a, xs, rfl, s, _⟩ := t.tup
    rcases s with (s | ⟨o, s⟩) | ⟨o, its, n, e1, e2, _⟩
    · exact ⟨_, .base (.tup s), rfl⟩
    · exact ⟨_, .fTuple s, rfl⟩
    · exact ⟨_, .kTuple e1 e2, rfl⟩
  | lst l =>
    obtain ⟨a, xs, rfl, s, _⟩ := t.lst
    rcases s with (s | ⟨o, s⟩) | ⟨o, its, n, e1, e2, _⟩
    · exact ⟨_, .base (.lst s), rfl⟩
    · exact ⟨_, .base (.frz s), rfl⟩
    · exact ⟨_, .kList e1 e2, rfl⟩
  | _ => obtain ⟨b, e⟩ := e; cases e
theorem isi_some {b : Nat} {p : PV} {z : Bool} (e : isi b p = some z) : ∃ b, isi 0 p = some b := by
  cases p <;> first | exact ⟨_, rfl⟩ | cases e
theorem kit_is {K : PySem.W.Frag} {b : Nat} {nm : String} {p : PV} {z : Bool} (hb : tyName (b + 1) = some nm) (e : isi b p = some z) : PySem.W.kitOne K (.type (tyP p)) (.type nm) = some z := by
  have hb5 : b < 5 := by
    by_cases h : b < 5
    · exact h
    · exfalso
      obtain ⟨c, rfl⟩ : ∃ c, b = c + 5 := ⟨b - 5, by omega⟩
      cases hb
  have : b = 0 ∨ b = 1 ∨ b = 2 ∨ b = 3 ∨ b = 4 := by omega
  rcases this with rfl | rfl | rfl | rfl | rfl <;> cases hb <;> cases p <;> cases e <;> first | exact kit_ty (a := "NoneType") (by decide +kernel) | exact kit_ty (a := "bool") (by decide +kernel) | exact kit_ty (a := "int") (by decide +kernel) | exact kit_ty (a := "str") (by decide +kernel) | exact kit_ty (a := "tuple") (by decide +kernel) | exact kit_ty (a := "list") (by decide +kernel)
end
end Hc

set_option maxHeartbeats 4000000
/-! isinstance. -/
namespace Hc
open PySem PySem.Spec PyProof.Rows L2
section
variable {G : GE} {T : Tab} {d : Nat} {N : List Str} {sc : Scope} {X : Cx} {rec : Scope → E → Expr → Bool}
def rB2 (G : GE) (b : Nat) (nm : String) : List V → Hp → VK → Prop := fun xs H Q => ∃ W h wp a x z, xs = [x, .ty nm] ∧ HR G W h H ∧ RT G W H a x ∧ isi b a = some z ∧ okR G wp W H (.ok (.bl z) h) (VP G Q)
theorem c_isi (k : Gd G d N sc X) {b : Nat} {nm : String} (hb : tyName (b + 1) = some nm) : CallR X (.builtin "isinstance") (rB2 G b nm) := by
  intro pins s σ H xs us Q I r h
  obtain ⟨W, h, wp, a, x, z, rfl, hr, ta, e, q⟩ := h
  obtain ⟨ty, t1, rfl⟩ := ty_of (h := h) k ta (isi_some e)
  exact call_isi pins s σ H _ us Q I r ⟨x, _, _, _, z, rfl, .ty nm, t1, kit_is hb e, q.here hr _ (.bl z)⟩
theorem one_bi {b : Nat} {c : E} (hs : ∀ e, c ≠ .star e) {σ : L2.St} {H : Hp} {Q : VK} (t : tE G d (.bi b [c]) σ H Q) : ∃ W g h wp n, Mo G W g h σ H ∧ okR G wp W H (((ev G.pg n).e wp d c g h).bind fun v h1 => ofO (bfn h1 b [v]) h1) (VP G Q) := by
  obtain ⟨W, g, h, wp, n, m, q⟩ := t.un
  have q : okR G wp W H ((evs' G n wp d g [c] h).bind fun vs h1 => ofO (bfn h1 b vs) h1) (VP G Q) := q
  have e : evs' G n wp d g [c] h = ((ev G.pg n).e wp d c g h).bind fun v h1 => .ok [v] h1 := by
    cases c <;> first | rfl | exact absurd rfl (hs _)
  rw [e, R.assoc] at q
  exact ⟨W, g, h, wp, n, m, q⟩
theorem bfn_isi {h : HP} {b : Nat} {v z : PV} (hb : b < 5) (e : bfn h (b + 1) [v] = some z) : ∃ k, isi b v = some k ∧ z = .bl k := by
  have : b = 0 ∨ b = 1 ∨ b = 2 ∨ b = 3 ∨ b = 4 := by omega
  rcases this with rfl | rfl | rfl | rfl | rfl
  · have e : (isi 0 v).map PV.bl = some z := e
    cases q : isi 0 v with
    | none => rw [q] at e; cases e
    | some k => rw [q] at e; cases e; exact ⟨k, rfl, rfl⟩
  · have e : (isi 1 v).map PV.bl = some z := e
    cases q : isi 1 v with
    | none => rw [q] at e; cases e
    | some k => rw [q] at e; cases e; exact ⟨k, rfl, rfl⟩
  · have e : (isi 2 v).map PV.bl = some z := e
    cases q : isi 2 v with
    | none => rw [q] at e; cases e
    | some k => rw [q] at e; cases e; exact ⟨k, rfl, rfl⟩
  · have e : (isi 3 v).map PV.bl = some z := e
    cases q : isi 3 v with
    | none => rw [q] at e; cases e
    | some k => rw [q] at e; cases e; exact ⟨k, rfl, rfl⟩
  · have e : (isi 4 v).map PV.bl = some z := e
    cases q : isi 4 v with
    | none => rw [q] at e; cases e
    | some k => rw [q] at e; cases e; exact ⟨k, rfl, rfl⟩
def tyStr (b : Nat) : Str := match b with
  | 0 => "int" | 1 => "bool" | 2 => "str" | 3 => "tuple" | _ => "list"
theorem ty_nm {b : Nat} (hb : b < 5) : ∃ nm, tyName (b + 1) = some nm ∧ bootBuiltins (tyStr b) = some (.type nm) ∧ plainName (tyStr b) = true := by
  have : b = 0 ∨ b = 1 ∨ b = 2 ∨ b = 3 ∨ b = 4 := by omega
  rcases this with rfl | rfl | rfl | rfl | rfl <;> exact ⟨_, rfl, by decide +kernel, by decide +kernel⟩
theorem pe_ty (F : GF G T) (k : Gd G d N sc X) {b : Nat} {x : Str} {p : Pos} {nm : String} (hb : freeB T sc x (tyStr b) = true) (h1 : bootBuiltins (tyStr b) = some (.type nm)) (h2 : plainName (tyStr b) = true) : PE X (.Name x p) (tC (.ty nm)) := by
  unfold freeB at hb
  simp only [Bool.and_eq_true] at hb
  obtain ⟨⟨h3, h4⟩, h5⟩ := hb
  have := of_decide_eq_true h3
  subst this
  exact pe_bltn (gl_of k h4) (by rw [k.mg]; exact F.free _ (of_decide_eq_true h5)) h1 rfl (plain_of h2).2.2 (plain_of h2).1
theorem r_isi (F : GF G T) (k : Gd G d N sc X) {b : Nat} {c : E} {e : Expr} {x t : Str} {p p2 pos : Pos} (hb : b < 5) (h1 : freeB T sc x "isinstance" = true) (h2 : freeB T sc t (tyStr b) = true) (hs : ∀ e, c ≠ .star e) (h3 : noStar e = true) (he : PE X e (tO G d c)) : PE X (.Call (.Name x p) [e, .Name t p2] [] pos) (tE G d (.bi (b + 1) [c])) := by
  obtain ⟨nm, n1, n2, n3⟩ := ty_nm hb
  unfold freeB at h1
  simp only [Bool.and_eq_true] at h1
  obtain ⟨⟨h4, h5⟩, h6⟩ := h1
  have := of_decide_eq_true h4
  subst this
  refine (pe_callB (c_isi k n1) (gl_of k h5) (by rw [k.mg]; exact F.free _ (of_decide_eq_true h6)) (by decide +kernel) (pa_cons he (pa_cons (pe_ty F k h2 n2 n3) pa_nil rfl) (noStar_e h3)) (by decide) (by decide) (noStar_e h3) rfl).imp fun σ H Q t => ?_
  obtain ⟨W, g, h, wp, n, m, q⟩ := one_bi hs t
  refine ⟨W, g, h, wp, n, m, q.bind.imp fun v h1 W1 H1 e1 r1 q1 x rx => ?_⟩
  obtain ⟨z, e2, q2⟩ := q1.ofO
  obtain ⟨kk, e3, rfl⟩ := bfn_isi hb e2
  exact ⟨W1, h1, wp, v, x, kk, rfl, r1, rx, e3, q2⟩
def rB3 (G : GE) : List V → Hp → VK → Prop := fun xs H Q => ∃ W h wp a x p z1 z2, xs = [x, .ref p] ∧ HR G W h H ∧ H p = some (.tup [.ty "tuple", .ty "list"]) ∧ RT G W H a x ∧ isi 3 a = some z1 ∧ isi 4 a = some z2 ∧ okR G wp W H (.ok (.bl (z1 || z2)) h) (VP G Q)
theorem c_isi2 (k : Gd G d N sc X) : CallR X (.builtin "isinstance") (rB3 G) := by
  intro pins s σ H xs us Q I r h
  obtain ⟨W, h, wp, a, x, p, z1, z2, rfl, hr, hp, ta, e1, e2, q⟩ := h
  obtain ⟨ty, t1, rfl⟩ := ty_of (h := h) k ta (isi_some e1)
  refine call_isiT pins s σ H _ us Q I r ⟨x, p, _, _, [.type "tuple", .type "list"], z1 || z2, rfl, hp, .cons (.ty _) (.cons (.ty _) .nil), t1, ?_, q.here hr _ (.bl _)⟩
  exact kitAny_cons (kit_is (b := 3) rfl e1) (fun z => by subst z; exact kitAny_cons (kit_is (b := 4) rfl e2) (fun z => by subst z; exact kitAny_nil) (fun z => by subst z; rfl)) (fun z => by subst z; rfl)
theorem r_isi2 (F : GF G T) (k : Gd G d N sc X) {c : E} {e : Expr} {x t u : Str} {p p2 p3 p4 pos : Pos} {kk : Nat} (h1 : freeB T sc x "isinstance" = true) (h2 : freeB T sc t (tyStr 3) = true) (h2' : freeB T sc u (tyStr 4) = true) (hs : ∀ e, c ≠ .star e) (h3 : noStar e = true) (he : PE X e (tO G d c)) :
    PE X (.Call (.Name x p) [e, .Tuple [.Name t p2, .Name u p3] kk p4] [] pos) (tE G d (.bi 6 [c])) := by
  unfold freeB at h1
  simp only [Bool.and_eq_true] at h1
  obtain ⟨⟨h4, h5⟩, h6⟩ := h1
  have := of_decide_eq_true h4
  subst this
  refine (pe_callB (c_isi2 k) (gl_of k h5) (by rw [k.mg]; exact F.free _ (of_decide_eq_true h6)) (by decide +kernel) (pa_cons he (pa_cons (pe_tup (pa_cons (pe_ty F k h2 (nm := "tuple") (by decide +kernel) (by decide +kernel)) (pa_cons (pe_ty F k h2' (nm := "list") (by decide +kernel) (by decide +kernel)) pa_nil rfl) rfl)) pa_nil rfl) (noStar_e h3)) (by decide) (by decide) (noStar_e h3) rfl).imp fun σ H Q t => ?_
  obtain ⟨W, g, h, wp, n, m, q⟩ := one_bi hs t
  refine ⟨W, g, h, wp, n, m, q.bind.imp fun v h1 W1 H1 e1 r1 q1 x rx => ?_⟩
  obtain ⟨z, e2, q2⟩ := q1.ofO
  have e2 : (match isi 3 v, isi 4 v with | some p, some q => some (PV.bl (p || q)) | _, _ => none) = some z := e2
  refine ⟨by rw [sizeLine_eq]; decide, fun pp hpp => ?_⟩
  have ex : Ext G wp W1 H1 W1 (L2.upd H1 pp (.tup [.ty "tuple", .ty "list"])) := ext_new r1.nd hpp
  split at e2
  · rename_i a b e3 e4
    cases e2
    exact ⟨W1, h1, wp, v, x, pp, a, b, rfl, r1.new hpp, upd_same, rx.ext ex, e3, e4, q2.move ex⟩
  · cases e2
end
end Hc

set_option maxHeartbeats 4000000
/-! tuple(range(..)), len(set(..)), d.get(..). -/
namespace Hc
open PySem PySem.Spec PyProof.Rows L2
section
variable {G : GE} {T : Tab} {d : Nat} {N : List Str} {sc : Scope} {X : Cx} {rec : Scope → E → Expr → Bool}
theorem bas' {a b : Bool} (h : (a && b) = true) : a = true ∧ b = true := by simpa using h
theorem few1 {e : Expr} {cpos : Pos} {env : Env} (h : noStar e = true) : ((backTo cpos (starEach [e] env)).all (fun x => !x.1) && (backToKw cpos (keywordEach [] env)).all (fun x => x.1.isSome)
      && decide (([e] : List Expr).length + ([] : List Keyword).length + (if ([] : List Keyword).isEmpty then 0 else 1) < 30)) = true := by
  rw [noStar_e h]; rfl
theorem free_of (F : GF G T) (k : Gd G d N sc X) {x y : Str} (hb : freeB T sc x y = true) : x = y ∧ Gl X x ∧ X.mg x = none := by
  unfold freeB at hb
  simp only [Bool.and_eq_true] at hb
  exact ⟨of_decide_eq_true hb.1.1, gl_of k hb.1.2, by rw [k.mg]; exact F.free _ (of_decide_eq_true hb.2)⟩
theorem rvs_rg {W H} : ∀ (n : Nat) (a : Int), RVs G W H (rgo n a) ((List.range n).map fun i => V.int (a + (i : Nat)))
  | 0, _ => .nil
  | n + 1, a => by
    rw [List.range_succ_eq_map, List.map_cons, List.map_map]
    refine .cons (by simpa using RV.int a) ?_
    have := rvs_rg (W := W) (H := H) n (a + 1)
    have e : ((fun i : Nat => V.int (a + (i : Nat))) ∘ Nat.succ) = fun i : Nat => V.int (a + 1 + (i : Nat)) := by
      funext i
      show V.int (a + ((i + 1 : Nat) : Int)) = _
      congr 1
      omega
    rw [e]
    exact this
/-- range(..) as an argument -/
def rgE (ev : E → HP → R PV) (a b : E) (h : HP) : R (Int × Int) := (ev a h).bind fun x h1 => (ev b h1).bind fun y h2 => match x, y with
  | .int i, .int j => if rngOk i && rngOk j && Nat.ble (j - i).toNat 16777216 then .ok (i, j) h2 else .no
  | _, _ => .no
theorem rng_eq {P : Pg} {r : EV} {wp d : Nat} {a b : E} {g : SG} {h : HP} : evE P r wp d (.rng a b) g h = (rgE (fun e h => r.e wp d e g h) a b h).bind fun ij h => .ok (.lst (range ij.1 ij.2)) h := by
  show ((r.e wp d a g h).bind fun x h1 => (r.e wp d b g h1).bind fun y h2 => _) = _
  unfold rgE
  rw [R.assoc]
  congr 1
  funext x h1
  rw [R.assoc]
  congr 1
  funext y h2
  cases x <;> cases y <;> first | rfl | skip
  rename_i i j
  show (if (rngOk i && rngOk j && Nat.ble (j - i).toNat 16777216) = true then R.ok (PV.lst (range i j)) h2 else .no) = Hc.R.bind (if (rngOk i && rngOk j && Nat.ble (j - i).toNat 16777216) = true then R.ok (i, j) h2 else .no) _
  split <;> rfl
def tRgI (G : GE) (d : Nat) (ca cb : E) : L2.St → Hp → (Int → Int → Hp → Prop) → Prop := fun σ H Q => ∃ W g h wp n, Mo G W g h σ H ∧ okR G wp W H (rgE (fun e h => (ev G.pg n).e wp d e g h) ca cb h) (fun ij _ _ H' => RgOk ij.1 ij.2 → Q ij.1 ij.2 H')
def ckRg (T : Tab) (rec : Scope → E → Expr → Bool) (sc : Scope) (a b : E) (e : Expr) : Bool := match e with
  | .Call (.Name f _) [e1] [] _ => freeB T sc f "range" && (match a with
    | .cst (.int i) => decide (i = 0)
    | _ => false) && noStar e1 && rec sc b e1
  | .Call (.Name f _) [e1, e2] [] _ => freeB T sc f "range" && noStar e1 && noStar e2 && rec sc a e1 && rec sc b e2
  | _ => false
theorem rg_ok {i j : Int} (h : (rngOk i && rngOk j && Nat.ble (j - i).toNat 16777216) = true) : RgOk i j := by
  simp only [Bool.and_eq_true] at h
  exact ⟨(r62 h.1.1).1, (r62 h.1.1).2, (r62 h.1.2).1, (r62 h.1.2).2, Nat.le_of_ble_eq_true h.2⟩
theorem ckRg_ok (F : GF G T) (s : Snd G d N rec) (k : Gd G d N sc X) {a b : E} {e : Expr} (h : ckRg T rec sc a b e = true) : PRg X e (tRgI G d a b) ∧ noStar e = true := by
  unfold ckRg at h
  split at h
  · simp only [Bool.and_eq_true] at h
    obtain ⟨⟨⟨h1, h2⟩, h3⟩, h4⟩ := h
    obtain ⟨e1, g1, m1⟩ := free_of F k h1
    subst e1
    split at h2
    · rename_i i0
      cases of_decide_eq_true h2
      refine ⟨fun pins s' σ H Q I ⟨W, g, h, wp, n, m, q⟩ => prg_1 g1 m1 (s _ _ _ h4 X k) (noStar_e h3) pins s' σ H Q I ?_, rfl⟩
      have q : okR G wp W H (((ev G.pg n).e wp d (.cst (.int 0)) g h).bind fun x h1 => ((ev G.pg n).e wp d b g h1).bind fun y h2 => match x, y with
        | .int i, .int j => if rngOk i && rngOk j && Nat.ble (j - i).toNat 16777216 then .ok (i, j) h2 else .no
        | _, _ => .no) (fun ij _ _ H' => RgOk ij.1 ij.2 → Q ij.1 ij.2 H') := q
      cases n with
      | zero => exact q.elim
      | succ n =>
        have q : okR G wp W H (((ev G.pg (n + 1)).e wp d b g h).bind fun y h2 => match PV.int 0, y with
          | .int i, .int j => if rngOk i && rngOk j && Nat.ble (j - i).toNat 16777216 then .ok (i, j) h2 else .no
          | _, _ => .no) (fun ij _ _ H' => RgOk ij.1 ij.2 → Q ij.1 ij.2 H') := q
        refine ⟨W, g, h, wp, n + 1, m, q.bind.imp fun v2 h2 W2 H2 e2 r2 q2 y ry => ?_⟩
        cases v2 with
        | int j =>
          have q2 : okR G wp W2 H2 (if rngOk 0 && rngOk j && Nat.ble (j - 0).toNat 16777216 then .ok ((0 : Int), j) h2 else .no) (fun ij _ _ H' => RgOk ij.1 ij.2 → Q ij.1 ij.2 H') := q2
          obtain ⟨hb, q3⟩ := q2.cond
          cases ry
          exact ⟨j, rfl, q3.here r2 (rg_ok hb)⟩
        | _ => exact q2.elim
    · cases h2
  · simp only [Bool.and_eq_true] at h
    obtain ⟨⟨⟨⟨h1, h2⟩, h3⟩, h4⟩, h5⟩ := h
    obtain ⟨e1, g1, m1⟩ := free_of F k h1
    subst e1
    refine ⟨fun pins s' σ H Q I ⟨W, g, h, wp, n, m, q⟩ => prg_2 g1 m1 (s _ _ _ h4 X k) (s _ _ _ h5 X k) (noStar_e h2) (noStar_e h3) (by rw [noStar_e h3]; rfl) pins s' σ H Q I ?_, rfl⟩
    refine ⟨W, g, h, wp, n, m, q.bind.imp fun v1 h1 W1 H1 e1 r1 q1 x rx => ⟨W1, g, h1, wp, n, m.ext e1 r1, q1.bind.imp fun v2 h2 W2 H2 e2 r2 q2 y ry => ?_⟩⟩
    cases v1 with
    | int i => cases v2 with
      | int j =>
        have q2 : okR G wp W2 H2 (if rngOk i && rngOk j && Nat.ble (j - i).toNat 16777216 then .ok (i, j) h2 else .no) (fun ij _ _ H' => RgOk ij.1 ij.2 → Q ij.1 ij.2 H') := q2
        obtain ⟨hb, q3⟩ := q2.cond
        cases rx
        cases ry
        exact ⟨i, j, rfl, rfl, q3.here r2 (rg_ok hb)⟩
      | _ => exact q2.elim
    | _ => exact q2.elim
  · cases h
theorem ch_rg {b : Nat} {ca cb : E} {f : List PV → PV} (hb : ∀ h l, bfn h b [.lst l] = some (f l)) {σ : L2.St} {H : Hp} {Q : VK} {R' : Int → Int → Hp → Prop} (t : tE G d (.bi b [.rng ca cb]) σ H Q)
    (fin : ∀ wp W1 H1 h1 i j, HR G W1 h1 H1 → okR G wp W1 H1 (.ok (f (range i j)) h1) (VP G Q) → RgOk i j → R' i j H1) : tRgI G d ca cb σ H R' := by
  obtain ⟨W, g, h, wp, n, m, q⟩ := one_bi (fun e z => by cases z) t
  cases n with
  | zero => exact q.elim
  | succ n =>
    have q : okR G wp W H ((evE G.pg (ev G.pg n) wp d (.rng ca cb) g h).bind fun v h1 => ofO (bfn h1 b [v]) h1) (VP G Q) := q
    rw [rng_eq, R.assoc] at q
    refine ⟨W, g, h, wp, n, m, q.bind.imp fun ij h1 W1 H1 e1 r1 q1 ok => ?_⟩
    have q1 : okR G wp W1 H1 (ofO (bfn h1 b [.lst (range ij.1 ij.2)]) h1) (VP G Q) := q1
    rw [hb] at q1
    exact fin wp W1 H1 h1 _ _ r1 q1 ok
theorem r_tupRg (F : GF G T) (k : Gd G d N sc X) {ca cb : E} {e : Expr} {x : Str} {p pos : Pos} (hb : freeB T sc x "tuple" = true) (he : PRg X e (tRgI G d ca cb)) (h2 : noStar e = true) : PE X (.Call (.Name x p) [e] [] pos) (tE G d (.bi 8 [.rng ca cb])) := by
  obtain ⟨e1, g1, m1⟩ := free_of F k hb
  subst e1
  exact (pe_tupRg k.calm g1 m1 he (noStar_e h2)).imp fun σ H Q t => ch_rg (f := .tup) (fun _ _ => rfl) t fun wp W1 H1 h1 i j r1 q1 ok => ⟨ok, fun p hp => by
    obtain ⟨t1, t2, t3⟩ := new_tup r1 hp (rvs_rg (j - i).toNat i)
    exact q1.at (t1 _) t2 _ t3⟩
theorem r_lstRg (F : GF G T) (k : Gd G d N sc X) {ca cb : E} {e : Expr} {x : Str} {p pos : Pos} (hb : freeB T sc x "list" = true) (he : PRg X e (tRgI G d ca cb)) (h2 : noStar e = true) : PE X (.Call (.Name x p) [e] [] pos) (tE G d (.bi 9 [.rng ca cb])) := by
  obtain ⟨e1, g1, m1⟩ := free_of F k hb
  subst e1
  exact (pe_listRg k.calm g1 m1 he (noStar_e h2)).imp fun σ H Q t => ch_rg (f := .lst) (fun _ _ => rfl) t fun wp W1 H1 h1 i j r1 q1 ok => ⟨ok, fun p hp => by
    obtain ⟨t1, t2, t3⟩ := new_lst r1 hp (rvs_rg (j - i).toNat i)
    exact q1.at (t1 _) t2 _ t3⟩
/-! len(set(..)) of a tuple of ints -/
theorem dis_nodup : ∀ l : List Int, (distinct l).Nodup
  | [] => List.nodup_nil
  | x :: r => by
    unfold distinct
    split
    · exact dis_nodup r
    · rename_i h
      refine List.nodup_cons.mpr ⟨fun z => h ?_, dis_nodup r⟩
      have : ∀ l : List Int, ∀ y, y ∈ distinct l → y ∈ l := by
        intro l
        induction l with
        | nil => exact fun y h => h
        | cons a l ih =>
          intro y hy
          unfold distinct at hy
          split at hy
          · exact List.mem_cons_of_mem _ (ih y hy)
          · rcases List.mem_cons.mp hy with rfl | hy
            · exact List.mem_cons_self
            · exact List.mem_cons_of_mem _ (ih y hy)
      exact List.contains_iff_mem.mpr (this r x z)
theorem dis_mem : ∀ (l : List Int) (y : Int), y ∈ distinct l ↔ y ∈ l
  | [], y => Iff.rfl
  | x :: r, y => by
    unfold distinct
    split
    · rename_i h
      rw [dis_mem r y]
      constructor
      · exact List.mem_cons_of_mem _
      · intro hy
        rcases List.mem_cons.mp hy with rfl | hy
        · exact List.contains_iff_mem.mp h
        · exact hy
    · rw [List.mem_cons, List.mem_cons, dis_mem r y]
theorem r_lset (F : GF G T) (k : Gd G d N sc X) {c : E} {a : Expr} {x y : Str} {p p2 q pos : Pos} (h1 : freeB T sc x "len" = true) (h2 : freeB T sc y "set" = true) (hs : ∀ e, c ≠ .star e) (na : noStar a = true) (ha : PE X a (tO G d c)) : PE X (.Call (.Name x p) [.Call (.Name y p2) [a] [] q] [] pos) (tE G d (.bi 14 [c])) := by
  obtain ⟨e1, g1, m1⟩ := free_of F k h1
  obtain ⟨e2, g2, m2⟩ := free_of F k h2
  subst e1 e2
  refine ⟨fun pins s σ H Q I t => ?_⟩
  obtain ⟨W, g, h, wp, n, m, q⟩ := one_bi hs t
  refine Call_ (ld_blt I g1 m1 boot_len ?_)
  refine PyProof.Rows.callWith_builtin1 (PyProof.Rows.args_cons ?_ rfl) rfl rfl
  refine Call_ (ld_blt I g2 m2 boot_set ?_)
  refine PyProof.Rows.callWith_type1 (PyProof.Rows.args_cons (thn (ha.run pins s σ H (fun x H1 => ∃ (l : Addr) (ns : List Int), x = .ref l ∧ SqT G.K H1 l (ns.map V.int) ∧ ns.length < 4000 ∧ Q (.int (distinct ns).length) H1) I ⟨W, g, h, wp, n, m, q.bind.imp fun v h1 W1 H1 e1 r1 q1 x rx => ?_⟩) fun v s1 ⟨x, H1, I1, r1, q1⟩ => PyProof.Rows.args_nil ?_) (noStar_e na)) (noStar_e na) rfl
  · obtain ⟨z, e2, q2⟩ := q1.ofO
    have e2 : (match tpOf v with | some l => (match intsOf l with | some r => if Nat.blt r.length 4000 then some (PV.int (distinct r).length) else none | _ => none) | none => none) = some z := e2
    split at e2
    · rename_i l e3
      split at e2
      · rename_i ns e4
        split at e2
        · rename_i hb
          cases e2
          cases v <;> cases e3
          obtain ⟨a, xs, rfl, s1, rs⟩ := rx.tup
          have := ints_of rs e4
          subst this
          exact ⟨a, ns, rfl, s1, Nat.blt_eq.mp hb, q2.here r1 _ (.int _)⟩
        · cases e2
      · cases e2
    · cases e2
  · obtain ⟨l, ns, rfl, hq, hl, q1⟩ := q1
    cases r1
    obtain ⟨its, r, pl, hz⟩ := I1.tuple (by rw [k.K]; exact hq)
    refine call_set_tupI ns (I1.ok.hd k.calm) pl (by simpa using r.ints) (by unfold scanBound; omega) fun h' tk c hS _ hk => ?_
    refine PyProof.Rows.args_nil ?_
    obtain ⟨o, es, ep, t, ho, hex, hd, _, nd, hm, _, hf, hn, _⟩ := hS
    have I2 : L2.Inv X pins σ H1 { s1 with heap := h', toks := tk } := I1.kept fun b o e => hk b o e
    have hc : es.size = (distinct ns).length := by
      have pm : (es.toList.map keyOf).Perm (distinct ns) := (List.perm_ext_iff_of_nodup nd (dis_nodup ns)).mpr fun a => by
        rw [dis_mem, ← hm a, decide_eq_true_iff]
      have := pm.length_eq
      simpa using this
    have hle : (distinct ns).length ≤ ns.length := by
      have : ∀ l : List Int, (distinct l).length ≤ l.length := by
        intro l
        induction l with
        | nil => exact Nat.le_refl _
        | cons a l ih => unfold distinct; split <;> simp <;> omega
      exact this ns
    exact call_len_set ho hex hd hf (by rw [hc]; omega) ⟨.int (distinct ns).length, H1, I2.tok _, ⟨_, by rw [hc]⟩, q1⟩
/-! d.get(k), d.get(k, x) -/
theorem ask_k {W H a dd} (da : DA G W H a dd) (nd : dcls dd ≠ some 1) : ∃ kvs, H a = some (.dK kvs) ∧ RVk G W H dd kvs := by
  cases da with
  | k e r => exact ⟨_, e, r⟩
  | n e ne r =>
    exfalso
    cases r with
    | nil => exact ne rfl
    | cons r1 ky _ _ => exact nd (by simpa [dcls, kcls, keyish] using ky)
theorem kr_of' {k : PV} (h : kcls k = some 0) : ∃ kk, KR k kk := by
  cases k with
  | int i => exact ⟨_, .int i⟩
  | str i => exact ⟨_, .str i⟩
  | tup l => simp only [kcls] at h; split at h <;> cases h
  | _ => cases h
theorem dct_of {W H a dd} (da : DA G W H a dd) (nd : dcls dd ≠ some 1) : IsD H a := by
  obtain ⟨kvs, e, _⟩ := ask_k da nd
  exact .inl ⟨kvs, .inl e⟩
theorem r_get1 (F : GF G T) (k : Gd G d N sc X) {o e : Expr} {co ck : E} {apos cpos : Pos} (h1 : noCall0 o = true) (h2 : noStar e = true) (h3 : (apos.endLine == cpos.line) = true) (ho : PE X o (tO G d co)) (he : PE X e (tE G d ck)) (hs : ∀ e, ck ≠ .star e) : PE X (.Call (.Attribute o "get" apos) [e] [] cpos) (tE G d (.bm 0 co [ck])) :=
  (pe_dget1 (by have := k.u; omega) ho he ⟨noCall_b h1, few1 h2, h3, by rw [noStar_e h2]; rfl⟩).imp fun σ H Q t => by
    obtain ⟨W, g, h, wp, n, m, q⟩ := t.un
    have q : okR G wp W H (((ev G.pg n).e wp d co g h).bind fun x h1 => match x with
      | .dct dd => if dcls dd == some 1 then .no else (evs' G n wp d g [ck] h1).bind fun vs h2 => ofO (bmf 0 dd vs) h2
      | _ => .no) (VP G Q) := q
    refine ⟨W, g, h, wp, n, m, q.bind.imp fun v1 h1 W1 H1 e1 r1 q1 x rx => ?_⟩
    cases v1 with
    | dct dd =>
      obtain ⟨a, rfl, da⟩ := rx.dct
      cases hd : (dcls dd == some 1) with
      | true =>
        have q1 : okR G wp W1 H1 (if (dcls dd == some 1) = true then .no else (evs' G n wp d g [ck] h1).bind fun vs h2 => ofO (bmf 0 dd vs) h2) (VP G Q) := q1
        rw [hd] at q1; exact q1.elim
      | false =>
        have nd : dcls dd ≠ some 1 := by intro z; rw [z] at hd; cases hd
        have q1 : okR G wp W1 H1 (if (dcls dd == some 1) = true then .no else (evs' G n wp d g [ck] h1).bind fun vs h2 => ofO (bmf 0 dd vs) h2) (VP G Q) := q1
        rw [hd, if_neg Bool.false_ne_true] at q1
        have e0 : evs' G n wp d g [ck] h1 = ((ev G.pg n).e wp d ck g h1).bind fun v h1 => .ok [v] h1 := by
          cases ck <;> first | rfl | exact absurd rfl (hs _)
        rw [e0, R.assoc] at q1
        refine ⟨a, rfl, dct_of da nd, W1, g, h1, wp, n, m.ext e1 r1, q1.bind.imp fun kp h2 W2 H2 e2 r2 q2 y ry => ?_⟩
        obtain ⟨z, e3, q3⟩ := (show okR G wp W2 H2 (ofO (bmf 0 dd [kp]) h2) (VP G Q) from q2).ofO
        have e3 : (if askable dd kp && kcls kp == some 0 then some ((dget dd kp).getD .non) else none) = some z := e3
        split at e3
        · rename_i hc
          cases e3
          obtain ⟨_, hk⟩ := bas' hc
          obtain ⟨kk, kr⟩   := kr_of' (eq_of_beq hk)
          obtain ⟨a', e5, da2⟩ := (rx.ext e2).dct
          cases e5
          obtain ⟨kvs, e6, rk⟩ := ask_k da2 nd
          have gg := DGet.k (k := kk) e6
          rw [← kr_is kr ry] at gg
          have lk := dget_k kr rk
          refine ⟨_, gg, ?_⟩
          cases hq : dget dd kp with
          | none => rw [hq] at lk; rw [lk]; rw [hq] at q3; exact q3.here r2 _ .non
          | some v => rw [hq] at lk; obtain ⟨x', z1, z2⟩ := lk; rw [z1]; rw [hq] at q3; exact q3.here r2 _ z2
        · cases e3
    | _ => exact q1.elim
theorem r_get2 (F : GF G T) (k : Gd G d N sc X) {o e e2 : Expr} {co ck cx : E} {apos cpos : Pos} (h1 : noCall0 o = true) (h2 : noStar e = true) (h2' : noStar e2 = true) (h3 : (apos.endLine == cpos.line) = true) (ho : PE X o (tO G d co)) (he : PE X e (tE G d ck)) (hx : PE X e2 (tE G d cx)) (hs : ∀ e, ck ≠ .star e) (hs2 : ∀ e, cx ≠ .star e) : PE X (.Call (.Attribute o "get" apos) [e, e2] [] cpos) (tE G d (.bm 1 co [ck, cx])) :=
  (pe_dget2 (by have := k.u; omega) ho he hx ⟨noCall_b h1, by rw [noStar_e h2, noStar_e h2']; rfl, h3, by rw [noStar_e h2, noStar_e h2']; rfl⟩).imp fun σ H Q t => by
    obtain ⟨W, g, h, wp, n, m, q⟩ := t.un
    have q : okR G wp W H (((ev G.pg n).e wp d co g h).bind fun x h1 => match x with
      | .dct dd => if dcls dd == some 1 then .no else (evs' G n wp d g [ck, cx] h1).bind fun vs h2 => ofO (bmf 1 dd vs) h2
      | _ => .no) (VP G Q) := q
    refine ⟨W, g, h, wp, n, m, q.bind.imp fun v1 h1 W1 H1 e1 r1 q1 x rx => ?_⟩
    cases v1 with
    | dct dd =>
      obtain ⟨a, rfl, da⟩ := rx.dct
      have q1 : okR G wp W1 H1 (if (dcls dd == some 1) = true then .no else (evs' G n wp d g [ck, cx] h1).bind fun vs h2 => ofO (bmf 1 dd vs) h2) (VP G Q) := q1
      cases hd : (dcls dd == some 1) with
      | true => rw [hd] at q1; exact q1.elim
      | false =>
        have nd : dcls dd ≠ some 1 := by intro z; rw [z] at hd; cases hd
        rw [hd, if_neg Bool.false_ne_true] at q1
        have e0 : evs' G n wp d g [ck, cx] h1 = ((ev G.pg n).e wp d ck g h1).bind fun v h2 => ((ev G.pg n).e wp d cx g h2).bind fun w h3 => .ok [v, w] h3 := by
          have e1 : ∀ h, evs' G n wp d g [cx] h = ((ev G.pg n).e wp d cx g h).bind fun v h1 => .ok [v] h1 := fun h => by
            cases cx <;> first | rfl | exact absurd rfl (hs2 _)
          have e2 : evs' G n wp d g [ck, cx] h1 = ((ev G.pg n).e wp d ck g h1).bind fun v h1 => (evs' G n wp d g [cx] h1).bind fun vs h2 => .ok (v :: vs) h2 := by
            cases ck <;> first | rfl | exact absurd rfl (hs _)
          rw [e2]
          congr 1
          funext v h2
          rw [e1, R.assoc]
          rfl
        rw [e0, R.assoc] at q1
        refine ⟨a, rfl, dct_of da nd, W1, g, h1, wp, n, m.ext e1 r1, q1.bind.imp fun kp h2 W2 H2 e2 r2 q2 y ry => ?_⟩
        rw [R.assoc] at q2
        refine ⟨W2, g, h2, wp, n, (m.ext e1 r1).ext e2 r2, q2.bind.imp fun xp h3 W3 H3 e3 r3 q3 w rw' => ?_⟩
        obtain ⟨z, e4, q4⟩ := (show okR G wp W3 H3 (ofO (bmf 1 dd [kp, xp]) h3) (VP G Q) from q3).ofO
        have e4 : (if askable dd kp && kcls kp == some 0 then some ((dget dd kp).getD xp) else none) = some z := e4
        split at e4
        · rename_i hc
          cases e4
          obtain ⟨_, hk⟩ := bas' hc
          obtain ⟨kk, kr⟩   := kr_of' (eq_of_beq hk)
          obtain ⟨a', e5, da2⟩ := ((rx.ext e2).ext e3).dct
          cases e5
          obtain ⟨kvs, e6, rk⟩ := ask_k da2 nd
          have gg := DGet.k (k := kk) e6
          rw [← kr_is kr ry] at gg
          have lk := dget_k kr rk
          refine ⟨_, gg, ?_⟩
          cases hq : dget dd kp with
          | none => rw [hq] at lk; rw [lk]; rw [hq] at q4; exact q4.here r3 _ rw'
          | some v => rw [hq] at lk; obtain ⟨x', z1, z2⟩ := lk; rw [z1]; rw [hq] at q4; exact q4.here r3 _ z2
        · cases e4
    | _ => exact q1.elim
end
end Hc

set_option maxHeartbeats 4000000
/-! Comprehensions with two walks. -/
namespace Hc
open PySem PySem.Spec PyProof.Rows L2
section
variable {G : GE} {T : Tab} {d : Nat} {N : List Str} {sc : Scope} {X : Cx} {rec : Scope → E → Expr → Bool}
theorem Stay.trans {W H W1 H1 W2 H2} (a : Stay G W H W1 H1) (b : Stay G W1 H1 W2 H2) : Stay G W H W2 H2 :=
  ⟨fun n x e => b.mp n x (a.mp n x e), fun x i => b.ii x (a.ii x i), fun x u r => b.tp x u (a.tp x u r), fun x o i e => b.im x o (a.ii x i) (a.im x o i e)⟩
theorem LcI.stayA {wp W1 H1 D W h acc H x} {xs} (l : LcI G wp W1 H1 D W h acc H) (e : H D = some (.lst xs)) : Stay G W H W (L2.upd H D (.lst (xs ++ [x]))) := put_stay e trivial l.ni
theorem body_len2 {r : R Bool} {e : HP → R PV} {acc acc' : List PV} {h' : HP} {k : List PV → HP → R (List PV)} (hk : ∀ l h acc' h', k l h = .ok acc' h' → acc.length ≤ acc'.length) : (r.bind fun b h3 => match b with | true => (e h3).bind fun y h4 => R.ofO (itOf y) fun l => k l h4 | false => .ok acc h3) = .ok acc' h' → acc.length ≤ acc'.length := by
  cases r with
  | ok b h3 => cases b with
    | false => intro e; cases e; exact Nat.le_refl _
    | true =>
      intro q
      have q : ((e h3).bind fun y h4 => R.ofO (itOf y) fun l => k l h4) = .ok acc' h' := q
      revert q
      cases e h3 with
      | ok y h4 =>
        intro q
        have q : (R.ofO (itOf y) fun l => k l h4) = .ok acc' h' := q
        revert q
        cases itOf y with
        | none => intro q; cases q
        | some l => exact fun q => hk l h4 acc' h' q
      | ex _ _ _ => intro q; cases q
      | no => intro q; cases q
  | ex _ _ _ => intro e; cases e
  | no => intro e; cases e
theorem bind1_off : ∀ (k : Nat), (∀ (t : Hc.T) (p : PV) (g g' : SG), sizeOf t < k → bind1 t p g = some g' → ∀ (i : Nat), i ∉ tslots t → g'[i]? = g[i]?) ∧ ∀ (ts : List Hc.T) (ps : List PV) (g g' : SG), sizeOf ts < k → bind1.bindn ts ps g = some g' → ∀ (i : Nat), i ∉ tsl ts → g'[i]? = g[i]?
  | 0 => ⟨fun _ _ _ _ h => absurd h (Nat.not_lt_zero _), fun _ _ _ _ h => absurd h (Nat.not_lt_zero _)⟩
  | k + 1 => by
    have ih := bind1_off k
    refine ⟨fun t p g g' h e i o => ?_, fun ts ps g g' h e i o => ?_⟩
    · cases t with
      | nm j =>
        cases (show some (Hc.upd g j (.pv p)) = some g' from by simpa [bind1] using e)
        rw [upd_eq]
        exact List.getElem?_set_ne (fun z => o (by simp [tslots, z]))
      | tp l => cases p with
        | tup ps => exact ih.2 l ps g g' (by simp at h; omega) (by simpa [bind1] using e) i (by simpa [tslots] using o)
        | _ => simp [bind1] at e
    · cases ts with
      | nil => cases ps with
        | nil => cases (show some g = some g' from by simpa [bind1.bindn] using e); rfl
        | cons _ _ => simp [bind1.bindn] at e
      | cons t ts => cases ps with
        | nil => simp [bind1.bindn] at e
        | cons p ps =>
          simp only [bind1.bindn] at e
          simp only [tsl, List.mem_append, not_or] at o
          split at e
          · rename_i g1 e1
            rw [ih.2 ts ps g1 g' (by simp at h; omega) e i o.2, ih.1 t p g g1 (by simp at h; omega) e1 i o.1]
          · cases e
theorem own_in : ∀ (k : Nat), (∀ (t : Hc.T) (p : PV) (g g' : SG), sizeOf t < k → bind1 t p g = some g' → ∀ (i : Nat), isOwn g' i → i ∉ tslots t) ∧ ∀ (ts : List Hc.T) (ps : List PV) (g g' : SG), sizeOf ts < k → bind1.bindn ts ps g = some g' → ∀ (i : Nat), isOwn g' i → i ∉ tsl ts
  | 0 => ⟨fun _ _ _ _ h => absurd h (Nat.not_lt_zero _), fun _ _ _ _ h => absurd h (Nat.not_lt_zero _)⟩
  | k + 1 => by
    have ih := own_in k
    refine ⟨fun t p g g' h e i o => ?_, fun ts ps g g' h e i o => ?_⟩
    · cases t with
      | nm j =>
        cases (show some (Hc.upd g j (.pv p)) = some g' from by simpa [bind1] using e)
        rw [upd_eq] at o
        intro z
        have z : i = j := by simpa [tslots] using z
        subst z
        by_cases hl : i < g.length
        · rcases o with ⟨l, e1⟩ | ⟨l, e1⟩ <;> (rw [List.getElem?_set_self hl] at e1; cases e1)
        · rcases o with ⟨l, e1⟩ | ⟨l, e1⟩ <;> (rw [List.getElem?_eq_none (by simp; omega)] at e1; cases e1)
      | tp l => cases p with
        | tup ps => simpa [tslots] using ih.2 l ps g g' (by simp at h; omega) (by simpa [bind1] using e) i o
        | _ => simp [bind1] at e
    · cases ts with
      | nil => simp [tsl]
      | cons t ts => cases ps with
        | nil => simp [bind1.bindn] at e
        | cons p ps =>
          simp only [bind1.bindn] at e
          split at e
          · rename_i g1 e1
            have a1 := ih.2 ts ps g1 g' (by simp at h; omega) e i o
            have a2 := (bind1_off (sizeOf ts + 1)).2 ts ps g1 g' (Nat.lt_succ_self _) e i a1
            have o1 : isOwn g1 i := by
              rcases o with ⟨l, e3⟩ | ⟨l, e3⟩
              · exact .inl ⟨l, by rw [← a2]; exact e3⟩
              · exact .inr ⟨l, by rw [← a2]; exact e3⟩
            have b1 := ih.1 t p g g1 (by simp at h; omega) e1 i o1
            simp [tsl, a1, b1]
          · cases e
theorem SR.mix {wp W1 H1 g0 σ0 W4 H4 W6 H6 g1 σ2} (s0 : SR G W1 H1 g0 σ0) (e : Ext G wp W1 H1 W6 H6) (s4 : SR G W4 H4 g1 σ2) (st : Stay G W4 H4 W6 H6) (own : ∀ (i : Nat), isOwn g1 i → g1[i]? = g0[i]? ∧ σ2[i]? = σ0[i]?) : SR G W6 H6 g1 σ2 := by
  have s6 := s0.ext e
  refine ⟨s4.len, fun i v q => ?_, fun i l q => ?_, fun i l q => ?_, s4.dis⟩
  · obtain ⟨x, z1, z2⟩ := s4.pv i v q
    exact ⟨x, z1, z2.stay st⟩
  · obtain ⟨o1, o2⟩ := own i (.inl ⟨l, q⟩)
    rw [o2]
    exact s6.ol i l (by rw [← o1]; exact q)
  · obtain ⟨o1, o2⟩ := own i (.inr ⟨l, q⟩)
    rw [o2]
    exact s6.od i l (by rw [← o1]; exact q)
theorem r_cmp2 (F : GF G T) (k : Gd G d N sc X) {elt tg iter tg1 iter1 : Expr} {ifs ifs1 : List Expr} {scope : Scope} {pos : Pos} {ce ci ci1 : E} {t t2 : Hc.T} {cfs cfs1 : List E} {vs vs1 : List Nat}
    (hi : PI X tg iter (tI G d (KX G) ci)) (hfs : ∀ env x, foldedSetIterable iter env x = pure x) (hfs1 : ∀ env x, foldedSetIterable iter1 env x = pure x) (hb : blkC N sc scope (ownOf N vs) = true) (ht : (tslots t).all (fun i => decide (i ∈ vs)) = true) (ht1 : (tslots t2).all (fun i => decide (i ∈ vs1)) = true) (hv : vs1.all (fun i => decide (i ∈ vs)) = true)
    (hg : ckG (fun x => scope.names.lookup x == some .cell) N (relS scope sc) t tg = true) (hg1 : ckG (fun x => scope.names.lookup x == some .cell) N (relS scope sc) t2 tg1 = true)
    (hi1 : ∀ X', Gd G d N (relS scope sc) X' → PI X' tg1 iter1 (tI G d (KS G) ci1))
    (hf : ∀ X', Gd G d N (relS scope sc) X' → PTs X' ifs (tTs G d cfs)) (hf1 : ∀ X', Gd G d N (relS scope sc) X' → PTs X' ifs1 (tTs G d cfs1)) (he : ∀ X', Gd G d N (relS scope sc) X' → PE X' elt (tE G d ce)) :
    (PE X (.ListComp elt [⟨tg, iter, ifs, 0⟩, ⟨tg1, iter1, ifs1, 0⟩] scope pos) (tN G d (.cmp2 ce t ci cfs t2 ci1 cfs1 vs vs1))) ∧
    (∀ {i : Nat} {y : Str} {py spos : Pos}, N[i]? = some y → sc.names.lookup y = some .local → swapsWith (.ListComp elt [⟨tg, iter, ifs, 0⟩, ⟨tg1, iter1, ifs1, 0⟩] scope pos) (some (.Name y py)) spos.line X.env = pure true →
      PS X (.Assign [.Name y py] (.ListComp elt [⟨tg, iter, ifs, 0⟩, ⟨tg1, iter1, ifs1, 0⟩] scope pos) spos) (tAsg (tN G d (.cmp2 ce t ci cfs t2 ci1 cfs1 vs vs1)) (gName i))) := by
  have ok : BlkOk X.N X.env.scope scope (ownOf N vs) := by rw [k.N, k.sc]; exact blkOk_by hb
  have hg' : ∀ (s : Shared) (H : Hp) (C : Addr) (cl : List (Str × Addr)) (fp : List Addr), PG (X.blk s H scope (compEnvC scope cl C X.env) fp) tg (gT G t) := fun s H C cl fp => ckG_ok (k.blk s H scope cl C fp) (fun x h => h) hg
  have hg1' : ∀ (s : Shared) (H : Hp) (C : Addr) (cl : List (Str × Addr)) (fp : List Addr), PG (X.blk s H scope (compEnvC scope cl C X.env) fp) tg1 (gT G t2) := fun s H C cl fp => ckG_ok (k.blk s H scope cl C fp) (fun x h => h) hg1
  have hf' := fun (s : Shared) (H : Hp) (C : Addr) (cl : List (Str × Addr)) (fp : List Addr) => hf _ (k.blk s H scope cl C fp)
  have hf1' := fun (s : Shared) (H : Hp) (C : Addr) (cl : List (Str × Addr)) (fp : List Addr) => hf1 _ (k.blk s H scope cl C fp)
  have hi1' := fun (s : Shared) (H : Hp) (C : Addr) (cl : List (Str × Addr)) (fp : List Addr) => hi1 _ (k.blk s H scope cl C fp)
  have he' := fun (s : Shared) (H : Hp) (C : Addr) (cl : List (Str × Addr)) (fp : List Addr) => he _ (k.blk s H scope cl C fp)
  have hvs : ∀ i ∈ vs1, i ∈ (ownOf N vs).map (·.2) := fun i hi => by rw [ownOf_2]; exact of_decide_eq_true (List.all_eq_true.mp hv i hi)
  have main : ∀ σ H Q, tN G d (.cmp2 ce t ci cfs t2 ci1 cfs1 vs vs1) σ H Q → tLc2 (tI G d (KX G) ci) (gT G t) (tTs G d cfs) (tI G d (KS G) ci1) (gT G t2) (tTs G d cfs1) (tE G d ce) ((ownOf N vs).map (·.2)) vs1 σ H Q := by
    rw [ownOf_2]
    intro σ H Q tt
    obtain ⟨W, g, h, wp, n, m, q⟩ := tt
    obtain ⟨n, q⟩ := un_e q
    let bod2 : SG → List PV → HP → R (List PV) := fun g2 acc h5 => (tests (fun e h => (ev G.pg n).e wp d e g2 h) cfs1 h5).bind fun b h6 => match b with
      | true => ((ev G.pg n).e wp d ce g2 h6).bind fun y h7 => .ok (y :: acc) h7
      | false => .ok acc h6
    let body : SG → List PV → HP → R (List PV) := fun g1 acc h2 => (tests (fun e h => (ev G.pg n).e wp d e g1 h) cfs h2).bind fun b h3 => match b with
      | true => ((ev G.pg n).e wp d ci1 g1 h3).bind fun x2 h4 => R.ofO (itOf x2) fun l2 => turns t2 (Hc.wipe vs1 g1) bod2 l2 acc h4
      | false => .ok acc h3
    have q : okR G wp W H (((ev G.pg n).e wp d ci g h).bind fun x h1 => R.ofO (itOf x) fun l => (turns t (Hc.wipe vs g) body l [] h1).bind fun acc h2 => if short acc then .ok (.lst acc.reverse) h2 else .no) (NPo G H Q) := q
    refine ⟨W, g, h, wp, n, m, q.bind.imp fun v h1 W1 H1 e1 r1 q1 => ?_⟩
    obtain ⟨l, e2, q2⟩ := q1.ofO
    refine ⟨l, e2, fun J jk D hD => ?_⟩
    let fin : List PV → HP → R PV := fun acc h2 => if short acc then .ok (.lst acc.reverse) h2 else .no
    refine ⟨fun i mm H' => ∃ W' h' acc, LcI G wp W1 H1 D W' h' acc H' ∧ i ≤ l.length ∧ mm = l.length - i ∧ okR G wp W1 H1 ((turns t (Hc.wipe vs g) body (l.drop i) acc h').bind fin) (NPo G H Q),
      ⟨l.length, W1, h1, [], lc_start r1 hD, Nat.zero_le _, rfl, by rw [List.drop_zero]; exact q2⟩, fun i mm H' ⟨W', h', acc, li, hil, hm, q3⟩ => ?_⟩
    have kx : KX G W1 H1 W' H' := ⟨wp, li.ex⟩
    by_cases hi2 : i < l.length
    · right
      refine ⟨jk.go W' H' i kx hi2, fun H' => ∃ W' h' acc, LcI G wp W1 H1 D W' h' acc H' ∧ okR G wp W1 H1 ((turns t (Hc.wipe vs g) body (l.drop (i + 1)) acc h').bind fin) (NPo G H Q),
        fun H2 ⟨W2, h2, acc2, li2, q4⟩ => ⟨l.length - (i + 1), by omega, W2, h2, acc2, li2, hi2, rfl, q4⟩, fun x H2 hy => ?_⟩
      obtain ⟨p, hp, ey, ry, rp⟩ := jk.yld W' H' h' i x H2 hi2 kx li.hr hy
      have li := li.step (ey wp) ry
      have hd : l.drop i = p :: l.drop (i + 1) := by
        rw [List.drop_eq_getElem_cons hi2]
        rw [List.getElem?_eq_getElem hi2] at hp
        cases hp; rfl
      rw [hd] at q3
      have q3 : okR G wp W1 H1 ((R.ofO (bind1 t p (Hc.wipe vs g)) fun g1 => (body g1 acc h').bind fun acc' h1 => turns t (Hc.wipe vs g) body (l.drop (i + 1)) acc' h1).bind fin) (NPo G H Q) := q3
      cases hb1 : bind1 t p (Hc.wipe vs g) with
      | none => rw [hb1] at q3; exact q3.elim
      | some g1 =>
        rw [hb1] at q3
        have q3 : okR G wp W1 H1 (((body g1 acc h').bind fun acc' h1 => turns t (Hc.wipe vs g) body (l.drop (i + 1)) acc' h1).bind fin) (NPo G H Q) := q3
        rw [R.assoc] at q3
        have sr0 : SR G W1 H1 (Hc.wipe vs g) (L2.wipe σ vs) := ((m.ext e1 r1).sr).wipe
        have sr1 : SR G _ H2 (Hc.wipe vs g) (L2.wipe σ vs) := sr0.ext li.ex
        refine ⟨W', Hc.wipe vs g, p, g1, sr1, rp, hb1, fun σ2 s2 o2 => ?_⟩
        have hl2 : σ2.length = σ.length := by rw [← s2.len]; have := sr1.len; rw [wipe_length] at this; rw [← this]; exact (bind1_len hb1)
        have hw : L2.wipe σ2 vs = L2.wipe σ vs := by
          have : Off vs (L2.wipe σ vs) σ2 := fun j hj => o2 j fun z => hj (of_decide_eq_true (List.all_eq_true.mp ht j z))
          rw [wipe_off (by rw [wipe_length]; exact hl2) this, wipe_wipe]
        refine ⟨hw, W', g1, h', wp, n, ⟨li.hr, s2⟩, ?_⟩
        have q3 : okR G wp W1 H1 (((tests (fun e h => (ev G.pg n).e wp d e g1 h) cfs h').bind fun b h3 => match b with
          | true => ((ev G.pg n).e wp d ci1 g1 h3).bind fun x2 h4 => R.ofO (itOf x2) fun l2 => turns t2 (Hc.wipe vs1 g1) bod2 l2 acc h4
          | false => .ok acc h3).bind fun acc' h1 => (turns t (Hc.wipe vs g) body (l.drop (i + 1)) acc' h1).bind fin) (NPo G H Q) := q3
        rw [R.assoc] at q3
        refine (okR.keep q3).imp fun b h3 W3 H3 e3 r3 q4 => ?_
        have li3 := li.step e3 r3
        cases b with
        | false => exact ⟨W3, h3, acc, li3, q4⟩
        | true =>
          have q4 : okR G wp W1 H1 ((((ev G.pg n).e wp d ci1 g1 h3).bind fun x2 h4 => R.ofO (itOf x2) fun l2 => turns t2 (Hc.wipe vs1 g1) bod2 l2 acc h4).bind fun acc' h1 => (turns t (Hc.wipe vs g) body (l.drop (i + 1)) acc' h1).bind fin) (NPo G H Q) := q4
          rw [R.assoc] at q4
          have s3 := s2.ext e3
          refine ⟨W3, g1, h3, wp, n, ⟨r3, s3⟩, (okR.keep q4).imp fun v2 h4 W4 H4 e4 r4 q5 => ?_⟩
          have li4 := li3.step e4 r4
          have s4 := s3.ext e4
          -- the inner walk
          cases hit : itOf v2 with
          | none => rw [hit] at q5; exact q5.elim
          | some l2 =>
            rw [hit] at q5
            have q5 : okR G wp W1 H1 ((turns t2 (Hc.wipe vs1 g1) bod2 l2 acc h4).bind fun acc' h1 => (turns t (Hc.wipe vs g) body (l.drop (i + 1)) acc' h1).bind fin) (NPo G H Q) := q5
            let fin1 : List PV → HP → R PV := fun acc' h1 => (turns t (Hc.wipe vs g) body (l.drop (i + 1)) acc' h1).bind fin
            refine ⟨l2, hit, fun J1 jk1 => ?_⟩
            refine ⟨fun j kk H' => ∃ W' h' acc, LcI G wp W1 H1 D W' h' acc H' ∧ Stay G W4 H4 W' H' ∧ j ≤ l2.length ∧ kk = l2.length - j ∧ okR G wp W1 H1 ((turns t2 (Hc.wipe vs1 g1) bod2 (l2.drop j) acc h').bind fin1) (NPo G H Q),
              ⟨l2.length, W4, h4, acc, li4, ⟨fun _ _ e => e, fun _ e => e, fun _ _ e => e, fun _ _ _ e => e⟩, Nat.zero_le _, rfl, by rw [List.drop_zero]; exact q5⟩, fun j kk H5 ⟨W5, h5, acc5, li5, st5, hjl, hk, q6⟩ => ?_⟩
            by_cases hj2 : j < l2.length
            · right
              refine ⟨jk1.go W5 H5 j st5 hj2, fun H' => ∃ W' h' acc, LcI G wp W1 H1 D W' h' acc H' ∧ Stay G W4 H4 W' H' ∧ okR G wp W1 H1 ((turns t2 (Hc.wipe vs1 g1) bod2 (l2.drop (j + 1)) acc h').bind fin1) (NPo G H Q),
                fun H2 ⟨W2, h2, acc2, li2, st2, q7⟩ => ⟨l2.length - (j + 1), by omega, W2, h2, acc2, li2, st2, hj2, rfl, q7⟩, fun y H6 hy1 => ?_⟩
              obtain ⟨p1, hp1, ey1, ry1, rp1⟩ := jk1.yld W5 H5 h5 j y H6 hj2 st5 li5.hr hy1
              have st6 := st5.trans (ey1 wp).stay
              have li6 := li5.step (ey1 wp) ry1
              have hd1 : l2.drop j = p1 :: l2.drop (j + 1) := by
                rw [List.drop_eq_getElem_cons hj2]
                rw [List.getElem?_eq_getElem hj2] at hp1
                cases hp1; rfl
              rw [hd1] at q6
              have q6 : okR G wp W1 H1 ((R.ofO (bind1 t2 p1 (Hc.wipe vs1 g1)) fun g2 => (bod2 g2 acc5 h5).bind fun acc' h1 => turns t2 (Hc.wipe vs1 g1) bod2 (l2.drop (j + 1)) acc' h1).bind fin1) (NPo G H Q) := q6
              cases hb2 : bind1 t2 p1 (Hc.wipe vs1 g1) with
              | none => rw [hb2] at q6; exact q6.elim
              | some g2 =>
                rw [hb2] at q6
                have q6 : okR G wp W1 H1 (((bod2 g2 acc5 h5).bind fun acc' h1 => turns t2 (Hc.wipe vs1 g1) bod2 (l2.drop (j + 1)) acc' h1).bind fin1) (NPo G H Q) := q6
                rw [R.assoc] at q6
                -- the slots at the inner walk: own ones are none of what changes
                have sr6 : SR G W5 H6 (Hc.wipe vs1 g1) (L2.wipe σ2 vs1) := (sr0.mix li6.ex s4 st6 fun i o => by
                  have ni := (own_in (sizeOf t + 1)).1 t p _ g1 (Nat.lt_succ_self _) hb1 i o
                  exact ⟨(bind1_off (sizeOf t + 1)).1 t p _ g1 (Nat.lt_succ_self _) hb1 i ni, o2 i ni⟩).wipe
                refine ⟨W5, Hc.wipe vs1 g1, p1, g2, sr6, rp1, hb2, fun σ3 s5 o3 => ?_⟩
                have hl3 : σ3.length = σ2.length := by rw [← s5.len]; have := sr6.len; rw [wipe_length] at this; rw [← this]; exact (bind1_len hb2)
                have hw1 : L2.wipe σ3 vs1 = L2.wipe σ2 vs1 := by
                  have : Off vs1 (L2.wipe σ2 vs1) σ3 := fun j hj => o3 j fun z => hj (of_decide_eq_true (List.all_eq_true.mp ht1 j z))
                  rw [wipe_off (by rw [wipe_length]; exact hl3) this, wipe_wipe]
                refine ⟨hw1, W5, g2, h5, wp, n, ⟨ry1, s5⟩, ?_⟩
                have q6 : okR G wp W1 H1 (((tests (fun e h => (ev G.pg n).e wp d e g2 h) cfs1 h5).bind fun b h6 => match b with
                  | true => ((ev G.pg n).e wp d ce g2 h6).bind fun y h7 => .ok (y :: acc5) h7
                  | false => .ok acc5 h6).bind fun acc' h1 => (turns t2 (Hc.wipe vs1 g1) bod2 (l2.drop (j + 1)) acc' h1).bind fin1) (NPo G H Q) := q6
                rw [R.assoc] at q6
                refine (okR.keep q6).imp fun b h7 W7 H7 e7 r7 q7 => ?_
                have li7 := li6.step e7 r7
                have st7 := st6.trans e7.stay
                cases b with
                | false => exact ⟨W7, h7, acc5, li7, st7, q7⟩
                | true =>
                  have q7 : okR G wp W1 H1 ((((ev G.pg n).e wp d ce g2 h7).bind fun y h8 => .ok (y :: acc5) h8).bind fun acc' h1 => (turns t2 (Hc.wipe vs1 g1) bod2 (l2.drop (j + 1)) acc' h1).bind fin1) (NPo G H Q) := q7
                  rw [R.assoc] at q7
                  refine ⟨W7, g2, h7, wp, n, ⟨r7, s5.ext e7⟩, (okR.keep q7).imp fun yv h8 W8 H8 e8 r8 q8 z rz => ?_⟩
                  have li8 := li7.step e8 r8
                  obtain ⟨xs, e9, e10⟩ := li8.it
                  refine ⟨xs, e9, ?_, W8, h8, yv :: acc5, li8.app hD rz e9, (st7.trans e8.stay).trans (li8.stayA e9), q8⟩
                  have hlen : (yv :: acc5).length ≤ 16777216 := by
                    have q9 : okR G wp W1 H1 ((turns t2 (Hc.wipe vs1 g1) bod2 (l2.drop (j + 1)) (yv :: acc5) h8).bind fin1) (NPo G H Q) := q8
                    revert q9
                    cases ht2 : turns t2 (Hc.wipe vs1 g1) bod2 (l2.drop (j + 1)) (yv :: acc5) h8 with
                    | ok a2 hh2 =>
                      intro q9
                      have q9 : okR G wp W1 H1 ((turns t (Hc.wipe vs g) body (l.drop (i + 1)) a2 hh2).bind fin) (NPo G H Q) := q9
                      have l2 := turns_len (fun g1 acc h acc' h' e => body_len e) ht2
                      revert q9
                      cases ht3 : turns t (Hc.wipe vs g) body (l.drop (i + 1)) a2 hh2 with
                      | ok a3 hh3 =>
                        intro q9
                        have q9 : okR G wp W1 H1 (if short a3 then .ok (.lst a3.reverse) hh3 else .no) (NPo G H Q) := q9
                        have l1 := shortE q9.cond.1
                        have l3 := turns_len (fun g1 acc h acc' h' e => body_len2 (fun l h acc' h' e => turns_len (fun g1 acc h acc' h' e => body_len e) e) e) ht3
                        omega
                      | _ => exact fun q9 => q9.elim
                    | _ => exact fun q9 => q9.elim
                  have hx := e10.length
                  rw [List.length_reverse] at hx
                  rw [List.length_cons] at hlen
                  rw [sizeLine_eq]; omega
            · left
              have : j = l2.length := by omega
              refine ⟨jk1.stop W5 H5 j st5 (by omega), W5, h5, acc5, li5, ?_⟩
              rw [this, List.drop_length] at q6
              exact q6
    · left
      have : i = l.length := by omega
      refine ⟨jk.stop W' H' i kx (by omega), ?_⟩
      rw [this, List.drop_length] at q3
      have q3 : okR G wp W1 H1 (if short acc then .ok (.lst acc.reverse) h' else .no) (NPo G H Q) := q3
      exact lc_end li (Classical.byContradiction fun z => e1.tr D z hD) q3.cond.2
  refine ⟨(pe_lc2 k.calm k.nd hi ok hvs hg' hf' hi1' hg1' hf1' he' (fun x => hfs _ x) (fun env x => hfs1 env x)).imp main, fun h1 h2 h3 => ?_⟩
  exact (ps_setLc2 k.calm k.nd (by rw [k.N]; exact h1) (by rw [k.sc]; exact h2) h3 hi ok hvs hg' hf' hi1' hg1' hf1' he' (fun x => hfs _ x) (fun env x => hfs1 env x)).imp fun D σ H t => main σ H _ t
end
end Hc

set_option maxHeartbeats 4000000
/-! Statements. -/
namespace Hc
open PySem PySem.Spec PyProof.Rows L2
/-- the frame's own objects are younger than the beginning -/
def Yg (H0 : Hp) (g : SG) (σ : L2.St) : Prop := ∀ (i : Nat) a, isOwn g i → σ[i]? = some (some (.ref a)) → H0 a = none
structure Fm (G : GE) (wp : Nat) (W0 : Wd) (H0 : Hp) (W : Wd) (g : SG) (h : HP) (σ : L2.St) (H : Hp) : Prop where
  ex : Ext G wp W0 H0 W H
  mo : Mo G W g h σ H
  yg : Yg H0 g σ
def endsF (D : Ends) (σ : L2.St) (H : Hp) : SG → Bool → Prop := fun _ b => if b then D.nx σ H else D.bk σ H
def okS (G : GE) (wp : Nat) (W0 : Wd) (H0 : Hp) (r : R F) (D : Ends) : Prop := match r with
  | .ok (.nx g) h => ∀ W H σ, Fm G wp W0 H0 W g h σ H → D.nx σ H
  | .ok (.brk g) h => ∀ W H σ, Fm G wp W0 H0 W g h σ H → D.bk σ H
  | .ok (.ret v) h => ∀ W H x, Ext G wp W0 H0 W H → HR G W h H → RV G W H v x → D.rt x H
  | _ => False
section
variable {G : GE} {T : Tab} {d : Nat} {N : List Str} {sc : Scope} {X : Cx} {rec : Scope → E → Expr → Bool}
theorem okS.keep {α} {wp W0 H0 W H} {r : R α} {k : α → HP → R F} {D : Ends} (q : okS G wp W0 H0 (r.bind k) D) : okR G wp W H r (fun a h' _ _ => okS G wp W0 H0 (k a h') D) := by
  cases r with
  | ok a h => exact fun _ _ _ _ => q
  | _ => exact q
theorem okS.ofO {α} {wp W0 H0} {o : Option α} {k : α → R F} {D : Ends} (q : okS G wp W0 H0 (R.ofO o k) D) : ∃ a, o = some a ∧ okS G wp W0 H0 (k a) D := by
  cases o with
  | some a => exact ⟨a, rfl, q⟩
  | none => exact q.elim
theorem okS.tst {wp W0 H0} {v : PV} {a b : R F} {D : Ends} (q : okS G wp W0 H0 (R.tst v a b) D) : ∃ c, v = .bl c ∧ okS G wp W0 H0 (if c = true then a else b) D := by
  cases v with
  | bl c => cases c <;> exact ⟨_, rfl, q⟩
  | _ => exact q.elim
theorem okS.cond {wp W0 H0} {c : Bool} {a : R F} {D : Ends} (q : okS G wp W0 H0 (if c = true then a else .no) D) : c = true ∧ okS G wp W0 H0 a D := by
  cases c with
  | true => exact ⟨rfl, q⟩
  | false => exact q.elim
def tS (G : GE) (d : Nat) (cs : List Sm) : TS := fun D σ H => ∃ W0 H0 W g h wp n, Fm G wp W0 H0 W g h σ H ∧ okS G wp W0 H0 ((ev G.pg n).s wp d cs g h) D
def t1 (G : GE) (d : Nat) (c : Sm) : TS := fun D σ H => ∃ W0 H0 W g h wp n, Fm G wp W0 H0 W g h σ H ∧ okS G wp W0 H0 (ev1 (ev G.pg n) wp d c g h) D
theorem Fm.step {wp W0 H0 W g h σ H W' h' H'} (f : Fm G wp W0 H0 W g h σ H) (e : Ext G wp W H W' H') (r : HR G W' h' H') : Fm G wp W0 H0 W' g h' σ H' := ⟨f.ex.trans e, f.mo.ext e r, f.yg⟩
theorem tS.un {cs D σ H} (t : tS G d cs D σ H) : ∃ W0 H0 W g h wp n, Fm G wp W0 H0 W g h σ H ∧ okS G wp W0 H0 (evS (ev G.pg n) wp d cs g h) D := by
  obtain ⟨W0, H0, W, g, h, wp, n, f, q⟩ := t
  cases n with
  | zero => exact q.elim
  | succ n => exact ⟨W0, H0, W, g, h, wp, n, f, q⟩
theorem s_nil : PSs X [] (tS G d []) := pss_nil.imp fun D σ H t => by
  obtain ⟨W0, H0, W, g, h, wp, n, f, q⟩ := t.un
  exact (show okS G wp W0 H0 (.ok (.nx g) h) D from q) W H σ f
theorem s_cons {s : Stmt} {ss : List Stmt} {c : Sm} {cs : List Sm} (h1 : PS X s (t1 G d c)) (h2 : PSs X ss (tS G d cs)) : PSs X (s :: ss) (tS G d (c :: cs)) := (pss_cons h1 h2).imp fun D σ H t => by
  obtain ⟨W0, H0, W, g, h, wp, n, f, q⟩ := t.un
  have q : okS G wp W0 H0 ((ev1 (ev G.pg n) wp d c g h).bind fun f h1 => match f with
    | .nx g1 => evS (ev G.pg n) wp d cs g1 h1
    | f => .ok f h1) D := q
  refine ⟨W0, H0, W, g, h, wp, n, f, ?_⟩
  revert q
  generalize ev1 (ev G.pg n) wp d c g h = r
  intro q
  cases r with
  | ok f' h' => cases f' with
    | nx g' => exact fun W' H' σ' f' => ⟨W0, H0, W', g', h', wp, n + 1, f', q⟩
    | brk g' => exact q
    | ret v => exact q
  | _ => exact q
theorem s_ret {e : Expr} {c : E} {pos : Pos} (he : PE X e (tE G d c)) : PS X (.Return (some e) pos) (t1 G d (.ret c)) := (ps_ret he).imp fun D σ H ⟨W0, H0, W, g, h, wp, n, f, q⟩ => by
  have q : okS G wp W0 H0 (((ev G.pg n).e wp d c g h).bind fun v h1 => .ok (.ret v) h1) D := q
  exact ⟨W, g, h, wp, n, f.mo, q.keep.imp fun v h1 W1 H1 e1 r1 q1 x rx => q1 W1 H1 x (f.ex.trans e1) r1 rx⟩
theorem s_retN {pos : Pos} : PS X (.Return none pos) (t1 G d (.ret (.cst .non))) := ps_retN.imp fun D σ H ⟨W0, H0, W, g, h, wp, n, f, q⟩ => by
  cases n with
  | zero => exact q.elim
  | succ n => exact (show okS G wp W0 H0 (.ok (.ret .non) h) D from q) W H _ f.ex f.mo.hr .non
theorem s_rown (k : Gd G d N sc X) {i : Nat} {x : Str} {p pos : Pos} (h : varB N sc i x = true) : PS X (.Return (some (.Name x p)) pos) (t1 G d (.rown i)) := (ps_ret (pe_v k h)).imp fun D σ H ⟨W0, H0, W, g, h, wp, n, f, q⟩ => by
  have q : okS G wp W0 H0 (match nth g i with
    | some (.ol l) => .ok (.ret (.lst l)) h
    | some (.od l) => .ok (.ret (.dct l)) h
    | _ => .no) D := q
  split at q
  · rename_i l e
    rw [nth_eq] at e
    obtain ⟨a, xs, e1, e2, e3, e4, e5⟩ := f.mo.sr.ol i l e
    have nl : NL G W H (.lst l) a := ⟨xs, e4, e5⟩
    exact ⟨_, e1, q (W.more a) H _ (give_ext f.ex (f.yg i a (.inl ⟨l, e⟩) e1)) (give_hr f.mo.hr e3 nl.some) nl.rv⟩
  · rename_i l e
    rw [nth_eq] at e
    obtain ⟨a, e1, e2, e3, e4⟩ := f.mo.sr.od i l e
    have nl : NL G W H (.dct l) a := e4
    exact ⟨_, e1, q (W.more a) H _ (give_ext f.ex (f.yg i a (.inr ⟨l, e⟩) e1)) (give_hr f.mo.hr e3 nl.some) nl.rv⟩
  · exact q.elim
theorem s_expr {e : Expr} {c : E} {pos : Pos} (he : PE X e (tE G d c)) (hs : swapsWith e none pos.line X.env = pure false) : PS X (.Expr e pos) (t1 G d (.expr c)) := (ps_expr he hs).imp fun D σ H ⟨W0, H0, W, g, h, wp, n, f, q⟩ => by
  have q : okS G wp W0 H0 (((ev G.pg n).e wp d c g h).bind fun _ h1 => .ok (.nx g) h1) D := q
  exact ⟨W, g, h, wp, n, f.mo, q.keep.imp fun v h1 W1 H1 e1 r1 q1 x rx => q1 W1 H1 σ (f.step e1 r1)⟩
theorem s_cond {e : Expr} {a b : List Stmt} {c : E} {ca cb : List Sm} {pos : Pos} (he : PT X e (tT G d c)) (ha : PSs X a (tS G d ca)) (hb : PSs X b (tS G d cb)) : PS X (.If e a b pos) (t1 G d (.cond c ca cb)) := (ps_if he ha hb).imp fun D σ H ⟨W0, H0, W, g, h, wp, n, f, q⟩ => by
  have q : okS G wp W0 H0 (((ev G.pg n).e wp d c g h).bind fun v h1 => R.tst v ((ev G.pg n).s wp d ca g h1) ((ev G.pg n).s wp d cb g h1)) D := q
  refine ⟨W, g, h, wp, n, f.mo, q.keep.imp fun v h1 W1 H1 e1 r1 q1 => ?_⟩
  obtain ⟨b, rfl, q2⟩ := q1.tst
  refine ⟨b, rfl, ?_⟩
  cases b <;> exact ⟨W0, H0, W1, g, h1, wp, n, f.step e1 r1, q2⟩
theorem s_brk {pos : Pos} : PS X (.Break pos) (t1 G d .brk) := ps_break.imp fun D σ H ⟨W0, H0, W, g, h, wp, n, f, q⟩ => (show okS G wp W0 H0 (.ok (.brk g) h) D from q) W H σ f
theorem s_pass {pos : Pos} : PS X (.Pass pos) (t1 G d .pass) := ps_pass.imp fun D σ H ⟨W0, H0, W, g, h, wp, n, f, q⟩ => (show okS G wp W0 H0 (.ok (.nx g) h) D from q) W H σ f
theorem s_never {s : Stmt} {c : Sm} (hc : ∀ n wp g h, ∀ f h', ev1 (ev G.pg n) wp d c g h ≠ .ok f h') : PS X s (t1 G d c) := ps_never.imp fun D σ H ⟨W0, H0, W, g, h, wp, n, f, q⟩ => by
  revert q
  cases hr : ev1 (ev G.pg n) wp d c g h with
  | ok f h' => exact absurd hr (hc n wp g h f h')
  | ex _ _ _ => exact fun q => q.elim
  | no => exact fun q => q.elim
theorem bind1_own : ∀ (k : Nat), (∀ (t : Hc.T) (p : PV) (g g' : SG), sizeOf t < k → bind1 t p g = some g' → ∀ i, isOwn g' i → isOwn g i ∧ i ∉ tslots t) ∧ ∀ (ts : List Hc.T) (ps : List PV) (g g' : SG), sizeOf ts < k → bind1.bindn ts ps g = some g' → ∀ i, isOwn g' i → isOwn g i ∧ i ∉ tsl ts
  | 0 => ⟨fun _ _ _ _ h => absurd h (Nat.not_lt_zero _), fun _ _ _ _ h => absurd h (Nat.not_lt_zero _)⟩
  | k + 1 => by
    have ih := bind1_own k
    refine ⟨fun t p g g' h e i o => ?_, fun ts ps g g' h e i o => ?_⟩
    · cases t with
      | nm j =>
        cases (show some (Hc.upd g j (.pv p)) = some g' from by simpa [bind1] using e)
        rw [upd_eq] at o
        have f : ∀ {v : SV}, (g.set j (.pv p))[i]? = some v → (∀ q, v ≠ .pv q) → i ≠ j ∧ g[i]? = some v := by
          intro v e nv
          by_cases q : i = j
          · subst q
            by_cases hl : i < g.length
            · rw [List.getElem?_set_self hl] at e; cases e; exact absurd rfl (nv p)
            · rw [List.getElem?_eq_none (by simp; omega)] at e; cases e
          · rw [List.getElem?_set_ne (fun z => q z.symm)] at e; exact ⟨q, e⟩
        rcases o with ⟨l, e1⟩ | ⟨l, e1⟩
        · obtain ⟨q1, q2⟩ := f e1 (by intro q z; cases z); exact ⟨.inl ⟨l, q2⟩, by simpa [tslots] using q1⟩
        · obtain ⟨q1, q2⟩ := f e1 (by intro q z; cases z); exact ⟨.inr ⟨l, q2⟩, by simpa [tslots] using q1⟩
      | tp l => cases p with
        | tup ps => simpa [tslots] using ih.2 l ps g g' (by simp at h; omega) (by simpa [bind1] using e) i o
        | _ => simp [bind1] at e
    · cases ts with
      | nil => cases ps with
        | nil => cases (show some g = some g' from by simpa [bind1.bindn] using e); exact ⟨o, by simp [tsl]⟩
        | cons _ _ => simp [bind1.bindn] at e
      | cons t ts => cases ps with
        | nil => simp [bind1.bindn] at e
        | cons p ps =>
          simp only [bind1.bindn] at e
          split at e
          · rename_i g1 e1
            obtain ⟨a1, a2⟩ := ih.2 ts ps g1 g' (by simp at h; omega) e i o
            obtain ⟨b1, b2⟩ := ih.1 t p g g1 (by simp at h; omega) e1 i a1
            exact ⟨b1, by simp [tsl, a2, b2]⟩
          · cases e
theorem yg_bind {H0 g g' σ σ'} {t : Hc.T} {p : PV} (y : Yg H0 g σ) (e : bind1 t p g = some g') (o : Off (tslots t) σ σ') : Yg H0 g' σ' := fun i a ow e1 => by
  obtain ⟨q1, q2⟩ := (bind1_own (sizeOf t + 1)).1 t p g g' (Nat.lt_succ_self _) e i ow
  rw [o i q2] at e1
  exact y i a q1 e1
/-- the target's part of an assignment -/
theorem asg_t {c : E} {t : Hc.T} {D : Ends} {σ : L2.St} {H : Hp} (tt : t1 G d (.set t c) D σ H) : tAsg (tE G d c) (gT G t) D σ H := by
  obtain ⟨W0, H0, W, g, h, wp, n, f, q⟩ := tt
  have q : okS G wp W0 H0 (((ev G.pg n).e wp d c g h).bind fun v h1 => R.ofO (bind1 t v g) fun g1 => .ok (.nx g1) h1) D := q
  refine ⟨W, g, h, wp, n, f.mo, q.keep.imp fun v h1 W1 H1 e1 r1 q1 x rx => ?_⟩
  obtain ⟨g1, e2, q2⟩ := q1.ofO
  have f1 := f.step e1 r1
  exact ⟨W1, g, v, g1, f1.mo.sr, rx, e2, fun σ' s' o => q2 W1 H1 σ' ⟨f1.ex, ⟨r1, s'⟩, yg_bind f1.yg e2 o⟩⟩
def noComp : Expr → Bool
  | .ListComp .. => false
  | .SetComp .. => false
  | .DictComp .. => false
  | _ => true
theorem sw_no {e : Expr} {t : Option Expr} {l : Nat} {env : Env} (h : noComp e = true) : swapsWith e t l env = pure false := by
  cases e <;> first | rfl | cases h
def noTupE : Expr → Bool
  | .Tuple .. => false
  | _ => true
theorem ss_no {tg e : Expr} {env : Env} (h : noTupE e = true) : swappedStores [tg] e env = pure none := by
  cases e <;> first | (cases h; done) | (cases tg <;> rfl)
theorem one_a {tg : Expr} {env : Env} (h : noStar tg = true) : (assignEach [tg] env).map (·.2) = [assign tg env] := by rw [noStar_a h]; rfl
theorem s_set (k : Gd G d N sc X) (hF : ∀ x, X.fn x = true) {tg e : Expr} {c : E} {t : Hc.T} {pos : Pos} (he : PE X e (tE G d c)) (hg : ckG (fun _ => true) N sc t tg = true) (h1 : noStar tg = true) (h2 : noComp e = true) (h3 : noTupE e = true) : PS X (.Assign [tg] e pos) (t1 G d (.set t c)) :=
  (ps_asg he (ckG_ok k (fun x _ => hF x) hg) (sw_no h2) (ss_no h3) (one_a h1)).imp fun D σ H t => asg_t t
/-- a plain name takes any value: also a tuple's display -/
theorem s_setn (k : Gd G d N sc X) (hF : ∀ x, X.fn x = true) {x : Str} {p : Pos} {e : Expr} {c : E} {t : Hc.T} {pos : Pos} (he : PE X e (tE G d c)) (hg : ckG (fun _ => true) N sc t (.Name x p) = true) (h2 : noComp e = true) : PS X (.Assign [.Name x p] e pos) (t1 G d (.set t c)) :=
  (ps_asg he (ckG_ok k (fun x _ => hF x) hg) (show swapsWithSole [Expr.Name x p] e pos.line X.env = pure false from sw_no (t := some (.Name x p)) (l := pos.line) h2) (by cases e <;> rfl) (one_a rfl)).imp fun D σ H t => asg_t t
def swB (sc : Scope) (y : Str) (py pos : Pos) (scope : Scope) : Bool :=
  locB sc y && (py.line == pos.line) && !(scope.names.any fun (n, k) => n == y && (k == .local || k == .cell))
theorem SR.setO {W H g σ} (s : SR G W H g σ) {i : Nat} {v : SV} {a : Addr} (hi : i < g.length) (ni : ¬ W.I a) (nm : a ∉ W.m) (ol : ∀ l, v = .ol l → ∃ xs, H a = some (.lst xs) ∧ RVs G W H l xs) (od : ∀ l, v = .od l → DA G W H a l) (np : ∀ p, v ≠ .pv p)
    (ap : ∀ (j : Nat), j ≠ i → isOwn g j → σ[j]? ≠ some (some (.ref a))) : SR G W H (Hc.upd g i v) (σ.set i (some (.ref a))) := by
  rw [upd_eq]
  have hj : ∀ {j : Nat} {w : SV}, (g.set i v)[j]? = some w → (j = i ∧ w = v) ∨ (j ≠ i ∧ g[j]? = some w) := by
    intro j w e
    by_cases q : j = i
    · subst q; rw [List.getElem?_set_self hi] at e; cases e; exact .inl ⟨rfl, rfl⟩
    · rw [List.getElem?_set_ne (fun z => q z.symm)] at e; exact .inr ⟨q, e⟩
  have hs : ∀ {j : Nat}, j ≠ i → (σ.set i (some (.ref a)))[j]? = σ[j]? := fun q => List.getElem?_set_ne (fun z => q z.symm)
  have hii : (σ.set i (some (.ref a)))[i]? = some (some (.ref a)) := List.getElem?_set_self (by rw [← s.len]; exact hi)
  have ho : ∀ {j}, isOwn (g.set i v) j → j ≠ i → isOwn g j := by
    rintro j (⟨l, e⟩ | ⟨l, e⟩) q
    · rcases hj e with ⟨z, _⟩ | ⟨_, q2⟩
      · exact absurd z q
      · exact .inl ⟨l, q2⟩
    · rcases hj e with ⟨z, _⟩ | ⟨_, q2⟩
      · exact absurd z q
      · exact .inr ⟨l, q2⟩
  refine ⟨by simp [s.len], fun j w e => ?_, fun j l e => ?_, fun j l e => ?_, fun j k b h1 h2 e1 e2 => ?_⟩
  · rcases hj e with ⟨q1, q2⟩ | ⟨q1, q2⟩
    · exact absurd q2.symm (np w)
    · rw [hs q1]; exact s.pv j w q2
  · rcases hj e with ⟨q1, q2⟩ | ⟨q1, q2⟩
    · subst q1
      obtain ⟨xs, z1, z2⟩ := ol l q2.symm
      exact ⟨a, xs, hii, ni, nm, z1, z2⟩
    · rw [hs q1]; exact s.ol j l q2
  · rcases hj e with ⟨q1, q2⟩ | ⟨q1, q2⟩
    · subst q1
      exact ⟨a, hii, ni, nm, od l q2.symm⟩
    · rw [hs q1]; exact s.od j l q2
  · by_cases q1 : j = i
    · by_cases q2 : k = i
      · rw [q1, q2]
      · exfalso
        subst q1
        rw [hii] at e1; cases e1
        rw [hs q2] at e2
        exact ap k q2 (ho h2 q2) e2
    · by_cases q2 : k = i
      · exfalso
        subst q2
        rw [hii] at e2; cases e2
        rw [hs q1] at e1
        exact ap j q1 (ho h1 q1) e1
      · rw [hs q1] at e1; rw [hs q2] at e2
        exact s.dis j k b (ho h1 q1) (ho h2 q2) e1 e2
theorem own_of {i : Nat} {g : SG} {v : SV} {j} (o : isOwn (Hc.upd g i v) j) : j = i ∨ (j ≠ i ∧ isOwn g j) := by
  rw [upd_eq] at o
  by_cases q : j = i
  · exact .inl q
  · right
    refine ⟨q, ?_⟩
    rcases o with ⟨l, e⟩ | ⟨l, e⟩
    · rw [List.getElem?_set_ne (fun z => q z.symm)] at e; exact .inl ⟨l, e⟩
    · rw [List.getElem?_set_ne (fun z => q z.symm)] at e; exact .inr ⟨l, e⟩
/-- an own slot takes a new list, a new dict -/
theorem seto_t {c : E} {i : Nat} {D : Ends} {σ : L2.St} {H : Hp} (hi : i < σ.length) (tt : t1 G d (.seto i c) D σ H) : tAsg (tN G d c) (gName i) D σ H := by
  obtain ⟨W0, H0, W, g, h, wp, n, f, q⟩ := tt
  have q : okS G wp W0 H0 (((ev G.pg n).e wp d c g h).bind fun v h1 => match v with
    | .lst l => .ok (.nx (Hc.upd g i (.ol l))) h1
    | .dct l => .ok (.nx (Hc.upd g i (.od l))) h1
    | _ => .no) D := q
  refine ⟨W, g, h, wp, n, f.mo, q.keep.imp fun v h1 W1 H1 e1 r1 q1 a h0 ni nm nl => ?_⟩
  have f1 := f.step e1 r1
  have hlt : i < g.length := by rw [f.mo.sr.len]; exact hi
  have apart : ∀ (j : Nat), isOwn g j → σ[j]? ≠ some (some (.ref a)) := by
    intro j o e
    rcases o with ⟨l, e2⟩ | ⟨l, e2⟩
    · obtain ⟨a', xs, z1, _, _, z4, _⟩ := f.mo.sr.ol j l e2
      rw [e] at z1; cases z1
      rw [h0] at z4; cases z4
    · obtain ⟨a', z1, _, _, z4⟩ := f.mo.sr.od j l e2
      rw [e] at z1; cases z1
      obtain ⟨o, z5⟩ := z4.some
      rw [h0] at z5; cases z5
  have yg : ∀ v, Yg H0 (Hc.upd g i v) (σ.set i (some (.ref a))) := fun v j b o e => by
    rcases own_of o with q | ⟨q, o⟩
    · subst q
      rw [List.getElem?_set_self hi] at e; cases e
      exact Classical.byContradiction fun z => f.ex.tr a z h0
    · rw [List.getElem?_set_ne (fun z => q z.symm)] at e; exact f.yg j b o e
  cases v with
  | lst l => exact q1 W1 H1 _ ⟨f1.ex, ⟨r1, f1.mo.sr.setO hlt ni nm (fun l' e => by cases e; exact nl) (fun _ e => nomatch e) (fun _ e => nomatch e) fun j _ o => apart j o⟩, yg _⟩
  | dct l => exact q1 W1 H1 _ ⟨f1.ex, ⟨r1, f1.mo.sr.setO hlt ni nm (fun _ e => nomatch e) (fun l' e => by cases e; exact nl) (fun _ e => nomatch e) fun j _ o => apart j o⟩, yg _⟩
  | _ => exact q1.elim
end
end Hc

set_option maxHeartbeats 4000000
/-! Loops; what changes. -/
namespace Hc
open PySem PySem.Spec PyProof.Rows L2
section
variable {G : GE} {T : Tab} {d : Nat} {N : List Str} {sc : Scope} {X : Cx} {rec : Scope → E → Expr → Bool}
theorem ix_of (k : Gd G d N sc X) {i : Nat} {x : Str} (h : ixB N i x = true) : X.N[i]? = some x := by rw [k.N]; exact of_decide_eq_true h
theorem s_seto (k : Gd G d N sc X) (hF : ∀ x, X.fn x = true) {x : Str} {p : Pos} {e : Expr} {c : E} {i : Nat} {pos : Pos} (he : PE X e (tN G d c)) (h1 : ixB N i x = true) (h2 : (locB sc x || cellB sc x) = true) (h3 : noComp e = true) : PS X (.Assign [.Name x p] e pos) (t1 G d (.seto i c)) := by
  have hi := ix_of k h1
  have hl : L2.Loc X.env.scope x := by
    unfold L2.Loc; rw [k.sc]
    rcases Bool.or_eq_true _ _ |>.mp h2 with h | h
    · exact .inl (loc_eq h)
    · exact .inr (cell_eq h)
  exact ⟨fun pins s σ H D I t => (ps_set k.nd hi hl he (sw_no h3) (.inl (hF x))).run pins s σ H D I (seto_t (by rw [I.len]; exact (List.getElem?_eq_some_iff.mp hi).1) t)⟩
/-- a comprehension goes to a name -/
def swOk (sc : Scope) (x : Str) (p pos : Pos) (scope : Scope) : Bool := (match sc.kind with | .function => true | _ => false) && locB sc x && (p.line == pos.line) && !(scope.names.any fun (n, k) => n == x && (k == .local || k == .cell))
theorem swOk_t (k : Gd G d N sc X) {x : Str} {p pos spos : Pos} {scope : Scope} {elt : Expr} {gs : List Comprehension} (h : swOk sc x p pos scope = true) : swapsWith (.ListComp elt gs scope pos) (some (.Name x p)) spos.line X.env = pure true := by
  unfold swOk at h
  simp only [Bool.and_eq_true, Bool.not_eq_true'] at h
  obtain ⟨⟨⟨h1, h2⟩, h3⟩, h4⟩ := h
  have hk : X.env.scope.kind = .function := by
    rw [k.sc]; revert h1; cases sc.kind <;> first | exact fun _ => rfl | exact fun h => nomatch h
  exact sw_true hk (by rw [k.sc]; exact loc_eq h2) h3 h4
/-- while -/
theorem s_while {e : Expr} {c : E} {body : List Stmt} {cb : List Sm} {pos : Pos} (hx : X.xe = fun _ _ => False) (he : PT X e (tT G d c)) (hb : PSs X body (tS G d cb)) : PS X (.While e body [] pos) (t1 G d (.whil c cb)) :=
  (ps_while (by rw [hx]; exact PassesOwn.never) he hb).imp fun D σ H ⟨W0, H0, W, g, h, wp, n, f, q⟩ => by
    have q : okS G wp W0 H0 ((ev G.pg n).w wp d c cb g h) D := q
    refine ⟨fun m σ H => ∃ W g h, Fm G wp W0 H0 W g h σ H ∧ okS G wp W0 H0 ((ev G.pg m).w wp d c cb g h) D, ⟨n, W, g, h, f, q⟩, fun m σ H ⟨W, g, h, f, q⟩ => ?_⟩
    cases m with
    | zero => exact q.elim
    | succ m =>
      have q : okS G wp W0 H0 (((ev G.pg m).e wp d c g h).bind fun v h1 => R.tst v
        (((ev G.pg m).s wp d cb g h1).bind fun f h2 => match f with
          | .nx g2 => (ev G.pg m).w wp d c cb g2 h2
          | .brk g2 => .ok (.nx g2) h2
          | .ret v => .ok (.ret v) h2)
        (.ok (.nx g) h1)) D := q
      refine ⟨W, g, h, wp, m, f.mo, q.keep.imp fun v h1 W1 H1 e1 r1 q1 => ?_⟩
      obtain ⟨b, rfl, q2⟩ := q1.tst
      refine ⟨b, rfl, ?_⟩
      cases b with
      | false => exact q2 W1 H1 σ (f.step e1 r1)
      | true =>
        refine ⟨fun σ' H' => ∃ W g h, Fm G wp W0 H0 W g h σ' H' ∧ okS G wp W0 H0 ((ev G.pg m).w wp d c cb g h) D, fun σ' H' q => ⟨m, Nat.lt_succ_self m, q⟩, W0, H0, W1, g, h1, wp, m, f.step e1 r1, ?_⟩
        have q2 : okS G wp W0 H0 (((ev G.pg m).s wp d cb g h1).bind fun f h2 => match f with
          | .nx g2 => (ev G.pg m).w wp d c cb g2 h2
          | .brk g2 => .ok (.nx g2) h2
          | .ret v => .ok (.ret v) h2) D := q2
        revert q2
        generalize (ev G.pg m).s wp d cb g h1 = r
        intro q2
        cases r with
        | ok f' h' => cases f' with
          | nx g' => exact fun W' H' σ' f' => ⟨W', g', h', f', q2⟩
          | brk g' => exact fun W' H' σ' f' => q2 W' H' σ' f'
          | ret v => exact q2
        | _ => exact q2
/-! for: the moment at the walk's beginning, the own objects hidden -/
noncomputable def hid (g : SG) (σ : L2.St) (H : Hp) : Hp := by
  classical
  exact fun a => if ∃ i, isOwn g i ∧ σ[i]? = some (some (.ref a)) then none else H a
theorem hid_ne {g σ H a o} (h : hid g σ H a = some o) : H a = some o := by
  unfold hid at h
  split at h
  · cases h
  · exact h
theorem hid_at {g σ H a} (h : ∀ i, isOwn g i → σ[i]? ≠ some (some (.ref a))) : hid g σ H a = H a := by
  unfold hid
  rw [if_neg]
  rintro ⟨i, o, e⟩
  exact h i o e
theorem hid_own {g σ H a i} (o : isOwn g i) (e : σ[i]? = some (some (.ref a))) : hid g σ H a = none := by
  unfold hid
  rw [if_pos ⟨i, o, e⟩]
theorem hid_rd {g σ H a u} (h : Rd (hid g σ H) a u) : Rd H a u := by
  rcases h with h | ⟨o, h⟩
  · exact .inl (hid_ne h)
  · exact .inr ⟨o, hid_ne h⟩
theorem own_ni {W H g σ i a} (s : SR G W H g σ) (o : isOwn g i) (e : σ[i]? = some (some (.ref a))) : ¬ W.I a ∧ ∃ u, H a = some u ∧ Mv u := by
  rcases o with ⟨l, o⟩ | ⟨l, o⟩
  · obtain ⟨b, xs, e1, e2, _, e4, _⟩ := s.ol i l o
    rw [e] at e1; cases e1
    exact ⟨e2, _, e4, trivial⟩
  · obtain ⟨b, e1, e2, _, e4⟩ := s.od i l o
    rw [e] at e1; cases e1
    refine ⟨e2, ?_⟩
    cases e4 with
    | k e _ => exact ⟨_, e, trivial⟩
    | n e _ _ => exact ⟨_, e, trivial⟩
/-- the walk's moments go on from its beginning -/
theorem hid_stay {wp W H g σ W' H'} (s : SR G W H g σ) (e : Ext G wp W (hid g σ H) W' H') : Stay G W H W' H' where
  mp := e.mp
  ii := e.ii
  tp := fun a u r => e.tp a u (by
    have : hid g σ H a = H a := hid_at fun i o z => by
      obtain ⟨_, v, h1, h2⟩ := own_ni s o z
      exact h2.noTup h1 u r
    rcases r with r | ⟨q, r⟩
    · exact .inl (by rw [this]; exact r)
    · exact .inr ⟨q, by rw [this]; exact r⟩)
  im := fun a o i h => e.im a o i (by rw [hid_at fun j o z => (own_ni s o z).1 i]; exact h)
theorem hid_ext {wp W0 H0 W H g σ} (e : Ext G wp W0 H0 W H) (y : Yg H0 g σ) : Ext G wp W0 H0 W (hid g σ H) := by
  have k : ∀ a, H0 a ≠ none → hid g σ H a = H a := fun a n => hid_at fun i o z => n (y i a o z)
  refine ⟨e.mp, e.ii, e.inew, e.mnew, fun a o h q => ?_, fun a h => ?_, fun a u r => ?_, fun a o i h => ?_, e.nd⟩
  · rw [k a (by rw [h]; exact fun z => nomatch z)]; exact e.fr a o h q
  · rw [k a h]; exact e.tr a h
  · have : hid g σ H a = H a := k a (by rcases r with r | ⟨_, r⟩ <;> (rw [r]; exact fun z => nomatch z))
    rcases e.tp a u r with r | ⟨q, r⟩
    · exact .inl (by rw [this]; exact r)
    · exact .inr ⟨q, by rw [this]; exact r⟩
  · rw [k a (by rw [h]; exact fun z => nomatch z)]; exact e.im a o i h
theorem hid_self {wp W H g σ} (nd : W.m.Nodup) : Ext G wp W (hid g σ H) W H :=
  ⟨fun _ _ h => h, fun _ h => h, fun _ h => .inl h, fun _ h => .inl h, fun a o h _ => hid_ne h, fun a h e => (by
    cases e2 : hid g σ H a with
    | none => exact h e2
    | some o => rw [hid_ne e2] at e; cases e), fun a u r => hid_rd r, fun a o _ h => hid_ne h, nd⟩
theorem okS.hid {wp W0 H0 W H g σ} {r : R F} {D : Ends} (q : okS G wp W0 H0 r D) (e : Ext G wp W0 H0 W (hid g σ H)) : okS G wp W (hid g σ H) r D := by
  have y : ∀ {g' σ'}, Yg (Hc.hid g σ H) g' σ' → Yg H0 g' σ' := fun y i a o z => Classical.byContradiction fun n => e.tr a n (y i a o z)
  cases r with
  | ok f h => cases f with
    | nx g' => exact fun W' H' σ' f => q W' H' σ' ⟨e.trans f.ex, f.mo, y f.yg⟩
    | brk g' => exact fun W' H' σ' f => q W' H' σ' ⟨e.trans f.ex, f.mo, y f.yg⟩
    | ret v => exact fun W' H' x ex r rv => q W' H' x (e.trans ex) r rv
  | _ => exact q
theorem s_for (k : Gd G d N sc X) (hF : ∀ x, X.fn x = true) (hx : X.xe = fun _ _ => False) {tg iter : Expr} {t : Hc.T} {ci : E} {body : List Stmt} {cb : List Sm} {pos : Pos} (hi : PI X tg iter (tI G d (KS G) ci)) (hfs : ∀ env x, foldedSetIterable iter env x = pure x)
    (hg : ckG (fun _ => true) N sc t tg = true) (hb : PSs X body (tS G d cb)) : PS X (.For tg iter body [] pos) (t1 G d (.forr t ci cb)) :=
  (ps_for (by rw [hx]; exact PassesOwn.never) k.calm hi (ckG_ok k (fun x _ => hF x) hg) hb (fun x => hfs _ x)).imp fun D σ H ⟨W0, H0, W, g, h, wp, n, f, q⟩ => by
    have q : okS G wp W0 H0 (((ev G.pg n).e wp d ci g h).bind fun x h1 => R.ofO (itOf x) fun l => fors t (fun g h => (ev G.pg n).s wp d cb g h) l g h1) D := q
    refine ⟨W, g, h, wp, n, f.mo, q.keep.imp fun v h1 W1 H1 e1 r1 q1 => ?_⟩
    obtain ⟨l, e2, q2⟩ := q1.ofO
    have f1 := f.step e1 r1
    refine ⟨l, e2, fun J jk => ?_⟩
    let HH := hid g σ H1
    have q3 : okS G wp W1 HH (fors t (fun g h => (ev G.pg n).s wp d cb g h) l g h1) D := q2.hid (hid_ext f1.ex f1.yg)
    refine ⟨fun i m σ' H' => ∃ W' g' h', Fm G wp W1 HH W' g' h' σ' H' ∧ i ≤ l.length ∧ m = l.length - i ∧ okS G wp W1 HH (fors t (fun g h => (ev G.pg n).s wp d cb g h) (l.drop i) g' h') D,
      ⟨l.length, W1, g, h1, ⟨hid_self r1.nd, f1.mo, fun i a o e => hid_own o e⟩, Nat.zero_le _, rfl, by rw [List.drop_zero]; exact q3⟩, fun i m σ' H' ⟨W', g', h', f', hil, hm, q4⟩ => ?_⟩
    have ks : KS G W1 H1 W' H' := hid_stay f1.mo.sr f'.ex
    by_cases hi2 : i < l.length
    · right
      refine ⟨jk.go W' H' i ks hi2, fun σ' H' => ∃ W' g' h', Fm G wp W1 HH W' g' h' σ' H' ∧ okS G wp W1 HH (fors t (fun g h => (ev G.pg n).s wp d cb g h) (l.drop (i + 1)) g' h') D,
        fun σ2 H2 ⟨W2, g2, h2, f2, q5⟩ => ⟨l.length - (i + 1), by omega, W2, g2, h2, f2, hi2, rfl, q5⟩, fun x H2 hy => ?_⟩
      obtain ⟨p, hp, ey, ry, rp⟩ := jk.yld W' H' h' i x H2 hi2 ks f'.mo.hr hy
      have f2 := f'.step (ey wp) ry
      have hd : l.drop i = p :: l.drop (i + 1) := by
        rw [List.drop_eq_getElem_cons hi2]
        rw [List.getElem?_eq_getElem hi2] at hp
        cases hp; rfl
      rw [hd] at q4
      obtain ⟨g1, hb1, q5⟩ := (show okS G wp W1 HH (R.ofO (bind1 t p g') fun g1 => (((ev G.pg n).s wp d cb g1 h').bind fun f h1 => match f with
        | .nx g2 => fors t (fun g h => (ev G.pg n).s wp d cb g h) (l.drop (i + 1)) g2 h1
        | .brk g2 => .ok (.nx g2) h1
        | .ret v => .ok (.ret v) h1)) D from q4).ofO
      refine ⟨W', g', p, g1, f2.mo.sr, rp, hb1, fun σ2 s2 o2 => ⟨W1, HH, W', g1, h', wp, n, ⟨f2.ex, ⟨ry, s2⟩, yg_bind f2.yg hb1 o2⟩, ?_⟩⟩
      revert q5
      generalize (ev G.pg n).s wp d cb g1 h' = r
      intro q5
      cases r with
      | ok f3 h3 => cases f3 with
        | nx g3 => exact fun W3 H3 σ3 f3 => ⟨W3, g3, h3, f3, q5⟩
        | brk g3 => exact fun W3 H3 σ3 f3 => q5 W3 H3 σ3 f3
        | ret v => exact q5
      | _ => exact q5
    · left
      have : i = l.length := by omega
      refine ⟨jk.stop W' H' i ks (by omega), ?_⟩
      rw [this, List.drop_length] at q4
      exact (show okS G wp W1 HH (.ok (.nx g') h') D from q4) W' H' σ' f'
end
end Hc

set_option maxHeartbeats 4000000
/-! What changes: own lists, numbered objects. -/
namespace Hc
open PySem PySem.Spec PyProof.Rows L2
section
variable {G : GE} {T : Tab} {d : Nat} {N : List Str} {sc : Scope} {X : Cx} {rec : Scope → E → Expr → Bool}
theorem Fm.put {wp W0 H0 W g h σ H} {i : Nat} {a : Addr} {u o : HO} {v : SV} (f : Fm G wp W0 H0 W g h σ H) (ow : isOwn g i) (e : σ[i]? = some (some (.ref a))) (hu : H a = some u) (mu : Mv u)
    (ol : ∀ l, v = .ol l → ∃ xs, o = .lst xs ∧ RVs G W H l xs) (od : ∀ l, v = .od l → DA G W (L2.upd H a o) a l) (np : ∀ p, v ≠ .pv p) : Fm G wp W0 H0 W (Hc.upd g i v) h σ (L2.upd H a o) := by
  have ni : ¬ W.I a ∧ a ∉ W.m := by
    rcases ow with ⟨l, q⟩ | ⟨l, q⟩
    · obtain ⟨b, xs, e1, e2, e3, _⟩ := f.mo.sr.ol i l q
      rw [e] at e1; cases e1; exact ⟨e2, e3⟩
    · obtain ⟨b, e1, e2, e3, _⟩ := f.mo.sr.od i l q
      rw [e] at e1; cases e1; exact ⟨e2, e3⟩
  have st : Stay G W H W (L2.upd H a o) := put_stay hu mu ni.1
  have hlt : i < g.length := by
    rcases ow with ⟨l, q⟩ | ⟨l, q⟩ <;> exact (List.getElem?_eq_some_iff.mp q).1
  have hj : ∀ {j : Nat} {w : SV}, (Hc.upd g i v)[j]? = some w → (j = i ∧ w = v) ∨ (j ≠ i ∧ g[j]? = some w) := by
    intro j w e
    rw [upd_eq] at e
    by_cases q : j = i
    · subst q; rw [List.getElem?_set_self hlt] at e; cases e; exact .inl ⟨rfl, rfl⟩
    · rw [List.getElem?_set_ne (fun z => q z.symm)] at e; exact .inr ⟨q, e⟩
  have ap : ∀ {j : Nat} {b}, j ≠ i → isOwn g j → σ[j]? = some (some (.ref b)) → b ≠ a := fun q o e2 z => q (f.mo.sr.dis _ _ a o ow (by rw [← z]; exact e2) e)
  refine ⟨put_ext f.ex (f.yg i a ow e), ⟨put_hr f.mo.hr hu mu ni.1 ni.2, ?_⟩, fun j b o e2 => ?_⟩
  · refine ⟨by rw [upd_eq]; simp [f.mo.sr.len], fun j w e2 => ?_, fun j l e2 => ?_, fun j l e2 => ?_, fun j k b h1 h2 e1 e2 => ?_⟩
    · rcases hj e2 with ⟨q1, q2⟩ | ⟨q1, q2⟩
      · exact absurd q2.symm (np w)
      · obtain ⟨x, z1, z2⟩ := f.mo.sr.pv j w q2; exact ⟨x, z1, z2.stay st⟩
    · rcases hj e2 with ⟨q1, q2⟩ | ⟨q1, q2⟩
      · subst q1
        obtain ⟨xs, z1, z2⟩ := ol l q2.symm
        subst z1
        exact ⟨a, xs, e, ni.1, ni.2, upd_same, z2.stay st⟩
      · obtain ⟨b, xs, z1, z2, z3, z4, z5⟩ := f.mo.sr.ol j l q2
        exact ⟨b, xs, z1, z2, z3, by rw [upd_ne (ap q1 (.inl ⟨l, q2⟩) z1)]; exact z4, z5.stay st⟩
    · rcases hj e2 with ⟨q1, q2⟩ | ⟨q1, q2⟩
      · subst q1
        exact ⟨a, e, ni.1, ni.2, od l q2.symm⟩
      · obtain ⟨b, z1, z2, z3, z4⟩ := f.mo.sr.od j l q2
        exact ⟨b, z1, z2, z3, z4.stay st fun o h => by rw [upd_ne (ap q1 (.inr ⟨l, q2⟩) z1)]; exact h⟩
    · have f1 : ∀ {j}, isOwn (Hc.upd g i v) j → isOwn g j := fun o => by
        rcases own_of o with q | ⟨_, q⟩
        · rw [q]; exact ow
        · exact q
      exact f.mo.sr.dis j k b (f1 h1) (f1 h2) e1 e2
  · rcases own_of o with q | ⟨_, q⟩
    · subst q; rw [e] at e2; cases e2; exact f.yg j _ ow e
    · exact f.yg j b q e2
theorem Fm.obj {wp W0 H0 W g h σ H} {n : Nat} {a : Addr} {u o : HO} {io : IO} (f : Fm G wp W0 H0 W g h σ H) (hn : wp ≤ n) (m : W.m[n]? = some a) (hu : H a = some u) (mu : Mv u) (ro : RO G W (L2.upd H a o) io a) : Fm G wp W0 H0 W g (Hc.upd h n io) σ (L2.upd H a o) := by
  have am : a ∈ W.m := List.mem_of_getElem? m
  have ni : ¬ W.I a := fun i => f.mo.hr.dj a i am
  have st : Stay G W H W (L2.upd H a o) := put_stay hu mu ni
  have hlt : n < h.length := by rw [← f.mo.hr.len]; exact (List.getElem?_eq_some_iff.mp m).1
  have ne : ∀ {b}, b ∉ W.m → b ≠ a := fun q z => q (by rw [z]; exact am)
  refine ⟨?_, ⟨⟨by rw [upd_eq]; simp [f.mo.hr.len], f.mo.hr.nd, fun j io' b e1 e2 => ?_, f.mo.hr.dj, fun b i => ?_⟩, ?_⟩, f.yg⟩
  · refine ⟨f.ex.mp, f.ex.ii, f.ex.inew, f.ex.mnew, fun b q hb k => ?_, fun b hb => ?_, fun b q r => ?_, fun b q i hb => ?_, f.ex.nd⟩
    · have : b ≠ a := fun z => by
        subst z
        rcases f.ex.mnew b am with z | z
        · obtain ⟨j, hj⟩ := List.getElem?_of_mem z
          have := nodup_at f.ex.nd m (f.ex.mp j b hj)
          subst this
          exact k n hn hj
        · rw [hb] at z; cases z
      rw [upd_ne this]; exact f.ex.fr b q hb k
    · exact up_tr (f.ex.tr b hb)
    · have := f.ex.tp b q r
      exact st.tp b q this
    · exact st.im b q (f.ex.ii b i) (f.ex.im b q i hb)
  · rw [upd_eq] at e1
    by_cases q : j = n
    · subst q
      rw [List.getElem?_set_self hlt] at e1; cases e1
      rw [m] at e2; cases e2
      exact ro
    · rw [List.getElem?_set_ne (fun z => q z.symm)] at e1
      refine (f.mo.hr.ob j io' b e1 e2).stay st fun c w hc e3 => ?_
      by_cases q2 : c = a
      · subst q2
        rcases hc with hc | hc
        · subst hc; exact absurd (nodup_at f.mo.hr.nd e2 m) q
        · rw [hu] at hc; cases hc; exact mu.elim
      · rw [upd_ne q2]; exact e3
  · rw [upd_ne (fun z => ni (by rw [← z]; exact i))]; exact f.mo.hr.it b i
  · refine ⟨f.mo.sr.len, fun j w e2 => ?_, fun j l e2 => ?_, fun j l e2 => ?_, f.mo.sr.dis⟩
    · obtain ⟨x, z1, z2⟩ := f.mo.sr.pv j w e2; exact ⟨x, z1, z2.stay st⟩
    · obtain ⟨b, xs, z1, z2, z3, z4, z5⟩ := f.mo.sr.ol j l e2
      exact ⟨b, xs, z1, z2, z3, by rw [upd_ne (ne z3)]; exact z4, z5.stay st⟩
    · obtain ⟨b, z1, z2, z3, z4⟩ := f.mo.sr.od j l e2
      exact ⟨b, z1, z2, z3, z4.stay st fun o h => by rw [upd_ne (ne z3)]; exact h⟩
/-! append -/
theorem s_app (k : Gd G d N sc X) {i : Nat} {x : Str} {p apos cpos pos : Pos} {e : Expr} {c : E} (h1 : varB N sc i x = true) (h2 : noStar e = true) (h3 : (apos.endLine == cpos.line) = true) (he : PE X e (tE G d c)) : PS X (.Expr (.Call (.Attribute (.Name x p) "append" apos) [e] [] cpos) pos) (t1 G d (.app i c)) :=
  (ps_expr (pe_bm PySem.F.plainAttrs_list PySem.F.slot_list_append PySem.F.type_list_append mt_append (pe_v k h1) (pa_cons he pa_nil (noStar_e h2)) rfl (few1 h2) h3 (noStar_e h2) rfl) rfl).imp fun D σ H ⟨W0, H0, W, g, h, wp, n, f, q⟩ => by
    have q : okS G wp W0 H0 (match nth g i with
      | some (.ol l) => ((ev G.pg n).e wp d c g h).bind fun v h1 => if Nat.blt l.length 16777216 then .ok (.nx (Hc.upd g i (.ol (l ++ [v])))) h1 else .no
      | some (.pv (.obj m)) => match nth h m with
        | some (.lst _) => ((ev G.pg n).e wp d c g h).bind fun v h1 => if Nat.ble wp m then match nth h1 m with
            | some (.lst l) => if Nat.blt l.length 16777216 then .ok (.nx g) (Hc.upd h1 m (.lst (l ++ [v]))) else .no
            | _ => .no
          else .no
        | _ => .no
      | _ => .no) D := q
    split at q
    · rename_i l e1
      rw [nth_eq] at e1
      obtain ⟨a, xs, z1, z2, z3, z4, z5⟩ := f.mo.sr.ol i l e1
      refine ⟨_, z1, .inl ⟨rfl, xs, .inl (.inl z4)⟩, W, g, h, wp, n, f.mo, q.keep.imp fun v h1 W1 H1 e2 r1 q1 y ry => ?_⟩
      have f1 := f.step e2 r1
      obtain ⟨hb, q2⟩ := q1.cond
      obtain ⟨a', xs', y1, y2, y3, y4, y5⟩ := f1.mo.sr.ol i l e1
      rw [z1] at y1; cases y1
      refine ⟨a, xs', y, rfl, rfl, y4, by rw [← y5.length, sizeLine_eq]; exact Nat.blt_eq.mp hb, q2 W1 _ σ (f1.put (.inl ⟨l, e1⟩) z1 y4 trivial (fun l' e => ?_) (fun _ e => nomatch e) (fun _ e => nomatch e))⟩
      cases e
      exact ⟨_, rfl, y5.append (.cons ry .nil)⟩
    · rename_i m e1
      rw [nth_eq] at e1
      obtain ⟨x0, z1, z2⟩ := f.mo.sr.pv i _ e1
      split at q
      · rename_i l0 e0
        obtain ⟨a, rfl, hm, ro⟩ := f.mo.hr.at (.v z2) e0
        cases ro with
        | lst y1 y2 =>
          refine ⟨_, z1, .inl ⟨rfl, _, .inl (.inl y1)⟩, W, g, h, wp, n, f.mo, q.keep.imp fun v h1 W1 H1 e2 r1 q1 y ry => ?_⟩
          have f1 := f.step e2 r1
          obtain ⟨hb, q2⟩ := q1.cond
          split at q2
          · rename_i l e3
            obtain ⟨hb2, q3⟩ := q2.cond
            rw [nth_eq] at e3
            have m1 := e2.mp m a hm
            have ro := r1.ob m _ a e3 m1
            cases ro with
            | @lst _ _ xs y3 y4 =>
              have ni : ¬ W1.I a := fun i => r1.dj a i (List.mem_of_getElem? m1)
              have st : Stay G W1 H1 W1 (L2.upd H1 a (.lst (xs ++ [y]))) := put_stay y3 trivial ni
              exact ⟨a, xs, y, rfl, rfl, y3, by rw [← y4.length, sizeLine_eq]; exact Nat.blt_eq.mp hb2, q3 W1 _ σ (f1.obj (Nat.le_of_ble_eq_true hb) m1 y3 trivial (.lst upd_same ((y4.stay st).append (.cons (ry.stay st) .nil))))⟩
          · exact q2.elim
      · exact q.elim
    · exact q.elim
/-! attributes -/
theorem rf_put {W H} {fs : List (Nat × PV)} {xs : List (Str × V)} {f : Nat} {p : PV} {x : V} (F : GF G T) (r : RF G W H fs xs) (rv : RV G W H p x) : RF G W H (fput fs f p) (putF (G.nm f) x xs) := by
  induction r with
  | nil => exact .cons rv .nil
  | @cons g v fs y xs rv1 r ih =>
    simp only [fput, putF]
    by_cases e : g = f
    · subst e
      rw [if_pos rfl]
      simp only [beq_self_eq_true, if_true]
      exact .cons rv r
    · rw [if_neg (fun z => e (F.inj _ _ z)), beq_eq_false_iff_ne.mpr e, if_neg Bool.false_ne_true]
      exact .cons rv1 ih
theorem rf_len {W H} {fs : List (Nat × PV)} {xs : List (Str × V)} (r : RF G W H fs xs) : fs.length = xs.length := by
  induction r with
  | nil => rfl
  | cons _ _ ih => simp [ih]
theorem s_seta (F : GF G T) (k : Gd G d N sc X) {ff : Nat} {x : Str} {o e : Expr} {co ce : E} {p pos : Pos} (h1 : T.fld x = some ff) (h2 : T.nofld ff = true) (h3 : noComp e = true) (ho : PE X o (tE G d co)) (he : PE X e (tE G d ce)) : PS X (.Assign [.Attribute o x p] e pos) (t1 G d (.seta co ff ce)) :=
  (ps_fld ho he (sw_no h3)).imp fun D σ H ⟨W0, H0, W, g, h, wp, n, f, q⟩ => by
    have q : okS G wp W0 H0 (((ev G.pg n).e wp d ce g h).bind fun x h1 => ((ev G.pg n).e wp d co g h1).bind fun z h2 => match z with
      | .obj n => if Nat.ble wp n then match nth h2 n with
          | some (.ins c fs) => if Nat.blt fs.length 900 then .ok (.nx g) (Hc.upd h2 n (.ins c (fput fs ff x))) else .no
          | _ => .no
        else .no
      | _ => .no) D := q
    refine ⟨W, g, h, wp, n, f.mo, q.keep.imp fun v h1' W1 H1 e1 r1 q1 y ry => ⟨W1, g, h1', wp, n, f.mo.ext e1 r1, q1.keep.imp fun z h2' W2 H2 e2 r2 q2 w rw' => ?_⟩⟩
    have f2 := (f.step e1 r1).step e2 r2
    cases z with
    | obj m =>
      obtain ⟨hb, q3⟩ := (show okS G wp W0 H0 (if Nat.ble wp m then match nth h2' m with
          | some (.ins c fs) => if Nat.blt fs.length 900 then .ok (.nx g) (Hc.upd h2' m (.ins c (fput fs ff v))) else .no
          | _ => .no
        else .no) D from q2).cond
      split at q3
      · rename_i c fs e3
        obtain ⟨hb2, q4⟩ := q3.cond
        obtain ⟨a, rfl, hm, ro⟩ := r2.at (.v rw') e3
        cases ro with
        | @ins _ _ _ dx xs ic y1 y2 y3 =>
          have ni : ¬ W2.I a := fun i => r2.dj a i (List.mem_of_getElem? hm)
          have st : Stay G W2 H2 W2 (L2.upd H2 a (.ins (G.cad c) dx (putF x y xs))) := put_stay y1 trivial ni
          obtain ⟨c1, c2⟩ := F.ic c ic
          have c2 := c2 ff h2
          rw [F.fld x ff h1] at c2
          have hdx : dx ≠ a := fun z => by subst z; rw [y1] at y2; cases y2
          have rf := rf_put (f := ff) F (y3.stay st) ((ry.stay e2.stay).stay st)
          rw [F.fld x ff h1] at rf
          refine ⟨a, _, dx, xs, rfl, y1, by rw [k.K]; exact c1, by rw [k.K]; exact c2, by rw [← rf_len y3]; have := Nat.blt_eq.mp hb2; omega, q4 W2 _ σ (f2.obj (Nat.le_of_ble_eq_true hb) hm y1 trivial (.ins ic upd_same (by rw [upd_ne hdx]; exact y2) rf))⟩
      · exact q3.elim
    | _ => exact q2.elim
end
end Hc

set_option maxHeartbeats 4000000
/-! Places, several targets at once. -/
namespace Hc
open PySem PySem.Spec PyProof.Rows L2
section
variable {G : GE} {T : Tab} {d : Nat} {N : List Str} {sc : Scope} {X : Cx} {rec : Scope → E → Expr → Bool}
def rSet (G : GE) : TSet := fun o i v H Q => ∃ W a kp vp, o = .ref a ∧ RV G W H kp i ∧ RV G W H vp v ∧
  ((∃ l xs l', H a = some (.lst xs) ∧ RVs G W H l xs ∧ setIx l kp vp = some l' ∧ ∀ ys, RVs G W H l' ys → Q (L2.upd H a (.lst ys))) ∨
   ∃ dd, DA G W H a dd ∧ askable dd kp = true ∧ dd.length < 16777215 ∧ ∀ ob, (∀ H' W', H' a = some ob → Stay G W H W' H' → DA G W' H' a (dput dd kp vp)) → Q (L2.upd H a ob))
theorem ixn_eq {n : Nat} {i : Int} {j : Nat} (h : ixn n i = some j) : ixN n i = some j := by
  cases i with
  | ofNat m =>
    have h : (if Nat.blt m n then some m else none) = some j := h
    split at h
    · rename_i hb
      cases h
      have hb := Nat.blt_eq.mp hb
      unfold ixN
      rw [if_pos (show (0 : Int) ≤ Int.ofNat j from Int.natCast_nonneg j), if_pos (show Int.ofNat j < (n : Int) by simp only [Int.ofNat_eq_natCast]; omega)]
      rfl
    · cases h
  | negSucc m =>
    have h : (if Nat.blt m n then some (n - 1 - m) else none) = some j := h
    split at h
    · rename_i hb
      cases h
      have hb := Nat.blt_eq.mp hb
      unfold ixN
      rw [if_neg (by omega), if_pos (by omega)]
      congr 1
      omega
    · cases h
theorem set_ok (k : Gd G d N sc X) : PSet X (rSet G) := by
  intro pins s σ H o i v ov iv u Q I ro ri rv h
  obtain ⟨W, a, kp, vp, rfl, r1, r2, h⟩ := h
  rcases h with ⟨l, xs, l', e1, e2, e3, q⟩ | ⟨dd, da, ask, hl, q⟩
  · cases kp with
    | int m =>
      cases r1
      have e3 : (match ixn l.length m with | some j => some (Hc.upd l j vp) | none => none) = some l' := e3
      split at e3
      · rename_i j ej
        cases e3
        refine set_list pins s σ H _ _ v ov iv u Q I ro ri rv ⟨a, xs, m, j, rfl, rfl, e1, by rw [← e2.length]; exact ixn_eq ej, q _ ?_⟩
        rw [upd_eq]
        exact e2.set j r2
      · cases e3
    | _ => exact nomatch (show (none : Option (List PV)) = some l' from e3)
  · cases ro
    have hu := k.u
    exact D_set k.prog k.w k.K hu I da r1 ri ask hl r2 rv fun ob s' I' f => ⟨_, I', q ob f⟩
theorem da_mv {W H a dd} (t : DA G W H a dd) : ∃ u, H a = some u ∧ Mv u := by
  cases t with
  | k e _ => exact ⟨_, e, trivial⟩
  | n e _ _ => exact ⟨_, e, trivial⟩
theorem pg_s (k : Gd G d N sc X) {o i : Expr} {to ti : TE} {pos : Pos} (ho : PE X o to) (hi : PE X i ti) (hs : noSl i = true) : PG X (.Subscript o i pos) (gSub to ti (rSet G)) :=
  pg_sub ho hi (set_ok k) (by intro v; cases i <;> first | rfl | cases hs)
/-- the numbered object's place -/
theorem obj_put {wp W0 H0 W g h σ H} {m : Nat} {y : V} {kp vp : PV} {i v : V} {D : Ends} (f : Fm G wp W0 H0 W g h σ H) (ry : RV G W H (.obj m) y) (rk : RV G W H kp i) (rv : RV G W H vp v) (q : okS G wp W0 H0 (R.ofO (hput wp h m kp vp) fun h4 => .ok (.nx g) h4) D) : rSet G y i v H fun H' => D.nx σ H' := by
  obtain ⟨h4, e, q⟩ := q.ofO
  unfold hput at e
  split at e
  · rename_i hb
    have hb := Nat.le_of_ble_eq_true hb
    split at e
    · rename_i l e1
      split at e
      · rename_i l' e2
        cases e
        obtain ⟨a, rfl, hm, ro⟩ := f.mo.hr.at (.v ry) e1
        cases ro with
        | @lst _ _ xs y1 y2 =>
          have ni : ¬ W.I a := fun i => f.mo.hr.dj a i (List.mem_of_getElem? hm)
          refine ⟨W, a, kp, vp, rfl, rk, rv, .inl ⟨l, xs, l', y1, y2, e2, fun ys rs => ?_⟩⟩
          have st : Stay G W H W (L2.upd H a (.lst ys)) := put_stay y1 trivial ni
          exact q W _ σ (f.obj hb hm y1 trivial (.lst upd_same (rs.stay st)))
      · cases e
    · rename_i dd e1
      split at e
      · rename_i hc
        cases e
        simp only [Bool.and_eq_true] at hc
        obtain ⟨a, rfl, hm, ro⟩ := f.mo.hr.at (.v ry) e1
        cases ro with
        | dct da =>
          have ni : ¬ W.I a := fun i => f.mo.hr.dj a i (List.mem_of_getElem? hm)
          obtain ⟨u, hu, mu⟩ := da_mv da
          refine ⟨W, a, kp, vp, rfl, rk, rv, .inr ⟨dd, da, hc.1, Nat.blt_eq.mp hc.2, fun ob fo => ?_⟩⟩
          have st : Stay G W H W (L2.upd H a ob) := put_stay hu mu ni
          exact q W _ σ (f.obj hb hm hu mu (.dct (fo _ _ upd_same st)))
      · cases e
    · cases e
  · cases e
theorem s_put (k : Gd G d N sc X) {i : Nat} {x : Str} {p p2 pos : Pos} {ix e : Expr} {ck ce : E} (h1 : varB N sc i x = true) (h2 : noComp e = true) (hs : noSl ix = true) (hk : PE X ix (tE G d ck)) (he : PE X e (tE G d ce)) : PS X (.Assign [.Subscript (.Name x p) ix p2] e pos) (t1 G d (.put i ck ce)) :=
  (ps_asg he (pg_s k (pe_v k h1) hk hs) (show swapsWithSole [.Subscript (.Name x p) ix p2] e pos.line X.env = pure false from sw_no (t := some (.Subscript (.Name x p) ix p2)) (l := pos.line) (env := X.env) h2) (by cases e <;> rfl) rfl).imp fun D σ H ⟨W0, H0, W, g, h, wp, n, f, q⟩ => by
    have q : okS G wp W0 H0 (((ev G.pg n).e wp d ce g h).bind fun x h1 => ((ev G.pg n).e wp d ck g h1).bind fun y h2 => match nth g i with
        | some (.ol l) => R.ofO (setIx l y x) fun l' => .ok (.nx (Hc.upd g i (.ol l'))) h2
        | some (.od dd) => if askable dd y && Nat.blt dd.length 16777215 then .ok (.nx (Hc.upd g i (.od (dput dd y x)))) h2 else .no
        | some (.pv (.obj n)) => R.ofO (hput wp h2 n y x) fun h3 => .ok (.nx g) h3
        | _ => .no) D := q
    refine ⟨W, g, h, wp, n, f.mo, q.keep.imp fun vp h1' W1 H1 e1 r1 q1 v rv => ?_⟩
    have f1 := f.step e1 r1
    -- the slot
    have key : ∃ y, σ[i]? = some (some y) ∧ tE G d ck σ H1 (fun z H2 => rSet G y z v H2 fun H' => D.nx σ H') := by
      cases hg : nth g i with
      | none =>
        rw [hg] at q1
        exfalso
        revert q1
        cases (ev G.pg n).e wp d ck g h1' <;> exact fun q => q
      | some sv =>
        rw [hg] at q1
        rw [nth_eq] at hg
        cases sv with
        | un => exfalso; revert q1; cases (ev G.pg n).e wp d ck g h1' <;> exact fun q => q
        | ol l =>
          obtain ⟨a, xs, z1, _⟩ := f1.mo.sr.ol i l hg
          refine ⟨_, z1, W1, g, h1', wp, n, f1.mo, q1.keep.imp fun kp h2' W2 H2 e2 r2 q2 z rz => ?_⟩
          have f2 := f1.step e2 r2
          obtain ⟨l', e3, q3⟩ := q2.ofO
          obtain ⟨a', xs, y1, y2, y3, y4, y5⟩ := f2.mo.sr.ol i l hg
          rw [z1] at y1; cases y1
          refine ⟨W2, a, kp, vp, rfl, rz, rv.stay e2.stay, .inl ⟨l, xs, l', y4, y5, e3, fun ys rs => q3 W2 _ σ (f2.put (.inl ⟨l, hg⟩) z1 y4 trivial (fun l2 e => ?_) (fun _ e => nomatch e) (fun _ e => nomatch e))⟩⟩
          cases e
          exact ⟨ys, rfl, rs⟩
        | od dd =>
          obtain ⟨a, z1, _⟩ := f1.mo.sr.od i dd hg
          refine ⟨_, z1, W1, g, h1', wp, n, f1.mo, q1.keep.imp fun kp h2' W2 H2 e2 r2 q2 z rz => ?_⟩
          have f2 := f1.step e2 r2
          obtain ⟨hc, q3⟩ := q2.cond
          simp only [Bool.and_eq_true] at hc
          obtain ⟨a', y1, y2, y3, y4⟩ := f2.mo.sr.od i dd hg
          rw [z1] at y1; cases y1
          obtain ⟨u, hu, mu⟩ := da_mv y4
          refine ⟨W2, a, kp, vp, rfl, rz, rv.stay e2.stay, .inr ⟨dd, y4, hc.1, Nat.blt_eq.mp hc.2, fun ob fo => q3 W2 _ σ (f2.put (.inr ⟨dd, hg⟩) z1 hu mu (fun _ e => nomatch e) (fun l2 e => ?_) (fun _ e => nomatch e))⟩⟩
          cases e
          exact fo _ _ upd_same (put_stay hu mu y2)
        | pv pp =>
          obtain ⟨y, z1, z2⟩ := f1.mo.sr.pv i pp hg
          cases pp with
          | obj m =>
            refine ⟨y, z1, W1, g, h1', wp, n, f1.mo, q1.keep.imp fun kp h2' W2 H2 e2 r2 q2 z rz => ?_⟩
            exact obj_put (f1.step e2 r2) (z2.stay e2.stay) rz (rv.stay e2.stay) q2
          | _ => exfalso; revert q1; cases (ev G.pg n).e wp d ck g h1' <;> exact fun q => q
    exact key
theorem s_pute (k : Gd G d N sc X) {p2 pos : Pos} {o ix e : Expr} {co ck ce : E} (h2 : noComp e = true) (hs : noSl ix = true) (ho : PE X o (tE G d co)) (hk : PE X ix (tE G d ck)) (he : PE X e (tE G d ce)) : PS X (.Assign [.Subscript o ix p2] e pos) (t1 G d (.pute co ck ce)) :=
  (ps_asg he (pg_s k ho hk hs) (show swapsWithSole [.Subscript o ix p2] e pos.line X.env = pure false from sw_no (t := some (.Subscript o ix p2)) (l := pos.line) (env := X.env) h2) (by cases e <;> rfl) rfl).imp fun D σ H ⟨W0, H0, W, g, h, wp, n, f, q⟩ => by
    have q : okS G wp W0 H0 (((ev G.pg n).e wp d ce g h).bind fun x h1 => ((ev G.pg n).e wp d co g h1).bind fun z h2 => ((ev G.pg n).e wp d ck g h2).bind fun y h3 => match z with
      | .obj n => R.ofO (hput wp h3 n y x) fun h4 => .ok (.nx g) h4
      | _ => .no) D := q
    refine ⟨W, g, h, wp, n, f.mo, q.keep.imp fun vp h1 W1 H1 e1 r1 q1 v rv => ⟨W1, g, h1, wp, n, (f.step e1 r1).mo, q1.keep.imp fun op h2 W2 H2 e2 r2 q2 y ry => ⟨W2, g, h2, wp, n, ((f.step e1 r1).step e2 r2).mo, q2.keep.imp fun kp h3 W3 H3 e3 r3 q3 z rz => ?_⟩⟩⟩
    cases op with
    | obj m => exact obj_put (((f.step e1 r1).step e2 r2).step e3 r3) (ry.stay e3.stay) rz ((rv.stay e2.stay).stay e3.stay) q3
    | _ => exact q3.elim
theorem s_mov (k : Gd G d N sc X) (hF : ∀ x, X.fn x = true) {i j : Nat} {x y : Str} {p p2 pos : Pos} (h1 : ixB N i x = true) (h2 : (locB sc x || cellB sc x) = true) (h3 : varB N sc j y = true) : PS X (.Assign [.Name x p] (.Name y p2) pos) (t1 G d (.mov i j)) := by
  have hi := ix_of k h1
  have hl : L2.Loc X.env.scope x := by
    unfold L2.Loc; rw [k.sc]
    rcases Bool.or_eq_true _ _ |>.mp h2 with h | h
    · exact .inl (loc_eq h)
    · exact .inr (cell_eq h)
  refine ⟨fun pins s σ H D I t => (ps_set k.nd hi hl (pe_v k h3) rfl (.inl (hF x))).run pins s σ H D I ?_⟩
  have hlt : i < σ.length := by rw [I.len]; exact (List.getElem?_eq_some_iff.mp hi).1
  obtain ⟨W0, H0, W, g, h, wp, n, f, q⟩ := t
  have q : okS G wp W0 H0 (match nth g j with
    | some (.ol l) => .ok (.nx (Hc.upd (Hc.upd g j .un) i (.ol l))) h
    | some (.od l) => .ok (.nx (Hc.upd (Hc.upd g j .un) i (.od l))) h
    | _ => .no) D := q
  have main : ∀ (a : Addr) (sv : SV), isOwn g j → σ[j]? = some (some (.ref a)) → ¬ W.I a → a ∉ W.m → (∀ l, sv = .ol l → ∃ xs, H a = some (.lst xs) ∧ RVs G W H l xs) → (∀ l, sv = .od l → DA G W H a l) → (∀ p, sv ≠ .pv p) →
      Fm G wp W0 H0 W (Hc.upd (Hc.upd g j .un) i sv) h (σ.set i (some (.ref a))) H := by
    intro a sv oj ej ni nm ol od np
    -- slot j is not looked at any more
    have s1 : SR G W H (Hc.upd g j .un) σ := by
      have s := f.mo.sr
      have hj : ∀ {m : Nat} {w : SV}, (Hc.upd g j .un)[m]? = some w → w ≠ .un → m ≠ j ∧ g[m]? = some w := by
        intro m w e hw
        rw [upd_eq] at e
        by_cases q : m = j
        · subst q
          by_cases hl : m < g.length
          · rw [List.getElem?_set_self hl] at e; cases e; exact absurd rfl hw
          · rw [List.getElem?_eq_none (by simp; omega)] at e; cases e
        · rw [List.getElem?_set_ne (fun z => q z.symm)] at e; exact ⟨q, e⟩
      have ho : ∀ {m}, isOwn (Hc.upd g j .un) m → isOwn g m := by
        rintro m (⟨l, e⟩ | ⟨l, e⟩)
        · exact .inl ⟨l, (hj e (by intro z; cases z)).2⟩
        · exact .inr ⟨l, (hj e (by intro z; cases z)).2⟩
      exact ⟨by rw [upd_eq]; simp [s.len], fun m v e => s.pv m v (hj e (by intro z; cases z)).2, fun m l e => s.ol m l (hj e (by intro z; cases z)).2, fun m l e => s.od m l (hj e (by intro z; cases z)).2, fun m m2 b h1 h2 => s.dis m m2 b (ho h1) (ho h2)⟩
    have oj2 : ∀ {m}, isOwn (Hc.upd g j .un) m → m ≠ j ∧ isOwn g m := by
      intro m o
      rcases own_of o with q | q
      · subst q
        exfalso
        rw [upd_eq] at o
        rcases o with ⟨l, e⟩ | ⟨l, e⟩ <;> (rw [List.getElem?_set_self (by rcases oj with ⟨_, q⟩ | ⟨_, q⟩ <;> exact (List.getElem?_eq_some_iff.mp q).1)] at e; cases e)
      · exact q
    refine ⟨f.ex, ⟨f.mo.hr, s1.setO (by rw [s1.len]; exact hlt) ni nm ol od np fun m hm o e => ?_⟩, fun m b o e => ?_⟩
    · obtain ⟨q1, q2⟩ := oj2 o
      exact q1 (f.mo.sr.dis m j a q2 oj e ej)
    · rcases own_of o with q | ⟨q, o⟩
      · subst q
        rw [List.getElem?_set_self hlt] at e; cases e
        exact f.yg j a oj ej
      · rw [List.getElem?_set_ne (fun z => q z.symm)] at e
        exact f.yg m b (oj2 o).2 e
  split at q
  · rename_i l e
    rw [nth_eq] at e
    obtain ⟨a, xs, e1, e2, e3, e4, e5⟩ := f.mo.sr.ol j l e
    exact ⟨_, e1, q W H _ (main a _ (.inl ⟨l, e⟩) e1 e2 e3 (fun l' e => by cases e; exact ⟨xs, e4, e5⟩) (fun _ e => nomatch e) (fun _ e => nomatch e))⟩
  · rename_i l e
    rw [nth_eq] at e
    obtain ⟨a, e1, e2, e3, e4⟩ := f.mo.sr.od j l e
    exact ⟨_, e1, q W H _ (main a _ (.inr ⟨l, e⟩) e1 e2 e3 (fun _ e => nomatch e) (fun l' e => by cases e; exact e4) (fun _ e => nomatch e))⟩
  · exact q.elim
end
end Hc

set_option maxHeartbeats 4000000
/-! Several targets at once; pop. -/
namespace Hc
open PySem PySem.Spec PyProof.Rows L2
section
variable {G : GE} {T : Tab} {d : Nat} {N : List Str} {sc : Scope} {X : Cx} {rec : Scope → E → Expr → Bool}
/-- a value, or a new object (own) -/
def VL (G : GE) (H : Hp) (own : Bool) (W' : Wd) (H' : Hp) (v : PV) (x : V) : Prop := match own with
  | false => RV G W' H' v x
  | true => ∃ a, x = .ref a ∧ H a = none ∧ ¬ W'.I a ∧ a ∉ W'.m ∧ NL G W' H' v a
def tX (G : GE) (d : Nat) (own : Bool) (c : E) : TE := fun σ H Q => ∃ W g h wp n, Mo G W g h σ H ∧ okR G wp W H ((ev G.pg n).e wp d c g h) (fun v _ W' H' => ∀ x, VL G H own W' H' v x → Q x H')
theorem x_e {e : Expr} {c : E} (h : PE X e (tE G d c)) : PE X e (tX G d false c) := h
theorem x_n {e : Expr} {c : E} (h : PE X e (tN G d c)) : PE X e (tX G d true c) := h.imp fun σ H Q ⟨W, g, h, wp, n, m, q⟩ =>
  ⟨W, g, h, wp, n, m, q.imp fun v _ W' H' _ _ f a h0 ni nm nl => f _ ⟨a, rfl, h0, ni, nm, nl⟩⟩
inductive VLs (G : GE) (H : Hp) (W' : Wd) (H' : Hp) : List Bool → List PV → List V → Prop
  | nil : VLs G H W' H' [] [] []
  | cons {b v x bs vs xs} : VL G H b W' H' v x → VLs G H W' H' bs vs xs → (b = true → ∀ (j : Nat), xs[j]? = some x → bs[j]? ≠ some true) → VLs G H W' H' (b :: bs) (v :: vs) (x :: xs)
theorem NL.ext {wp W H W' H' v a} (n : NL G W H v a) (ni : ¬ W.I a) (nm : a ∉ W.m) (e : Ext G wp W H W' H') : ¬ W'.I a ∧ a ∉ W'.m ∧ NL G W' H' v a := by
  unfold NL at n ⊢
  split at n
  · obtain ⟨xs, e1, e2⟩ := n
    obtain ⟨k1, k2, k3⟩ := e.own ni nm e1
    exact ⟨k1, k2, xs, k3, e2.stay e.stay⟩
  · obtain ⟨o, ho⟩ := n.some
    obtain ⟨k1, k2, k3⟩ := e.own ni nm ho
    exact ⟨k1, k2, n.stay e.stay fun o e2 => (e.own ni nm e2).2.2⟩
  · exact n.elim
theorem VL.ext {wp H0 b W H W' H' v x} (n : VL G H0 b W H v x) (e : Ext G wp W H W' H') : VL G H0 b W' H' v x := by
  cases b with
  | false => exact RV.stay e.stay n
  | true =>
    obtain ⟨a, e1, e2, e3, e4, e5⟩ := n
    obtain ⟨k1, k2, k3⟩ := e5.ext e3 e4 e
    exact ⟨a, e1, e2, k1, k2, k3⟩
theorem VLs.back {H H1 W' H'} (k : ∀ a, H1 a = none → H a = none) : ∀ {bs vs xs}, VLs G H1 W' H' bs vs xs → VLs G H W' H' bs vs xs
  | _, _, _, .nil => .nil
  | _, _, _, .cons (b := b) h r ap => .cons (by
      cases b with
      | false => exact h
      | true => obtain ⟨a, e1, e2, r⟩ := h; exact ⟨a, e1, k a e2, r⟩) (VLs.back k r) ap
theorem VLs.old {H W' H'} : ∀ {bs vs xs} (_ : VLs G H W' H' bs vs xs) {j : Nat} {a : Addr}, xs[j]? = some (.ref a) → bs[j]? = some true → H a = none
  | _, _, _, .nil, j, a, e, _ => by simp at e
  | _, _, _, .cons (b := b) h r ap, 0, a, e, e2 => by
    simp at e e2
    subst e2
    obtain ⟨a', z1, z2, _⟩ := h
    rw [e] at z1; cases z1; exact z2
  | _, _, _, .cons h r ap, j + 1, a, e, e2 => VLs.old r (by simpa using e) (by simpa using e2)
def tL (G : GE) (d : Nat) (bs : List Bool) (cs : List E) : TA := fun σ H Q => ∃ W g h wp n, Mo G W g h σ H ∧ okR G wp W H (evs (fun e h => (ev G.pg n).e wp d e g h) cs h) (fun vs _ W' H' => ∀ xs, VLs G H W' H' bs vs xs → Q xs H')
theorem l_nil : PA X [] (tL G d [] []) := pa_nil.imp fun σ H Q ⟨W, g, h, wp, n, m, q⟩ => (show okR G wp W H (.ok [] h) _ from q).here m.hr [] .nil
theorem l_cons {e : Expr} {es : List Expr} {b : Bool} {bs : List Bool} {c : E} {cs : List E} (hs : ∀ e, c ≠ .star e) (h1 : noStar e = true) (he : PE X e (tX G d b c)) (hr : PA X es (tL G d bs cs)) : PA X (e :: es) (tL G d (b :: bs) (c :: cs)) :=
  (pa_cons he hr (noStar_e h1)).imp fun σ H Q ⟨W, g, h, wp, n, m, q⟩ => by
    have q : okR G wp W H (((ev G.pg n).e wp d c g h).bind fun v h1 => (evs (fun e h => (ev G.pg n).e wp d e g h) cs h1).bind fun vs h2 => .ok (v :: vs) h2) (fun vs _ W' H' => ∀ xs, VLs G H W' H' (b :: bs) vs xs → Q xs H') := by
      cases c <;> first | exact q | exact absurd rfl (hs _)
    refine ⟨W, g, h, wp, n, m, q.bind.imp fun v h1 W1 H1 e1 r1 q1 x rx => ⟨W1, g, h1, wp, n, m.ext e1 r1, q1.bind.imp fun vs h2 W2 H2 e2 r2 q2 xs rs => ?_⟩⟩
    refine q2.here r2 _ (.cons (rx.ext e2) (rs.back fun a ha => Classical.byContradiction fun z => e1.tr a z ha) fun hb j ej et => ?_)
    subst hb
    obtain ⟨a, z1, z2, z3, z4, z5⟩ := rx
    subst z1
    have := rs.old ej et
    exact z5.some this
def svOf : PV → SV
  | .lst l => .ol l
  | .dct l => .od l
  | v => .pv v
theorem Fm.setX {wp W0 H0 W g h σ H} {i : Nat} {own : Bool} {v : PV} {x : V} (f : Fm G wp W0 H0 W g h σ H) (hi : i < g.length) (vl : VL G H0 own W H v x) (ap : own = true → ∀ (j : Nat), j ≠ i → isOwn g j → σ[j]? ≠ some (some x)) :
    Fm G wp W0 H0 W (Hc.upd g i (if own then svOf v else .pv v)) h (σ.set i (some x)) H := by
  cases own with
  | false =>
    refine ⟨f.ex, ⟨f.mo.hr, f.mo.sr.set hi vl⟩, fun j b o e => ?_⟩
    rcases own_of o with q | ⟨q, o⟩
    · subst q
      exfalso
      rcases o with ⟨l, e⟩ | ⟨l, e⟩ <;> (rw [upd_eq, if_neg Bool.false_ne_true, List.getElem?_set_self hi] at e; cases e)
    · rw [List.getElem?_set_ne (fun z => q z.symm)] at e; exact f.yg j b o e
  | true =>
    obtain ⟨a, rfl, h0, ni, nm, nl⟩ := vl
    rw [if_pos rfl]
    refine ⟨f.ex, ⟨f.mo.hr, f.mo.sr.setO hi ni nm (fun l e => ?_) (fun l e => ?_) (fun p e => ?_) fun j hj o => ap rfl j hj o⟩, fun j b o e => ?_⟩
    · cases v <;> cases e; exact nl
    · cases v <;> cases e; exact nl
    · cases v <;> first | (cases e; done) | exact nl.elim
    · rcases own_of o with q | ⟨q, o⟩
      · subst q
        rw [List.getElem?_set_self (by rw [← f.mo.sr.len]; exact hi)] at e; cases e; exact h0
      · rw [List.getElem?_set_ne (fun z => q z.symm)] at e; exact f.yg j b o e
/-- the slots' new values, one after the other -/
def setAll : List (Nat × Bool) → List V → L2.St → L2.St
  | (i, _) :: is, x :: xs, σ => setAll is xs (σ.set i (some x))
  | _, _, σ => σ
theorem setAll_ok {wp W0 H0 W h H} {Hs : Hp} (hs : ∀ a, Hs a = none → H0 a = none) : ∀ {is : List (Nat × Bool)} {vs : List PV} {xs : List V} {g g' : SG} {σ : L2.St}, Fm G wp W0 H0 W g h σ H → VLs G Hs W H (is.map (·.2)) vs xs → (∀ p ∈ is, p.1 < g.length) → putAll is vs g = some g' →
    (∀ (m j : Nat) x, xs[m]? = some x → (is.map (·.2))[m]? = some true → isOwn g j → σ[j]? ≠ some (some x)) → Fm G wp W0 H0 W g' h (setAll is xs σ) H
  | [], _, _, g, g', σ, f, .nil, _, e, _ => by cases e; exact f
  | (i, b) :: is, v :: vs, x :: xs, g, g', σ, f, .cons h r ap, hl, e, fr => by
    have hi : i < g.length := hl (i, b) (List.mem_cons_self ..)
    have vl : VL G H0 b W H v x := by
      cases b with
      | false => exact h
      | true => obtain ⟨a, e1, e2, e3⟩ := h; exact ⟨a, e1, hs a e2, e3⟩
    have f1 := f.setX hi vl fun hb j _ o => fr 0 j x rfl (by rw [hb]; rfl) o
    have e1 : putAll is vs (Hc.upd g i (if b then svOf v else .pv v)) = some g' := by
      cases b with
      | false => exact e
      | true => cases v <;> first | exact e | (exact nomatch (show (none : Option SG) = some g' from e))
    refine setAll_ok (is := is) (vs := vs) (xs := xs) (g := Hc.upd g i (if b then svOf v else .pv v)) (σ := σ.set i (some x)) hs f1 r (fun p hp => by rw [upd_eq, List.length_set]; exact hl p (List.mem_cons_of_mem _ hp)) e1 fun m j y e2 e3 o e4 => ?_
    rcases own_of o with q | ⟨q, o⟩
    · subst q
      rw [List.getElem?_set_self (by rw [← f.mo.sr.len]; exact hi)] at e4
      cases e4
      cases b with
      | true => exact ap rfl m e2 e3
      | false =>
        exfalso
        rcases o with ⟨l, e⟩ | ⟨l, e⟩ <;> (rw [upd_eq, if_neg Bool.false_ne_true, List.getElem?_set_self hi] at e; cases e)
    · rw [List.getElem?_set_ne (fun z => q z.symm)] at e4
      exact fr (m + 1) j y (by simpa using e2) (by simpa using e3) o e4
  | _ :: _, [], _, _, _, _, _, _, _, e, _ => by rename_i p _ _ _ _ _ _ _ _ _ ; obtain ⟨i, b⟩ := p; cases b <;> cases e
/-- what a row of new values does -/
theorem par_t {is : List (Nat × Bool)} {cs : List E} {D : Ends} {σ : L2.St} {H : Hp} {K : List V → Hp → Prop} (hl : ∀ p ∈ is, p.1 < σ.length) (tt : t1 G d (.par is cs) D σ H)
    (fin : ∀ wp W0 H0 W h g' xs H1, Fm G wp W0 H0 W g' h (setAll is xs σ) H1 → xs.length = is.length → okS G wp W0 H0 (.ok (.nx g') h) D → K xs H1) : tL G d (is.map (·.2)) cs σ H K := by
  obtain ⟨W0, H0, W, g, h, wp, n, f, q⟩ := tt
  have q : okS G wp W0 H0 ((evs (fun e h => (ev G.pg n).e wp d e g h) cs h).bind fun vs h1 => R.ofO (putAll is vs g) fun g1 => .ok (.nx g1) h1) D := q
  refine ⟨W, g, h, wp, n, f.mo, q.keep.imp fun vs h1 W1 H1 e1 r1 q1 xs rs => ?_⟩
  obtain ⟨g1, e2, q2⟩ := q1.ofO
  have f1 := f.step e1 r1
  have len : ∀ {bs vs xs}, VLs G H W1 H1 bs vs xs → xs.length = bs.length := by
    intro bs vs xs r
    induction r with
    | nil => rfl
    | cons _ _ _ ih => simp [ih]
  refine fin wp W0 H0 W1 h1 g1 xs H1 (setAll_ok (fun a ha => Classical.byContradiction fun z => f.ex.tr a z ha) f1 rs (fun p hp => by rw [f.mo.sr.len]; exact hl p hp) e2 fun m j x e3 e4 o e5 => ?_) (by rw [len rs]; simp) q2
  -- an own object is older than the new ones
  have old : ∀ {a}, x = .ref a → H a = none := fun z => rs.old (by rw [← z]; exact e3) e4
  rcases o with ⟨l, o⟩ | ⟨l, o⟩
  · obtain ⟨a, ys, z1, _, _, z4, _⟩ := f.mo.sr.ol j l o
    rw [e5] at z1
    have := old (Option.some.inj (Option.some.inj z1))
    rw [this] at z4; cases z4
  · obtain ⟨a, z1, _, _, z4⟩ := f.mo.sr.od j l o
    rw [e5] at z1
    have := old (Option.some.inj (Option.some.inj z1))
    obtain ⟨_, z5⟩ := z4.some
    rw [this] at z5; cases z5
end
end Hc

set_option maxHeartbeats 4000000
/-! Several targets at once: the statement; pop. -/
namespace Hc
open PySem PySem.Spec PyProof.Rows L2
section
variable {G : GE} {T : Tab} {d : Nat} {N : List Str} {sc : Scope} {X : Cx} {rec : Scope → E → Expr → Bool}
def fnKind (sc : Scope) : Bool := match sc.kind with
  | .function => true
  | _ => false
def plainN (sc : Scope) (line : Nat) : Expr → Option Str
  | .Name id pos => if sc.names.lookup id == some .local && pos.line == line then some id else none
  | _ => none
def isSt : Expr → Bool
  | .Starred .. => true
  | _ => false
/-- which of two ways the stores go: some none: by a tuple, some (some names): from the right -/
def ssB (sc : Scope) (ts vs : List Expr) : Option (Option (List Str)) :=
  if !(ts.length == 2 || ts.length == 3) || vs.length != ts.length || !fnKind sc then none else
  if vs.any isSt then none else
  let names := ts.filterMap (plainN sc ((ts.head?.map (·.pos.line)).getD 0))
  if names.length != ts.length || names.eraseDups.length != names.length then some none else
  if vs.all (foldedForSure 8) then some none else
  if vs.all (constantsAlone 8) then none else some (some names)
theorem ss_eq {env : Env} {ts vs : List Expr} {k k2 : Nat} {p p2 : Pos} {r : Option (List Str)} (h : ssB env.scope ts vs = some r) : swappedStores [.Tuple ts k p] (.Tuple vs k2 p2) env = pure r := by
  unfold ssB at h
  split at h
  · cases h
  · rename_i c1
    split at h
    · cases h
    · rename_i c2
      simp only [Bool.or_eq_true, Bool.not_eq_true, not_or, Bool.not_eq_false', Bool.not_eq_true'] at c1
      obtain ⟨⟨a1, a2⟩, a3⟩ := c1
      have hk : env.blockKind = .function := by
        unfold Env.blockKind
        unfold fnKind at a3
        revert a3
        cases hk : env.scope.kind <;> first | (intro _; rfl) | (intro a; simp at a)
      unfold swappedStores
      have hkb : (env.blockKind != .function) = false := by rw [hk]; rfl
      have a0 : ((!(ts.length == 2 || ts.length == 3) || vs.length != ts.length) || env.blockKind != .function) = false := by
        rw [hkb, Bool.or_false]
        simp only [Bool.or_eq_false_iff, Bool.not_eq_false', bne, a1, a2]
        simp_all
      simp only
      rw [a0]
      simp only [Bool.false_eq_true, if_false]
      let names := ts.filterMap (plainN env.scope ((ts.head?.map (·.pos.line)).getD 0))
      change (if vs.any isSt = true then pure none else (if (names.length != ts.length || names.eraseDups.length != names.length) = true then pure none else (if vs.all (foldedForSure 8) = true then pure none else (if vs.all (constantsAlone 8) = true then (unsupported "assign.tuple-of-constant-expressions:order-of-the-stores" >>= fun (_ : PUnit) => pure (some names)) else pure (some names))))) = pure r
      change (if (names.length != ts.length || names.eraseDups.length != names.length) = true then some none else (if vs.all (foldedForSure 8) = true then some none else (if vs.all (constantsAlone 8) = true then none else some (some names)))) = some r at h
      rw [if_neg c2]
      split at h
      · cases h; rw [if_pos (by assumption)]
      · rw [if_neg (by assumption)]
        split at h
        · cases h; rw [if_pos (by assumption)]
        · rw [if_neg (by assumption)]
          split at h
          · cases h
          · cases h; rw [if_neg (by assumption)]
/-- the values' part: which slots are own -/
def ckL (N : List Str) (rec recn : Scope → E → Expr → Bool) (sc : Scope) : List Bool → List E → List Expr → Bool
  | [], [], [] => true
  | b :: bs, c :: cs, e :: es => noStar e && (match c with
    | .star _ => false
    | _ => true) && (if b then recn sc c e else rec sc c e) && ckL N rec recn sc bs cs es
  | _, _, _ => false
def SndN (G : GE) (d : Nat) (N : List Str) (rec : Scope → E → Expr → Bool) : Prop := ∀ sc c e, rec sc c e = true → ∀ X, Gd G d N sc X → PE X e (tN G d c)
theorem ckL_ok {recn : Scope → E → Expr → Bool} (s : Snd G d N rec) (sn : SndN G d N recn) (k : Gd G d N sc X) : ∀ {bs : List Bool} {cs : List E} {es : List Expr}, ckL N rec recn sc bs cs es = true → PA X es (tL G d bs cs)
  | [], [], [], _ => l_nil
  | b :: bs, c :: cs, e :: es, h => by
    simp only [ckL, Bool.and_eq_true] at h
    obtain ⟨⟨⟨h1, h2⟩, h3⟩, h4⟩ := h
    have hs : ∀ e, c ≠ .star e := fun e z => by subst z; cases h2
    cases b with
    | false => exact l_cons hs h1 (x_e (s _ _ _ h3 X k)) (ckL_ok s sn k h4)
    | true => exact l_cons hs h1 (x_n (sn _ _ _ h3 X k)) (ckL_ok s sn k h4)
  | [], [], _ :: _, h => by simp [ckL] at h
  | [], _ :: _, _, h => by simp [ckL] at h
  | _ :: _, [], _, h => by simp [ckL] at h
  | _ :: _, _ :: _, [], h => by simp [ckL] at h
def nmB (N : List Str) (sc : Scope) (i : Nat) : Expr → Bool
  | .Name x _ => ixB N i x && (locB sc x || cellB sc x)
  | _ => false
theorem noss {ts vs : List Expr} {k k2 p p2 l} {env : Env} : swapsWithSole [.Tuple ts k p] (.Tuple vs k2 p2) l env = pure false := rfl
theorem pgs_of (k : Gd G d N sc X) (hF : ∀ x, X.fn x = true) : ∀ {is : List (Nat × Bool)} {ts : List Expr}, is.length = ts.length → (is.zip ts).all (fun p => nmB N sc p.1.1 p.2) = true → PGs X ts (fun vs σ H Q => vs.length = is.length ∧ Q (setAll is vs σ) H) ∧ (assignEach ts X.env).length = is.length ∧ (assignEach ts X.env).findIdx? (·.1) = none
  | [], [], _, _ => ⟨⟨fun pins s σ H vs us Q I r t => pgs_nil.run pins s σ H vs us Q I r (by
      obtain ⟨t1, t2⟩ := t
      cases vs with
      | nil => exact ⟨rfl, t2⟩
      | cons _ _ => cases t1)⟩, rfl, rfl⟩
  | [], _ :: _, h, _ => by cases h
  | _ :: _, [], h, _ => by cases h
  | (i, b) :: is, e :: ts, h, h2 => by
    simp only [List.zip_cons_cons, List.all_cons, Bool.and_eq_true] at h2
    obtain ⟨h3, h4⟩ := h2
    obtain ⟨q1, q2, q3⟩ := pgs_of k hF (is := is) (ts := ts) (by simpa using h) h4
    unfold nmB at h3
    split at h3
    · rename_i x pos
      simp only [Bool.and_eq_true] at h3
      have hi := ix_of k h3.1
      have hl : L2.Loc X.env.scope x := by
        unfold L2.Loc; rw [k.sc]
        rcases Bool.or_eq_true _ _ |>.mp h3.2 with h | h
        · exact .inl (loc_eq h)
        · exact .inr (cell_eq h)
      refine ⟨⟨fun pins s σ H vs us Q I r t => (pgs_cons (pg_name k.nd hi hl (.inl (hF x))) q1 rfl).run pins s σ H vs us Q I r ?_⟩, by show (assignEach ts X.env).length + 1 = _; rw [q2]; rfl, ?_⟩
      · obtain ⟨t1, t2⟩ := t
        cases vs with
        | nil => cases t1
        | cons v vs => exact ⟨v, vs, rfl, by simpa using t1, t2⟩
      · show ((false, assign (.Name x pos) X.env) :: assignEach ts X.env).findIdx? (·.1) = none
        rw [List.findIdx?_cons, q3]
        rfl
    · cases h3
/-- the tuple is made and taken apart -/
theorem s_parT (k : Gd G d N sc X) (hF : ∀ x, X.fn x = true) {is : List (Nat × Bool)} {ts vs : List Expr} {cs : List E} {kt k2 : Nat} {pt pt2 pos : Pos} (h1 : is.length = ts.length) (h2 : (is.zip ts).all (fun p => nmB N sc p.1.1 p.2) = true) (h3 : ssB sc ts vs = some none) (h4 : is.length ≤ 3) (ha : PA X vs (tL G d (is.map (·.2)) cs)) :
    PS X (.Assign [.Tuple ts kt pt] (.Tuple vs k2 pt2) pos) (t1 G d (.par is cs)) := by
  obtain ⟨q1, q2, q3⟩ := pgs_of k hF h1 h2
  refine ⟨fun pins s σ H D I t => (ps_asg (pe_tup ha) (pg_tup k.calm q1 q2 q3) rfl (ss_eq (by rw [k.sc]; exact h3)) rfl).run pins s σ H D I ?_⟩
  have hl : ∀ p ∈ is, p.1 < σ.length := by
    intro p hp
    obtain ⟨j, hj, e⟩ := List.mem_iff_getElem.mp hp
    have hjt : j < ts.length := by omega
    have := List.all_eq_true.mp h2 (p, ts[j]) (by
      rw [List.mem_iff_getElem]
      exact ⟨j, by rw [List.length_zip]; omega, by rw [List.getElem_zip, e]⟩)
    simp only [nmB] at this
    split at this
    · simp only [Bool.and_eq_true] at this
      have := ix_of k this.1
      rw [I.len]; exact (List.getElem?_eq_some_iff.mp this).1
    · cases this
  refine par_t hl t fun wp W0 H0 W h g' xs H1 f hx q => ⟨by rw [hx, sizeLine_eq]; omega, fun p hp => ?_⟩
  have ex : Ext G wp W H1 W (L2.upd H1 p (.tup xs)) := ext_new f.mo.hr.nd hp
  exact ⟨p, xs, rfl, .inl (.inl upd_same), hx, hx, q W _ _ (f.step ex (f.mo.hr.new hp))⟩
theorem s_par2 (k : Gd G d N sc X) {i j : Nat} {bi bj : Bool} {x y : Str} {a b : Expr} {cs : List E} {px py pt pt2 pos : Pos} {kt k2 : Nat} (h1 : ixB N i x = true) (h2 : ixB N j y = true) (hx : locB sc x = true) (hy : locB sc y = true) (hij : i ≠ j) (h3 : ssB sc [.Name x px, .Name y py] [a, b] = some (some [x, y])) (ha : PA X [a, b] (tL G d [bi, bj] cs)) :
    PS X (.Assign [.Tuple [.Name x px, .Name y py] kt pt] (.Tuple [a, b] k2 pt2) pos) (t1 G d (.par [(i, bi), (j, bj)] cs)) := by
  have hi := ix_of k h1
  have hj := ix_of k h2
  refine ⟨fun pins s σ H D I t => (ps_par k.calm k.nd hi hj hij (by rw [k.sc]; exact loc_eq hx) (by rw [k.sc]; exact loc_eq hy) ha (ss_eq (by rw [k.sc]; exact h3))).run pins s σ H D I ?_⟩
  have hl : ∀ p ∈ [(i, bi), (j, bj)], p.1 < σ.length := by
    intro p hp
    rw [I.len]
    simp only [List.mem_cons, List.not_mem_nil, or_false] at hp
    rcases hp with rfl | rfl
    · exact (List.getElem?_eq_some_iff.mp hi).1
    · exact (List.getElem?_eq_some_iff.mp hj).1
  refine par_t hl t fun wp W0 H0 W h g' xs H1 f hx q => ?_
  match xs, hx with
  | [v, w], _ => exact ⟨v, w, rfl, q W H1 _ f⟩
theorem s_par3 (k : Gd G d N sc X) {i j l : Nat} {bi bj bl : Bool} {x y z : Str} {a b c : Expr} {cs : List E} {px py pz pt pt2 pos : Pos} {kt k2 : Nat} (h1 : ixB N i x = true) (h2 : ixB N j y = true) (h2' : ixB N l z = true) (hx : locB sc x = true) (hy : locB sc y = true) (hz : locB sc z = true) (hij : i ≠ j) (hil : i ≠ l) (hjl : j ≠ l)
    (h3 : ssB sc [.Name x px, .Name y py, .Name z pz] [a, b, c] = some (some [x, y, z])) (ha : PA X [a, b, c] (tL G d [bi, bj, bl] cs)) :
    PS X (.Assign [.Tuple [.Name x px, .Name y py, .Name z pz] kt pt] (.Tuple [a, b, c] k2 pt2) pos) (t1 G d (.par [(i, bi), (j, bj), (l, bl)] cs)) := by
  have hi := ix_of k h1
  have hj := ix_of k h2
  have hl' := ix_of k h2'
  refine ⟨fun pins s σ H D I t => (ps_par3 k.calm k.nd hi hj hl' hij hil hjl (by rw [k.sc]; exact loc_eq hx) (by rw [k.sc]; exact loc_eq hy) (by rw [k.sc]; exact loc_eq hz) ha (ss_eq (by rw [k.sc]; exact h3))).run pins s σ H D I ?_⟩
  have hl : ∀ p ∈ [(i, bi), (j, bj), (l, bl)], p.1 < σ.length := by
    intro p hp
    rw [I.len]
    simp only [List.mem_cons, List.not_mem_nil, or_false] at hp
    rcases hp with rfl | rfl | rfl
    · exact (List.getElem?_eq_some_iff.mp hi).1
    · exact (List.getElem?_eq_some_iff.mp hj).1
    · exact (List.getElem?_eq_some_iff.mp hl').1
  refine par_t hl t fun wp W0 H0 W h g' xs H1 f hx q => ?_
  match xs, hx with
  | [u, v, w], _ => exact ⟨u, v, w, rfl, q W H1 _ f⟩
end
end Hc

set_option maxHeartbeats 4000000
/-! The check: a def's text and its little text. -/
namespace Hc
open PySem PySem.Spec PyProof.Rows L2

structure CkR where
  e : Scope → E → Expr → Bool
  t : Scope → E → Expr → Bool
  n : Scope → E → Expr → Bool
  deriving Inhabited
def noStarE : E → Bool
  | .star _ => false
  | _ => true
/-- a row of values under one operator -/
def ckB (f : Scope → E → Expr → Bool) (an : Bool) (sc : Scope) : E → List Expr → Bool
  | _, [] => false
  | c, [x] => f sc c x
  | c, x :: y :: r => match an, c with
    | true, .and a b => f sc a x && ckB f an sc b (y :: r)
    | false, .or a b => f sc a x && ckB f an sc b (y :: r)
    | _, _ => false
def ckC (T : Tab) (sc : Scope) (v : PV) (e : Expr) : Bool := match e with
  | .Constant k _ _ => cstB v k
  | .Name x _ => glB sc x && plainName x && (match T.cst x, v with
    | some (.int i), .int j => decide (i = j)
    | some (.str i), .str j => i == j
    | _, .fn f => (match T.fn x with
      | some g => g == f
      | none => false)
    | _, _ => false)
  | .UnaryOp .USub (.Constant (.int i) _ _) _ => (match v with
    | .int j => decide (j = -i)
    | _ => false)
  | _ => false
/-- tuple(range(..)), list(range(..)), len(set(..)) -/
def ckBr (T : Tab) (N : List Str) (r : CkR) (sc : Scope) (b : Nat) (c : E) (e : Expr) : Bool := match c with
  | .rng ca cb => (match e with
    | .Call (.Name x _) [a] [] _ => ckRg T r.e sc ca cb a && (match b with
      | 8 => freeB T sc x "tuple"
      | 9 => freeB T sc x "list"
      | _ => false)
    | _ => false)
  | c => (match e with
    | .Call (.Name x _) [.Call (.Name y _) [a] [] _] [] _ => b == 14 && noStarE c && freeB T sc x "len" && freeB T sc y "set" && noStar a && ckO N r.e sc c a
    | _ => false)
def ckBm (N : List Str) (r : CkR) (sc : Scope) (b : Nat) (o : E) (es : List E) (e : Expr) : Bool := match e with
  | .Call (.Attribute y m apos) l [] cpos => decide (m = "get") && noCall0 y && (apos.endLine == cpos.line) && ckO N r.e sc o y && (match b, es, l with
    | 0, [ck], [a] => noStar a && noStarE ck && r.e sc ck a
    | 1, [ck, cx], [a, a2] => noStar a && noStar a2 && noStarE ck && noStarE cx && r.e sc ck a && r.e sc cx a2
    | _, _, _ => false)
  | _ => false
def ckBi (T : Tab) (N : List Str) (r : CkR) (sc : Scope) (b : Nat) (c : E) (e : Expr) : Bool := noStarE c && (match e with
  | .Call (.Name x _) [a] [] _ => noStar a && ckO N r.e sc c a && (match b with
    | 0 => freeB T sc x "len"
    | 7 => freeB T sc x "int"
    | 8 => freeB T sc x "tuple"
    | 9 => freeB T sc x "list"
    | 10 => freeB T sc x "all"
    | 11 => freeB T sc x "any"
    | 12 => freeB T sc x "min"
    | _ => false)
  | .Call (.Name x _) [a, .Name t _] [] _ => noStar a && ckO N r.e sc c a && freeB T sc x "isinstance" && (match b with
    | 0 => false
    | b + 1 => Nat.blt b 5 && freeB T sc t (tyStr b))
  | .Call (.Name x _) [a, .Tuple [.Name t _, .Name u _] _ _] [] _ => noStar a && ckO N r.e sc c a && freeB T sc x "isinstance" && b == 6 && freeB T sc t (tyStr 3) && freeB T sc u (tyStr 4)
  | _ => false)
def ckLc (T : Tab) (N : List Str) (r : CkR) (sc : Scope) (c : E) (e : Expr) : Bool := match c with
  | .cmp1 ce t ci cfs vs => (match e with
    | .ListComp elt [⟨tg, iter, ifs, a⟩] scope _ => decide (a = 0) && ckI true T N r.e sc tg ci iter && blkC N sc scope (ownOf N vs) && (tslots t).all (fun i => decide (i ∈ vs)) && ckG (fun x => scope.names.lookup x == some .cell) N (relS scope sc) t tg && ckF r.t (relS scope sc) cfs ifs && r.e (relS scope sc) ce elt
    | _ => false)
  | .cmp2 ce t ci cfs t2 ci1 cfs1 vs vs1 => (match e with
    | .ListComp elt [⟨tg, iter, ifs, a⟩, ⟨tg1, iter1, ifs1, a1⟩] scope _ => decide (a = 0) && decide (a1 = 0) && ckI true T N r.e sc tg ci iter && noSet iter1 && blkC N sc scope (ownOf N vs) && (tslots t).all (fun i => decide (i ∈ vs)) && (tslots t2).all (fun i => decide (i ∈ vs1)) && vs1.all (fun i => decide (i ∈ vs)) &&
      ckG (fun x => scope.names.lookup x == some .cell) N (relS scope sc) t tg && ckG (fun x => scope.names.lookup x == some .cell) N (relS scope sc) t2 tg1 && ckI false T N r.e (relS scope sc) tg1 ci1 iter1 && ckF r.t (relS scope sc) cfs ifs && ckF r.t (relS scope sc) cfs1 ifs1 && r.e (relS scope sc) ce elt
    | _ => false)
  | _ => false
def ckE (T : Tab) (N : List Str) (r : CkR) (sc : Scope) (c : E) (e : Expr) : Bool := match c with
  | .stk => true
  | .srt _ _ => true
  | .var i => (match e with
    | .Name x _ => varB N sc i x
    | _ => false)
  | .cst v => ckC T sc v e
  | .tup es => (match e with
    | .Tuple l _ _ => ckA N r.e sc es l
    | _ => false)
  | .lst es => (match e with
    | .List l _ => ckA N r.e sc es l
    | _ => false)
  | .hlst es => (match e with
    | .List l _ => ckA N r.e sc es l
    | _ => false)
  | .dct [] [] => (match e with
    | .Dict [] [] _ => true
    | _ => false)
  | .hdct [] [] => (match e with
    | .Dict [] [] _ => true
    | _ => false)
  | .and a b => (match e with
    | .BoolOp .And vs _ => ckB r.e true sc (.and a b) vs
    | _ => false)
  | .or a b => (match e with
    | .BoolOp .Or vs _ => ckB r.e false sc (.or a b) vs
    | _ => false)
  | .not a => (match e with
    | .UnaryOp .Not x _ => r.e sc a x
    | _ => false)
  | .ite a b c => (match e with
    | .IfExp x y z _ => r.t sc a x && r.e sc b y && r.e sc c z
    | _ => false)
  | .bin op a b => (match e with
    | .BinOp x o y _ => decide (opOf o = some op) && ckO N r.e sc a x && ckO N r.e sc b y
    | _ => false)
  | .cmp op a b => (match e with
    | .Compare x [o] [y] _ => decide (cmpOf o = op) && noSet y && ckO N r.e sc a x && ckO N r.e sc b y
    | _ => false)
  | .chn o1 o2 a b c => (match e with
    | .Compare x [p1, p2] [y, z] _ => decide (cmpOf p1 = o1) && decide (cmpOf p2 = o2) && noSet z && ckO N r.e sc a x && ckO N r.e sc b y && ckO N r.e sc c z
    | _ => false)
  | .sub a b => (match e with
    | .Subscript x y _ => noSl y && ckO N r.e sc a x && r.e sc b y
    | _ => false)
  | .slc a lo hi => (match e with
    | .Subscript x (.Slice l h none _) _ => ckO N r.e sc a x && ckP r.e sc lo l && ckP r.e sc hi h
    | _ => false)
  | .cmp1 .. => ckLc T N r sc c e
  | .cmp2 .. => ckLc T N r sc c e
  | .bm b o es => ckBm N r sc b o es e
  | .call f es => (match e with
    | .Call (.Name x _) l [] _ => decide (T.fn x = some f) && glB sc x && plainName x && l.all noStar && ckA N r.e sc es l
    | _ => false)
  | .meth m o es => (match e with
    | .Call (.Attribute y x apos) l [] pos => decide (T.fld x = some m) && noCall0 y && l.all noStar && Nat.blt l.length 30 && (apos.endLine == pos.line) && decide (es.length = l.length) && r.e sc o y && ckA N r.e sc es l
    | _ => false)
  | .new cl es => (match e with
    | .Call (.Name x _) l [] _ => decide (T.cls x = some cl) && glB sc x && plainName x && l.all noStar && decide (es.length = l.length) && ckA N r.e sc es l
    | _ => false)
  | .bi b [a] => ckBi T N r sc b a e || ckBr T N r sc b a e
  | .fld f o => (match e with
    | .Attribute y x _ => decide (T.fld x = some f) && T.nofld f && noCall0 y && r.e sc o y
    | _ => false)
  | _ => false
def plainT : Expr → Bool
  | .UnaryOp .Not _ _ => false
  | .BoolOp .. => false
  | .IfExp .. => false
  | .Compare .. => false
  | _ => true
def ckT (T : Tab) (N : List Str) (r : CkR) (sc : Scope) (c : E) (e : Expr) : Bool := match e with
  | .UnaryOp .Not x _ => (match c with
    | .not a => r.t sc a x
    | .stk => true
    | _ => false)
  | .BoolOp .And vs _ => ckB r.t true sc c vs
  | .BoolOp .Or vs _ => ckB r.t false sc c vs
  | .Compare x [o] [y] _ => (match c with
    | .cmp op a b => decide (cmpOf o = op) && noSet y && ckO N r.e sc a x && ckO N r.e sc b y
    | .stk => true
    | _ => false)
  | .Compare x [p1, p2] [y, z] _ => (match c with
    | .chn o1 o2 a b c => decide (cmpOf p1 = o1) && decide (cmpOf p2 = o2) && noSet z && ckO N r.e sc a x && ckO N r.e sc b y && ckO N r.e sc c z
    | .stk => true
    | _ => false)
  | e => plainT e && r.e sc c e
def ckN (T : Tab) (N : List Str) (r : CkR) (sc : Scope) (c : E) (e : Expr) : Bool := match c with
  | .stk => true
  | .lst es => (match e with
    | .List l _ => ckA N r.e sc es l
    | _ => false)
  | .dct [] [] => (match e with
    | .Dict [] [] _ => true
    | _ => false)
  | .cmp1 .. => ckLc T N r sc c e
  | .cmp2 .. => ckLc T N r sc c e
  | _ => false
def ckR (T : Tab) (N : List Str) : Nat → CkR
  | 0 => ⟨fun _ _ _ => false, fun _ _ _ => false, fun _ _ _ => false⟩
  | n + 1 => let r := ckR T N n; ⟨ckE T N r, ckT T N r, ckN T N r⟩
section
variable {G : GE} {T : Tab} {d : Nat} {N : List Str} {sc : Scope} {X : Cx}
structure SndR (G : GE) (d : Nat) (N : List Str) (r : CkR) : Prop where
  e : Snd G d N r.e
  t : SndT G d N r.t
  n : SndN G d N r.n
theorem r_no {e : Expr} {c : E} (h : ∀ n wp g h, evE G.pg (ev G.pg n) wp d c g h = .no) : PE X e (tE G d c) := by
  refine ⟨fun pins s σ H Q I t => ?_⟩
  obtain ⟨W, g, h0, wp, n, m, q⟩ := t.un
  rw [h] at q
  exact q.elim
theorem t_no {e : Expr} {c : E} (h : ∀ n wp g h, evE G.pg (ev G.pg n) wp d c g h = .no) : PT X e (tT G d c) := by
  refine ⟨fun pins s σ H Q I ⟨W, g, h0, wp, n, m, q⟩ => ?_⟩
  obtain ⟨n, q⟩ := un_e q
  rw [h] at q
  exact q.elim
theorem n_no {e : Expr} {c : E} (h : ∀ n wp g h, evE G.pg (ev G.pg n) wp d c g h = .no) : PE X e (tN G d c) := by
  refine ⟨fun pins s σ H Q I ⟨W, g, h0, wp, n, m, q⟩ => ?_⟩
  obtain ⟨n, q⟩ := un_e q
  rw [h] at q
  exact q.elim
theorem bas {a b : Bool} (h : (a && b) = true) : a = true ∧ b = true := by simpa using h
theorem ckB_e {f : Scope → E → Expr → Bool} (s : Snd G d N f) (k : Gd G d N sc X) {pos : Pos} : ∀ {an : Bool} {c : E} {vs : List Expr}, ckB f an sc c vs = true → PE X (.BoolOp (if an then .And else .Or) vs pos) (tE G d c)
  | an, c, [], h => by simp [ckB] at h
  | an, c, [x], h => pe_one (s sc c x (by simpa [ckB] using h) X k)
  | true, c, x :: y :: r, h => by
    cases c <;> first | (simp [ckB] at h; done) | skip
    rename_i a b
    obtain ⟨h1, h2⟩ := bas (show (f sc a x && ckB f true sc b (y :: r)) = true from h)
    exact r_and (s sc a x h1 X k) (ckB_e s k (an := true) h2)
  | false, c, x :: y :: r, h => by
    cases c <;> first | (simp [ckB] at h; done) | skip
    rename_i a b
    obtain ⟨h1, h2⟩ := bas (show (f sc a x && ckB f false sc b (y :: r)) = true from h)
    exact r_or (s sc a x h1 X k) (ckB_e s k (an := false) h2)
theorem ckB_t {f : Scope → E → Expr → Bool} (s : SndT G d N f) (k : Gd G d N sc X) {pos : Pos} : ∀ {an : Bool} {c : E} {vs : List Expr}, ckB f an sc c vs = true → PW X (.BoolOp (if an then .And else .Or) vs pos) (tT G d c)
  | an, c, [], h => by simp [ckB] at h
  | true, c, [x], h => pw_and1 (s sc c x (by simpa [ckB] using h) X k)
  | false, c, [x], h => pw_or1 (s sc c x (by simpa [ckB] using h) X k)
  | true, c, x :: y :: r, h => by
    cases c <;> first | (simp [ckB] at h; done) | skip
    rename_i a b
    obtain ⟨h1, h2⟩ := bas (show (f sc a x && ckB f true sc b (y :: r)) = true from h)
    exact r_andt (s sc a x h1 X k) (ckB_t s k (an := true) h2)
  | false, c, x :: y :: r, h => by
    cases c <;> first | (simp [ckB] at h; done) | skip
    rename_i a b
    obtain ⟨h1, h2⟩ := bas (show (f sc a x && ckB f false sc b (y :: r)) = true from h)
    exact r_ort (s sc a x h1 X k) (ckB_t s k (an := false) h2)
theorem ckC_ok (F : GF G T) (k : Gd G d N sc X) {v : PV} {e : Expr} (h : ckC T sc v e = true) : PE X e (tE G d (.cst v)) := by
  unfold ckC at h
  split at h
  · exact r_cst h
  · obtain ⟨h1, h2⟩ := bas h
    obtain ⟨h3, h4⟩ := bas h1
    split at h2
    · rename_i i j e1
      cases of_decide_eq_true h2
      exact r_gcst F k e1 h3 h4
    · rename_i i j e1
      have := eq_of_beq h2
      subst this
      exact r_gcst F k e1 h3 h4
    · split at h2
      · rename_i g e1
        cases eq_of_beq h2
        exact r_gfn F k e1 h3 h4
      · cases h2
    · cases h2
  · split at h
    · cases of_decide_eq_true h; exact r_neg
    · cases h
  · cases h
theorem starE {c : E} (h : noStarE c = true) : ∀ e, c ≠ .star e := fun e z => by subst z; cases h
theorem boot_ {x : Str} {v : Value} (h : bootBuiltins x = some v := by decide +kernel) : bootBuiltins x = some v := h
theorem ckBi_ok {r : CkR} (F : GF G T) (s : SndR G d N r) (k : Gd G d N sc X) {b : Nat} {c : E} {e : Expr} (h : ckBi T N r sc b c e = true) : PE X e (tE G d (.bi b [c])) := by
  unfold ckBi at h
  obtain ⟨h0, h⟩ := bas h
  have hs := starE h0
  split at h
  · obtain ⟨h1, h2⟩ := bas h
    obtain ⟨h3, h4⟩ := bas h1
    have o := ckO_ok s.e h4 k
    split at h2
    · exact r_b1 F k (id := "len") (c_len k) h2 (by decide +kernel) (by decide +kernel) hs h3 o
    · exact r_b1T F k (id := "int") c_int h2 (by decide +kernel) (by decide +kernel) hs h3 o
    · exact r_b1T F k (id := "tuple") (c_tup k) h2 (by decide +kernel) (by decide +kernel) hs h3 o
    · exact r_b1T F k (id := "list") (c_lst k) h2 (by decide +kernel) (by decide +kernel) hs h3 o
    · exact r_b1 F k (id := "all") (c_all k) h2 (by decide +kernel) (by decide +kernel) hs h3 o
    · exact r_b1 F k (id := "any") (c_any k) h2 (by decide +kernel) (by decide +kernel) hs h3 o
    · exact r_b1 F k (id := "min") (c_min k) h2 (by decide +kernel) (by decide +kernel) hs h3 o
    · cases h2
  · obtain ⟨h1, h2⟩ := bas h
    obtain ⟨h3, h4⟩ := bas h1
    obtain ⟨h5, h6⟩ := bas h3
    split at h2
    · cases h2
    · obtain ⟨h7, h8⟩ := bas h2
      exact r_isi F k (Nat.blt_eq.mp h7) h4 h8 hs h5 (ckO_ok s.e h6 k)
  · obtain ⟨h1, h2⟩ := bas h
    obtain ⟨h3, h4⟩ := bas h1
    obtain ⟨h5, h6⟩ := bas h3
    obtain ⟨h7, h8⟩ := bas h5
    obtain ⟨h9, h10⟩ := bas h7
    have := eq_of_beq h6
    subst this
    exact r_isi2 F k h8 h4 h2 hs h9 (ckO_ok s.e h10 k)
  · cases h
theorem ckLc_ok {r : CkR} (F : GF G T) (s : SndR G d N r) (k : Gd G d N sc X) {c : E} {e : Expr} (h : ckLc T N r sc c e = true) : PE X e (tN G d c) ∧ ∃ elt gs scope pos, e = .ListComp elt gs scope pos ∧
    (∀ {i : Nat} {y : Str} {py spos : Pos}, N[i]? = some y → sc.names.lookup y = some .local → swapsWith e (some (.Name y py)) spos.line X.env = pure true → PS X (.Assign [.Name y py] e spos) (tAsg (tN G d c) (gName i))) := by
  unfold ckLc at h
  split at h
  · split at h
    · obtain ⟨h, h7⟩ := bas h
      obtain ⟨h, h6⟩ := bas h
      obtain ⟨h, h5⟩ := bas h
      obtain ⟨h, h4⟩ := bas h
      obtain ⟨h, h3⟩ := bas h
      obtain ⟨h1, h2⟩ := bas h
      cases of_decide_eq_true h1
      obtain ⟨i1, i2⟩ := ckI_ok F s.e k h2
      obtain ⟨q1, q2⟩ := r_cmp1 F k (pos := by assumption) i1 i2 h3 h4 h5 (fun X' k' => ckF_ok s.t h6 k') (fun X' k' => s.e _ _ _ h7 X' k')
      exact ⟨q1, _, _, _, _, rfl, fun h1 h2 h3 => q2 h1 h2 h3⟩
    · cases h
  · split at h
    · obtain ⟨h, h14⟩ := bas h
      obtain ⟨h, h13⟩ := bas h
      obtain ⟨h, h12⟩ := bas h
      obtain ⟨h, h11⟩ := bas h
      obtain ⟨h, h10⟩ := bas h
      obtain ⟨h, h9⟩ := bas h
      obtain ⟨h, h8⟩ := bas h
      obtain ⟨h, h7⟩ := bas h
      obtain ⟨h, h6⟩ := bas h
      obtain ⟨h, h5⟩ := bas h
      obtain ⟨h, h4⟩ := bas h
      obtain ⟨h, h3⟩ := bas h
      obtain ⟨h1, h2⟩ := bas h
      cases of_decide_eq_true h1
      cases of_decide_eq_true h2
      obtain ⟨i1, i2⟩ := ckI_ok F s.e k h3
      obtain ⟨q1, q2⟩ := r_cmp2 F k (pos := by assumption) i1 i2 (fun env x => noSet_f h4 env x) h5 h6 h7 h8 h9 h10 (fun X' k' => (ckI_ok F s.e k' h11).1) (fun X' k' => ckF_ok s.t h12 k') (fun X' k' => ckF_ok s.t h13 k') (fun X' k' => s.e _ _ _ h14 X' k')
      exact ⟨q1, _, _, _, _, rfl, fun h1 h2 h3 => q2 h1 h2 h3⟩
    · cases h
  · cases h
theorem ckBr_ok {r : CkR} (F : GF G T) (s : SndR G d N r) (k : Gd G d N sc X) {b : Nat} {c : E} {e : Expr} (h : ckBr T N r sc b c e = true) : PE X e (tE G d (.bi b [c])) := by
  unfold ckBr at h
  split at h
  · split at h
    · obtain ⟨h1, h2⟩ := bas h
      obtain ⟨q1, q2⟩ := ckRg_ok F s.e k h1
      split at h2
      · exact r_tupRg F k h2 q1 q2
      · exact r_lstRg F k h2 q1 q2
      · cases h2
    · cases h
  · split at h
    · obtain ⟨h, h6⟩ := bas h
      obtain ⟨h, h5⟩ := bas h
      obtain ⟨h, h4⟩ := bas h
      obtain ⟨h, h3⟩ := bas h
      obtain ⟨h1, h2⟩ := bas h
      have := eq_of_beq h1
      subst this
      exact r_lset F k h3 h4 (starE h2) h5 (ckO_ok s.e h6 k)
    · cases h
theorem ckBm_ok {r : CkR} (F : GF G T) (s : SndR G d N r) (k : Gd G d N sc X) {b : Nat} {o : E} {es : List E} {e : Expr} (h : ckBm N r sc b o es e = true) : PE X e (tE G d (.bm b o es)) := by
  unfold ckBm at h
  split at h
  · obtain ⟨h, h5⟩ := bas h
    obtain ⟨h, h4⟩ := bas h
    obtain ⟨h, h3⟩ := bas h
    obtain ⟨h1, h2⟩ := bas h
    cases of_decide_eq_true h1
    have oo := ckO_ok s.e h4 k
    split at h5
    · obtain ⟨h, h8⟩ := bas h5
      obtain ⟨h6, h7⟩ := bas h
      exact r_get1 F k h2 h6 h3 oo (s.e _ _ _ h8 X k) (starE h7)
    · obtain ⟨h, h11⟩ := bas h5
      obtain ⟨h, h10⟩ := bas h
      obtain ⟨h, h9⟩ := bas h
      obtain ⟨h, h8⟩ := bas h
      obtain ⟨h6, h7⟩ := bas h
      exact r_get2 F k h2 h6 h7 h3 oo (s.e _ _ _ h10 X k) (s.e _ _ _ h11 X k) (starE h8) (starE h9)
    · cases h5
  · cases h
theorem ckE_ok {r : CkR} (F : GF G T) (fs : ∀ d', d' ≤ d → FS G d') (s : SndR G d N r) : Snd G d N (ckE T N r) := by
  intro sc c e h X k
  cases c <;> try (exact (Bool.false_ne_true h).elim)
  case stk => exact r_no fun _ _ _ _ => rfl
  case srt => exact r_no fun _ _ _ _ => rfl
  case var i =>
    simp only [ckE] at h
    split at h
    · exact r_var k h
    · cases h
  case cst v => exact ckC_ok F k h
  case tup es =>
    simp only [ckE] at h
    split at h
    · exact r_tup (ckA_ok s.e k h)
    · cases h
  case lst es =>
    simp only [ckE] at h
    split at h
    · exact r_lst (ckA_ok s.e k h)
    · cases h
  case hlst es =>
    simp only [ckE] at h
    split at h
    · exact r_hlst (ckA_ok s.e k h)
    · cases h
  case dct a b =>
    cases a with
    | cons _ _ => exact (Bool.false_ne_true h).elim
    | nil => cases b with
      | cons _ _ => exact (Bool.false_ne_true h).elim
      | nil =>
        simp only [ckE] at h
        split at h
        · exact r_dct0
        · cases h
  case hdct a b =>
    cases a with
    | cons _ _ => exact (Bool.false_ne_true h).elim
    | nil => cases b with
      | cons _ _ => exact (Bool.false_ne_true h).elim
      | nil =>
        simp only [ckE] at h
        split at h
        · exact r_hdct0
        · cases h
  case and a b =>
    simp only [ckE] at h
    split at h
    · exact ckB_e s.e k (an := true) h
    · cases h
  case or a b =>
    simp only [ckE] at h
    split at h
    · exact ckB_e s.e k (an := false) h
    · cases h
  case not a =>
    simp only [ckE] at h
    split at h
    · exact r_not (s.e _ _ _ h X k)
    · cases h
  case ite a b c =>
    simp only [ckE] at h
    split at h
    · obtain ⟨h1, h2⟩ := bas h
      obtain ⟨h3, h4⟩ := bas h1
      exact r_ite (s.t _ _ _ h3 X k) (s.e _ _ _ h4 X k) (s.e _ _ _ h2 X k)
    · cases h
  case bin op a b =>
    simp only [ckE] at h
    split at h
    · obtain ⟨h1, h2⟩ := bas h
      obtain ⟨h3, h4⟩ := bas h1
      exact r_bin k (of_decide_eq_true h3) (ckO_ok s.e h4 k) (ckO_ok s.e h2 k)
    · cases h
  case cmp op a b =>
    simp only [ckE] at h
    split at h
    · obtain ⟨h1, h2⟩ := bas h
      obtain ⟨h3, h4⟩ := bas h1
      obtain ⟨h5, h6⟩ := bas h3
      cases of_decide_eq_true h5
      exact r_cmpv k h6 (ckO_ok s.e h4 k) (ckO_ok s.e h2 k)
    · cases h
  case chn o1 o2 a b c =>
    simp only [ckE] at h
    split at h
    · obtain ⟨h, h6⟩ := bas h
      obtain ⟨h, h5⟩ := bas h
      obtain ⟨h, h4⟩ := bas h
      obtain ⟨h, h3⟩ := bas h
      obtain ⟨h1, h2⟩ := bas h
      cases of_decide_eq_true h1
      cases of_decide_eq_true h2
      exact r_chnv k h3 (ckO_ok s.e h4 k) (ckO_ok s.e h5 k) (ckO_ok s.e h6 k)
    · cases h
  case sub a b =>
    simp only [ckE] at h
    split at h
    · obtain ⟨h1, h2⟩ := bas h
      obtain ⟨h3, h4⟩ := bas h1
      exact r_sub k h3 (ckO_ok s.e h4 k) (s.e _ _ _ h2 X k)
    · cases h
  case slc a lo hi =>
    simp only [ckE] at h
    split at h
    · obtain ⟨h1, h2⟩ := bas h
      obtain ⟨h3, h4⟩ := bas h1
      exact r_slc k (ckO_ok s.e h3 k) (ckP_ok s.e h4 k) (ckP_ok s.e h2 k)
    · cases h
  case cmp1 elt t it ifs vs => exact n_e (ckLc_ok (c := .cmp1 elt t it ifs vs) F s k h).1
  case call f es =>
    simp only [ckE] at h
    split at h
    · rename_i x p l pos
      obtain ⟨h, h5⟩ := bas h
      obtain ⟨h, h4⟩ := bas h
      obtain ⟨h, h3⟩ := bas h
      obtain ⟨h1, h2⟩ := bas h
      cases l with
      | nil => cases es with
        | nil => exact r_call0 F k (fs d (Nat.le_refl _)) (of_decide_eq_true h1) h2 h3
        | cons _ _ => simp [ckA] at h5
      | cons e es' => exact r_call F k (fs d (Nat.le_refl _)) (of_decide_eq_true h1) h2 h3 h4 (ckA_ok s.e k h5)
    · cases h
  case meth m o es =>
    simp only [ckE] at h
    split at h
    · obtain ⟨h, h8⟩ := bas h
      obtain ⟨h, h7⟩ := bas h
      obtain ⟨h, h6⟩ := bas h
      obtain ⟨h, h5⟩ := bas h
      obtain ⟨h, h4⟩ := bas h
      obtain ⟨h, h3⟩ := bas h
      obtain ⟨h1, h2⟩ := bas h
      exact r_meth F k (fs d (Nat.le_refl _)) (of_decide_eq_true h1) h2 h3 (Nat.blt_eq.mp h4) h5 (of_decide_eq_true h6) (s.e _ _ _ h7 X k) (ckA_ok s.e k h8)
    · cases h
  case new cl es =>
    simp only [ckE] at h
    split at h
    · obtain ⟨h, h6⟩ := bas h
      obtain ⟨h, h5⟩ := bas h
      obtain ⟨h, h4⟩ := bas h
      obtain ⟨h, h3⟩ := bas h
      obtain ⟨h1, h2⟩ := bas h
      cases hc : G.pg.ini cl with
      | none => exact r_no fun n wp g h0 => by show R.ofO (G.pg.ini cl) _ = _; rw [hc]; rfl
      | some f =>
        cases d with
        | zero =>
          refine ⟨fun pins s' σ H Q I t => ?_⟩
          obtain ⟨W, g, h0, wp, n, m, q⟩ := t.un
          exfalso
          obtain ⟨f', e1, q⟩ := (show okR G wp W H (R.ofO (G.pg.ini cl) fun f => (evs' G n wp 0 g es h0).bind fun vs h1 => (.no : R PV)) (VP G Q) from q).ofO
          revert q
          cases evs' G n wp 0 g es h0 <;> exact fun q => q
        | succ d1 => exact r_new F k (fs d1 (Nat.le_succ _)) (of_decide_eq_true h1) hc h2 h3 h4 (of_decide_eq_true h5) (ckA_ok s.e k h6)
    · cases h
  case bi b es =>
    match es, h with
    | [a], h =>
      rcases Bool.or_eq_true _ _ |>.mp (show (ckBi T N r sc b a e || ckBr T N r sc b a e) = true from h) with h | h
      · exact ckBi_ok F s k h
      · exact ckBr_ok F s k h
  case bm b o es => exact ckBm_ok F s k h
  case cmp2 elt t it ifs t2 it2 ifs2 vs vs2 => exact n_e (ckLc_ok (c := .cmp2 elt t it ifs t2 it2 ifs2 vs vs2) F s k h).1
  case fld f o =>
    simp only [ckE] at h
    split at h
    · obtain ⟨h, h4⟩ := bas h
      obtain ⟨h, h3⟩ := bas h
      obtain ⟨h1, h2⟩ := bas h
      exact r_fld F k (of_decide_eq_true h1) h2 h3 (s.e _ _ _ h4 X k)
    · cases h
theorem ckT_ok {r : CkR} (s : SndR G d N r) : SndT G d N (ckT T N r) := by
  intro sc c e h X k
  unfold ckT at h
  split at h
  · split at h
    · exact r_nott (s.t _ _ _ h X k)
    · exact t_no fun _ _ _ _ => rfl
    · cases h
  · exact (ckB_t s.t k (an := true) h).pt
  · exact (ckB_t s.t k (an := false) h).pt
  · split at h
    · obtain ⟨h1, h2⟩ := bas h
      obtain ⟨h3, h4⟩ := bas h1
      obtain ⟨h5, h6⟩ := bas h3
      cases of_decide_eq_true h5
      exact r_cmpt k h6 (ckO_ok s.e h4 k) (ckO_ok s.e h2 k)
    · exact t_no fun _ _ _ _ => rfl
    · cases h
  · split at h
    · obtain ⟨h, h6⟩ := bas h
      obtain ⟨h, h5⟩ := bas h
      obtain ⟨h, h4⟩ := bas h
      obtain ⟨h, h3⟩ := bas h
      obtain ⟨h1, h2⟩ := bas h
      cases of_decide_eq_true h1
      cases of_decide_eq_true h2
      exact r_chnt k h3 (ckO_ok s.e h4 k) (ckO_ok s.e h5 k) (ckO_ok s.e h6 k)
    · exact t_no fun _ _ _ _ => rfl
    · cases h
  · obtain ⟨h1, h2⟩ := bas h
    refine e_t (s.e _ _ _ h2 X k) fun whole => ?_
    cases e with
    | UnaryOp op x p => cases op <;> first | rfl | cases h1
    | BoolOp _ _ _ => cases h1
    | IfExp _ _ _ _ => cases h1
    | Compare _ _ _ _ => cases h1
    | _ => rfl
theorem ckN_ok {r : CkR} (F : GF G T) (s : SndR G d N r) : SndN G d N (ckN T N r) := by
  intro sc c e h X k
  cases c <;> try (exact (Bool.false_ne_true h).elim)
  case stk => exact n_no fun _ _ _ _ => rfl
  case lst es =>
    simp only [ckN] at h
    split at h
    · exact n_lst (ckA_ok s.e k h)
    · cases h
  case dct a b =>
    cases a with
    | cons _ _ => exact (Bool.false_ne_true h).elim
    | nil => cases b with
      | cons _ _ => exact (Bool.false_ne_true h).elim
      | nil =>
        simp only [ckN] at h
        split at h
        · exact n_dct0
        · cases h
  case cmp1 elt t it ifs vs => exact (ckLc_ok (c := .cmp1 elt t it ifs vs) F s k h).1
  case cmp2 elt t it ifs t2 it2 ifs2 vs vs2 => exact (ckLc_ok (c := .cmp2 elt t it ifs t2 it2 ifs2 vs vs2) F s k h).1
theorem ckR_ok (F : GF G T) (fs : ∀ d', d' ≤ d → FS G d') : ∀ n, SndR G d N (ckR T N n)
  | 0 => ⟨fun _ _ _ h => (nomatch h), fun _ _ _ h => (nomatch h), fun _ _ _ h => (nomatch h)⟩
  | n + 1 => ⟨ckE_ok F fs (ckR_ok F fs n), ckT_ok (T := T) (ckR_ok F fs n), ckN_ok F (ckR_ok F fs n)⟩
end
end Hc

set_option maxHeartbeats 4000000
/-! The check of statements; defs. -/
namespace Hc
open PySem PySem.Spec PyProof.Rows L2
section
variable {G : GE} {T : Tab} {d : Nat} {N : List Str} {sc : Scope} {X : Cx}
theorem s_popt (k : Gd G d N sc X) (hF : ∀ x, X.fn x = true) {i : Nat} {x : Str} {t : Hc.T} {tg : Expr} {p apos cpos pos : Pos} (h1 : varB N sc i x = true) (h2 : (apos.endLine == cpos.line) = true) (h3 : noStar tg = true) (hg : ckG (fun _ => true) N sc t tg = true) :
    PS X (.Assign [tg] (.Call (.Attribute (.Name x p) "pop" apos) [] [] cpos) pos) (t1 G d (.popt t i)) :=
  (ps_asg (pe_bm0 PySem.F.plainAttrs_list PySem.F.slot_list_pop PySem.F.type_list_pop mt_pop (pe_v k h1) rfl h2) (ckG_ok k (fun x _ => hF x) hg) (show swapsWithSole [tg] (.Call (.Attribute (.Name x p) "pop" apos) [] [] cpos) pos.line X.env = pure false from sw_no (t := some tg) (l := pos.line) (env := X.env) (e := .Call (.Attribute (.Name x p) "pop" apos) [] [] cpos) rfl) (ss_no rfl) (one_a h3)).imp fun D σ H ⟨W0, H0, W, g, h, wp, n, f, q⟩ => by
    have q : okS G wp W0 H0 (match nth g i with
      | some (.ol l) => match l.reverse with
        | x :: r => R.ofO (bind1 t x (Hc.upd g i (.ol r.reverse))) fun g1 => .ok (.nx g1) h
        | [] => .no
      | _ => .no) D := q
    split at q
    · rename_i l e1
      rw [nth_eq] at e1
      obtain ⟨a, xs, z1, z2, z3, z4, z5⟩ := f.mo.sr.ol i l e1
      split at q
      · rename_i v r e2
        have hl : l = r.reverse ++ [v] := by rw [← List.reverse_reverse l, e2, List.reverse_cons]
        subst hl
        have hlen := z5.length
        obtain ⟨y, e3, e4⟩ := z5.get (i := r.reverse.length) (p := v) (by simp)
        have hx : xs.length = r.reverse.length + 1 := by rw [← hlen]; simp
        have z6 : RVs G W H r.reverse xs.dropLast := by
          have := z5.take r.reverse.length
          rw [List.take_left] at this
          rw [List.dropLast_eq_take, hx]
          exact this
        refine ⟨_, z1, .inl ⟨rfl, xs, .inl (.inl z4)⟩, a, xs, y, rfl, rfl, z4, by rw [hx]; simpa using e3, ?_⟩
        obtain ⟨g1, e5, q2⟩ := q.ofO
        have f1 : Fm G wp W0 H0 W (Hc.upd g i (.ol r.reverse)) h σ (L2.upd H a (.lst xs.dropLast)) := f.put (.inl ⟨_, e1⟩) z1 z4 trivial (fun l' e => by cases e; exact ⟨_, rfl, z6⟩) (fun _ e => nomatch e) (fun _ e => nomatch e)
        have st : Stay G W H W (L2.upd H a (.lst xs.dropLast)) := put_stay z4 trivial z2
        exact ⟨W, _, v, g1, f1.mo.sr, e4.stay st, e5, fun σ' s' o => q2 W _ σ' ⟨f1.ex, ⟨f1.mo.hr, s'⟩, yg_bind f1.yg e5 o⟩⟩
      · exact q.elim
    · exact q.elim
def swL (sc : Scope) (x : Str) (p : Pos) : Expr → Bool
  | .ListComp _ _ scope pos => swOk sc x p pos scope
  | _ => false
/-- no exchange of stores -/
def noSw (sc : Scope) (x : Str) (p : Pos) : Expr → Bool
  | .ListComp _ _ scope pos => fnKind sc && !(locB sc x && (p.line == pos.line) && !(scope.names.any fun (n, k) => n == x && (k == .local || k == .cell)))
  | e => noComp e
theorem noSw_t (k : Gd G d N sc X) {x : Str} {p : Pos} {l : Nat} {e : Expr} (h : noSw sc x p e = true) : swapsWith e (some (.Name x p)) l X.env = pure false := by
  cases e <;> try exact sw_no h
  rename_i elt gs scope pos
  obtain ⟨h1, h2⟩ := bas (show (fnKind sc && !(locB sc x && (p.line == pos.line) && !(scope.names.any fun (n, k) => n == x && (k == .local || k == .cell)))) = true from h)
  have e : swapsWith (.ListComp elt gs scope pos) (some (.Name x p)) l X.env = pure (X.env.blockKind == .function && X.env.kindOf x == some .local && p.line == pos.line && !(scope.names.any fun (n, k) => n == x && (k == .local || k == .cell))) := rfl
  rw [e]
  congr 1
  have e2 : (X.env.kindOf x == some .local) = locB sc x := by
    show (X.env.scope.names.lookup x == some .local) = _
    rw [k.sc]
    unfold locB
    cases q : sc.names.lookup x with
    | none => rfl
    | some kk => cases kk <;> rfl
  rw [e2]
  have h2 : (locB sc x && (p.line == pos.line) && !(scope.names.any fun (n, k) => n == x && (k == .local || k == .cell))) = false := by rw [Bool.not_eq_true'] at h2; exact h2
  rw [Bool.and_assoc, Bool.and_assoc, ← Bool.and_assoc (locB sc x), h2, Bool.and_false]
theorem tE.mono {c : E} {σ H} {Q Q' : VK} (t : tE G d c σ H Q) (f : ∀ x H, Q x H → Q' x H) : tE G d c σ H Q' := by
  obtain ⟨W, g, h, wp, n, m, q⟩ := t
  exact ⟨W, g, h, wp, n, m, q.imp fun v _ W' H' _ _ z x rx => f x H' (z x rx)⟩
/-- a comprehension goes to a name: the stores exchanged -/
theorem s_lcv (k : Gd G d N sc X) {i : Nat} {x : Str} {p pos : Pos} {e : Expr} {c : E} (h1 : ixB N i x = true) (h2 : swL sc x p e = true) (hp : ∀ {i : Nat} {y : Str} {py spos : Pos}, N[i]? = some y → sc.names.lookup y = some .local → swapsWith e (some (.Name y py)) spos.line X.env = pure true → PS X (.Assign [.Name y py] e spos) (tAsg (tN G d c) (gName i))) :
    PS X (.Assign [.Name x p] e pos) (t1 G d (.set (.nm i) c)) ∧ PS X (.Assign [.Name x p] e pos) (t1 G d (.seto i c)) := by
  cases e <;> try (exact (Bool.false_ne_true h2).elim)
  rename_i elt gs scope epos
  have h2 : swOk sc x p epos scope = true := h2
  have hl : sc.names.lookup x = some .local := by
    unfold swOk at h2
    simp only [Bool.and_eq_true] at h2
    exact loc_eq h2.1.1.2
  have hi : N[i]? = some x := of_decide_eq_true h1
  have ps := hp (py := p) (spos := pos) hi hl (swOk_t k h2)
  refine ⟨⟨fun pins s σ H D I t => ps.run pins s σ H D I ?_⟩, ⟨fun pins s σ H D I t => ps.run pins s σ H D I ?_⟩⟩
  · have hlt : i < σ.length := by rw [I.len, k.N]; exact (List.getElem?_eq_some_iff.mp hi).1
    refine ((asg_t t).mono fun y H1 z => ?_).n
    obtain ⟨W, g, q, g', sr, rv, e, f⟩ := z
    cases (show some (Hc.upd g i (.pv q)) = some g' from e)
    exact f _ (sr.set (by rw [sr.len]; exact hlt) rv) fun j hj => List.getElem?_set_ne (fun z => hj (by simp [tslots, z]))
  · exact seto_t (by rw [I.len, k.N]; exact (List.getElem?_eq_some_iff.mp hi).1) t
theorem s_setnC (k : Gd G d N sc X) (hF : ∀ x, X.fn x = true) {x : Str} {p : Pos} {e : Expr} {c : E} {t : Hc.T} {pos : Pos} (he : PE X e (tE G d c)) (hg : ckG (fun _ => true) N sc t (.Name x p) = true) (h2 : noSw sc x p e = true) : PS X (.Assign [.Name x p] e pos) (t1 G d (.set t c)) :=
  (ps_asg he (ckG_ok k (fun x _ => hF x) hg) (show swapsWithSole [Expr.Name x p] e pos.line X.env = pure false from noSw_t (l := pos.line) k h2) (by cases e <;> rfl) (one_a rfl)).imp fun D σ H t => asg_t t
theorem s_setoC (k : Gd G d N sc X) (hF : ∀ x, X.fn x = true) {x : Str} {p : Pos} {e : Expr} {c : E} {i : Nat} {pos : Pos} (he : PE X e (tN G d c)) (h1 : ixB N i x = true) (h2 : (locB sc x || cellB sc x) = true) (h3 : noSw sc x p e = true) : PS X (.Assign [.Name x p] e pos) (t1 G d (.seto i c)) := by
  have hi := ix_of k h1
  have hl : L2.Loc X.env.scope x := by
    unfold L2.Loc; rw [k.sc]
    rcases Bool.or_eq_true _ _ |>.mp h2 with h | h
    · exact .inl (loc_eq h)
    · exact .inr (cell_eq h)
  exact ⟨fun pins s σ H D I t => (ps_set k.nd hi hl he (noSw_t k h3) (.inl (hF x))).run pins s σ H D I (seto_t (by rw [I.len]; exact (List.getElem?_eq_some_iff.mp hi).1) t)⟩
def ckSs (f : Sm → Stmt → Bool) : List Sm → List Stmt → Bool
  | [], [] => true
  | c :: cs, s :: ss => f c s && ckSs f cs ss
  | _, _ => false
def ckPar (N : List Str) (r : CkR) (sc : Scope) (is : List (Nat × Bool)) (cs : List E) (s : Stmt) : Bool := match s with
  | .Assign [.Tuple ts _ _] (.Tuple vs _ _) _ => ckL N r.e r.n sc (is.map (·.2)) cs vs && (match ssB sc ts vs with
    | some none => decide (is.length = ts.length) && (is.zip ts).all (fun p => nmB N sc p.1.1 p.2) && Nat.ble is.length 3
    | some (some names) => (match is, ts, vs, names with
      | [(i, _), (j, _)], [.Name x _, .Name y _], [_, _], [x', y'] => ixB N i x && ixB N j y && locB sc x && locB sc y && decide (i ≠ j) && decide (x' = x) && decide (y' = y)
      | [(i, _), (j, _), (l, _)], [.Name x _, .Name y _, .Name z _], [_, _, _], [x', y', z'] => ixB N i x && ixB N j y && ixB N l z && locB sc x && locB sc y && locB sc z && decide (i ≠ j) && decide (i ≠ l) && decide (j ≠ l) && decide (x' = x) && decide (y' = y) && decide (z' = z)
      | _, _, _, _ => false)
    | none => false)
  | _ => false
def ckS (T : Tab) (N : List Str) (r : CkR) (sc : Scope) : Nat → Sm → Stmt → Bool
  | 0, _, _ => false
  | n + 1, c, s => match c with
    | .stk => true
    | .rais _ _ => true
    | .ret c => (match s with
      | .Return (some e) _ => r.e sc c e
      | .Return none _ => (match c with
        | .cst .non => true
        | _ => false)
      | _ => false)
    | .rown i => (match s with
      | .Return (some (.Name x _)) _ => varB N sc i x
      | _ => false)
    | .set t c => (match s with
      | .Assign [tg] e _ => ckG (fun _ => true) N sc t tg && (match tg with
        | .Name x p => (match t with
          | .nm i => if swL sc x p e then ixB N i x && ckLc T N r sc c e else noSw sc x p e && r.e sc c e
          | _ => false)
        | tg => noStar tg && noComp e && noTupE e && r.e sc c e)
      | _ => false)
    | .seto i c => (match s with
      | .Assign [.Name x p] e _ => ixB N i x && (locB sc x || cellB sc x) && (if swL sc x p e then ckLc T N r sc c e else noSw sc x p e && r.n sc c e)
      | _ => false)
    | .par is cs => ckPar N r sc is cs s
    | .mov i j => (match s with
      | .Assign [.Name x _] (.Name y _) _ => ixB N i x && (locB sc x || cellB sc x) && varB N sc j y
      | _ => false)
    | .app i c => (match s with
      | .Expr (.Call (.Attribute (.Name x _) m apos) [e] [] cpos) _ => decide (m = "append") && varB N sc i x && noStar e && (apos.endLine == cpos.line) && r.e sc c e
      | _ => false)
    | .put i k v => (match s with
      | .Assign [.Subscript (.Name x _) ix _] e _ => varB N sc i x && noComp e && noSl ix && r.e sc k ix && r.e sc v e
      | _ => false)
    | .pute o k v => (match s with
      | .Assign [.Subscript oe ix _] e _ => noComp e && noSl ix && r.e sc o oe && r.e sc k ix && r.e sc v e
      | _ => false)
    | .seta o f v => (match s with
      | .Assign [.Attribute oe x _] e _ => decide (T.fld x = some f) && T.nofld f && noComp e && r.e sc o oe && r.e sc v e
      | _ => false)
    | .popt t i => (match s with
      | .Assign [tg] (.Call (.Attribute (.Name x _) m apos) [] [] cpos) _ => decide (m = "pop") && varB N sc i x && (apos.endLine == cpos.line) && noStar tg && ckG (fun _ => true) N sc t tg
      | _ => false)
    | .expr c => (match s with
      | .Expr e _ => noComp e && r.e sc c e
      | _ => false)
    | .cond c a b => (match s with
      | .If e x y _ => r.t sc c e && ckSs (ckS T N r sc n) a x && ckSs (ckS T N r sc n) b y
      | _ => false)
    | .whil c b => (match s with
      | .While e x [] _ => r.t sc c e && ckSs (ckS T N r sc n) b x
      | _ => false)
    | .forr t ci b => (match s with
      | .For tg it x [] _ => ckI false T N r.e sc tg ci it && ckG (fun _ => true) N sc t tg && ckSs (ckS T N r sc n) b x
      | _ => false)
    | .brk => (match s with
      | .Break _ => true
      | _ => false)
    | .pass => (match s with
      | .Pass _ => true
      | _ => false)
    | _ => false
theorem ckSs_ok {f : Sm → Stmt → Bool} (h : ∀ c s, f c s = true → PS X s (t1 G d c)) : ∀ {cs : List Sm} {ss : List Stmt}, ckSs f cs ss = true → PSs X ss (tS G d cs)
  | [], [], _ => s_nil
  | [], _ :: _, z => nomatch z
  | _ :: _, [], z => nomatch z
  | c :: cs, s :: ss, z => by
    obtain ⟨z1, z2⟩ := bas z
    exact s_cons (h c s z1) (ckSs_ok h z2)
theorem ckPar_ok {r : CkR} (s : SndR G d N r) (k : Gd G d N sc X) (hF : ∀ x, X.fn x = true) {is : List (Nat × Bool)} {cs : List E} {st : Stmt} (h : ckPar N r sc is cs st = true) : PS X st (t1 G d (.par is cs)) := by
  unfold ckPar at h
  split at h
  · obtain ⟨h1, h2⟩ := bas h
    have pa := ckL_ok s.e s.n k h1
    split at h2
    · rename_i e1
      obtain ⟨h3, h5⟩ := bas h2
      obtain ⟨h3, h4⟩ := bas h3
      exact s_parT k hF (of_decide_eq_true h3) h4 e1 (Nat.le_of_ble_eq_true h5) pa
    · rename_i names e1
      split at h2
      · obtain ⟨h, h9⟩ := bas h2
        obtain ⟨h, h8⟩ := bas h
        obtain ⟨h, h7⟩ := bas h
        obtain ⟨h, h6⟩ := bas h
        obtain ⟨h, h5⟩ := bas h
        obtain ⟨h3, h4⟩ := bas h
        cases of_decide_eq_true h9
        cases of_decide_eq_true h8
        exact s_par2 k h3 h4 h5 h6 (of_decide_eq_true h7) e1 pa
      · obtain ⟨h, h14⟩ := bas h2
        obtain ⟨h, h13⟩ := bas h
        obtain ⟨h, h12⟩ := bas h
        obtain ⟨h, h11⟩ := bas h
        obtain ⟨h, h10⟩ := bas h
        obtain ⟨h, h9⟩ := bas h
        obtain ⟨h, h8⟩ := bas h
        obtain ⟨h, h7⟩ := bas h
        obtain ⟨h, h6⟩ := bas h
        obtain ⟨h, h5⟩ := bas h
        obtain ⟨h3, h4⟩ := bas h
        cases of_decide_eq_true h14
        cases of_decide_eq_true h13
        cases of_decide_eq_true h12
        exact s_par3 k h3 h4 h5 h6 h7 h8 (of_decide_eq_true h9) (of_decide_eq_true h10) (of_decide_eq_true h11) e1 pa
      · cases h2
    · cases h2
  · cases h
theorem ckS_ok {r : CkR} (F : GF G T) (s : SndR G d N r) (k : Gd G d N sc X) (hF : ∀ x, X.fn x = true) (hx : X.xe = fun _ _ => False) : ∀ (n : Nat) (c : Sm) (st : Stmt), ckS T N r sc n c st = true → PS X st (t1 G d c)
  | 0, _, _, h => nomatch h
  | n + 1, c, st, h => by
    have ih := ckS_ok F s k hF hx n
    cases c <;> try (exact (Bool.false_ne_true h).elim)
    case stk => exact s_never fun _ _ _ _ _ _ e => nomatch e
    case rais a b =>
      refine s_never fun n wp g h f h' e => ?_
      revert e
      show ((evs' G n wp d g b h).bind fun vs h1 => (.ex a vs h1 : R Hc.F)) = _ → False
      cases evs' G n wp d g b h <;> exact fun e => nomatch e
    case ret c =>
      simp only [ckS] at h
      split at h
      · exact s_ret (s.e _ _ _ h X k)
      · split at h
        · exact s_retN
        · cases h
      · cases h
    case rown i =>
      simp only [ckS] at h
      split at h
      · exact s_rown k h
      · cases h
    case set t c =>
      simp only [ckS] at h
      split at h
      · obtain ⟨h1, h2⟩ := bas h
        split at h2
        · split at h2
          · split at h2
            · rename_i hsw
              obtain ⟨h3, h4⟩ := bas h2
              obtain ⟨q1, _, _, _, _, _, q2⟩ := ckLc_ok F s k h4
              exact (s_lcv k h3 hsw q2).1
            · obtain ⟨h3, h4⟩ := bas h2
              exact s_setnC k hF (s.e _ _ _ h4 X k) h1 h3
          · cases h2
        · obtain ⟨h3, h6⟩ := bas h2
          obtain ⟨h3, h5⟩ := bas h3
          obtain ⟨h3, h4⟩ := bas h3
          exact s_set k hF (s.e _ _ _ h6 X k) h1 h3 h4 h5
      · cases h
    case seto i c =>
      simp only [ckS] at h
      split at h
      · obtain ⟨h1, h2⟩ := bas h
        obtain ⟨h3, h4⟩ := bas h1
        split at h2
        · rename_i hsw
          obtain ⟨q1, _, _, _, _, _, q2⟩ := ckLc_ok F s k h2
          exact (s_lcv k h3 hsw q2).2
        · obtain ⟨h5, h6⟩ := bas h2
          exact s_setoC k hF (s.n _ _ _ h6 X k) h3 h4 h5
      · cases h
    case par is cs => exact ckPar_ok s k hF h
    case mov i j =>
      simp only [ckS] at h
      split at h
      · obtain ⟨h1, h2⟩ := bas h
        obtain ⟨h3, h4⟩ := bas h1
        exact s_mov k hF h3 h4 h2
      · cases h
    case app i c =>
      simp only [ckS] at h
      split at h
      · obtain ⟨h, h5⟩ := bas h
        obtain ⟨h, h4⟩ := bas h
        obtain ⟨h, h3⟩ := bas h
        obtain ⟨h1, h2⟩ := bas h
        cases of_decide_eq_true h1
        exact s_app k h2 h3 h4 (s.e _ _ _ h5 X k)
      · cases h
    case put i kk v =>
      simp only [ckS] at h
      split at h
      · obtain ⟨h, h5⟩ := bas h
        obtain ⟨h, h4⟩ := bas h
        obtain ⟨h, h3⟩ := bas h
        obtain ⟨h1, h2⟩ := bas h
        exact s_put k h1 h2 h3 (s.e _ _ _ h4 X k) (s.e _ _ _ h5 X k)
      · cases h
    case pute o kk v =>
      simp only [ckS] at h
      split at h
      · obtain ⟨h, h5⟩ := bas h
        obtain ⟨h, h4⟩ := bas h
        obtain ⟨h, h3⟩ := bas h
        obtain ⟨h1, h2⟩ := bas h
        exact s_pute k h1 h2 (s.e _ _ _ h3 X k) (s.e _ _ _ h4 X k) (s.e _ _ _ h5 X k)
      · cases h
    case seta o f v =>
      simp only [ckS] at h
      split at h
      · obtain ⟨h, h5⟩ := bas h
        obtain ⟨h, h4⟩ := bas h
        obtain ⟨h, h3⟩ := bas h
        obtain ⟨h1, h2⟩ := bas h
        exact s_seta F k (of_decide_eq_true h1) h2 h3 (s.e _ _ _ h4 X k) (s.e _ _ _ h5 X k)
      · cases h
    case popt t i =>
      simp only [ckS] at h
      split at h
      · obtain ⟨h, h5⟩ := bas h
        obtain ⟨h, h4⟩ := bas h
        obtain ⟨h, h3⟩ := bas h
        obtain ⟨h1, h2⟩ := bas h
        cases of_decide_eq_true h1
        exact s_popt k hF h2 h3 h4 h5
      · cases h
    case expr c =>
      simp only [ckS] at h
      split at h
      · obtain ⟨h1, h2⟩ := bas h
        exact s_expr (s.e _ _ _ h2 X k) (sw_no h1)
      · cases h
    case cond c a b =>
      simp only [ckS] at h
      split at h
      · obtain ⟨h1, h2⟩ := bas h
        obtain ⟨h3, h4⟩ := bas h1
        exact s_cond (s.t _ _ _ h3 X k) (ckSs_ok ih h4) (ckSs_ok ih h2)
      · cases h
    case whil c b =>
      simp only [ckS] at h
      split at h
      · obtain ⟨h1, h2⟩ := bas h
        exact s_while hx (s.t _ _ _ h1 X k) (ckSs_ok ih h2)
      · cases h
    case forr t ci b =>
      simp only [ckS] at h
      split at h
      · obtain ⟨h1, h2⟩ := bas h
        obtain ⟨h3, h4⟩ := bas h1
        obtain ⟨i1, i2⟩ := ckI_ok F s.e k h3
        exact s_for k hF hx i1 i2 h4 (ckSs_ok ih h2)
      · cases h
    case brk =>
      simp only [ckS] at h
      split at h
      · exact s_brk
      · cases h
    case pass =>
      simp only [ckS] at h
      split at h
      · exact s_pass
      · cases h
/-- a def's body: a text ahead of it is passed over -/
def ckBody (T : Tab) (N : List Str) (sc : Scope) (n : Nat) (cs : List Sm) (ss : List Stmt) : Bool := match ss with
  | .Expr (.Constant (.str _) _ _) _ :: ss => ckSs (ckS T N (ckR T N n) sc n) cs ss
  | ss => ckSs (ckS T N (ckR T N n) sc n) cs ss
theorem ckBody_ok (F : GF G T) (fs : ∀ d', d' ≤ d → FS G d') (k : Gd G d N sc X) (hF : ∀ x, X.fn x = true) (hx : X.xe = fun _ _ => False) {n : Nat} {cs : List Sm} {ss : List Stmt} (h : ckBody T N sc n cs ss = true) : PSs X ss (tS G d cs) := by
  have ok := ckS_ok F (ckR_ok F fs n) k hF hx n
  unfold ckBody at h
  split at h
  · exact (pss_cons ps_doc (ckSs_ok ok h)).imp fun D σ H t => t
  · exact ckSs_ok ok h
end
end Hc

set_option maxHeartbeats 4000000
/-! Defs keep what the little language says. -/
namespace Hc
open PySem PySem.Spec PyProof.Rows L2
section
variable {G : GE} {T : Tab}
/-- behind a closed def: what it made is nobody's -/
def outW (W W' : Wd) : Wd := ⟨fun a => W'.I a ∨ (a ∈ W'.m ∧ a ∉ W.m), W.m⟩
mutual
theorem key_rv {W W2 : Wd} {H : Hp} : ∀ {n : Nat} {p : PV} {x : V}, keyish n p = true → RV G W H p x → RV G W2 H p x
  | _, .non, _, _, h => by cases h; exact .non
  | _, .bl b, _, _, h => by cases h; exact .bl b
  | _, .int b, _, _, h => by cases h; exact .int b
  | _, .str b, _, _, h => by cases h; exact .str b
  | 0, .tup l, _, k, _ => by simp [keyish] at k
  | n + 1, .tup l, _, k, h => by
    cases h with
    | tup a r => exact .tup a (keys_rv (by simpa [keyish] using k) r)
  | n, .lst _, _, k, _ => by cases n <;> simp [keyish] at k
  | n, .dct _, _, k, _ => by cases n <;> simp [keyish] at k
  | n, .obj _, _, k, _ => by cases n <;> simp [keyish] at k
  | n, .fn _, _, k, _ => by cases n <;> simp [keyish] at k
  | n, .ty _, _, k, _ => by cases n <;> simp [keyish] at k
theorem keys_rv {W W2 : Wd} {H : Hp} : ∀ {n : Nat} {p : List PV} {x : List V}, keyishs n p = true → RVs G W H p x → RVs G W2 H p x
  | _, [], _, _, h => by cases h; exact .nil
  | n, p :: ps, _, k, h => by
    cases h with
    | cons a r =>
      simp only [keyishs] at k
      split at k
      · exact .cons (key_rv (by assumption) a) (keys_rv k r)
      · cases k
end
section
variable {W W' : Wd} {H H' : Hp} {h h1 : HP}
theorem fzs_ok {f : PV → Option PV} (ih : ∀ v v' x, f v = some v' → RV G W' H' v x → RV G (outW W W') H' v' x) : ∀ {l l' : List PV} {xs : List V}, frz.fzs f l = some l' → RVs G W' H' l xs → RVs G (outW W W') H' l' xs
  | [], _, _, e, r => by cases r; simp only [frz.fzs] at e; cases e; exact .nil
  | p :: l, l', _, e, r => by
    cases r with
    | cons a r =>
      simp only [frz.fzs] at e
      split at e
      · rename_i y e1
        split at e
        · rename_i l2 e2
          cases e
          exact .cons (ih _ _ _ e1 a) (fzs_ok ih e2 r)
        · cases e
      · cases e
theorem fzd_k {f : PV → Option PV} (ih : ∀ v v' x, f v = some v' → RV G W' H' v x → RV G (outW W W') H' v' x) : ∀ {l l' : List (PV × PV)} {xs : List (Key × V)}, frz.fzd f l = some l' → RVk G W' H' l xs → RVk G (outW W W') H' l' xs
  | [], _, _, e, r => by cases r; simp only [frz.fzd] at e; cases e; exact .nil
  | p :: l, l', _, e, r => by
    cases r with
    | cons kr a r =>
      simp only [frz.fzd] at e
      split at e
      · rename_i y e1
        split at e
        · rename_i l2 e2
          cases e
          exact .cons kr (ih _ _ _ e1 a) (fzd_k ih e2 r)
        · cases e
      · cases e
theorem fzd_n {f : PV → Option PV} (ih : ∀ v v' x, f v = some v' → RV G W' H' v x → RV G (outW W W') H' v' x) : ∀ {l l' : List (PV × PV)} {xs : List (NestedKey × Addr × V)}, frz.fzd f l = some l' → RVn G W' H' l xs → RVn G (outW W W') H' l' xs ∧ (l ≠ [] → l' ≠ [])
  | [], _, _, e, r => by cases r; simp only [frz.fzd] at e; cases e; exact ⟨.nil, fun z => z⟩
  | p :: l, l', _, e, r => by
    cases r with
    | cons kr ky a r =>
      simp only [frz.fzd] at e
      split at e
      · rename_i y e1
        split at e
        · rename_i l2 e2
          cases e
          exact ⟨.cons (key_rv ky kr) ky (ih _ _ _ e1 a) (fzd_n ih e2 r).1, fun _ z => nomatch z⟩
        · cases e
      · cases e
theorem frz_ok (e0 : Ext G h.length W H W' H') (r0 : HR G W h H) (r : HR G W' h1 H') : ∀ (n : Nat) (v v' : PV) (x : V), frz h1 h.length n v = some v' → RV G W' H' v x → RV G (outW W W') H' v' x
  | 0, _, _, _, e, _ => by simp [frz] at e
  | n + 1, v, v', x, e, rv => by
    have ih := frz_ok e0 r0 r n
    cases v with
    | obj k =>
      simp only [frz] at e
      cases rv with
      | @obj _ a m =>
      split at e
      · rename_i hk
        cases e
        have hk := Nat.blt_eq.mp hk
        have hk2 : k < W.m.length := by rw [r0.len]; exact hk
        have e1 := e0.mp k _ (List.getElem?_eq_getElem hk2)
        rw [m] at e1
        have : W.m[k] = _ := (Option.some.inj e1).symm
        exact .obj (by show W.m[k]? = _; rw [List.getElem?_eq_getElem hk2, this])
      · rename_i hk
        have hk : ¬ k < h.length := fun z => hk (Nat.blt_eq.mpr z)
        have ni : a ∈ W'.m ∧ a ∉ W.m := ⟨List.mem_of_getElem? m, fun z => by
          obtain ⟨j, hj⟩ := List.getElem?_of_mem z
          have := nodup_at e0.nd m (e0.mp j a hj)
          subst this
          have := (List.getElem?_eq_some_iff.mp hj).1
          rw [r0.len] at this
          exact hk this⟩
        split at e
        · rename_i l e1
          rw [nth_eq] at e1
          have ro := r.ob k _ a e1 m
          split at e
          · rename_i l2 e2
            cases e
            cases ro with
            | lst q1 q2 => exact .lst (.inl ⟨.inr ni, .inl q1⟩) (fzs_ok ih e2 q2)
          · cases e
        · rename_i l e1
          rw [nth_eq] at e1
          have ro := r.ob k _ a e1 m
          split at e
          · rename_i l2 e2
            cases e
            cases ro with
            | dct q => cases q with
              | k q1 q2 => exact .dctk (.inr ni) q1 (fzd_k ih e2 q2)
              | n q1 q2 q3 =>
                obtain ⟨z1, z2⟩ := fzd_n ih e2 q3
                exact .dctn (.inr ni) q1 (z2 q2) z1
          · cases e
        · cases e
    | tup l =>
      simp only [frz] at e
      split at e
      · rename_i l2 e2
        cases e
        cases rv with
        | tup a b => exact .tup a (fzs_ok ih e2 b)
      · cases e
    | lst l =>
      simp only [frz] at e
      split at e
      · rename_i l2 e2
        cases e
        cases rv with
        | lst a b =>
          refine .lst ?_ (fzs_ok ih e2 b)
          rcases a with ⟨i, a⟩ | a
          · exact .inl ⟨.inl i, a⟩
          · exact .inr a
      · cases e
    | dct l =>
      simp only [frz] at e
      split at e
      · rename_i l2 e2
        cases e
        cases rv with
        | dctk i q1 q2 => exact .dctk (.inl i) q1 (fzd_k ih e2 q2)
        | dctn i q1 q2 q3 =>
          obtain ⟨z1, z2⟩ := fzd_n ih e2 q3
          exact .dctn (.inl i) q1 (z2 q2) z1
      · cases e
    | non => simp only [frz] at e; cases e; cases rv; exact .non
    | bl b => simp only [frz] at e; cases e; cases rv; exact .bl b
    | int b => simp only [frz] at e; cases e; cases rv; exact .int b
    | str b => simp only [frz] at e; cases e; cases rv; exact .str b
    | fn b => simp only [frz] at e; cases e; cases rv; exact .fn b
    | ty b => cases rv
theorem out_ext {wp : Nat} (e : Ext G h.length W H W' H') (r0 : HR G W h H) (r : HR G W' h1 H') : Ext G wp W H (outW W W') H' := by
  have nw : ∀ a, a ∈ W'.m → a ∉ W.m → H a = none := fun a z n => by
    rcases e.mnew a z with q | q
    · exact absurd q n
    · exact q
  refine ⟨fun _ _ z => z, fun a i => .inl (e.ii a i), fun a i => ?_, fun a z => .inl z, fun a o q _ => e.fr a o q fun n hn z => ?_, e.tr, e.tp, e.im, r0.nd⟩
  · rcases i with i | ⟨i, n⟩
    · exact e.inew a i
    · exact .inr (nw a i n)
  · have := (List.getElem?_eq_some_iff.mp z).1
    rw [r0.len] at this
    omega
theorem out_hr (e : Ext G h.length W H W' H') (r0 : HR G W h H) (r : HR G W' h1 H') : HR G (outW W W') h H' := by
  have ex := out_ext (wp := h.length) e r0 r
  refine ⟨r0.len, r0.nd, fun n io a e1 e2 => (r0.ob n io a e1 e2).stay ex.stay fun b u _ q => e.fr b u q fun j hj z => ?_, fun a i m => ?_, fun a i => ?_⟩
  · have := (List.getElem?_eq_some_iff.mp z).1
    rw [r0.len] at this
    omega
  · rcases i with i | ⟨_, n⟩
    · obtain ⟨j, hj⟩ := List.getElem?_of_mem m
      exact r.dj a i (List.mem_of_getElem? (e.mp j a hj))
    · exact n m
  · rcases i with i | ⟨i, _⟩
    · exact r.it a i
    · exact r.mt i
end
/-- the first moment of a def's body -/
theorem start_sr {W : Wd} {H : Hp} {ps : List PV} {vs : List V} {N : List Str} {k : Nat} (r : RVs G W H ps vs) (hN : N.length = ps.length + k) : SR G W H (ps.map SV.pv ++ List.replicate k SV.un) (L2.start N vs) := by
  have hl := r.length
  have lk : N.length - vs.length = k := by omega
  have pvs : ∀ {i : Nat} {w : SV}, (ps.map SV.pv ++ List.replicate k SV.un)[i]? = some w → (∃ p, w = .pv p ∧ ps[i]? = some p) ∨ w = .un := by
    intro i w e
    by_cases hi : i < ps.length
    · rw [List.getElem?_append_left (by simpa using hi), List.getElem?_map] at e
      cases q : ps[i]? with
      | none => rw [q] at e; cases e
      | some p => rw [q] at e; cases e; exact .inl ⟨p, rfl, rfl⟩
    · rw [List.getElem?_append_right (by simpa using hi)] at e
      have := List.mem_of_getElem? e
      exact .inr (List.mem_replicate.mp this).2
  have no : ∀ i, ¬ isOwn (ps.map SV.pv ++ List.replicate k SV.un) i := by
    rintro i (⟨l, e⟩ | ⟨l, e⟩) <;> (rcases pvs e with ⟨p, z, _⟩ | z <;> cases z)
  refine ⟨by unfold L2.start; simp [hl, lk], fun i v e => ?_, fun i l e => absurd (.inl ⟨l, e⟩) (no i), fun i l e => absurd (.inr ⟨l, e⟩) (no i), fun i j a h1 => absurd h1 (no i)⟩
  rcases pvs e with ⟨p, z, e2⟩ | z
  · cases z
    obtain ⟨x, e3, e4⟩ := r.get e2
    refine ⟨x, ?_, e4⟩
    unfold L2.start
    rw [List.getElem?_append_left (by rw [List.length_map]; exact (List.getElem?_eq_some_iff.mp e3).1), List.getElem?_map, e3]
    rfl
  · cases z
theorem start_no {ps : List PV} {k : Nat} (i : Nat) : ¬ isOwn (ps.map SV.pv ++ List.replicate k SV.un) i := by
  rintro (⟨l, e⟩ | ⟨l, e⟩)
  · by_cases hi : i < ps.length
    · rw [List.getElem?_append_left (by simpa using hi), List.getElem?_map] at e
      cases q : ps[i]? with
      | none => rw [q] at e; cases e
      | some p => rw [q] at e; cases e
    · rw [List.getElem?_append_right (by simpa using hi)] at e
      cases (List.mem_replicate.mp (List.mem_of_getElem? e)).2
  · by_cases hi : i < ps.length
    · rw [List.getElem?_append_left (by simpa using hi), List.getElem?_map] at e
      cases q : ps[i]? with
      | none => rw [q] at e; cases e
      | some p => rw [q] at e; cases e
    · rw [List.getElem?_append_right (by simpa using hi)] at e
      cases (List.mem_replicate.mp (List.mem_of_getElem? e)).2
/-- from the promise to the body -/
theorem sp_body {d f : Nat} {fn : Hc.Fn} {N : List Str} (hf : G.pg.fn f = some fn) (hN : N.length = fn.ns) (hp : fn.ps ≤ fn.ns) {vs : List V} {H : Hp} {Q : VK} {E : XK} (h : spF G (d + 1) f vs H Q E) : tS G d fn.body { nx := fun _ H' => Q .non H', rt := Q } (L2.start N vs) H := by
  obtain ⟨W, h, wp, ps, n, fn', e, hr, rs, hl, q⟩ := h
  rw [hf] at e
  cases e
  cases n with
  | zero => exact q.elim
  | succ n =>
    obtain ⟨fn', e, q⟩ := (show okR G wp W H (R.ofO (G.pg.fn f) fun fn => if Nat.beq ps.length fn.ps then
        (if fn.closed then (match (ev G.pg n).s h.length d fn.body (ps.map SV.pv ++ List.replicate (fn.ns - fn.ps) SV.un) h with
          | .ok (.nx _) _ => .ok .non h
          | .ok (.ret v) h1 => R.ofO (frz h1 h.length 60 v) fun v' => .ok v' h
          | .ex c fs _ => .ex c fs h
          | _ => .no)
        else ((ev G.pg n).s wp d fn.body (ps.map SV.pv ++ List.replicate (fn.ns - fn.ps) SV.un) h).bind fun f h1 => match f with
          | .nx _ => .ok .non h1
          | .ret v => .ok v h1
          | _ => .no)
      else .no) (VP G Q) from q).ofO
    rw [hf] at e
    cases e
    obtain ⟨_, q⟩ := q.cond
    have sr : SR G W H (ps.map SV.pv ++ List.replicate (fn.ns - fn.ps) SV.un) (L2.start N vs) := start_sr rs (by rw [hN, hl]; omega)
    have fm : ∀ wp, Fm G wp W H W (ps.map SV.pv ++ List.replicate (fn.ns - fn.ps) SV.un) h (L2.start N vs) H := fun wp => ⟨Ext.refl hr.nd, ⟨hr, sr⟩, fun i a o => absurd o (start_no i)⟩
    cases hc : fn.closed with
    | true =>
      rw [hc, if_pos rfl] at q
      refine ⟨W, H, W, _, h, h.length, n, fm _, ?_⟩
      revert q
      generalize (ev G.pg n).s h.length d fn.body (ps.map SV.pv ++ List.replicate (fn.ns - fn.ps) SV.un) h = r
      intro q
      cases r with
      | ok f' h1 => cases f' with
        | nx g' =>
          intro W' H' σ' f'
          exact q.at (out_ext f'.ex hr f'.mo.hr) (out_hr f'.ex hr f'.mo.hr) _ .non
        | brk g' => exact q.elim
        | ret v =>
          obtain ⟨v', e1, q⟩ := (show okR G wp W H (R.ofO (frz h1 h.length 60 v) fun v' => .ok v' h) (VP G Q) from q).ofO
          intro W' H' x ex r rv
          exact q.at (out_ext ex hr r) (out_hr ex hr r) _ (frz_ok ex hr r 60 v v' x e1 rv)
      | ex a b c => exact q.elim
      | no => exact q.elim
    | false =>
      rw [hc, if_neg Bool.false_ne_true] at q
      refine ⟨W, H, W, _, h, wp, n, fm _, ?_⟩
      revert q
      generalize (ev G.pg n).s wp d fn.body (ps.map SV.pv ++ List.replicate (fn.ns - fn.ps) SV.un) h = r
      intro q
      cases r with
      | ok f' h1 => cases f' with
        | nx g' =>
          intro W' H' σ' f'
          exact (show okR G wp W H (.ok .non h1) (VP G Q) from q).at f'.ex f'.mo.hr _ .non
        | brk g' => exact q.elim
        | ret v => exact fun W' H' x ex r rv => (show okR G wp W H (.ok v h1) (VP G Q) from q).at ex r x rv
      | ex a b c => exact q.elim
      | no => exact q.elim
/-- a def's text, and where it stands -/
structure DefC where
  x : Str
  qual : Str
  st : Stmt
  N : List Str
  ps : List Str
def scOk (N ps : List Str) (sc : Scope) : Bool := fnKind sc && !sc.isCoroutine && !sc.isGenerator && decide N.Nodup && decide (N.take ps.length = ps) && ps.all (fun x => locB sc x || cellB sc x) && sc.names.all (fun y => match y.2 with
  | .free => false
  | _ => true)
theorem scOk_ok {N ps : List Str} {sc : Scope} (h : scOk N ps sc = true) : FnScope N ps sc := by
  unfold scOk at h
  obtain ⟨h, h7⟩ := bas h
  obtain ⟨h, h6⟩ := bas h
  obtain ⟨h, h5⟩ := bas h
  obtain ⟨h, h4⟩ := bas h
  obtain ⟨h, h3⟩ := bas h
  obtain ⟨h1, h2⟩ := bas h
  refine ⟨?_, by simpa using h2, by simpa using h3, of_decide_eq_true h4, of_decide_eq_true h5, fun x hx => ?_, fun y hy e => ?_⟩
  · unfold fnKind at h1
    split at h1
    · assumption
    · cases h1
  · rcases Bool.or_eq_true _ _ |>.mp (List.all_eq_true.mp h6 x hx) with q | q
    · exact .inl (loc_eq q)
    · exact .inr (cell_eq q)
  · have := List.all_eq_true.mp h7 y hy
    rw [e] at this
    cases this
/-- the check of a def -/
def ckD (T : Tab) (n : Nat) (D : DefC) (fn : Hc.Fn) : Bool := scOk D.N D.ps (defScope D.st) && decide (D.N.length = fn.ns) && decide (D.ps.length = fn.ps) && Nat.ble fn.ps fn.ns && ckBody T D.N (defScope D.st) n fn.body (defBody D.st)
theorem fs_zero : FS G 0 → True := fun _ => trivial
theorem fs_step (F : GF G T) {D : DefC} {n d f : Nat} {fn : Hc.Fn} {fd : FuncData} (hf : G.pg.fn f = some fn) (ck : ckD T n D fn = true) (fu : FunD G.K D.x D.qual (defArgs D.st) (defBody D.st) (defScope D.st) [] [] (G.fad f) fd) (ih : ∀ d', d' < d → FS G d') : FnOk G.prog G.w G.K G.mg G.base CX0 d (G.fad f) fd D.ps (spF G d f) := by
  unfold ckD at ck
  obtain ⟨ck, h5⟩ := bas ck
  obtain ⟨ck, h4⟩ := bas ck
  obtain ⟨ck, h3⟩ := bas ck
  obtain ⟨h1, h2⟩ := bas ck
  have S := scOk_ok h1
  have len : ∀ {d vs H Q E}, spF G d f vs H Q E → vs.length = D.ps.length := by
    intro d vs H Q E ⟨W, h, wp, ps, n, fn', e, hr, rs, hl, q⟩
    rw [hf] at e; cases e
    rw [← rs.length, hl, of_decide_eq_true h3]
  cases d with
  | zero =>
    refine ⟨fun vs H Q E h => len h, fun A outer s H args us vs Q E _ _ _ _ h => ?_⟩
    obtain ⟨W, h, wp, ps, n, fn', e, hr, rs, hl, q⟩ := h
    exfalso
    cases n with
    | zero => exact q
    | succ n => exact q
  | succ d =>
    refine fu.ok S (fun vs H Q E h => len h) fun cdv A outer s H vs Q E hr h => ⟨tS G d fn.body, PSs.nox ?_, sp_body hf (of_decide_eq_true h2) (Nat.le_of_ble_eq_true h4) h⟩
    exact ckBody_ok (N := D.N) (sc := defScope D.st) F (fun d' hd => ih d' (by omega)) ⟨rfl, rfl, rfl, rfl, rfl, rfl, hr, rfl, S.nd, rfl⟩ (fun _ => rfl) rfl h5
theorem fs_ok (F : GF G T) (D : Nat → DefC) (n : Nat) (hfd : ∀ f fn, G.pg.fn f = some fn → ckD T n (D f) fn = true ∧ ∃ fd, FunD G.K (D f).x (D f).qual (defArgs (D f).st) (defBody (D f).st) (defScope (D f).st) [] [] (G.fad f) fd ∧ Binds G.K fd (D f).ps []) : ∀ d, FS G d := by
  intro d
  induction d using Nat.strongRecOn with
  | ind d ih =>
    intro f hs
    obtain ⟨fn, hf⟩ := Option.isSome_iff_exists.mp hs
    obtain ⟨ck, fd, fu, bi⟩ := hfd f fn hf
    exact ⟨fd, (D f).ps, fs_step F hf ck fu ih, bi⟩
end
end Hc

set_option maxHeartbeats 4000000
/-! A law's tables: what its head must tell, and what follows. -/
namespace Hc
open PySem PySem.Spec PyProof.Rows L2
structure Lw where
  fnT : List (Str × Nat)
  clT : List (Str × Nat)
  csT : List (Str × PV)
  frT : List Str
  fdT : List Str
  caT : List Str
  nof : List Nat
  msl : List ((Nat × Nat) × Nat)
  inl : List (Nat × Nat)
  okl : List Nat
  fns : Nat → Option Hc.Fn
  DD : Nat → DefC
  at_ : Nat → Str × Option Str
def Lw.tab (L : Lw) : Tab := ⟨fun x => L.fnT.lookup x, fun x => L.clT.lookup x, fun x => L.csT.lookup x, fun x => nameIx x L.fdT 0, fun f => L.nof.contains f, L.frT⟩
def Lw.pg (L : Lw) : Pg := ⟨L.fns, fun c m => L.msl.lookup (c, m), fun c => L.inl.lookup c⟩
def Lw.ca (L : Lw) (c : Nat) : Str := L.caT.getD c Str.empty
def nmOf (fdT : List Str) (f : Nat) : Str := match fdT[f]? with
  | some s => s
  | none => ⟨#[2000000 + f]⟩
def hOf (a : Str × Option Str) (D : DefC) : He.DefD := ⟨a, D.x, D.qual, defArgs D.st, defBody D.st, defScope D.st, [], []⟩
def Lw.hl (L : Lw) : List He.DefD := L.okl.map fun i => hOf (L.at_ i) (L.DD i)
def csFa (p : Str × PV) : He.Fa := match p.2 with
  | .int i => .int p.1 i
  | .str z => .str p.1 ⟨z.toArray⟩
  | _ => .free p.1
def Lw.fal (L : Lw) : List He.Fa := L.fnT.map (fun p => .glo p.1) ++ L.clT.map (fun p => .glo p.1) ++ L.frT.map .free ++ L.csT.map csFa ++
  L.msl.map (fun p => .meth (L.ca p.1.1) (nmOf L.fdT p.1.2)) ++ L.msl.map (fun p => .cls (L.ca p.1.1)) ++ L.inl.map (fun p => .cls (L.ca p.1)) ++ L.inl.map (fun p => .mkr (L.ca p.1)) ++
  L.inl.flatMap fun p => L.nof.map fun f => .noat (L.ca p.1) (nmOf L.fdT f)
def isCs : PV → Bool
  | .int _ => true
  | .str _ => true
  | _ => false
/-- what stands in the tables is in order -/
def Lw.ok (L : Lw) : Bool :=
  L.fnT.all (fun p => decide (L.at_ p.2 = (p.1, none)) && decide (p.2 ∈ L.okl)) &&
  L.clT.all (fun p => decide (L.ca p.2 = p.1)) &&
  L.csT.all (fun p => isCs p.2) &&
  L.msl.all (fun p => decide (L.at_ p.2 = (L.ca p.1.1, some (nmOf L.fdT p.1.2))) && decide (p.2 ∈ L.okl)) &&
  L.inl.all (fun p => decide (L.at_ p.2 = (L.ca p.1, some ("__init__" : Str))) && decide (p.2 ∈ L.okl)) &&
  L.okl.all (fun i => (L.fns i).isSome) &&
  decide L.fdT.Nodup && L.fdT.all (fun s => s.cps.all fun c => decide (c < 2000000))
def Lw.ge (L : Lw) (prog : Program) (w : World) (K : PySem.W.Frag) (mg : Str → Option Value) (base : Heap) : GE :=
  ⟨prog, w, K, mg, base, L.pg, fun f => He.fAd K (L.at_ f), fun c => He.ga K (L.ca c), nmOf L.fdT⟩
theorem look_mem {α β : Type} [BEq α] [LawfulBEq α] : ∀ {l : List (α × β)} {x : α} {y : β}, l.lookup x = some y → (x, y) ∈ l
  | [], _, _, h => by simp at h
  | (a, b) :: l, x, y, h => by
    rw [List.lookup_cons] at h
    split at h
    · rename_i e
      cases h
      rw [eq_of_beq e]
      exact List.mem_cons_self
    · exact List.mem_cons_of_mem _ (look_mem h)
theorem nameIx_ok : ∀ {l : List Str} {x : Str} {n f : Nat}, nameIx x l n = some f → n ≤ f ∧ l[f - n]? = some x
  | [], _, _, _, h => by simp [nameIx] at h
  | y :: r, x, n, f, h => by
    simp only [nameIx] at h
    split at h
    · rename_i e
      cases h
      refine ⟨Nat.le_refl _, ?_⟩
      rw [Nat.sub_self]
      rw [of_decide_eq_true e]
      rfl
    · obtain ⟨h1, h2⟩ := nameIx_ok h
      refine ⟨by omega, ?_⟩
      rw [show f - n = (f - (n + 1)) + 1 by omega]
      exact h2
theorem nm_inj {fdT : List Str} (nd : fdT.Nodup) (hb : fdT.all (fun s => s.cps.all fun c => decide (c < 2000000)) = true) (f g : Nat) (e : nmOf fdT f = nmOf fdT g) : f = g := by
  have big : ∀ {s : Str} {k : Nat}, s ∈ fdT → s = ⟨#[2000000 + k]⟩ → False := by
    intro s k hs e
    have := List.all_eq_true.mp hb s hs
    rw [e] at this
    simp at this
    omega
  unfold nmOf at e
  cases hf : fdT[f]? with
  | some s => cases hg : fdT[g]? with
    | some t =>
      rw [hf, hg] at e
      have e : s = t := e
      subst e
      exact nodup_at nd hf hg
    | none =>
      rw [hf, hg] at e
      exact (big (List.mem_of_getElem? hf) e).elim
  | none => cases hg : fdT[g]? with
    | some t =>
      rw [hf, hg] at e
      exact (big (List.mem_of_getElem? hg) e.symm).elim
    | none =>
      rw [hf, hg] at e
      have e : (⟨#[2000000 + f]⟩ : Str) = ⟨#[2000000 + g]⟩ := e
      simp at e
      omega
theorem says_all {fa : List He.Fa} {fn : List He.DefD} {K : PySem.W.Frag} (c : He.SaysD fa fn K) {f : He.Fa} (h : f ∈ fa) : f.ok K = true := by
  obtain ⟨i, hi⟩ := List.getElem?_of_mem h
  exact c.fact i hi
section
variable {L : Lw} {prog : Program} {w : World} {K : PySem.W.Frag} {mg : Str → Option Value} {base h : Heap}
theorem Lw.fund (c : He.SaysD L.fal L.hl K) {i : Nat} (hi : i ∈ L.okl) : ∃ fd, FunD K (L.DD i).x (L.DD i).qual (defArgs (L.DD i).st) (defBody (L.DD i).st) (defScope (L.DD i).st) [] [] (He.fAd K (L.at_ i)) fd := by
  obtain ⟨j, hj⟩ := List.getElem?_of_mem (show hOf (L.at_ i) (L.DD i) ∈ L.hl from List.mem_map.mpr ⟨i, hi, rfl⟩)
  exact c.def_ j hj
theorem Lw.gf (ok : L.ok = true) (c : He.SaysD L.fal L.hl K) (X : K.In h) (M : h.Ns mainGlobals mg) : GF (L.ge prog w K mg base) L.tab := by
  unfold Lw.ok at ok
  obtain ⟨ok, o8⟩ := bas ok
  obtain ⟨ok, o7⟩ := bas ok
  obtain ⟨ok, o6⟩ := bas ok
  obtain ⟨ok, o5⟩ := bas ok
  obtain ⟨ok, o4⟩ := bas ok
  obtain ⟨ok, o3⟩ := bas ok
  obtain ⟨o1, o2⟩ := bas ok
  have fal : ∀ {f : He.Fa}, (f ∈ L.fnT.map (fun p => He.Fa.glo p.1) ∨ f ∈ L.clT.map (fun p => He.Fa.glo p.1) ∨ f ∈ L.frT.map He.Fa.free ∨ f ∈ L.csT.map csFa ∨ f ∈ L.msl.map (fun p => He.Fa.meth (L.ca p.1.1) (nmOf L.fdT p.1.2)) ∨ f ∈ L.msl.map (fun p => He.Fa.cls (L.ca p.1.1)) ∨ f ∈ L.inl.map (fun p => He.Fa.cls (L.ca p.1)) ∨ f ∈ L.inl.map (fun p => He.Fa.mkr (L.ca p.1)) ∨ f ∈ L.inl.flatMap fun p => L.nof.map fun f => He.Fa.noat (L.ca p.1) (nmOf L.fdT f)) → f.ok K = true := fun h => says_all c (by
    unfold Lw.fal
    simp only [List.mem_append]
    rcases h with h | h | h | h | h | h | h | h | h <;> simp only [h, true_or, or_true])
  have some_of : ∀ {i}, i ∈ L.okl → (L.fns i).isSome = true := fun hi => List.all_eq_true.mp o6 _ hi
  refine ⟨fun x f e => ?_, fun x cc e => ?_, fun x v e => ?_, fun x e => ?_, fun x f e => ?_, fun cc m f e => ?_, fun cc f e => ?_, fun x f e => ?_, fun f g e => nm_inj (of_decide_eq_true o7) o8 f g e, fun cc e => ?_⟩
  · have hm := look_mem (show L.fnT.lookup x = some f from e)
    obtain ⟨a1, a2⟩ := bas (List.all_eq_true.mp o1 _ hm)
    have a1 := of_decide_eq_true a1
    have g := He.glo_ok X M (fal (.inl (List.mem_map.mpr ⟨_, hm, rfl⟩)))
    obtain ⟨fd, F⟩ := Lw.fund c (of_decide_eq_true a2)
    have kp := F.kp
    rw [a1] at kp
    show mg x = some (.ref (He.fAd K (L.at_ f))) ∧ PySem.W.keepIn K (.ref (He.fAd K (L.at_ f))) = true
    rw [a1]
    exact ⟨g, kp⟩
  · have hm := look_mem (show L.clT.lookup x = some cc from e)
    have a1 := of_decide_eq_true (List.all_eq_true.mp o2 _ hm)
    have g := He.glo_ok X M (fal (.inr (.inl (List.mem_map.mpr ⟨_, hm, rfl⟩))))
    show mg x = some (.ref (He.ga K (L.ca cc)))
    rw [a1]
    exact g
  · have hm := look_mem (show L.csT.lookup x = some v from e)
    have a1 := List.all_eq_true.mp o3 _ hm
    have g := fal (.inr (.inr (.inr (.inl (List.mem_map.mpr ⟨_, hm, rfl⟩)))))
    cases v with
    | int i =>
      obtain ⟨t, g⟩ := He.int_ok X M g
      exact ⟨_, .int i, g, ⟨t, rfl⟩, fun _ _ => .int i⟩
    | str z =>
      obtain ⟨t, g⟩ := He.str_ok X M g
      exact ⟨_, .str ⟨z.toArray⟩, g, ⟨t, rfl⟩, fun _ _ => .str z⟩
    | _ => cases a1
  · exact He.free_ok X M (fal (.inr (.inr (.inl (List.mem_map.mpr ⟨_, e, rfl⟩)))))
  · have hm := look_mem (show L.fnT.lookup x = some f from e)
    exact some_of (of_decide_eq_true (bas (List.all_eq_true.mp o1 _ hm)).2)
  · have hm := look_mem (show L.msl.lookup (cc, m) = some f from e)
    obtain ⟨a1, a2⟩ := bas (List.all_eq_true.mp o4 _ hm)
    have a1 := of_decide_eq_true a1
    have g1 := He.cls_ok (fal (.inr (.inr (.inr (.inr (.inr (.inl (List.mem_map.mpr ⟨_, hm, rfl⟩))))))))
    have g2 := He.meth_ok (fal (.inr (.inr (.inr (.inr (.inl (List.mem_map.mpr ⟨_, hm, rfl⟩)))))))
    refine ⟨g1, ?_, some_of (of_decide_eq_true a2)⟩
    show Meth K (He.ga K (L.ca cc)) (nmOf L.fdT m) (He.fAd K (L.at_ f))
    rw [a1]
    exact g2
  · have hm := look_mem (show L.inl.lookup cc = some f from e)
    obtain ⟨a1, a2⟩ := bas (List.all_eq_true.mp o5 _ hm)
    have a1 := of_decide_eq_true a1
    have g2 := He.mkr_ok (fal (.inr (.inr (.inr (.inr (.inr (.inr (.inr (.inl (List.mem_map.mpr ⟨_, hm, rfl⟩))))))))))
    refine ⟨?_, some_of (of_decide_eq_true a2)⟩
    show Mk K (He.ga K (L.ca cc)) (He.fAd K (L.at_ f))
    rw [a1]
    exact g2
  · obtain ⟨_, h2⟩ := nameIx_ok (show nameIx x L.fdT 0 = some f from e)
    show nmOf L.fdT f = x
    unfold nmOf
    rw [Nat.sub_zero] at h2
    rw [h2]
  · obtain ⟨f, e⟩ := Option.isSome_iff_exists.mp e
    have hm := look_mem (show L.inl.lookup cc = some f from e)
    refine ⟨He.cls_ok (fal (.inr (.inr (.inr (.inr (.inr (.inr (.inl (List.mem_map.mpr ⟨_, hm, rfl⟩))))))))), fun g hg => ?_⟩
    refine He.noat_ok (fal (.inr (.inr (.inr (.inr (.inr (.inr (.inr (.inr (List.mem_flatMap.mpr ⟨_, hm, List.mem_map.mpr ⟨g, ?_, rfl⟩⟩))))))))))
    exact List.contains_iff_mem.mp hg
theorem len1 {us : List Value} (h : us.length = 1) : ∃ a, us = [a] := match us, h with | [a], _ => ⟨a, rfl⟩
theorem len2 {us : List Value} (h : us.length = 2) : ∃ a b, us = [a, b] := match us, h with | [a, b], _ => ⟨a, b, rfl⟩
theorem len3 {us : List Value} (h : us.length = 3) : ∃ a b c, us = [a, b, c] := match us, h with | [a, b, c], _ => ⟨a, b, c, rfl⟩
theorem len4 {us : List Value} (h : us.length = 4) : ∃ a b c d, us = [a, b, c, d] := match us, h with | [a, b, c, d], _ => ⟨a, b, c, d, rfl⟩
theorem len5 {us : List Value} (h : us.length = 5) : ∃ a b c d e, us = [a, b, c, d, e] := match us, h with | [a, b, c, d, e], _ => ⟨a, b, c, d, e, rfl⟩
theorem len6 {us : List Value} (h : us.length = 6) : ∃ a b c d e f, us = [a, b, c, d, e, f] := match us, h with | [a, b, c, d, e, f], _ => ⟨a, b, c, d, e, f, rfl⟩
theorem len0 {us : List Value} (h : us.length = 0) : us = [] := match us, h with | [], _ => rfl
/-- the law's promise, from what the little language answers -/
theorem Lw.law (ok : L.ok = true) (c : He.SaysD L.fal L.hl K) (X : K.In h) (M : h.Ns mainGlobals mg) {n : Nat} (ck : ∀ f fn, L.fns f = some fn → f ∈ L.okl ∧ ckD L.tab n (L.DD f) fn = true)
    (bi : ∀ i ∈ L.okl, ∀ fd, FunD K (L.DD i).x (L.DD i).qual (defArgs (L.DD i).st) (defBody (L.DD i).st) (defScope (L.DD i).st) [] [] (He.fAd K (L.at_ i)) fd → Binds K fd (L.DD i).ps []) (d : Nat) : FS (L.ge prog w K mg base) d :=
  fs_ok (L.gf ok c X M) L.DD n (fun f fn e => by
    obtain ⟨h1, h2⟩ := ck f fn e
    obtain ⟨fd, F⟩ := L.fund c h1
    exact ⟨h2, fd, F, bi f h1 fd F⟩) d
/-- what the law's def is asked -/
def spLaw (K : PySem.W.Frag) (m : Nat) : Sp := fun vs H Q _ => ∃ (a : Addr) (ns : List Int), vs = [.ref a] ∧ ns.length ≤ m ∧ SqL K H a (ns.map V.int) ∧ ∀ H', Q (.bl true) H'
theorem rvs_ints {G : GE} {W : Wd} {H : Hp} : ∀ ns : List Int, RVs G W H (pvs ns) (ns.map V.int)
  | [] => .nil
  | n :: ns => .cons (.int n) (rvs_ints ns)
theorem law_sp {G : GE} {d f m : Nat} {fn : Hc.Fn} (hf : G.pg.fn f = some fn) (h1 : fn.ps = 1) (run : ∀ ns : List Int, ns.length ≤ m → ∃ n, (ev G.pg n).f 0 d f [.lst (pvs ns)] [] = .ok (.bl true) []) {vs : List V} {H : Hp} {Q : VK} {E : XK} (h : spLaw G.K m vs H Q E) : spF G d f vs H Q E := by
  obtain ⟨a, ns, rfl, hl, hS, q⟩ := h
  obtain ⟨n, e⟩ := run ns hl
  refine ⟨⟨fun b => b = a ∧ H a ≠ none, []⟩, [], 0, [.lst (pvs ns)], n, fn, hf, ⟨rfl, List.nodup_nil, fun n io b e => by simp at e, fun b _ => by simp, fun b ⟨e1, e2⟩ => by rw [e1]; exact e2⟩, .cons (.lst ?_ (rvs_ints ns)) .nil, by rw [h1]; rfl, ?_⟩
  · rcases hS with hS | hS
    · refine .inl ⟨⟨rfl, ?_⟩, hS⟩
      rcases hS with hS | ⟨o, hS⟩ <;> (rw [hS]; exact fun z => nomatch z)
    · exact .inr hS
  · rw [e]
    intro W' H' _ _ x rx
    cases rx
    exact q H'
/-- the law's def keeps its promise -/
theorem Lw.head (ok : L.ok = true) (c : He.SaysD L.fal L.hl K) (X : K.In h) (M : h.Ns mainGlobals mg) {n f d m N : Nat} {fn : Hc.Fn} {x : Str} (ck : ∀ f fn, L.fns f = some fn → f ∈ L.okl ∧ ckD L.tab n (L.DD f) fn = true)
    (bi : ∀ i ∈ L.okl, ∀ fd, FunD K (L.DD i).x (L.DD i).qual (defArgs (L.DD i).st) (defBody (L.DD i).st) (defScope (L.DD i).st) [] [] (He.fAd K (L.at_ i)) fd → Binds K fd (L.DD i).ps [])
    (hf : L.fns f = some fn) (hp : (L.DD f).ps = [x]) (h1 : fn.ps = 1) (run : ∀ ns : List Int, (ev L.pg N).f 0 d f [.lst (pvs ns)] [] = .ok (.bl true) [])
    (hbd : ∀ fd, FunD K (L.DD f).x (L.DD f).qual (defArgs (L.DD f).st) (defBody (L.DD f).st) (defScope (L.DD f).st) [] [] (He.fAd K (L.at_ f)) fd → ∀ (s : Shared) (v : Value), BindsTo s fd ⟨[v], []⟩ [(x, v)]) :
    ∃ fd : FuncData, (∀ (s : Shared) (v : Value), BindsTo s fd ⟨[v], []⟩ [(x, v)]) ∧ ∀ base : Heap, FnOk prog w K mg base CX0 d (He.fAd K (L.at_ f)) fd [x] (spLaw K m) := by
  obtain ⟨hi, hc⟩ := ck f fn hf
  obtain ⟨fd, F⟩ := L.fund c hi
  refine ⟨fd, hbd fd F, fun base => ?_⟩
  have o := fs_step (G := L.ge prog w K mg base) (d := d) (L.gf ok c X M) hf hc F (fun d' _ => L.law ok c X M ck bi d')
  rw [hp] at o
  exact o.imp fun vs H Q E h => law_sp (G := L.ge prog w K mg base) hf h1 (fun ns _ => ⟨N, run ns⟩) h
end
end Hc

set_option maxHeartbeats 0
namespace K14
open PySem PySem.Spec PyProof.Rows L2 Hc
abbrev RR : PySem.W.OpenLaw := PySem.Challenge.rw_helpedcalls_k14_across_in_step
def top (i : Nat) : Stmt := PySem.Challenge.pw_helpedcalls_k14_across_in_step.main.body.getD i (.Pass ⟨0, 0, 0, 0⟩)
def names0 : List (PySem.Str) := [⟨#[83, 104, 97, 114, 101, 100, 69, 114, 114, 111, 114]⟩, ⟨#[66, 97, 100, 79, 98, 106, 101, 99, 116]⟩, ⟨#[66, 97, 100, 72, 105, 115, 116, 111, 114, 121]⟩, ⟨#[66, 97, 100, 79, 114, 100, 101, 114, 115]⟩, ⟨#[77, 79, 83, 84, 95, 86, 65, 76, 85, 69, 83]⟩, ⟨#[77, 79, 83, 84, 95, 82, 79, 79, 77]⟩, ⟨#[105, 115, 95, 115, 109, 97, 108, 108]⟩, ⟨#[105, 115, 95, 116, 97, 98, 108, 101]⟩, ⟨#[105, 115, 95, 98, 97, 110, 107]⟩, ⟨#[105, 115, 95, 107, 105, 110, 100]⟩, ⟨#[102, 105, 114, 115, 116, 95, 105, 110]⟩, ⟨#[99, 97, 108, 108, 115, 95, 105, 110]⟩]
def names1 : List (PySem.Str) := [⟨#[98, 97, 110, 107, 95, 99, 97, 108, 108, 115]⟩, ⟨#[97, 112, 112, 108, 105, 101, 100, 95, 105, 110]⟩, ⟨#[111, 110, 95, 115, 116, 97, 99, 107]⟩, ⟨#[111, 110, 95, 113, 117, 101, 117, 101]⟩, ⟨#[111, 110, 95, 115, 101, 116]⟩, ⟨#[111, 110, 95, 98, 97, 110, 107]⟩, ⟨#[110, 101, 101, 100, 95, 111, 98, 106, 101, 99, 116]⟩, ⟨#[105, 115, 95, 111, 98, 106, 101, 99, 116]⟩, ⟨#[105, 115, 95, 112, 108, 97, 105, 110, 95, 116, 117, 112, 108, 101]⟩, ⟨#[105, 115, 95, 99, 97, 108, 108, 95, 111, 102]⟩, ⟨#[105, 115, 95, 115, 97, 109, 101]⟩, ⟨#[77, 79, 83, 84, 95, 69, 86, 69, 78, 84, 83]⟩]
def names2 : List (PySem.Str) := [⟨#[77, 79, 83, 84, 95, 84, 72, 82, 69, 65, 68, 83]⟩, ⟨#[105, 115, 95, 97, 110, 115, 119, 101, 114]⟩, ⟨#[105, 115, 95, 101, 118, 101, 110, 116]⟩, ⟨#[119, 114, 111, 110, 103, 95, 101, 118, 101, 110, 116]⟩, ⟨#[110, 101, 101, 100, 95, 104, 105, 115, 116, 111, 114, 121]⟩, ⟨#[115, 112, 97, 110, 115, 95, 111, 102]⟩, ⟨#[105, 115, 95, 97, 104, 101, 97, 100]⟩, ⟨#[102, 105, 116, 115]⟩, ⟨#[69, 120, 112, 108, 97, 105, 110, 101, 114]⟩, ⟨#[105, 115, 95, 111, 114, 100, 101, 114]⟩, ⟨#[100, 111, 101, 115, 95, 101, 120, 112, 108, 97, 105, 110]⟩, ⟨#[101, 120, 112, 108, 97, 105, 110, 101, 100]⟩]
def names3 : List (PySem.Str) := [⟨#[111, 114, 100, 101, 114, 95, 99, 111, 117, 110, 116]⟩, ⟨#[102, 105, 114, 115, 116, 95, 119, 114, 111, 110, 103]⟩, ⟨#[105, 110, 95, 115, 116, 101, 112]⟩, ⟨#[110, 101, 101, 100, 95, 111, 98, 106, 101, 99, 116, 115]⟩, ⟨#[105, 115, 95, 119, 105, 100, 101]⟩, ⟨#[112, 97, 114, 116, 115, 95, 111, 102]⟩, ⟨#[119, 114, 111, 110, 103, 95, 119, 105, 100, 101]⟩, ⟨#[110, 101, 101, 100, 95, 119, 105, 100, 101]⟩, ⟨#[105, 115, 95, 119, 105, 100, 101, 95, 104, 105, 115, 116, 111, 114, 121]⟩, ⟨#[112, 97, 114, 116, 115]⟩, ⟨#[119, 105, 100, 101, 95, 115, 112, 97, 110, 115]⟩, ⟨#[112, 108, 97, 99, 101, 115, 95, 111, 102]⟩]
def names4 : List (PySem.Str) := [⟨#[105, 115, 95, 114, 101, 97, 100, 121]⟩, ⟨#[119, 111, 118, 101, 110]⟩, ⟨#[101, 120, 112, 108, 97, 105, 110, 101, 100, 95, 97, 108, 108]⟩, ⟨#[105, 110, 95, 115, 116, 101, 112, 95, 97, 108, 108]⟩, ⟨#[108, 97, 116, 101, 114, 95, 115, 116, 97, 116, 101, 115]⟩, ⟨#[102, 111, 117, 110, 100, 95, 105, 110, 95, 115, 116, 101, 112]⟩, ⟨#[95, 108, 97, 119, 95, 116, 97, 107, 101, 110]⟩, ⟨#[95, 108, 97, 119, 95, 112, 105, 99, 107]⟩, ⟨#[95, 108, 97, 119, 95, 97, 108, 105, 107, 101]⟩]
def names : List (PySem.Str) := names0 ++ names1 ++ names2 ++ names3 ++ names4
def fn_is_small : Fn := ⟨3, 3, true,
   [(.ret (.and (.bi 1 [(.var 0)]) (.and (.not (.bi 2 [(.var 0)])) (.chn 3 3 (.var 1) (.var 0) (.var 2)))))]⟩
def st_1 : Stmt := top 8
def N_1_0 : List (PySem.Str) := [⟨#[118, 97, 108, 117, 101]⟩, ⟨#[108, 111, 119]⟩, ⟨#[104, 105, 103, 104]⟩]
def N_1_ : List (PySem.Str) := N_1_0
def P_1_0 : List (PySem.Str) := [⟨#[118, 97, 108, 117, 101]⟩, ⟨#[108, 111, 119]⟩, ⟨#[104, 105, 103, 104]⟩]
def P_1_ : List (PySem.Str) := P_1_0
def D_1 : DefC := ⟨⟨#[105, 115, 95, 115, 109, 97, 108, 108]⟩, ⟨#[105, 115, 95, 115, 109, 97, 108, 108]⟩, st_1, N_1_, P_1_⟩
def A_1 : PySem.Str × Option PySem.Str := (⟨#[105, 115, 95, 115, 109, 97, 108, 108]⟩, none)
def fn_is_table : Fn := ⟨1, 3, true,
   [(.cond (.or (.not (.bi 4 [(.var 0)])) (.not (.chn 3 3 (.cst (.int 1)) (.bi 0 [(.var 0)]) (.cst (.int 6))))) [(.ret (.cst (.bl false)))] []),
    (.forr (.nm 1) (.var 0) [(.cond (.or (.not (.bi 4 [(.var 1)])) (.not (.chn 3 3 (.cst (.int 1)) (.bi 0 [(.var 1)]) (.cst (.int 4))))) [(.ret (.cst (.bl false)))] []),
    (.cond (.or (.not (.bi 4 [(.sub (.var 0) (.cst (.int 0)))])) (.cmp 1 (.bi 0 [(.var 1)]) (.bi 0 [(.sub (.var 0) (.cst (.int 0)))]))) [(.ret (.cst (.bl false)))] []),
    (.forr (.nm 2) (.var 1) [(.cond (.or (.not (.bi 4 [(.var 2)])) (.or (.cmp 1 (.bi 0 [(.var 2)]) (.cst (.int 2))) (.not (.call 1 [(.sub (.var 2) (.cst (.int 0))), (.cst (.int 0)), (.bin 1 (.bi 0 [(.var 0)]) (.cst (.int 1)))])))) [(.ret (.cst (.bl false)))] []),
    (.cond (.not (.call 1 [(.sub (.var 2) (.cst (.int 1))), (.cst (.int 0)), (.cst (.int 9))])) [(.ret (.cst (.bl false)))] [])])]),
    (.ret (.cst (.bl true)))]⟩
def st_2 : Stmt := top 9
def N_2_0 : List (PySem.Str) := [⟨#[114, 111, 119, 115]⟩, ⟨#[114, 111, 119]⟩, ⟨#[111, 110, 101]⟩]
def N_2_ : List (PySem.Str) := N_2_0
def P_2_0 : List (PySem.Str) := [⟨#[114, 111, 119, 115]⟩]
def P_2_ : List (PySem.Str) := P_2_0
def D_2 : DefC := ⟨⟨#[105, 115, 95, 116, 97, 98, 108, 101]⟩, ⟨#[105, 115, 95, 116, 97, 98, 108, 101]⟩, st_2, N_2_, P_2_⟩
def A_2 : PySem.Str × Option PySem.Str := (⟨#[105, 115, 95, 116, 97, 98, 108, 101]⟩, none)
def fn_is_bank : Fn := ⟨1, 2, true,
   [(.ret (.and (.bi 4 [(.var 0)]) (.and (.chn 3 3 (.cst (.int 2)) (.bi 0 [(.var 0)]) (.cst (.int 3))) (.bi 10 [(.cmp1 (.call 1 [(.var 1), (.cst (.int 0)), (.cst (.int 5))]) (.nm 1) (.var 0) [] [1])]))))]⟩
def st_3 : Stmt := top 10
def N_3_0 : List (PySem.Str) := [⟨#[102, 105, 114, 115, 116]⟩, ⟨#[111, 110, 101]⟩]
def N_3_ : List (PySem.Str) := N_3_0
def P_3_0 : List (PySem.Str) := [⟨#[102, 105, 114, 115, 116]⟩]
def P_3_ : List (PySem.Str) := P_3_0
def D_3 : DefC := ⟨⟨#[105, 115, 95, 98, 97, 110, 107]⟩, ⟨#[105, 115, 95, 98, 97, 110, 107]⟩, st_3, N_3_, P_3_⟩
def A_3 : PySem.Str × Option PySem.Str := (⟨#[105, 115, 95, 98, 97, 110, 107]⟩, none)
def fn_is_kind : Fn := ⟨1, 2, true,
   [(.cond (.or (.not (.bi 4 [(.var 0)])) (.or (.cmp 2 (.bi 0 [(.var 0)]) (.cst (.int 2))) (.not (.bi 3 [(.sub (.var 0) (.cst (.int 0)))])))) [(.ret (.cst (.bl false)))] []),
    (.set (.nm 1) (.sub (.var 0) (.cst (.int 0)))),
    (.cond (.cmp 8 (.var 1) (.tup [(.cst (.str [99, 111, 117, 110, 116, 101, 114])), (.cst (.str [114, 101, 103, 105, 115, 116, 101, 114])), (.cst (.str [115, 101, 116])), (.cst (.str [97, 103, 114, 101, 101]))])) [(.ret (.and (.cmp 0 (.bi 0 [(.var 0)]) (.cst (.int 2))) (.call 1 [(.sub (.var 0) (.cst (.int 1))), (.cst (.int 2)), (.cst (.int 5))])))] []),
    (.cond (.cmp 8 (.var 1) (.tup [(.cst (.str [115, 116, 97, 99, 107])), (.cst (.str [113, 117, 101, 117, 101]))])) [(.ret (.and (.cmp 0 (.bi 0 [(.var 0)]) (.cst (.int 3))) (.and (.call 1 [(.sub (.var 0) (.cst (.int 1))), (.cst (.int 1)), (.cst (.int 3))]) (.call 1 [(.sub (.var 0) (.cst (.int 2))), (.cst (.int 1)), (.cst (.int 3))]))))] []),
    (.cond (.cmp 0 (.var 1) (.cst (.str [98, 97, 110, 107]))) [(.ret (.and (.cmp 0 (.bi 0 [(.var 0)]) (.cst (.int 2))) (.call 3 [(.sub (.var 0) (.cst (.int 1)))])))] []),
    (.ret (.and (.cmp 0 (.var 1) (.cst (.str [116, 97, 98, 108, 101]))) (.and (.cmp 0 (.bi 0 [(.var 0)]) (.cst (.int 2))) (.call 2 [(.sub (.var 0) (.cst (.int 1)))]))))]⟩
def st_4 : Stmt := top 11
def N_4_0 : List (PySem.Str) := [⟨#[118, 97, 108, 117, 101]⟩, ⟨#[110, 97, 109, 101]⟩]
def N_4_ : List (PySem.Str) := N_4_0
def P_4_0 : List (PySem.Str) := [⟨#[118, 97, 108, 117, 101]⟩]
def P_4_ : List (PySem.Str) := P_4_0
def D_4 : DefC := ⟨⟨#[105, 115, 95, 107, 105, 110, 100]⟩, ⟨#[105, 115, 95, 107, 105, 110, 100]⟩, st_4, N_4_, P_4_⟩
def A_4 : PySem.Str × Option PySem.Str := (⟨#[105, 115, 95, 107, 105, 110, 100]⟩, none)
def fn_first_in : Fn := ⟨1, 2, true,
   [(.set (.nm 1) (.sub (.var 0) (.cst (.int 0)))),
    (.cond (.cmp 8 (.var 1) (.tup [(.cst (.str [99, 111, 117, 110, 116, 101, 114])), (.cst (.str [114, 101, 103, 105, 115, 116, 101, 114])), (.cst (.str [116, 97, 98, 108, 101]))])) [(.ret (.cst (.int 0)))] []),
    (.cond (.cmp 0 (.var 1) (.cst (.str [97, 103, 114, 101, 101]))) [(.ret (.cst .non))] []),
    (.ret (.ite (.cmp 0 (.var 1) (.cst (.str [98, 97, 110, 107]))) (.sub (.var 0) (.cst (.int 1))) (.tup [])))]⟩
def st_5 : Stmt := top 12
def N_5_0 : List (PySem.Str) := [⟨#[116, 104, 105, 110, 103]⟩, ⟨#[110, 97, 109, 101]⟩]
def N_5_ : List (PySem.Str) := N_5_0
def P_5_0 : List (PySem.Str) := [⟨#[116, 104, 105, 110, 103]⟩]
def P_5_ : List (PySem.Str) := P_5_0
def D_5 : DefC := ⟨⟨#[102, 105, 114, 115, 116, 95, 105, 110]⟩, ⟨#[102, 105, 114, 115, 116, 95, 105, 110]⟩, st_5, N_5_, P_5_⟩
def A_5 : PySem.Str × Option PySem.Str := (⟨#[102, 105, 114, 115, 116, 95, 105, 110]⟩, none)
def fn_calls_in : Fn := ⟨1, 4, true,
   [(.set (.nm 1) (.sub (.var 0) (.cst (.int 0)))),
    (.cond (.cmp 0 (.var 1) (.cst (.str [99, 111, 117, 110, 116, 101, 114]))) [(.ret (.bin 0 (.cmp1 (.tup [(.cst (.str [97, 100, 100])), (.var 2)]) (.nm 2) (.rng (.cst (.int 1)) (.sub (.var 0) (.cst (.int 1)))) [] [2]) (.lst [(.tup [(.cst (.str [108, 111, 111, 107]))])])))] []),
    (.cond (.cmp 0 (.var 1) (.cst (.str [114, 101, 103, 105, 115, 116, 101, 114]))) [(.ret (.bin 0 (.bin 0 (.lst [(.tup [(.cst (.str [108, 111, 111, 107]))])]) (.cmp1 (.tup [(.cst (.str [112, 117, 116])), (.var 2)]) (.nm 2) (.rng (.cst (.int 0)) (.sub (.var 0) (.cst (.int 1)))) [] [2])) (.cmp1 (.tup [(.cst (.str [116, 114, 97, 100, 101])), (.var 2)]) (.nm 2) (.rng (.cst (.int 0)) (.sub (.var 0) (.cst (.int 1)))) [] [2])))] []),
    (.cond (.cmp 0 (.var 1) (.cst (.str [115, 116, 97, 99, 107]))) [(.ret (.bin 0 (.cmp1 (.tup [(.cst (.str [112, 117, 115, 104])), (.var 2)]) (.nm 2) (.rng (.cst (.int 0)) (.sub (.var 0) (.cst (.int 2)))) [] [2]) (.lst [(.tup [(.cst (.str [112, 111, 112]))])])))] []),
    (.cond (.cmp 0 (.var 1) (.cst (.str [113, 117, 101, 117, 101]))) [(.ret (.bin 0 (.cmp1 (.tup [(.cst (.str [101, 110, 116, 101, 114])), (.var 2)]) (.nm 2) (.rng (.cst (.int 0)) (.sub (.var 0) (.cst (.int 2)))) [] [2]) (.lst [(.tup [(.cst (.str [108, 101, 97, 118, 101]))])])))] []),
    (.cond (.cmp 0 (.var 1) (.cst (.str [115, 101, 116]))) [(.ret (.cmp2 (.tup [(.var 3), (.var 2)]) (.nm 3) (.tup [(.cst (.str [97, 100, 100])), (.cst (.str [100, 114, 111, 112])), (.cst (.str [104, 97, 115]))]) [] (.nm 2) (.rng (.cst (.int 0)) (.sub (.var 0) (.cst (.int 1)))) [] [2, 3] [2]))] []),
    (.cond (.cmp 0 (.var 1) (.cst (.str [97, 103, 114, 101, 101]))) [(.ret (.cmp1 (.tup [(.cst (.str [100, 101, 99, 105, 100, 101])), (.var 2)]) (.nm 2) (.rng (.cst (.int 0)) (.sub (.var 0) (.cst (.int 1)))) [] [2]))] []),
    (.cond (.cmp 0 (.var 1) (.cst (.str [98, 97, 110, 107]))) [(.ret .stk)] []),
    (.ret (.cmp1 (.tup [(.cst (.str [100, 111])), (.var 2)]) (.nm 2) (.rng (.cst (.int 0)) (.bi 0 [(.sub (.sub (.var 0) (.cst (.int 1))) (.cst (.int 0)))])) [] [2]))]⟩
def st_6 : Stmt := top 13
def N_6_0 : List (PySem.Str) := [⟨#[116, 104, 105, 110, 103]⟩, ⟨#[110, 97, 109, 101]⟩, ⟨#[107]⟩, ⟨#[119, 111, 114, 100]⟩]
def N_6_ : List (PySem.Str) := N_6_0
def P_6_0 : List (PySem.Str) := [⟨#[116, 104, 105, 110, 103]⟩]
def P_6_ : List (PySem.Str) := P_6_0
def D_6 : DefC := ⟨⟨#[99, 97, 108, 108, 115, 95, 105, 110]⟩, ⟨#[99, 97, 108, 108, 115, 95, 105, 110]⟩, st_6, N_6_, P_6_⟩
def A_6 : PySem.Str × Option PySem.Str := (⟨#[99, 97, 108, 108, 115, 95, 105, 110]⟩, none)
def fn_applied_in : Fn := ⟨3, 4, true,
   [(.set (.nm 3) (.sub (.var 0) (.cst (.int 0)))),
    (.cond (.cmp 0 (.var 3) (.cst (.str [99, 111, 117, 110, 116, 101, 114]))) [(.ret (.ite (.cmp 0 (.sub (.var 2) (.cst (.int 0))) (.cst (.str [108, 111, 111, 107]))) (.tup [(.var 1), (.var 1)]) (.tup [(.bin 4 (.bin 0 (.var 1) (.sub (.var 2) (.cst (.int 1)))) (.sub (.var 0) (.cst (.int 1)))), (.var 1)])))] []),
    (.cond (.cmp 0 (.var 3) (.cst (.str [114, 101, 103, 105, 115, 116, 101, 114]))) [(.ret (.ite (.cmp 0 (.sub (.var 2) (.cst (.int 0))) (.cst (.str [108, 111, 111, 107]))) (.tup [(.var 1), (.var 1)]) (.tup [(.sub (.var 2) (.cst (.int 1))), (.ite (.cmp 0 (.sub (.var 2) (.cst (.int 0))) (.cst (.str [116, 114, 97, 100, 101]))) (.var 1) (.cst .non))])))] []),
    (.cond (.cmp 0 (.var 3) (.cst (.str [115, 116, 97, 99, 107]))) [(.ret (.call 9 [(.var 0), (.var 1), (.var 2)]))] []),
    (.cond (.cmp 0 (.var 3) (.cst (.str [113, 117, 101, 117, 101]))) [(.ret (.call 10 [(.var 0), (.var 1), (.var 2)]))] []),
    (.cond (.cmp 0 (.var 3) (.cst (.str [115, 101, 116]))) [(.ret (.call 11 [(.var 1), (.var 2)]))] []),
    (.cond (.cmp 0 (.var 3) (.cst (.str [97, 103, 114, 101, 101]))) [(.ret (.ite (.cmp 6 (.var 1) (.cst .non)) (.tup [(.sub (.var 2) (.cst (.int 1))), (.sub (.var 2) (.cst (.int 1)))]) (.tup [(.var 1), (.var 1)])))] []),
    (.cond (.cmp 0 (.var 3) (.cst (.str [98, 97, 110, 107]))) [(.ret .stk)] []),
    (.ret (.sub (.sub (.sub (.var 0) (.cst (.int 1))) (.var 1)) (.sub (.var 2) (.cst (.int 1)))))]⟩
def st_8 : Stmt := top 15
def N_8_0 : List (PySem.Str) := [⟨#[116, 104, 105, 110, 103]⟩, ⟨#[115, 116, 97, 116, 101]⟩, ⟨#[99, 97, 108, 108]⟩, ⟨#[110, 97, 109, 101]⟩]
def N_8_ : List (PySem.Str) := N_8_0
def P_8_0 : List (PySem.Str) := [⟨#[116, 104, 105, 110, 103]⟩, ⟨#[115, 116, 97, 116, 101]⟩, ⟨#[99, 97, 108, 108]⟩]
def P_8_ : List (PySem.Str) := P_8_0
def D_8 : DefC := ⟨⟨#[97, 112, 112, 108, 105, 101, 100, 95, 105, 110]⟩, ⟨#[97, 112, 112, 108, 105, 101, 100, 95, 105, 110]⟩, st_8, N_8_, P_8_⟩
def A_8 : PySem.Str × Option PySem.Str := (⟨#[97, 112, 112, 108, 105, 101, 100, 95, 105, 110]⟩, none)
def fn_on_stack : Fn := ⟨3, 3, true,
   [(.cond (.cmp 0 (.sub (.var 2) (.cst (.int 0))) (.cst (.str [112, 117, 115, 104]))) [(.ret (.ite (.cmp 0 (.bi 0 [(.var 1)]) (.sub (.var 0) (.cst (.int 1)))) (.tup [(.var 1), (.cst (.bl false))]) (.tup [(.tup [(.star (.var 1)), (.sub (.var 2) (.cst (.int 1)))]), (.cst (.bl true))])))] []),
    (.ret (.ite (.cmp 0 (.var 1) (.tup [])) (.tup [(.var 1), (.cst .non)]) (.tup [(.slc (.var 1) (.cst .non) (.cst (.int (-1)))), (.sub (.var 1) (.cst (.int (-1))))])))]⟩
def st_9 : Stmt := top 16
def N_9_0 : List (PySem.Str) := [⟨#[116, 104, 105, 110, 103]⟩, ⟨#[115, 116, 97, 116, 101]⟩, ⟨#[99, 97, 108, 108]⟩]
def N_9_ : List (PySem.Str) := N_9_0
def P_9_0 : List (PySem.Str) := [⟨#[116, 104, 105, 110, 103]⟩, ⟨#[115, 116, 97, 116, 101]⟩, ⟨#[99, 97, 108, 108]⟩]
def P_9_ : List (PySem.Str) := P_9_0
def D_9 : DefC := ⟨⟨#[111, 110, 95, 115, 116, 97, 99, 107]⟩, ⟨#[111, 110, 95, 115, 116, 97, 99, 107]⟩, st_9, N_9_, P_9_⟩
def A_9 : PySem.Str × Option PySem.Str := (⟨#[111, 110, 95, 115, 116, 97, 99, 107]⟩, none)
def fn_on_queue : Fn := ⟨3, 3, true,
   [(.cond (.cmp 0 (.sub (.var 2) (.cst (.int 0))) (.cst (.str [101, 110, 116, 101, 114]))) [(.ret (.ite (.cmp 0 (.bi 0 [(.var 1)]) (.sub (.var 0) (.cst (.int 1)))) (.tup [(.var 1), (.cst (.bl false))]) (.tup [(.tup [(.star (.var 1)), (.sub (.var 2) (.cst (.int 1)))]), (.cst (.bl true))])))] []),
    (.ret (.ite (.cmp 0 (.var 1) (.tup [])) (.tup [(.var 1), (.cst .non)]) (.tup [(.slc (.var 1) (.cst (.int 1)) (.cst .non)), (.sub (.var 1) (.cst (.int 0)))])))]⟩
def st_10 : Stmt := top 17
def N_10_0 : List (PySem.Str) := [⟨#[116, 104, 105, 110, 103]⟩, ⟨#[115, 116, 97, 116, 101]⟩, ⟨#[99, 97, 108, 108]⟩]
def N_10_ : List (PySem.Str) := N_10_0
def P_10_0 : List (PySem.Str) := [⟨#[116, 104, 105, 110, 103]⟩, ⟨#[115, 116, 97, 116, 101]⟩, ⟨#[99, 97, 108, 108]⟩]
def P_10_ : List (PySem.Str) := P_10_0
def D_10 : DefC := ⟨⟨#[111, 110, 95, 113, 117, 101, 117, 101]⟩, ⟨#[111, 110, 95, 113, 117, 101, 117, 101]⟩, st_10, N_10_, P_10_⟩
def A_10 : PySem.Str × Option PySem.Str := (⟨#[111, 110, 95, 113, 117, 101, 117, 101]⟩, none)
def fn_on_set : Fn := ⟨2, 4, true,
   [(.set (.nm 2) (.cmp 8 (.sub (.var 1) (.cst (.int 1))) (.var 0))),
    (.cond (.cmp 0 (.sub (.var 1) (.cst (.int 0))) (.cst (.str [104, 97, 115]))) [(.ret (.tup [(.var 0), (.var 2)]))] []),
    (.cond (.cmp 0 (.sub (.var 1) (.cst (.int 0))) (.cst (.str [97, 100, 100]))) [(.ret (.ite (.var 2) (.tup [(.var 0), (.cst (.bl false))]) (.tup [(.bi 8 [(.srt 0 (.lst [(.star (.var 0)), (.sub (.var 1) (.cst (.int 1)))]))]), (.cst (.bl true))])))] []),
    (.ret (.tup [(.bi 8 [(.cmp1 (.var 3) (.nm 3) (.var 0) [(.cmp 1 (.var 3) (.sub (.var 1) (.cst (.int 1))))] [3])]), (.var 2)]))]⟩
def st_11 : Stmt := top 18
def N_11_0 : List (PySem.Str) := [⟨#[115, 116, 97, 116, 101]⟩, ⟨#[99, 97, 108, 108]⟩, ⟨#[105, 115, 95, 105, 110]⟩, ⟨#[111, 110, 101]⟩]
def N_11_ : List (PySem.Str) := N_11_0
def P_11_0 : List (PySem.Str) := [⟨#[115, 116, 97, 116, 101]⟩, ⟨#[99, 97, 108, 108]⟩]
def P_11_ : List (PySem.Str) := P_11_0
def D_11 : DefC := ⟨⟨#[111, 110, 95, 115, 101, 116]⟩, ⟨#[111, 110, 95, 115, 101, 116]⟩, st_11, N_11_, P_11_⟩
def A_11 : PySem.Str × Option PySem.Str := (⟨#[111, 110, 95, 115, 101, 116]⟩, none)
def fn_need_object : Fn := ⟨1, 1, true,
   [(.cond (.not (.call 4 [(.var 0)])) [(.rais 1 [])] [])]⟩
def st_13 : Stmt := top 21
def N_13_0 : List (PySem.Str) := [⟨#[118, 97, 108, 117, 101]⟩]
def N_13_ : List (PySem.Str) := N_13_0
def P_13_0 : List (PySem.Str) := [⟨#[118, 97, 108, 117, 101]⟩]
def P_13_ : List (PySem.Str) := P_13_0
def D_13 : DefC := ⟨⟨#[110, 101, 101, 100, 95, 111, 98, 106, 101, 99, 116]⟩, ⟨#[110, 101, 101, 100, 95, 111, 98, 106, 101, 99, 116]⟩, st_13, N_13_, P_13_⟩
def A_13 : PySem.Str × Option PySem.Str := (⟨#[110, 101, 101, 100, 95, 111, 98, 106, 101, 99, 116]⟩, none)
def fn_is_object : Fn := ⟨1, 1, true,
   [(.ret (.call 4 [(.var 0)]))]⟩
def st_14 : Stmt := top 22
def N_14_0 : List (PySem.Str) := [⟨#[118, 97, 108, 117, 101]⟩]
def N_14_ : List (PySem.Str) := N_14_0
def P_14_0 : List (PySem.Str) := [⟨#[118, 97, 108, 117, 101]⟩]
def P_14_ : List (PySem.Str) := P_14_0
def D_14 : DefC := ⟨⟨#[105, 115, 95, 111, 98, 106, 101, 99, 116]⟩, ⟨#[105, 115, 95, 111, 98, 106, 101, 99, 116]⟩, st_14, N_14_, P_14_⟩
def A_14 : PySem.Str × Option PySem.Str := (⟨#[105, 115, 95, 111, 98, 106, 101, 99, 116]⟩, none)
def fn_is_plain_tuple : Fn := ⟨1, 2, true,
   [(.cond (.or (.not (.bi 4 [(.var 0)])) (.or (.cmp 0 (.bi 0 [(.var 0)]) (.cst (.int 0))) (.not (.bi 3 [(.sub (.var 0) (.cst (.int 0)))])))) [(.ret (.cst (.bl false)))] []),
    (.ret (.bi 10 [(.cmp1 (.and (.bi 1 [(.var 1)]) (.not (.bi 2 [(.var 1)]))) (.nm 1) (.slc (.var 0) (.cst (.int 1)) (.cst .non)) [] [1])]))]⟩
def st_15 : Stmt := top 23
def N_15_0 : List (PySem.Str) := [⟨#[118, 97, 108, 117, 101]⟩, ⟨#[111, 110, 101]⟩]
def N_15_ : List (PySem.Str) := N_15_0
def P_15_0 : List (PySem.Str) := [⟨#[118, 97, 108, 117, 101]⟩]
def P_15_ : List (PySem.Str) := P_15_0
def D_15 : DefC := ⟨⟨#[105, 115, 95, 112, 108, 97, 105, 110, 95, 116, 117, 112, 108, 101]⟩, ⟨#[105, 115, 95, 112, 108, 97, 105, 110, 95, 116, 117, 112, 108, 101]⟩, st_15, N_15_, P_15_⟩
def A_15 : PySem.Str × Option PySem.Str := (⟨#[105, 115, 95, 112, 108, 97, 105, 110, 95, 116, 117, 112, 108, 101]⟩, none)
def fn_is_call_of : Fn := ⟨2, 2, true,
   [(.ret (.and (.call 15 [(.var 1)]) (.cmp 8 (.var 1) (.call 6 [(.var 0)]))))]⟩
def st_16 : Stmt := top 24
def N_16_0 : List (PySem.Str) := [⟨#[116, 104, 105, 110, 103]⟩, ⟨#[118, 97, 108, 117, 101]⟩]
def N_16_ : List (PySem.Str) := N_16_0
def P_16_0 : List (PySem.Str) := [⟨#[116, 104, 105, 110, 103]⟩, ⟨#[118, 97, 108, 117, 101]⟩]
def P_16_ : List (PySem.Str) := P_16_0
def D_16 : DefC := ⟨⟨#[105, 115, 95, 99, 97, 108, 108, 95, 111, 102]⟩, ⟨#[105, 115, 95, 99, 97, 108, 108, 95, 111, 102]⟩, st_16, N_16_, P_16_⟩
def A_16 : PySem.Str × Option PySem.Str := (⟨#[105, 115, 95, 99, 97, 108, 108, 95, 111, 102]⟩, none)
def fn_is_same : Fn := ⟨2, 3, true,
   [(.cond (.and (.bi 4 [(.var 0)]) (.bi 4 [(.var 1)])) [(.ret (.and (.cmp 0 (.bi 0 [(.var 0)]) (.bi 0 [(.var 1)])) (.bi 10 [(.cmp1 (.call 17 [(.sub (.var 0) (.var 2)), (.sub (.var 1) (.var 2))]) (.nm 2) (.rng (.cst (.int 0)) (.bi 0 [(.var 0)])) [] [2])])))] []),
    (.cond (.or (.cmp 6 (.var 0) (.cst .non)) (.cmp 6 (.var 1) (.cst .non))) [(.ret (.and (.cmp 6 (.var 0) (.cst .non)) (.cmp 6 (.var 1) (.cst .non))))] []),
    (.cond (.or (.bi 3 [(.var 0)]) (.bi 3 [(.var 1)])) [(.ret (.and (.bi 3 [(.var 0)]) (.and (.bi 3 [(.var 1)]) (.cmp 0 (.var 0) (.var 1)))))] []),
    (.cond (.or (.not (.bi 1 [(.var 0)])) (.not (.bi 1 [(.var 1)]))) [(.ret (.cst (.bl false)))] []),
    (.ret (.and (.cmp 0 (.bi 2 [(.var 0)]) (.bi 2 [(.var 1)])) (.cmp 0 (.var 0) (.var 1))))]⟩
def st_17 : Stmt := top 25
def N_17_0 : List (PySem.Str) := [⟨#[111, 110, 101]⟩, ⟨#[111, 116, 104, 101, 114]⟩, ⟨#[107]⟩]
def N_17_ : List (PySem.Str) := N_17_0
def P_17_0 : List (PySem.Str) := [⟨#[111, 110, 101]⟩, ⟨#[111, 116, 104, 101, 114]⟩]
def P_17_ : List (PySem.Str) := P_17_0
def D_17 : DefC := ⟨⟨#[105, 115, 95, 115, 97, 109, 101]⟩, ⟨#[105, 115, 95, 115, 97, 109, 101]⟩, st_17, N_17_, P_17_⟩
def A_17 : PySem.Str × Option PySem.Str := (⟨#[105, 115, 95, 115, 97, 109, 101]⟩, none)
def fn_is_answer : Fn := ⟨1, 1, true,
   [(.ret (.or (.cmp 6 (.var 0) (.cst .non)) (.bi 1 [(.var 0)])))]⟩
def st_18 : Stmt := top 29
def N_18_0 : List (PySem.Str) := [⟨#[118, 97, 108, 117, 101]⟩]
def N_18_ : List (PySem.Str) := N_18_0
def P_18_0 : List (PySem.Str) := [⟨#[118, 97, 108, 117, 101]⟩]
def P_18_ : List (PySem.Str) := P_18_0
def D_18 : DefC := ⟨⟨#[105, 115, 95, 97, 110, 115, 119, 101, 114]⟩, ⟨#[105, 115, 95, 97, 110, 115, 119, 101, 114]⟩, st_18, N_18_, P_18_⟩
def A_18 : PySem.Str × Option PySem.Str := (⟨#[105, 115, 95, 97, 110, 115, 119, 101, 114]⟩, none)
def fn_is_event : Fn := ⟨1, 1, true,
   [(.cond (.or (.not (.bi 4 [(.var 0)])) (.or (.cmp 1 (.bi 0 [(.var 0)]) (.cst (.int 3))) (.not (.bi 3 [(.sub (.var 0) (.cst (.int 0)))])))) [(.ret (.cst (.bl false)))] []),
    (.ret (.and (.cmp 8 (.sub (.var 0) (.cst (.int 0))) (.tup [(.cst (.str [99, 97, 108, 108])), (.cst (.str [97, 110, 115, 119, 101, 114]))])) (.call 1 [(.sub (.var 0) (.cst (.int 1))), (.cst (.int 0)), (.bin 1 (.cst (.int 4)) (.cst (.int 1)))])))]⟩
def st_19 : Stmt := top 30
def N_19_0 : List (PySem.Str) := [⟨#[118, 97, 108, 117, 101]⟩]
def N_19_ : List (PySem.Str) := N_19_0
def P_19_0 : List (PySem.Str) := [⟨#[118, 97, 108, 117, 101]⟩]
def P_19_ : List (PySem.Str) := P_19_0
def D_19 : DefC := ⟨⟨#[105, 115, 95, 101, 118, 101, 110, 116]⟩, ⟨#[105, 115, 95, 101, 118, 101, 110, 116]⟩, st_19, N_19_, P_19_⟩
def A_19 : PySem.Str × Option PySem.Str := (⟨#[105, 115, 95, 101, 118, 101, 110, 116]⟩, none)
def fn_wrong_event : Fn := ⟨2, 6, true,
   [(.seto 2 (.dct [] [])),
    (.forr (.nm 3) (.rng (.cst (.int 0)) (.bi 0 [(.var 1)])) [(.set (.nm 4) (.sub (.var 1) (.var 3))),
    (.cond (.or (.not (.call 19 [(.var 4)])) (.cmp 5 (.var 3) (.cst (.int 24)))) [(.ret (.var 3))] []),
    (.set (.nm 5) (.bm 1 (.own 2) [(.sub (.var 4) (.cst (.int 1))), (.cst (.bl false))])),
    (.cond (.and (.cmp 0 (.sub (.var 4) (.cst (.int 0))) (.cst (.str [99, 97, 108, 108]))) (.or (.var 5) (.not (.call 16 [(.var 0), (.sub (.var 4) (.cst (.int 2)))])))) [(.ret (.var 3))] []),
    (.cond (.and (.cmp 0 (.sub (.var 4) (.cst (.int 0))) (.cst (.str [97, 110, 115, 119, 101, 114]))) (.or (.not (.var 5)) (.not (.call 18 [(.sub (.var 4) (.cst (.int 2)))])))) [(.ret (.var 3))] []),
    (.put 2 (.sub (.var 4) (.cst (.int 1))) (.cmp 0 (.sub (.var 4) (.cst (.int 0))) (.cst (.str [99, 97, 108, 108]))))]),
    (.ret (.cst .non))]⟩
def st_20 : Stmt := top 31
def N_20_0 : List (PySem.Str) := [⟨#[116, 104, 105, 110, 103]⟩, ⟨#[104, 105, 115, 116, 111, 114, 121]⟩, ⟨#[98, 117, 115, 121]⟩, ⟨#[97, 116]⟩, ⟨#[101, 118, 101, 110, 116]⟩, ⟨#[105, 115, 95, 98, 117, 115, 121]⟩]
def N_20_ : List (PySem.Str) := N_20_0
def P_20_0 : List (PySem.Str) := [⟨#[116, 104, 105, 110, 103]⟩, ⟨#[104, 105, 115, 116, 111, 114, 121]⟩]
def P_20_ : List (PySem.Str) := P_20_0
def D_20 : DefC := ⟨⟨#[119, 114, 111, 110, 103, 95, 101, 118, 101, 110, 116]⟩, ⟨#[119, 114, 111, 110, 103, 95, 101, 118, 101, 110, 116]⟩, st_20, N_20_, P_20_⟩
def A_20 : PySem.Str × Option PySem.Str := (⟨#[119, 114, 111, 110, 103, 95, 101, 118, 101, 110, 116]⟩, none)
def fn_need_history : Fn := ⟨2, 3, true,
   [(.expr (.call 13 [(.var 0)])),
    (.cond (.not (.bi 4 [(.var 1)])) [(.rais 2 [(.cst .non)])] []),
    (.set (.nm 2) (.call 20 [(.var 0), (.var 1)])),
    (.cond (.cmp 7 (.var 2) (.cst .non)) [(.rais 2 [(.var 2)])] [])]⟩
def st_21 : Stmt := top 32
def N_21_0 : List (PySem.Str) := [⟨#[116, 104, 105, 110, 103]⟩, ⟨#[104, 105, 115, 116, 111, 114, 121]⟩, ⟨#[97, 116]⟩]
def N_21_ : List (PySem.Str) := N_21_0
def P_21_0 : List (PySem.Str) := [⟨#[116, 104, 105, 110, 103]⟩, ⟨#[104, 105, 115, 116, 111, 114, 121]⟩]
def P_21_ : List (PySem.Str) := P_21_0
def D_21 : DefC := ⟨⟨#[110, 101, 101, 100, 95, 104, 105, 115, 116, 111, 114, 121]⟩, ⟨#[110, 101, 101, 100, 95, 104, 105, 115, 116, 111, 114, 121]⟩, st_21, N_21_, P_21_⟩
def A_21 : PySem.Str × Option PySem.Str := (⟨#[110, 101, 101, 100, 95, 104, 105, 115, 116, 111, 114, 121]⟩, none)
def fn_spans_of : Fn := ⟨1, 7, true,
   [(.par [(2, true), (3, true)] [(.lst []), (.dct [] [])]),
    (.forr (.nm 1) (.rng (.cst (.int 0)) (.bi 0 [(.var 0)])) [(.set (.tp [(.nm 4), (.nm 5), (.nm 6)]) (.sub (.var 0) (.var 1))),
    (.cond (.cmp 0 (.var 4) (.cst (.str [99, 97, 108, 108]))) [(.put 3 (.var 5) (.bi 0 [(.own 2)])),
    (.app 2 (.hlst [(.var 5), (.var 6), (.var 1), (.cst .non)]))] [(.pute (.sub (.own 2) (.sub (.own 3) (.var 5))) (.cst (.int 3)) (.var 1))])]),
    (.rown 2)]⟩
def st_22 : Stmt := top 33
def N_22_0 : List (PySem.Str) := [⟨#[104, 105, 115, 116, 111, 114, 121]⟩, ⟨#[97, 116]⟩, ⟨#[102, 111, 117, 110, 100]⟩, ⟨#[108, 97, 115, 116]⟩, ⟨#[119, 111, 114, 100]⟩, ⟨#[116, 104, 114, 101, 97, 100]⟩, ⟨#[118, 97, 108, 117, 101]⟩]
def N_22_ : List (PySem.Str) := N_22_0
def P_22_0 : List (PySem.Str) := [⟨#[104, 105, 115, 116, 111, 114, 121]⟩]
def P_22_ : List (PySem.Str) := P_22_0
def D_22 : DefC := ⟨⟨#[115, 112, 97, 110, 115, 95, 111, 102]⟩, ⟨#[115, 112, 97, 110, 115, 95, 111, 102]⟩, st_22, N_22_, P_22_⟩
def A_22 : PySem.Str × Option PySem.Str := (⟨#[115, 112, 97, 110, 115, 95, 111, 102]⟩, none)
def fn_is_ahead : Fn := ⟨2, 2, true,
   [(.ret (.and (.cmp 7 (.sub (.var 0) (.cst (.int 3))) (.cst .non)) (.cmp 2 (.sub (.var 0) (.cst (.int 3))) (.sub (.var 1) (.cst (.int 2))))))]⟩
def st_23 : Stmt := top 34
def N_23_0 : List (PySem.Str) := [⟨#[111, 110, 101]⟩, ⟨#[111, 116, 104, 101, 114]⟩]
def N_23_ : List (PySem.Str) := N_23_0
def P_23_0 : List (PySem.Str) := [⟨#[111, 110, 101]⟩, ⟨#[111, 116, 104, 101, 114]⟩]
def P_23_ : List (PySem.Str) := P_23_0
def D_23 : DefC := ⟨⟨#[105, 115, 95, 97, 104, 101, 97, 100]⟩, ⟨#[105, 115, 95, 97, 104, 101, 97, 100]⟩, st_23, N_23_, P_23_⟩
def A_23 : PySem.Str × Option PySem.Str := (⟨#[105, 115, 95, 97, 104, 101, 97, 100]⟩, none)
def fn_fits : Fn := ⟨3, 3, true,
   [(.ret (.or (.cmp 6 (.sub (.var 1) (.cst (.int 3))) (.cst .non)) (.call 17 [(.sub (.sub (.var 0) (.sub (.var 1) (.cst (.int 3)))) (.cst (.int 2))), (.var 2)])))]⟩
def st_24 : Stmt := top 35
def N_24_0 : List (PySem.Str) := [⟨#[104, 105, 115, 116, 111, 114, 121]⟩, ⟨#[111, 110, 101]⟩, ⟨#[97, 110, 115, 119, 101, 114]⟩]
def N_24_ : List (PySem.Str) := N_24_0
def P_24_0 : List (PySem.Str) := [⟨#[104, 105, 115, 116, 111, 114, 121]⟩, ⟨#[111, 110, 101]⟩, ⟨#[97, 110, 115, 119, 101, 114]⟩]
def P_24_ : List (PySem.Str) := P_24_0
def D_24 : DefC := ⟨⟨#[102, 105, 116, 115]⟩, ⟨#[102, 105, 116, 115]⟩, st_24, N_24_, P_24_⟩
def A_24 : PySem.Str × Option PySem.Str := (⟨#[102, 105, 116, 115]⟩, none)
def fn_Explainer___init__ : Fn := ⟨4, 4, false,
   [(.seta (.var 0) 2 (.var 1)),
    (.seta (.var 0) 3 (.var 2)),
    (.seta (.var 0) 0 (.call 22 [(.var 2)])),
    (.seta (.var 0) 4 (.var 3)),
    (.seta (.var 0) 5 (.hdct [] []))]⟩
def st_25 : Stmt := inClass (top 36) 0
def N_25_0 : List (PySem.Str) := [⟨#[115, 101, 108, 102]⟩, ⟨#[116, 104, 105, 110, 103]⟩, ⟨#[104, 105, 115, 116, 111, 114, 121]⟩, ⟨#[105, 115, 95, 116, 105, 109, 101, 100]⟩]
def N_25_ : List (PySem.Str) := N_25_0
def P_25_0 : List (PySem.Str) := [⟨#[115, 101, 108, 102]⟩, ⟨#[116, 104, 105, 110, 103]⟩, ⟨#[104, 105, 115, 116, 111, 114, 121]⟩, ⟨#[105, 115, 95, 116, 105, 109, 101, 100]⟩]
def P_25_ : List (PySem.Str) := P_25_0
def D_25 : DefC := ⟨⟨#[95, 95, 105, 110, 105, 116, 95, 95]⟩, ⟨#[69, 120, 112, 108, 97, 105, 110, 101, 114, 46, 95, 95, 105, 110, 105, 116, 95, 95]⟩, st_25, N_25_, P_25_⟩
def A_25 : PySem.Str × Option PySem.Str := (⟨#[69, 120, 112, 108, 97, 105, 110, 101, 114]⟩, some ⟨#[95, 95, 105, 110, 105, 116, 95, 95]⟩)
def fn_Explainer_comes_before : Fn := ⟨3, 3, true,
   [(.cond (.fld 4 (.var 0)) [(.ret (.call 23 [(.var 1), (.var 2)]))] []),
    (.ret (.and (.cmp 0 (.sub (.var 1) (.cst (.int 0))) (.sub (.var 2) (.cst (.int 0)))) (.cmp 2 (.sub (.var 1) (.cst (.int 2))) (.sub (.var 2) (.cst (.int 2))))))]⟩
def st_26 : Stmt := inClass (top 36) 1
def N_26_0 : List (PySem.Str) := [⟨#[115, 101, 108, 102]⟩, ⟨#[111, 110, 101]⟩, ⟨#[111, 116, 104, 101, 114]⟩]
def N_26_ : List (PySem.Str) := N_26_0
def P_26_0 : List (PySem.Str) := [⟨#[115, 101, 108, 102]⟩, ⟨#[111, 110, 101]⟩, ⟨#[111, 116, 104, 101, 114]⟩]
def P_26_ : List (PySem.Str) := P_26_0
def D_26 : DefC := ⟨⟨#[99, 111, 109, 101, 115, 95, 98, 101, 102, 111, 114, 101]⟩, ⟨#[69, 120, 112, 108, 97, 105, 110, 101, 114, 46, 99, 111, 109, 101, 115, 95, 98, 101, 102, 111, 114, 101]⟩, st_26, N_26_, P_26_⟩
def A_26 : PySem.Str × Option PySem.Str := (⟨#[69, 120, 112, 108, 97, 105, 110, 101, 114]⟩, some ⟨#[99, 111, 109, 101, 115, 95, 98, 101, 102, 111, 114, 101]⟩)
def fn_Explainer_is_ready : Fn := ⟨3, 4, true,
   [(.ret (.cmp 0 (.cmp1 (.var 3) (.nm 3) (.var 1) [(.meth 16 (.var 0) [(.sub (.fld 0 (.var 0)) (.var 3)), (.sub (.fld 0 (.var 0)) (.var 2))])] [3]) (.lst [])))]⟩
def st_27 : Stmt := inClass (top 36) 2
def N_27_0 : List (PySem.Str) := [⟨#[115, 101, 108, 102]⟩, ⟨#[108, 101, 102, 116]⟩, ⟨#[97, 116]⟩, ⟨#[107]⟩]
def N_27_ : List (PySem.Str) := N_27_0
def P_27_0 : List (PySem.Str) := [⟨#[115, 101, 108, 102]⟩, ⟨#[108, 101, 102, 116]⟩, ⟨#[97, 116]⟩]
def P_27_ : List (PySem.Str) := P_27_0
def D_27 : DefC := ⟨⟨#[105, 115, 95, 114, 101, 97, 100, 121]⟩, ⟨#[69, 120, 112, 108, 97, 105, 110, 101, 114, 46, 105, 115, 95, 114, 101, 97, 100, 121]⟩, st_27, N_27_, P_27_⟩
def A_27 : PySem.Str × Option PySem.Str := (⟨#[69, 120, 112, 108, 97, 105, 110, 101, 114]⟩, some ⟨#[105, 115, 95, 114, 101, 97, 100, 121]⟩)
def fn_Explainer_is_over : Fn := ⟨2, 3, true,
   [(.ret (.cmp 0 (.cmp1 (.var 2) (.nm 2) (.var 1) [(.cmp 7 (.sub (.sub (.fld 0 (.var 0)) (.var 2)) (.cst (.int 3))) (.cst .non))] [2]) (.lst [])))]⟩
def st_28 : Stmt := inClass (top 36) 3
def N_28_0 : List (PySem.Str) := [⟨#[115, 101, 108, 102]⟩, ⟨#[108, 101, 102, 116]⟩, ⟨#[107]⟩]
def N_28_ : List (PySem.Str) := N_28_0
def P_28_0 : List (PySem.Str) := [⟨#[115, 101, 108, 102]⟩, ⟨#[108, 101, 102, 116]⟩]
def P_28_ : List (PySem.Str) := P_28_0
def D_28 : DefC := ⟨⟨#[105, 115, 95, 111, 118, 101, 114]⟩, ⟨#[69, 120, 112, 108, 97, 105, 110, 101, 114, 46, 105, 115, 95, 111, 118, 101, 114]⟩, st_28, N_28_, P_28_⟩
def A_28 : PySem.Str × Option PySem.Str := (⟨#[69, 120, 112, 108, 97, 105, 110, 101, 114]⟩, some ⟨#[105, 115, 95, 111, 118, 101, 114]⟩)
def fn_Explainer_count : Fn := ⟨3, 9, false,
   [(.set (.nm 3) (.tup [(.var 1), (.var 2)])),
    (.cond (.cmp 9 (.var 3) (.fld 5 (.var 0))) [(.set (.nm 4) (.bi 7 [(.meth 13 (.var 0) [(.var 2)])])),
    (.forr (.nm 5) (.var 2) [(.cond (.meth 15 (.var 0) [(.var 2), (.var 5)]) [(.set (.tp [(.nm 6), (.nm 7)]) (.call 8 [(.fld 2 (.var 0)), (.var 1), (.sub (.sub (.fld 0 (.var 0)) (.var 5)) (.cst (.int 1)))])),
    (.cond (.call 24 [(.fld 3 (.var 0)), (.sub (.fld 0 (.var 0)) (.var 5)), (.var 7)]) [(.set (.nm 4) (.bin 0 (.var 4) (.meth 10 (.var 0) [(.var 6), (.bi 8 [(.cmp1 (.var 8) (.nm 8) (.var 2) [(.cmp 1 (.var 8) (.var 5))] [8])])])))] [])] [])]),
    (.pute (.fld 5 (.var 0)) (.var 3) (.var 4))] []),
    (.ret (.sub (.fld 5 (.var 0)) (.var 3)))]⟩
def st_29 : Stmt := inClass (top 36) 4
def N_29_0 : List (PySem.Str) := [⟨#[115, 101, 108, 102]⟩, ⟨#[115, 116, 97, 116, 101]⟩, ⟨#[108, 101, 102, 116]⟩, ⟨#[107, 101, 121]⟩, ⟨#[109, 97, 110, 121]⟩, ⟨#[97, 116]⟩, ⟨#[108, 97, 116, 101, 114]⟩, ⟨#[97, 110, 115, 119, 101, 114]⟩, ⟨#[107]⟩]
def N_29_ : List (PySem.Str) := N_29_0
def P_29_0 : List (PySem.Str) := [⟨#[115, 101, 108, 102]⟩, ⟨#[115, 116, 97, 116, 101]⟩, ⟨#[108, 101, 102, 116]⟩]
def P_29_ : List (PySem.Str) := P_29_0
def D_29 : DefC := ⟨⟨#[99, 111, 117, 110, 116]⟩, ⟨#[69, 120, 112, 108, 97, 105, 110, 101, 114, 46, 99, 111, 117, 110, 116]⟩, st_29, N_29_, P_29_⟩
def A_29 : PySem.Str × Option PySem.Str := (⟨#[69, 120, 112, 108, 97, 105, 110, 101, 114]⟩, some ⟨#[99, 111, 117, 110, 116]⟩)
def fn_Explainer_total : Fn := ⟨1, 1, false,
   [(.ret (.meth 10 (.var 0) [(.call 5 [(.fld 2 (.var 0))]), (.bi 8 [(.rng (.cst (.int 0)) (.bi 0 [(.fld 0 (.var 0))]))])]))]⟩
def st_30 : Stmt := inClass (top 36) 5
def N_30_0 : List (PySem.Str) := [⟨#[115, 101, 108, 102]⟩]
def N_30_ : List (PySem.Str) := N_30_0
def P_30_0 : List (PySem.Str) := [⟨#[115, 101, 108, 102]⟩]
def P_30_ : List (PySem.Str) := P_30_0
def D_30 : DefC := ⟨⟨#[116, 111, 116, 97, 108]⟩, ⟨#[69, 120, 112, 108, 97, 105, 110, 101, 114, 46, 116, 111, 116, 97, 108]⟩, st_30, N_30_, P_30_⟩
def A_30 : PySem.Str × Option PySem.Str := (⟨#[69, 120, 112, 108, 97, 105, 110, 101, 114]⟩, some ⟨#[116, 111, 116, 97, 108]⟩)
def fn_Explainer_order : Fn := ⟨1, 10, false,
   [(.par [(1, false), (2, false), (3, false)] [(.call 5 [(.fld 2 (.var 0))]), (.bi 8 [(.rng (.cst (.int 0)) (.bi 0 [(.fld 0 (.var 0))]))]), (.tup [])]),
    (.cond (.cmp 0 (.meth 10 (.var 0) [(.var 1), (.var 2)]) (.cst (.int 0))) [(.ret (.cst .non))] []),
    (.whil (.not (.meth 13 (.var 0) [(.var 2)])) [(.forr (.nm 4) (.var 2) [(.set (.tp [(.nm 7), (.nm 8)]) (.call 8 [(.fld 2 (.var 0)), (.var 1), (.sub (.sub (.fld 0 (.var 0)) (.var 4)) (.cst (.int 1)))])),
    (.set (.nm 5) (.bi 8 [(.cmp1 (.var 9) (.nm 9) (.var 2) [(.cmp 1 (.var 9) (.var 4))] [9])])),
    (.set (.nm 6) (.and (.meth 15 (.var 0) [(.var 2), (.var 4)]) (.call 24 [(.fld 3 (.var 0)), (.sub (.fld 0 (.var 0)) (.var 4)), (.var 8)]))),
    (.cond (.and (.var 6) (.cmp 4 (.meth 10 (.var 0) [(.var 7), (.var 5)]) (.cst (.int 0)))) [(.par [(1, false), (2, false), (3, false)] [(.var 7), (.var 5), (.tup [(.star (.var 3)), (.var 4)])]),
    .brk] [])])]),
    (.ret (.var 3))]⟩
def st_31 : Stmt := inClass (top 36) 6
def N_31_0 : List (PySem.Str) := [⟨#[115, 101, 108, 102]⟩, ⟨#[115, 116, 97, 116, 101]⟩, ⟨#[108, 101, 102, 116]⟩, ⟨#[102, 111, 117, 110, 100]⟩, ⟨#[97, 116]⟩, ⟨#[114, 101, 115, 116]⟩, ⟨#[105, 115, 95, 102, 105, 110, 101]⟩, ⟨#[108, 97, 116, 101, 114]⟩, ⟨#[97, 110, 115, 119, 101, 114]⟩, ⟨#[107]⟩]
def N_31_ : List (PySem.Str) := N_31_0
def P_31_0 : List (PySem.Str) := [⟨#[115, 101, 108, 102]⟩]
def P_31_ : List (PySem.Str) := P_31_0
def D_31 : DefC := ⟨⟨#[111, 114, 100, 101, 114]⟩, ⟨#[69, 120, 112, 108, 97, 105, 110, 101, 114, 46, 111, 114, 100, 101, 114]⟩, st_31, N_31_, P_31_⟩
def A_31 : PySem.Str × Option PySem.Str := (⟨#[69, 120, 112, 108, 97, 105, 110, 101, 114]⟩, some ⟨#[111, 114, 100, 101, 114]⟩)
def fn_is_order : Fn := ⟨2, 3, true,
   [(.cond (.or (.not (.bi 4 [(.var 1)])) (.not (.bi 10 [(.cmp1 (.call 1 [(.var 2), (.cst (.int 0)), (.bin 1 (.var 0) (.cst (.int 1)))]) (.nm 2) (.var 1) [] [2])]))) [(.ret (.cst (.bl false)))] []),
    (.ret (.cmp 0 (.bi 14 [(.var 1)]) (.bi 0 [(.var 1)])))]⟩
def st_32 : Stmt := top 37
def N_32_0 : List (PySem.Str) := [⟨#[109, 97, 110, 121]⟩, ⟨#[118, 97, 108, 117, 101]⟩, ⟨#[111, 110, 101]⟩]
def N_32_ : List (PySem.Str) := N_32_0
def P_32_0 : List (PySem.Str) := [⟨#[109, 97, 110, 121]⟩, ⟨#[118, 97, 108, 117, 101]⟩]
def P_32_ : List (PySem.Str) := P_32_0
def D_32 : DefC := ⟨⟨#[105, 115, 95, 111, 114, 100, 101, 114]⟩, ⟨#[105, 115, 95, 111, 114, 100, 101, 114]⟩, st_32, N_32_, P_32_⟩
def A_32 : PySem.Str × Option PySem.Str := (⟨#[105, 115, 95, 111, 114, 100, 101, 114]⟩, none)
def fn_does_explain : Fn := ⟨4, 11, true,
   [(.set (.nm 4) (.new 4 [(.var 0), (.var 1), (.var 3)])),
    (.set (.nm 5) (.fld 0 (.var 4))),
    (.cond (.not (.call 32 [(.bi 0 [(.var 5)]), (.var 2)])) [(.ret (.cst (.bl false)))] []),
    (.cond (.cmp 1 (.cmp1 (.var 10) (.nm 10) (.rng (.cst (.int 0)) (.bi 0 [(.var 5)])) [(.and (.cmp 7 (.sub (.sub (.var 5) (.var 10)) (.cst (.int 3))) (.cst .non)) (.cmp 9 (.var 10) (.var 2)))] [10]) (.lst [])) [(.ret (.cst (.bl false)))] []),
    (.set (.nm 6) (.call 5 [(.var 0)])),
    (.forr (.nm 7) (.rng (.cst (.int 0)) (.bi 0 [(.var 2)])) [(.set (.nm 8) (.sub (.var 5) (.sub (.var 2) (.var 7)))),
    (.cond (.cmp 1 (.cmp1 (.var 10) (.nm 10) (.slc (.var 2) (.bin 0 (.var 7) (.cst (.int 1))) (.cst .non)) [(.meth 16 (.var 4) [(.sub (.var 5) (.var 10)), (.var 8)])] [10]) (.lst [])) [(.ret (.cst (.bl false)))] []),
    (.set (.tp [(.nm 6), (.nm 9)]) (.call 8 [(.var 0), (.var 6), (.sub (.var 8) (.cst (.int 1)))])),
    (.cond (.not (.call 24 [(.var 1), (.var 8), (.var 9)])) [(.ret (.cst (.bl false)))] [])]),
    (.ret (.cst (.bl true)))]⟩
def st_33 : Stmt := top 38
def N_33_0 : List (PySem.Str) := [⟨#[116, 104, 105, 110, 103]⟩, ⟨#[104, 105, 115, 116, 111, 114, 121]⟩, ⟨#[118, 97, 108, 117, 101]⟩, ⟨#[105, 115, 95, 116, 105, 109, 101, 100]⟩, ⟨#[108, 111, 111, 107]⟩, ⟨#[108, 105, 110, 101]⟩, ⟨#[115, 116, 97, 116, 101]⟩, ⟨#[97, 116]⟩, ⟨#[111, 110, 101]⟩, ⟨#[97, 110, 115, 119, 101, 114]⟩, ⟨#[107]⟩]
def N_33_ : List (PySem.Str) := N_33_0
def P_33_0 : List (PySem.Str) := [⟨#[116, 104, 105, 110, 103]⟩, ⟨#[104, 105, 115, 116, 111, 114, 121]⟩, ⟨#[118, 97, 108, 117, 101]⟩, ⟨#[105, 115, 95, 116, 105, 109, 101, 100]⟩]
def P_33_ : List (PySem.Str) := P_33_0
def D_33 : DefC := ⟨⟨#[100, 111, 101, 115, 95, 101, 120, 112, 108, 97, 105, 110]⟩, ⟨#[100, 111, 101, 115, 95, 101, 120, 112, 108, 97, 105, 110]⟩, st_33, N_33_, P_33_⟩
def A_33 : PySem.Str × Option PySem.Str := (⟨#[100, 111, 101, 115, 95, 101, 120, 112, 108, 97, 105, 110]⟩, none)
def fn_explained : Fn := ⟨2, 2, true,
   [(.expr (.call 21 [(.var 0), (.var 1)])),
    (.ret (.meth 6 (.new 4 [(.var 0), (.var 1), (.cst (.bl true))]) []))]⟩
def st_34 : Stmt := top 39
def N_34_0 : List (PySem.Str) := [⟨#[116, 104, 105, 110, 103]⟩, ⟨#[104, 105, 115, 116, 111, 114, 121]⟩]
def N_34_ : List (PySem.Str) := N_34_0
def P_34_0 : List (PySem.Str) := [⟨#[116, 104, 105, 110, 103]⟩, ⟨#[104, 105, 115, 116, 111, 114, 121]⟩]
def P_34_ : List (PySem.Str) := P_34_0
def D_34 : DefC := ⟨⟨#[101, 120, 112, 108, 97, 105, 110, 101, 100]⟩, ⟨#[101, 120, 112, 108, 97, 105, 110, 101, 100]⟩, st_34, N_34_, P_34_⟩
def A_34 : PySem.Str × Option PySem.Str := (⟨#[101, 120, 112, 108, 97, 105, 110, 101, 100]⟩, none)
def fn_order_count : Fn := ⟨2, 2, true,
   [(.expr (.call 21 [(.var 0), (.var 1)])),
    (.ret (.meth 7 (.new 4 [(.var 0), (.var 1), (.cst (.bl true))]) []))]⟩
def st_35 : Stmt := top 40
def N_35_0 : List (PySem.Str) := [⟨#[116, 104, 105, 110, 103]⟩, ⟨#[104, 105, 115, 116, 111, 114, 121]⟩]
def N_35_ : List (PySem.Str) := N_35_0
def P_35_0 : List (PySem.Str) := [⟨#[116, 104, 105, 110, 103]⟩, ⟨#[104, 105, 115, 116, 111, 114, 121]⟩]
def P_35_ : List (PySem.Str) := P_35_0
def D_35 : DefC := ⟨⟨#[111, 114, 100, 101, 114, 95, 99, 111, 117, 110, 116]⟩, ⟨#[111, 114, 100, 101, 114, 95, 99, 111, 117, 110, 116]⟩, st_35, N_35_, P_35_⟩
def A_35 : PySem.Str × Option PySem.Str := (⟨#[111, 114, 100, 101, 114, 95, 99, 111, 117, 110, 116]⟩, none)
def fn_first_wrong : Fn := ⟨2, 3, true,
   [(.expr (.call 21 [(.var 0), (.var 1)])),
    (.forr (.nm 2) (.rng (.cst (.int 0)) (.bi 0 [(.var 1)])) [(.cond (.cmp 0 (.meth 7 (.new 4 [(.var 0), (.slc (.var 1) (.cst .non) (.bin 0 (.var 2) (.cst (.int 1)))), (.cst (.bl true))]) []) (.cst (.int 0))) [(.ret (.var 2))] [])]),
    (.ret (.cst .non))]⟩
def st_36 : Stmt := top 41
def N_36_0 : List (PySem.Str) := [⟨#[116, 104, 105, 110, 103]⟩, ⟨#[104, 105, 115, 116, 111, 114, 121]⟩, ⟨#[97, 116]⟩]
def N_36_ : List (PySem.Str) := N_36_0
def P_36_0 : List (PySem.Str) := [⟨#[116, 104, 105, 110, 103]⟩, ⟨#[104, 105, 115, 116, 111, 114, 121]⟩]
def P_36_ : List (PySem.Str) := P_36_0
def D_36 : DefC := ⟨⟨#[102, 105, 114, 115, 116, 95, 119, 114, 111, 110, 103]⟩, ⟨#[102, 105, 114, 115, 116, 95, 119, 114, 111, 110, 103]⟩, st_36, N_36_, P_36_⟩
def A_36 : PySem.Str × Option PySem.Str := (⟨#[102, 105, 114, 115, 116, 95, 119, 114, 111, 110, 103]⟩, none)
def fn_in_step : Fn := ⟨2, 2, true,
   [(.expr (.call 21 [(.var 0), (.var 1)])),
    (.ret (.meth 6 (.new 4 [(.var 0), (.var 1), (.cst (.bl false))]) []))]⟩
def st_37 : Stmt := top 42
def N_37_0 : List (PySem.Str) := [⟨#[116, 104, 105, 110, 103]⟩, ⟨#[104, 105, 115, 116, 111, 114, 121]⟩]
def N_37_ : List (PySem.Str) := N_37_0
def P_37_0 : List (PySem.Str) := [⟨#[116, 104, 105, 110, 103]⟩, ⟨#[104, 105, 115, 116, 111, 114, 121]⟩]
def P_37_ : List (PySem.Str) := P_37_0
def D_37 : DefC := ⟨⟨#[105, 110, 95, 115, 116, 101, 112]⟩, ⟨#[105, 110, 95, 115, 116, 101, 112]⟩, st_37, N_37_, P_37_⟩
def A_37 : PySem.Str × Option PySem.Str := (⟨#[105, 110, 95, 115, 116, 101, 112]⟩, none)
def fn_need_objects : Fn := ⟨1, 2, true,
   [(.cond (.or (.not (.bi 4 [(.var 0)])) (.or (.not (.chn 3 3 (.cst (.int 1)) (.bi 0 [(.var 0)]) (.cst (.int 3)))) (.not (.bi 10 [(.cmp1 (.call 14 [(.var 1)]) (.nm 1) (.var 0) [] [1])])))) [(.rais 1 [])] [])]⟩
def st_38 : Stmt := top 44
def N_38_0 : List (PySem.Str) := [⟨#[116, 104, 105, 110, 103, 115]⟩, ⟨#[111, 110, 101]⟩]
def N_38_ : List (PySem.Str) := N_38_0
def P_38_0 : List (PySem.Str) := [⟨#[116, 104, 105, 110, 103, 115]⟩]
def P_38_ : List (PySem.Str) := P_38_0
def D_38 : DefC := ⟨⟨#[110, 101, 101, 100, 95, 111, 98, 106, 101, 99, 116, 115]⟩, ⟨#[110, 101, 101, 100, 95, 111, 98, 106, 101, 99, 116, 115]⟩, st_38, N_38_, P_38_⟩
def A_38 : PySem.Str × Option PySem.Str := (⟨#[110, 101, 101, 100, 95, 111, 98, 106, 101, 99, 116, 115]⟩, none)
def fn_is_wide : Fn := ⟨2, 2, true,
   [(.cond (.or (.not (.bi 4 [(.var 1)])) (.or (.cmp 1 (.bi 0 [(.var 1)]) (.cst (.int 4))) (.not (.call 1 [(.sub (.var 1) (.cst (.int 2))), (.cst (.int 0)), (.bin 1 (.bi 0 [(.var 0)]) (.cst (.int 1)))])))) [(.ret (.cst (.bl false)))] []),
    (.ret (.call 19 [(.tup [(.sub (.var 1) (.cst (.int 0))), (.sub (.var 1) (.cst (.int 1))), (.sub (.var 1) (.cst (.int 3)))])]))]⟩
def st_39 : Stmt := top 45
def N_39_0 : List (PySem.Str) := [⟨#[116, 104, 105, 110, 103, 115]⟩, ⟨#[118, 97, 108, 117, 101]⟩]
def N_39_ : List (PySem.Str) := N_39_0
def P_39_0 : List (PySem.Str) := [⟨#[116, 104, 105, 110, 103, 115]⟩, ⟨#[118, 97, 108, 117, 101]⟩]
def P_39_ : List (PySem.Str) := P_39_0
def D_39 : DefC := ⟨⟨#[105, 115, 95, 119, 105, 100, 101]⟩, ⟨#[105, 115, 95, 119, 105, 100, 101]⟩, st_39, N_39_, P_39_⟩
def A_39 : PySem.Str × Option PySem.Str := (⟨#[105, 115, 95, 119, 105, 100, 101]⟩, none)
def fn_parts_of : Fn := ⟨2, 8, true,
   [(.seto 2 (.cmp1 (.tup []) (.nm 7) (.var 0) [] [7])),
    (.forr (.tp [(.nm 3), (.nm 4), (.nm 5), (.nm 6)]) (.var 1) [(.put 2 (.var 5) (.tup [(.star (.sub (.own 2) (.var 5))), (.tup [(.var 3), (.var 4), (.var 6)])]))]),
    (.rown 2)]⟩
def st_40 : Stmt := top 46
def N_40_0 : List (PySem.Str) := [⟨#[116, 104, 105, 110, 103, 115]⟩, ⟨#[104, 105, 115, 116, 111, 114, 121]⟩, ⟨#[102, 111, 117, 110, 100]⟩, ⟨#[119, 111, 114, 100]⟩, ⟨#[116, 104, 114, 101, 97, 100]⟩, ⟨#[112, 108, 97, 99, 101]⟩, ⟨#[118, 97, 108, 117, 101]⟩, ⟨#[111, 110, 101]⟩]
def N_40_ : List (PySem.Str) := N_40_0
def P_40_0 : List (PySem.Str) := [⟨#[116, 104, 105, 110, 103, 115]⟩, ⟨#[104, 105, 115, 116, 111, 114, 121]⟩]
def P_40_ : List (PySem.Str) := P_40_0
def D_40 : DefC := ⟨⟨#[112, 97, 114, 116, 115, 95, 111, 102]⟩, ⟨#[112, 97, 114, 116, 115, 95, 111, 102]⟩, st_40, N_40_, P_40_⟩
def A_40 : PySem.Str × Option PySem.Str := (⟨#[112, 97, 114, 116, 115, 95, 111, 102]⟩, none)
def fn_wrong_wide : Fn := ⟨2, 9, true,
   [(.seto 2 (.dct [] [])),
    (.forr (.nm 3) (.rng (.cst (.int 0)) (.bi 0 [(.var 1)])) [(.cond (.or (.cmp 5 (.var 3) (.cst (.int 24))) (.not (.call 39 [(.var 0), (.sub (.var 1) (.var 3))]))) [(.ret (.var 3))] []),
    (.set (.tp [(.nm 5), (.nm 6), (.nm 7), (.nm 8)]) (.sub (.var 1) (.var 3))),
    (.set (.nm 4) (.bm 1 (.own 2) [(.var 6), (.cst .non)])),
    (.cond (.or (.and (.cmp 0 (.var 5) (.cst (.str [99, 97, 108, 108]))) (.cmp 7 (.var 4) (.cst .non))) (.and (.cmp 0 (.var 5) (.cst (.str [97, 110, 115, 119, 101, 114]))) (.cmp 1 (.var 4) (.var 7)))) [(.ret (.var 3))] []),
    (.cond (.cmp 7 (.call 20 [(.sub (.var 0) (.var 7)), (.sub (.call 40 [(.var 0), (.slc (.var 1) (.cst .non) (.bin 0 (.var 3) (.cst (.int 1))))]) (.var 7))]) (.cst .non)) [(.ret (.var 3))] []),
    (.put 2 (.var 6) (.ite (.cmp 0 (.var 5) (.cst (.str [99, 97, 108, 108]))) (.var 7) (.cst .non)))]),
    (.ret (.cst .non))]⟩
def st_41 : Stmt := top 47
def N_41_0 : List (PySem.Str) := [⟨#[116, 104, 105, 110, 103, 115]⟩, ⟨#[104, 105, 115, 116, 111, 114, 121]⟩, ⟨#[98, 117, 115, 121]⟩, ⟨#[97, 116]⟩, ⟨#[111, 119, 110]⟩, ⟨#[119, 111, 114, 100]⟩, ⟨#[116, 104, 114, 101, 97, 100]⟩, ⟨#[112, 108, 97, 99, 101]⟩, ⟨#[118, 97, 108, 117, 101]⟩]
def N_41_ : List (PySem.Str) := N_41_0
def P_41_0 : List (PySem.Str) := [⟨#[116, 104, 105, 110, 103, 115]⟩, ⟨#[104, 105, 115, 116, 111, 114, 121]⟩]
def P_41_ : List (PySem.Str) := P_41_0
def D_41 : DefC := ⟨⟨#[119, 114, 111, 110, 103, 95, 119, 105, 100, 101]⟩, ⟨#[119, 114, 111, 110, 103, 95, 119, 105, 100, 101]⟩, st_41, N_41_, P_41_⟩
def A_41 : PySem.Str × Option PySem.Str := (⟨#[119, 114, 111, 110, 103, 95, 119, 105, 100, 101]⟩, none)
def fn_need_wide : Fn := ⟨2, 3, true,
   [(.expr (.call 38 [(.var 0)])),
    (.cond (.not (.bi 4 [(.var 1)])) [(.rais 2 [(.cst .non)])] []),
    (.set (.nm 2) (.call 41 [(.var 0), (.var 1)])),
    (.cond (.cmp 7 (.var 2) (.cst .non)) [(.rais 2 [(.var 2)])] [])]⟩
def st_42 : Stmt := top 48
def N_42_0 : List (PySem.Str) := [⟨#[116, 104, 105, 110, 103, 115]⟩, ⟨#[104, 105, 115, 116, 111, 114, 121]⟩, ⟨#[97, 116]⟩]
def N_42_ : List (PySem.Str) := N_42_0
def P_42_0 : List (PySem.Str) := [⟨#[116, 104, 105, 110, 103, 115]⟩, ⟨#[104, 105, 115, 116, 111, 114, 121]⟩]
def P_42_ : List (PySem.Str) := P_42_0
def D_42 : DefC := ⟨⟨#[110, 101, 101, 100, 95, 119, 105, 100, 101]⟩, ⟨#[110, 101, 101, 100, 95, 119, 105, 100, 101]⟩, st_42, N_42_, P_42_⟩
def A_42 : PySem.Str × Option PySem.Str := (⟨#[110, 101, 101, 100, 95, 119, 105, 100, 101]⟩, none)
def fn_is_wide_history : Fn := ⟨2, 2, true,
   [(.expr (.call 38 [(.var 0)])),
    (.ret (.and (.bi 4 [(.var 1)]) (.cmp 6 (.call 41 [(.var 0), (.var 1)]) (.cst .non))))]⟩
def st_43 : Stmt := top 49
def N_43_0 : List (PySem.Str) := [⟨#[116, 104, 105, 110, 103, 115]⟩, ⟨#[118, 97, 108, 117, 101]⟩]
def N_43_ : List (PySem.Str) := N_43_0
def P_43_0 : List (PySem.Str) := [⟨#[116, 104, 105, 110, 103, 115]⟩, ⟨#[118, 97, 108, 117, 101]⟩]
def P_43_ : List (PySem.Str) := P_43_0
def D_43 : DefC := ⟨⟨#[105, 115, 95, 119, 105, 100, 101, 95, 104, 105, 115, 116, 111, 114, 121]⟩, ⟨#[105, 115, 95, 119, 105, 100, 101, 95, 104, 105, 115, 116, 111, 114, 121]⟩, st_43, N_43_, P_43_⟩
def A_43 : PySem.Str × Option PySem.Str := (⟨#[105, 115, 95, 119, 105, 100, 101, 95, 104, 105, 115, 116, 111, 114, 121]⟩, none)
def fn_parts : Fn := ⟨2, 2, true,
   [(.expr (.call 42 [(.var 0), (.var 1)])),
    (.ret (.bi 8 [(.call 40 [(.var 0), (.var 1)])]))]⟩
def st_44 : Stmt := top 50
def N_44_0 : List (PySem.Str) := [⟨#[116, 104, 105, 110, 103, 115]⟩, ⟨#[104, 105, 115, 116, 111, 114, 121]⟩]
def N_44_ : List (PySem.Str) := N_44_0
def P_44_0 : List (PySem.Str) := [⟨#[116, 104, 105, 110, 103, 115]⟩, ⟨#[104, 105, 115, 116, 111, 114, 121]⟩]
def P_44_ : List (PySem.Str) := P_44_0
def D_44 : DefC := ⟨⟨#[112, 97, 114, 116, 115]⟩, ⟨#[112, 97, 114, 116, 115]⟩, st_44, N_44_, P_44_⟩
def A_44 : PySem.Str × Option PySem.Str := (⟨#[112, 97, 114, 116, 115]⟩, none)
def fn_wide_spans : Fn := ⟨1, 7, true,
   [(.set (.nm 1) (.call 22 [(.bi 8 [(.cmp1 (.tup [(.var 3), (.var 4), (.var 6)]) (.tp [(.nm 3), (.nm 4), (.nm 5), (.nm 6)]) (.var 0) [] [3, 4, 5, 6])])])),
    (.ret (.cmp1 (.lst [(.star (.var 2)), (.sub (.sub (.var 0) (.sub (.var 2) (.cst (.int 2)))) (.cst (.int 2)))]) (.nm 2) (.var 1) [] [2]))]⟩
def st_45 : Stmt := top 51
def N_45_0 : List (PySem.Str) := [⟨#[104, 105, 115, 116, 111, 114, 121]⟩, ⟨#[108, 105, 110, 101]⟩, ⟨#[111, 110, 101]⟩, ⟨#[119, 111, 114, 100]⟩, ⟨#[116, 104, 114, 101, 97, 100]⟩, ⟨#[112, 108, 97, 99, 101]⟩, ⟨#[118, 97, 108, 117, 101]⟩]
def N_45_ : List (PySem.Str) := N_45_0
def P_45_0 : List (PySem.Str) := [⟨#[104, 105, 115, 116, 111, 114, 121]⟩]
def P_45_ : List (PySem.Str) := P_45_0
def D_45 : DefC := ⟨⟨#[119, 105, 100, 101, 95, 115, 112, 97, 110, 115]⟩, ⟨#[119, 105, 100, 101, 95, 115, 112, 97, 110, 115]⟩, st_45, N_45_, P_45_⟩
def A_45 : PySem.Str × Option PySem.Str := (⟨#[119, 105, 100, 101, 95, 115, 112, 97, 110, 115]⟩, none)
def fn_places_of : Fn := ⟨2, 5, true,
   [(.set (.nm 2) (.call 45 [(.var 1)])),
    (.ret (.cmp1 (.cmp1 (.var 4) (.nm 4) (.rng (.cst (.int 0)) (.bi 0 [(.var 2)])) [(.cmp 0 (.sub (.sub (.var 2) (.var 4)) (.cst (.int 4))) (.var 3))] [4]) (.nm 3) (.rng (.cst (.int 0)) (.bi 0 [(.var 0)])) [] [3]))]⟩
def st_46 : Stmt := top 52
def N_46_0 : List (PySem.Str) := [⟨#[116, 104, 105, 110, 103, 115]⟩, ⟨#[104, 105, 115, 116, 111, 114, 121]⟩, ⟨#[108, 105, 110, 101]⟩, ⟨#[112, 108, 97, 99, 101]⟩, ⟨#[107]⟩]
def N_46_ : List (PySem.Str) := N_46_0
def P_46_0 : List (PySem.Str) := [⟨#[116, 104, 105, 110, 103, 115]⟩, ⟨#[104, 105, 115, 116, 111, 114, 121]⟩]
def P_46_ : List (PySem.Str) := P_46_0
def D_46 : DefC := ⟨⟨#[112, 108, 97, 99, 101, 115, 95, 111, 102]⟩, ⟨#[112, 108, 97, 99, 101, 115, 95, 111, 102]⟩, st_46, N_46_, P_46_⟩
def A_46 : PySem.Str × Option PySem.Str := (⟨#[112, 108, 97, 99, 101, 115, 95, 111, 102]⟩, none)
def fn_is_ready : Fn := ⟨3, 4, true,
   [(.ret (.cmp 0 (.cmp1 (.var 3) (.nm 3) (.var 1) [(.and (.cmp 7 (.sub (.sub (.var 0) (.var 3)) (.cst (.int 3))) (.cst .non)) (.cmp 2 (.sub (.sub (.var 0) (.var 3)) (.cst (.int 3))) (.sub (.sub (.var 0) (.var 2)) (.cst (.int 2)))))] [3]) (.lst [])))]⟩
def st_47 : Stmt := top 53
def N_47_0 : List (PySem.Str) := [⟨#[108, 105, 110, 101]⟩, ⟨#[108, 101, 102, 116]⟩, ⟨#[111, 110, 101]⟩, ⟨#[107]⟩]
def N_47_ : List (PySem.Str) := N_47_0
def P_47_0 : List (PySem.Str) := [⟨#[108, 105, 110, 101]⟩, ⟨#[108, 101, 102, 116]⟩, ⟨#[111, 110, 101]⟩]
def P_47_ : List (PySem.Str) := P_47_0
def D_47 : DefC := ⟨⟨#[105, 115, 95, 114, 101, 97, 100, 121]⟩, ⟨#[105, 115, 95, 114, 101, 97, 100, 121]⟩, st_47, N_47_, P_47_⟩
def A_47 : PySem.Str × Option PySem.Str := (⟨#[105, 115, 95, 114, 101, 97, 100, 121]⟩, none)
def fn_woven : Fn := ⟨3, 14, true,
   [(.expr (.call 42 [(.var 0), (.var 1)])),
    (.set (.nm 3) (.call 40 [(.var 0), (.var 1)])),
    (.cond (.or (.not (.bi 4 [(.var 2)])) (.cmp 1 (.bi 0 [(.var 2)]) (.bi 0 [(.var 0)]))) [(.rais 3 [])] []),
    (.cond (.not (.bi 10 [(.cmp1 (.call 33 [(.sub (.var 0) (.var 11)), (.sub (.var 3) (.var 11)), (.sub (.var 2) (.var 11)), (.cst (.bl true))]) (.nm 11) (.rng (.cst (.int 0)) (.bi 0 [(.var 0)])) [] [11])])) [(.rais 3 [])] []),
    (.par [(4, false), (5, false)] [(.call 45 [(.var 1)]), (.call 46 [(.var 0), (.var 1)])]),
    (.par [(6, false), (7, false)] [(.cmp1 (.cmp1 (.sub (.sub (.var 5) (.var 11)) (.var 13)) (.nm 13) (.sub (.var 2) (.var 11)) [] [13]) (.nm 11) (.rng (.cst (.int 0)) (.bi 0 [(.var 0)])) [] [11]), (.tup [])]),
    (.whil (.cmp 1 (.cmp1 (.var 12) (.nm 12) (.var 6) [(.cmp 1 (.var 12) (.lst []))] [12]) (.lst [])) [(.set (.nm 8) (.cmp1 (.sub (.var 12) (.cst (.int 0))) (.nm 12) (.var 6) [(.cmp 1 (.var 12) (.lst []))] [12])),
    (.set (.nm 9) (.cmp2 (.var 13) (.nm 12) (.var 6) [] (.nm 13) (.var 12) [] [12, 13] [13])),
    (.set (.nm 10) (.cmp1 (.var 13) (.nm 13) (.var 8) [(.call 47 [(.var 4), (.var 9), (.var 13)])] [13])),
    (.set (.nm 7) (.tup [(.star (.var 7)), (.bi 12 [(.var 10)])])),
    (.set (.nm 6) (.cmp1 (.ite (.and (.cmp 1 (.var 12) (.lst [])) (.cmp 0 (.sub (.var 12) (.cst (.int 0))) (.bi 12 [(.var 10)]))) (.slc (.var 12) (.cst (.int 1)) (.cst .non)) (.var 12)) (.nm 12) (.var 6) [] [12]))]),
    (.ret (.var 7))]⟩
def st_48 : Stmt := top 54
def N_48_0 : List (PySem.Str) := [⟨#[116, 104, 105, 110, 103, 115]⟩, ⟨#[104, 105, 115, 116, 111, 114, 121]⟩, ⟨#[111, 114, 100, 101, 114, 115]⟩, ⟨#[115, 111, 109, 101]⟩, ⟨#[108, 105, 110, 101]⟩, ⟨#[112, 108, 97, 99, 101, 115]⟩, ⟨#[114, 111, 119, 115]⟩, ⟨#[102, 111, 117, 110, 100]⟩, ⟨#[104, 101, 97, 100, 115]⟩, ⟨#[108, 101, 102, 116]⟩, ⟨#[114, 101, 97, 100, 121]⟩, ⟨#[107]⟩]
def N_48_1 : List (PySem.Str) := [⟨#[114, 111, 119]⟩, ⟨#[111, 110, 101]⟩]
def N_48_ : List (PySem.Str) := N_48_0 ++ N_48_1
def P_48_0 : List (PySem.Str) := [⟨#[116, 104, 105, 110, 103, 115]⟩, ⟨#[104, 105, 115, 116, 111, 114, 121]⟩, ⟨#[111, 114, 100, 101, 114, 115]⟩]
def P_48_ : List (PySem.Str) := P_48_0
def D_48 : DefC := ⟨⟨#[119, 111, 118, 101, 110]⟩, ⟨#[119, 111, 118, 101, 110]⟩, st_48, N_48_, P_48_⟩
def A_48 : PySem.Str × Option PySem.Str := (⟨#[119, 111, 118, 101, 110]⟩, none)
def fn_explained_all : Fn := ⟨2, 5, true,
   [(.expr (.call 42 [(.var 0), (.var 1)])),
    (.set (.nm 2) (.cmp1 (.call 34 [(.sub (.var 0) (.var 3)), (.var 4)]) (.tp [(.nm 3), (.nm 4)]) (.enm (.call 40 [(.var 0), (.var 1)])) [] [3, 4])),
    (.ret (.ite (.cmp 8 (.cst .non) (.var 2)) (.cst .non) (.call 48 [(.var 0), (.var 1), (.bi 8 [(.var 2)])])))]⟩
def st_49 : Stmt := top 55
def N_49_0 : List (PySem.Str) := [⟨#[116, 104, 105, 110, 103, 115]⟩, ⟨#[104, 105, 115, 116, 111, 114, 121]⟩, ⟨#[111, 114, 100, 101, 114, 115]⟩, ⟨#[107]⟩, ⟨#[112, 97, 114, 116]⟩]
def N_49_ : List (PySem.Str) := N_49_0
def P_49_0 : List (PySem.Str) := [⟨#[116, 104, 105, 110, 103, 115]⟩, ⟨#[104, 105, 115, 116, 111, 114, 121]⟩]
def P_49_ : List (PySem.Str) := P_49_0
def D_49 : DefC := ⟨⟨#[101, 120, 112, 108, 97, 105, 110, 101, 100, 95, 97, 108, 108]⟩, ⟨#[101, 120, 112, 108, 97, 105, 110, 101, 100, 95, 97, 108, 108]⟩, st_49, N_49_, P_49_⟩
def A_49 : PySem.Str × Option PySem.Str := (⟨#[101, 120, 112, 108, 97, 105, 110, 101, 100, 95, 97, 108, 108]⟩, none)
def fn_in_step_all : Fn := ⟨2, 2, true,
   [(.expr (.call 42 [(.var 0), (.var 1)])),
    (.ret (.call 52 [(.var 0), (.var 1), (.call 45 [(.var 1)])]))]⟩
def st_50 : Stmt := top 56
def N_50_0 : List (PySem.Str) := [⟨#[116, 104, 105, 110, 103, 115]⟩, ⟨#[104, 105, 115, 116, 111, 114, 121]⟩]
def N_50_ : List (PySem.Str) := N_50_0
def P_50_0 : List (PySem.Str) := [⟨#[116, 104, 105, 110, 103, 115]⟩, ⟨#[104, 105, 115, 116, 111, 114, 121]⟩]
def P_50_ : List (PySem.Str) := P_50_0
def D_50 : DefC := ⟨⟨#[105, 110, 95, 115, 116, 101, 112, 95, 97, 108, 108]⟩, ⟨#[105, 110, 95, 115, 116, 101, 112, 95, 97, 108, 108]⟩, st_50, N_50_, P_50_⟩
def A_50 : PySem.Str × Option PySem.Str := (⟨#[105, 110, 95, 115, 116, 101, 112, 95, 97, 108, 108]⟩, none)
def fn_later_states : Fn := ⟨4, 8, true,
   [(.set (.nm 4) (.sub (.var 3) (.cst (.int 4)))),
    (.set (.tp [(.nm 5), (.nm 6)]) (.call 8 [(.sub (.var 0) (.var 4)), (.sub (.var 2) (.var 4)), (.sub (.var 3) (.cst (.int 1)))])),
    (.cond (.and (.cmp 7 (.sub (.var 3) (.cst (.int 3))) (.cst .non)) (.not (.call 17 [(.sub (.sub (.var 1) (.sub (.var 3) (.cst (.int 3)))) (.cst (.int 3))), (.var 6)]))) [(.ret (.cst .non))] []),
    (.ret (.bi 8 [(.cmp1 (.ite (.cmp 0 (.var 7) (.var 4)) (.var 5) (.sub (.var 2) (.var 7))) (.nm 7) (.rng (.cst (.int 0)) (.bi 0 [(.var 2)])) [] [7])]))]⟩
def st_51 : Stmt := top 57
def N_51_0 : List (PySem.Str) := [⟨#[116, 104, 105, 110, 103, 115]⟩, ⟨#[104, 105, 115, 116, 111, 114, 121]⟩, ⟨#[115, 116, 97, 116, 101, 115]⟩, ⟨#[111, 110, 101]⟩, ⟨#[112, 108, 97, 99, 101]⟩, ⟨#[108, 97, 116, 101, 114]⟩, ⟨#[97, 110, 115, 119, 101, 114]⟩, ⟨#[107]⟩]
def N_51_ : List (PySem.Str) := N_51_0
def P_51_0 : List (PySem.Str) := [⟨#[116, 104, 105, 110, 103, 115]⟩, ⟨#[104, 105, 115, 116, 111, 114, 121]⟩, ⟨#[115, 116, 97, 116, 101, 115]⟩, ⟨#[111, 110, 101]⟩]
def P_51_ : List (PySem.Str) := P_51_0
def D_51 : DefC := ⟨⟨#[108, 97, 116, 101, 114, 95, 115, 116, 97, 116, 101, 115]⟩, ⟨#[108, 97, 116, 101, 114, 95, 115, 116, 97, 116, 101, 115]⟩, st_51, N_51_, P_51_⟩
def A_51 : PySem.Str × Option PySem.Str := (⟨#[108, 97, 116, 101, 114, 95, 115, 116, 97, 116, 101, 115]⟩, none)
def fn_found_in_step : Fn := ⟨3, 11, true,
   [(.par [(3, true), (4, true)] [(.dct [] []), (.lst [(.tup [(.bi 8 [(.cmp1 (.call 5 [(.var 10)]) (.nm 10) (.var 0) [] [10])]), (.bi 8 [(.rng (.cst (.int 0)) (.bi 0 [(.var 2)]))])])])]),
    (.whil (.cmp 1 (.own 4) (.lst [])) [(.popt (.tp [(.nm 5), (.nm 6)]) 4),
    (.cond (.cmp 0 (.cmp1 (.var 8) (.nm 8) (.var 6) [(.cmp 7 (.sub (.sub (.var 2) (.var 8)) (.cst (.int 3))) (.cst .non))] [8]) (.lst [])) [(.ret (.cst (.bl true)))] []),
    (.cond (.cmp 9 (.tup [(.var 5), (.var 6)]) (.own 3)) [(.put 3 (.tup [(.var 5), (.var 6)]) (.cst (.bl true))),
    (.forr (.nm 7) (.var 6) [(.cond (.cmp 0 (.cmp1 (.var 8) (.nm 8) (.var 6) [(.and (.cmp 0 (.sub (.sub (.var 2) (.var 8)) (.cst (.int 0))) (.sub (.sub (.var 2) (.var 7)) (.cst (.int 0)))) (.cmp 2 (.sub (.sub (.var 2) (.var 8)) (.cst (.int 2))) (.sub (.sub (.var 2) (.var 7)) (.cst (.int 2)))))] [8]) (.lst [])) [(.set (.nm 9) (.call 51 [(.var 0), (.var 1), (.var 5), (.sub (.var 2) (.var 7))])),
    (.cond (.cmp 7 (.var 9) (.cst .non)) [(.app 4 (.tup [(.var 9), (.bi 8 [(.cmp1 (.var 8) (.nm 8) (.var 6) [(.cmp 1 (.var 8) (.var 7))] [8])])]))] [])] [])])] [])]),
    (.ret (.cst (.bl false)))]⟩
def st_52 : Stmt := top 58
def N_52_0 : List (PySem.Str) := [⟨#[116, 104, 105, 110, 103, 115]⟩, ⟨#[104, 105, 115, 116, 111, 114, 121]⟩, ⟨#[108, 105, 110, 101]⟩, ⟨#[107, 110, 111, 119, 110]⟩, ⟨#[108, 97, 115, 116]⟩, ⟨#[115, 116, 97, 116, 101, 115]⟩, ⟨#[108, 101, 102, 116]⟩, ⟨#[97, 116]⟩, ⟨#[107]⟩, ⟨#[116, 104, 101, 114, 101]⟩, ⟨#[111, 110, 101]⟩]
def N_52_ : List (PySem.Str) := N_52_0
def P_52_0 : List (PySem.Str) := [⟨#[116, 104, 105, 110, 103, 115]⟩, ⟨#[104, 105, 115, 116, 111, 114, 121]⟩, ⟨#[108, 105, 110, 101]⟩]
def P_52_ : List (PySem.Str) := P_52_0
def D_52 : DefC := ⟨⟨#[102, 111, 117, 110, 100, 95, 105, 110, 95, 115, 116, 101, 112]⟩, ⟨#[102, 111, 117, 110, 100, 95, 105, 110, 95, 115, 116, 101, 112]⟩, st_52, N_52_, P_52_⟩
def A_52 : PySem.Str × Option PySem.Str := (⟨#[102, 111, 117, 110, 100, 95, 105, 110, 95, 115, 116, 101, 112]⟩, none)
def fn__law_taken : Fn := ⟨2, 4, false,
   [(.cond (.cmp 4 (.sub (.var 0) (.cst (.int 3))) (.cst (.int 0))) [(.set (.nm 3) (.bin 4 (.bi 7 [(.sub (.var 0) (.cst (.int 3)))]) (.var 1))),
    (.put 0 (.cst (.int 3)) (.bin 3 (.sub (.var 0) (.cst (.int 3))) (.var 1))),
    (.ret (.var 3))] []),
    (.put 0 (.cst (.int 1)) (.bin 0 (.sub (.var 0) (.cst (.int 1))) (.cst (.int 1)))),
    (.cond (.cmp 4 (.sub (.var 0) (.cst (.int 1))) (.bi 0 [(.sub (.var 0) (.cst (.int 0)))])) [(.put 0 (.cst (.int 2)) (.bin 4 (.bi 7 [(.bin 0 (.bin 2 (.sub (.var 0) (.cst (.int 2))) (.cst (.int 48271))) (.cst (.int 11)))]) (.cst (.int 2147483647)))),
    (.ret (.bin 4 (.bi 7 [(.bin 3 (.sub (.var 0) (.cst (.int 2))) (.cst (.int 7)))]) (.var 1)))] []),
    (.set (.nm 2) (.sub (.sub (.var 0) (.cst (.int 0))) (.bin 1 (.sub (.var 0) (.cst (.int 1))) (.cst (.int 1))))),
    (.put 0 (.cst (.int 2)) (.bin 4 (.bi 7 [(.bin 0 (.bin 0 (.bin 2 (.sub (.var 0) (.cst (.int 2))) (.cst (.int 48271))) (.var 2)) (.cst (.int 11)))]) (.cst (.int 2147483647)))),
    (.cond (.cmp 5 (.var 2) (.bin 5 (.cst (.int 10)) (.cst (.int 18)))) [(.put 0 (.cst (.int 3)) (.bin 3 (.var 2) (.var 1)))] []),
    (.ret (.bin 4 (.bi 7 [(.var 2)]) (.var 1)))]⟩
def st_53 : Stmt := top 60
def N_53_0 : List (PySem.Str) := [⟨#[95, 108, 97, 119, 95, 114, 111, 119]⟩, ⟨#[95, 108, 97, 119, 95, 109, 97, 110, 121]⟩, ⟨#[95, 108, 97, 119, 95, 99, 101, 108, 108]⟩, ⟨#[95, 108, 97, 119, 95, 102, 111, 117, 110, 100]⟩]
def N_53_ : List (PySem.Str) := N_53_0
def P_53_0 : List (PySem.Str) := [⟨#[95, 108, 97, 119, 95, 114, 111, 119]⟩, ⟨#[95, 108, 97, 119, 95, 109, 97, 110, 121]⟩]
def P_53_ : List (PySem.Str) := P_53_0
def D_53 : DefC := ⟨⟨#[95, 108, 97, 119, 95, 116, 97, 107, 101, 110]⟩, ⟨#[95, 108, 97, 119, 95, 116, 97, 107, 101, 110]⟩, st_53, N_53_, P_53_⟩
def A_53 : PySem.Str × Option PySem.Str := (⟨#[95, 108, 97, 119, 95, 116, 97, 107, 101, 110]⟩, none)
def fn__law_pick : Fn := ⟨2, 2, false,
   [(.ret (.sub (.var 1) (.call 53 [(.var 0), (.bi 0 [(.var 1)])])))]⟩
def st_54 : Stmt := top 61
def N_54_0 : List (PySem.Str) := [⟨#[95, 108, 97, 119, 95, 114, 111, 119]⟩, ⟨#[95, 108, 97, 119, 95, 116, 104, 105, 110, 103, 115]⟩]
def N_54_ : List (PySem.Str) := N_54_0
def P_54_0 : List (PySem.Str) := [⟨#[95, 108, 97, 119, 95, 114, 111, 119]⟩, ⟨#[95, 108, 97, 119, 95, 116, 104, 105, 110, 103, 115]⟩]
def P_54_ : List (PySem.Str) := P_54_0
def D_54 : DefC := ⟨⟨#[95, 108, 97, 119, 95, 112, 105, 99, 107]⟩, ⟨#[95, 108, 97, 119, 95, 112, 105, 99, 107]⟩, st_54, N_54_, P_54_⟩
def A_54 : PySem.Str × Option PySem.Str := (⟨#[95, 108, 97, 119, 95, 112, 105, 99, 107]⟩, none)
def fn__law_alike : Fn := ⟨2, 3, true,
   [(.cond (.bi 6 [(.var 1)]) [(.cond (.or (.not (.bi 6 [(.var 0)])) (.cmp 1 (.bi 5 [(.var 0)]) (.bi 5 [(.var 1)]))) [(.ret (.cst (.bl false)))] []),
    (.cond (.cmp 1 (.bi 0 [(.var 0)]) (.bi 0 [(.var 1)])) [(.ret (.cst (.bl false)))] []),
    (.ret (.cmp 0 (.cmp1 (.var 2) (.nm 2) (.rng (.cst (.int 0)) (.bi 0 [(.var 1)])) [(.not (.call 55 [(.sub (.var 0) (.var 2)), (.sub (.var 1) (.var 2))]))] [2]) (.lst [])))] []),
    (.cond (.or (.cmp 6 (.var 1) (.cst .non)) (.bi 3 [(.var 1)])) [(.ret (.and (.cmp 0 (.var 0) (.var 1)) (.cmp 0 (.bi 3 [(.var 0)]) (.bi 3 [(.var 1)]))))] []),
    (.ret (.and (.bi 1 [(.var 0)]) (.and (.cmp 0 (.bi 2 [(.var 0)]) (.bi 2 [(.var 1)])) (.cmp 0 (.var 0) (.var 1)))))]⟩
def st_55 : Stmt := top 62
def N_55_0 : List (PySem.Str) := [⟨#[95, 108, 97, 119, 95, 102, 111, 117, 110, 100]⟩, ⟨#[95, 108, 97, 119, 95, 100, 117, 101]⟩, ⟨#[95, 108, 97, 119, 95, 107]⟩]
def N_55_ : List (PySem.Str) := N_55_0
def P_55_0 : List (PySem.Str) := [⟨#[95, 108, 97, 119, 95, 102, 111, 117, 110, 100]⟩, ⟨#[95, 108, 97, 119, 95, 100, 117, 101]⟩]
def P_55_ : List (PySem.Str) := P_55_0
def D_55 : DefC := ⟨⟨#[95, 108, 97, 119, 95, 97, 108, 105, 107, 101]⟩, ⟨#[95, 108, 97, 119, 95, 97, 108, 105, 107, 101]⟩, st_55, N_55_, P_55_⟩
def A_55 : PySem.Str × Option PySem.Str := (⟨#[95, 108, 97, 119, 95, 97, 108, 105, 107, 101]⟩, none)
def fn_law : Fn := ⟨1, 12, true,
   [(.set (.nm 1) (.hlst [(.var 0), (.cst (.int 0)), (.cst (.int 16014)), (.cst (.int 0))])),
    (.set (.nm 2) (.tup [(.tup [(.cst (.str [113, 117, 101, 117, 101])), (.cst (.int 2)), (.cst (.int 2))]), (.tup [(.cst (.str [113, 117, 101, 117, 101])), (.cst (.int 2)), (.cst (.int 2))])])),
    (.par [(7, false), (8, false)] [(.call 53 [(.var 1), (.cst (.int 2))]), (.call 53 [(.var 1), (.cst (.int 2))])]),
    (.set (.nm 3) (.tup [(.tup [(.cst (.str [99, 97, 108, 108])), (.cst (.int 0)), (.cst (.int 0)), (.tup [(.cst (.str [101, 110, 116, 101, 114])), (.var 7)])]), (.tup [(.cst (.str [97, 110, 115, 119, 101, 114])), (.cst (.int 0)), (.cst (.int 0)), (.cst (.bl true))]), (.tup [(.cst (.str [99, 97, 108, 108])), (.cst (.int 1)), (.cst (.int 1)), (.tup [(.cst (.str [101, 110, 116, 101, 114])), (.var 8)])]), (.tup [(.cst (.str [97, 110, 115, 119, 101, 114])), (.cst (.int 1)), (.cst (.int 1)), (.cst (.bl true))])])),
    (.set (.nm 3) (.bin 0 (.var 3) (.tup [(.tup [(.cst (.str [99, 97, 108, 108])), (.cst (.int 0)), (.cst (.int 1)), (.tup [(.cst (.str [101, 110, 116, 101, 114])), (.bin 1 (.cst (.int 1)) (.var 8))])]), (.tup [(.cst (.str [97, 110, 115, 119, 101, 114])), (.cst (.int 0)), (.cst (.int 1)), (.cst (.bl true))]), (.tup [(.cst (.str [99, 97, 108, 108])), (.cst (.int 1)), (.cst (.int 0)), (.tup [(.cst (.str [101, 110, 116, 101, 114])), (.bin 1 (.cst (.int 1)) (.var 7))])]), (.tup [(.cst (.str [97, 110, 115, 119, 101, 114])), (.cst (.int 1)), (.cst (.int 0)), (.cst (.bl true))])]))),
    (.par [(9, false), (10, false)] [(.call 54 [(.var 1), (.lst [(.var 7), (.bin 1 (.cst (.int 1)) (.var 7))])]), (.call 54 [(.var 1), (.lst [(.var 8), (.bin 1 (.cst (.int 1)) (.var 8))])])]),
    (.set (.nm 3) (.bin 0 (.var 3) (.tup [(.tup [(.cst (.str [99, 97, 108, 108])), (.cst (.int 0)), (.cst (.int 0)), (.tup [(.cst (.str [108, 101, 97, 118, 101]))])]), (.tup [(.cst (.str [97, 110, 115, 119, 101, 114])), (.cst (.int 0)), (.cst (.int 0)), (.var 9)]), (.tup [(.cst (.str [99, 97, 108, 108])), (.cst (.int 1)), (.cst (.int 1)), (.tup [(.cst (.str [108, 101, 97, 118, 101]))])]), (.tup [(.cst (.str [97, 110, 115, 119, 101, 114])), (.cst (.int 1)), (.cst (.int 1)), (.var 10)])]))),
    (.cond (.cmp 7 (.call 43 [(.var 2), (.var 3)]) (.cst (.bl true))) [(.ret (.cst (.bl false)))] []),
    (.set (.nm 4) (.call 44 [(.var 2), (.var 3)])),
    (.set (.nm 5) (.cmp1 (.cmp 7 (.call 34 [(.sub (.var 2) (.var 11)), (.sub (.var 4) (.var 11))]) (.cst .non)) (.nm 11) (.lst [(.cst (.int 0)), (.cst (.int 1))]) [] [11])),
    (.set (.nm 6) (.cmp1 (.cmp 7 (.call 37 [(.sub (.var 2) (.var 11)), (.sub (.var 4) (.var 11))]) (.cst .non)) (.nm 11) (.lst [(.cst (.int 0)), (.cst (.int 1))]) [] [11])),
    (.cond (.or (.cmp 1 (.var 5) (.lst [(.cmp 0 (.var 9) (.var 7)), (.cmp 0 (.var 10) (.var 8))])) (.cmp 1 (.var 6) (.lst [(.cst (.bl true)), (.cst (.bl true))]))) [(.ret (.cst (.bl false)))] []),
    (.cond (.cmp 1 (.cmp 7 (.call 49 [(.var 2), (.var 3)]) (.cst .non)) (.cmp 0 (.var 5) (.lst [(.cst (.bl true)), (.cst (.bl true))]))) [(.ret (.cst (.bl false)))] []),
    (.cond (.cmp 1 (.call 50 [(.var 2), (.var 3)]) (.or (.cmp 0 (.var 9) (.var 7)) (.cmp 0 (.var 10) (.var 8)))) [(.ret (.cst (.bl false)))] []),
    (.cond (.cmp 1 (.cmp1 (.call 36 [(.sub (.var 2) (.var 11)), (.sub (.var 4) (.var 11))]) (.nm 11) (.lst [(.cst (.int 0)), (.cst (.int 1))]) [] [11]) (.cmp1 (.ite (.sub (.var 5) (.var 11)) (.cst .non) (.cst (.int 5))) (.nm 11) (.lst [(.cst (.int 0)), (.cst (.int 1))]) [] [11])) [(.ret (.cst (.bl false)))] []),
    (.cond (.cmp 0 (.var 5) (.lst [(.cst (.bl true)), (.cst (.bl true))])) [(.ret (.and (.cmp 0 (.call 48 [(.var 2), (.var 3), (.tup [(.tup [(.cst (.int 0)), (.cst (.int 1)), (.cst (.int 2))]), (.tup [(.cst (.int 0)), (.cst (.int 1)), (.cst (.int 2))])])]) (.tup [(.cst (.int 0)), (.cst (.int 1)), (.cst (.int 2)), (.cst (.int 3)), (.cst (.int 4)), (.cst (.int 5))])) (.cmp 0 (.call 35 [(.sub (.var 2) (.cst (.int 0))), (.sub (.var 4) (.cst (.int 0)))]) (.cst (.int 1)))))] []),
    (.ret (.cst (.bl true)))]⟩
def st_56 : Stmt := top 63
def N_56_0 : List (PySem.Str) := [⟨#[95, 108, 97, 119, 95, 115, 99, 114, 105, 112, 116]⟩, ⟨#[95, 108, 97, 119, 95, 114, 111, 119]⟩, ⟨#[95, 108, 97, 119, 95, 116, 104, 105, 110, 103, 115]⟩, ⟨#[95, 108, 97, 119, 95, 119, 105, 100, 101]⟩, ⟨#[95, 108, 97, 119, 95, 115, 111, 109, 101]⟩, ⟨#[95, 108, 97, 119, 95, 112, 108, 97, 105, 110]⟩, ⟨#[95, 108, 97, 119, 95, 115, 116, 101, 112, 115]⟩, ⟨#[95, 108, 97, 119, 95, 111, 110, 101]⟩, ⟨#[95, 108, 97, 119, 95, 111, 116, 104, 101, 114]⟩, ⟨#[95, 108, 97, 119, 95, 102, 105, 114, 115, 116]⟩, ⟨#[95, 108, 97, 119, 95, 115, 101, 99, 111, 110, 100]⟩, ⟨#[95, 108, 97, 119, 95, 107]⟩]
def N_56_ : List (PySem.Str) := N_56_0
def P_56_0 : List (PySem.Str) := [⟨#[95, 108, 97, 119, 95, 115, 99, 114, 105, 112, 116]⟩]
def P_56_ : List (PySem.Str) := P_56_0
def D_56 : DefC := ⟨⟨#[108, 97, 119]⟩, ⟨#[108, 97, 119]⟩, st_56, N_56_, P_56_⟩
def A_56 : PySem.Str × Option PySem.Str := (⟨#[108, 97, 119]⟩, none)
def fns (n : Nat) : Option Fn := bif Nat.blt n 57 then (bif Nat.blt n 30 then (bif Nat.blt n 16 then (bif Nat.blt n 8 then (bif Nat.blt n 4 then (bif Nat.blt n 2 then (bif Nat.beq n 1 then some fn_is_small else none) else (bif Nat.blt n 3 then (bif Nat.beq n 2 then some fn_is_table else none) else (bif Nat.beq n 3 then some fn_is_bank else none))) else (bif Nat.blt n 5 then (bif Nat.beq n 4 then some fn_is_kind else none) else (bif Nat.blt n 6 then (bif Nat.beq n 5 then some fn_first_in else none) else (bif Nat.beq n 6 then some fn_calls_in else none)))) else (bif Nat.blt n 11 then (bif Nat.blt n 9 then (bif Nat.beq n 8 then some fn_applied_in else none) else (bif Nat.blt n 10 then (bif Nat.beq n 9 then some fn_on_stack else none) else (bif Nat.beq n 10 then some fn_on_queue else none))) else (bif Nat.blt n 14 then (bif Nat.blt n 13 then (bif Nat.beq n 11 then some fn_on_set else none) else (bif Nat.beq n 13 then some fn_need_object else none)) else (bif Nat.blt n 15 then (bif Nat.beq n 14 then some fn_is_object else none) else (bif Nat.beq n 15 then some fn_is_plain_tuple else none))))) else (bif Nat.blt n 23 then (bif Nat.blt n 19 then (bif Nat.blt n 17 then (bif Nat.beq n 16 then some fn_is_call_of else none) else (bif Nat.blt n 18 then (bif Nat.beq n 17 then some fn_is_same else none) else (bif Nat.beq n 18 then some fn_is_answer else none))) else (bif Nat.blt n 21 then (bif Nat.blt n 20 then (bif Nat.beq n 19 then some fn_is_event else none) else (bif Nat.beq n 20 then some fn_wrong_event else none)) else (bif Nat.blt n 22 then (bif Nat.beq n 21 then some fn_need_history else none) else (bif Nat.beq n 22 then some fn_spans_of else none)))) else (bif Nat.blt n 26 then (bif Nat.blt n 24 then (bif Nat.beq n 23 then some fn_is_ahead else none) else (bif Nat.blt n 25 then (bif Nat.beq n 24 then some fn_fits else none) else (bif Nat.beq n 25 then some fn_Explainer___init__ else none))) else (bif Nat.blt n 28 then (bif Nat.blt n 27 then (bif Nat.beq n 26 then some fn_Explainer_comes_before else none) else (bif Nat.beq n 27 then some fn_Explainer_is_ready else none)) else (bif Nat.blt n 29 then (bif Nat.beq n 28 then some fn_Explainer_is_over else none) else (bif Nat.beq n 29 then some fn_Explainer_count else none)))))) else (bif Nat.blt n 43 then (bif Nat.blt n 36 then (bif Nat.blt n 33 then (bif Nat.blt n 31 then (bif Nat.beq n 30 then some fn_Explainer_total else none) else (bif Nat.blt n 32 then (bif Nat.beq n 31 then some fn_Explainer_order else none) else (bif Nat.beq n 32 then some fn_is_order else none))) else (bif Nat.blt n 34 then (bif Nat.beq n 33 then some fn_does_explain else none) else (bif Nat.blt n 35 then (bif Nat.beq n 34 then some fn_explained else none) else (bif Nat.beq n 35 then some fn_order_count else none)))) else (bif Nat.blt n 39 then (bif Nat.blt n 37 then (bif Nat.beq n 36 then some fn_first_wrong else none) else (bif Nat.blt n 38 then (bif Nat.beq n 37 then some fn_in_step else none) else (bif Nat.beq n 38 then some fn_need_objects else none))) else (bif Nat.blt n 41 then (bif Nat.blt n 40 then (bif Nat.beq n 39 then some fn_is_wide else none) else (bif Nat.beq n 40 then some fn_parts_of else none)) else (bif Nat.blt n 42 then (bif Nat.beq n 41 then some fn_wrong_wide else none) else (bif Nat.beq n 42 then some fn_need_wide else none))))) else (bif Nat.blt n 50 then (bif Nat.blt n 46 then (bif Nat.blt n 44 then (bif Nat.beq n 43 then some fn_is_wide_history else none) else (bif Nat.blt n 45 then (bif Nat.beq n 44 then some fn_parts else none) else (bif Nat.beq n 45 then some fn_wide_spans else none))) else (bif Nat.blt n 48 then (bif Nat.blt n 47 then (bif Nat.beq n 46 then some fn_places_of else none) else (bif Nat.beq n 47 then some fn_is_ready else none)) else (bif Nat.blt n 49 then (bif Nat.beq n 48 then some fn_woven else none) else (bif Nat.beq n 49 then some fn_explained_all else none)))) else (bif Nat.blt n 53 then (bif Nat.blt n 51 then (bif Nat.beq n 50 then some fn_in_step_all else none) else (bif Nat.blt n 52 then (bif Nat.beq n 51 then some fn_later_states else none) else (bif Nat.beq n 52 then some fn_found_in_step else none))) else (bif Nat.blt n 55 then (bif Nat.blt n 54 then (bif Nat.beq n 53 then some fn__law_taken else none) else (bif Nat.beq n 54 then some fn__law_pick else none)) else (bif Nat.blt n 56 then (bif Nat.beq n 55 then some fn__law_alike else none) else (bif Nat.beq n 56 then some fn_law else none))))))) else none
def DD (n : Nat) : DefC := bif Nat.blt n 30 then (bif Nat.blt n 16 then (bif Nat.blt n 8 then (bif Nat.blt n 4 then (bif Nat.blt n 2 then (bif Nat.beq n 1 then D_1 else D_1) else (bif Nat.blt n 3 then (bif Nat.beq n 2 then D_2 else D_1) else (bif Nat.beq n 3 then D_3 else D_1))) else (bif Nat.blt n 5 then (bif Nat.beq n 4 then D_4 else D_1) else (bif Nat.blt n 6 then (bif Nat.beq n 5 then D_5 else D_1) else (bif Nat.beq n 6 then D_6 else D_1)))) else (bif Nat.blt n 11 then (bif Nat.blt n 9 then (bif Nat.beq n 8 then D_8 else D_1) else (bif Nat.blt n 10 then (bif Nat.beq n 9 then D_9 else D_1) else (bif Nat.beq n 10 then D_10 else D_1))) else (bif Nat.blt n 14 then (bif Nat.blt n 13 then (bif Nat.beq n 11 then D_11 else D_1) else (bif Nat.beq n 13 then D_13 else D_1)) else (bif Nat.blt n 15 then (bif Nat.beq n 14 then D_14 else D_1) else (bif Nat.beq n 15 then D_15 else D_1))))) else (bif Nat.blt n 23 then (bif Nat.blt n 19 then (bif Nat.blt n 17 then (bif Nat.beq n 16 then D_16 else D_1) else (bif Nat.blt n 18 then (bif Nat.beq n 17 then D_17 else D_1) else (bif Nat.beq n 18 then D_18 else D_1))) else (bif Nat.blt n 21 then (bif Nat.blt n 20 then (bif Nat.beq n 19 then D_19 else D_1) else (bif Nat.beq n 20 then D_20 else D_1)) else (bif Nat.blt n 22 then (bif Nat.beq n 21 then D_21 else D_1) else (bif Nat.beq n 22 then D_22 else D_1)))) else (bif Nat.blt n 26 then (bif Nat.blt n 24 then (bif Nat.beq n 23 then D_23 else D_1) else (bif Nat.blt n 25 then (bif Nat.beq n 24 then D_24 else D_1) else (bif Nat.beq n 25 then D_25 else D_1))) else (bif Nat.blt n 28 then (bif Nat.blt n 27 then (bif Nat.beq n 26 then D_26 else D_1) else (bif Nat.beq n 27 then D_27 else D_1)) else (bif Nat.blt n 29 then (bif Nat.beq n 28 then D_28 else D_1) else (bif Nat.beq n 29 then D_29 else D_1)))))) else (bif Nat.blt n 43 then (bif Nat.blt n 36 then (bif Nat.blt n 33 then (bif Nat.blt n 31 then (bif Nat.beq n 30 then D_30 else D_1) else (bif Nat.blt n 32 then (bif Nat.beq n 31 then D_31 else D_1) else (bif Nat.beq n 32 then D_32 else D_1))) else (bif Nat.blt n 34 then (bif Nat.beq n 33 then D_33 else D_1) else (bif Nat.blt n 35 then (bif Nat.beq n 34 then D_34 else D_1) else (bif Nat.beq n 35 then D_35 else D_1)))) else (bif Nat.blt n 39 then (bif Nat.blt n 37 then (bif Nat.beq n 36 then D_36 else D_1) else (bif Nat.blt n 38 then (bif Nat.beq n 37 then D_37 else D_1) else (bif Nat.beq n 38 then D_38 else D_1))) else (bif Nat.blt n 41 then (bif Nat.blt n 40 then (bif Nat.beq n 39 then D_39 else D_1) else (bif Nat.beq n 40 then D_40 else D_1)) else (bif Nat.blt n 42 then (bif Nat.beq n 41 then D_41 else D_1) else (bif Nat.beq n 42 then D_42 else D_1))))) else (bif Nat.blt n 50 then (bif Nat.blt n 46 then (bif Nat.blt n 44 then (bif Nat.beq n 43 then D_43 else D_1) else (bif Nat.blt n 45 then (bif Nat.beq n 44 then D_44 else D_1) else (bif Nat.beq n 45 then D_45 else D_1))) else (bif Nat.blt n 48 then (bif Nat.blt n 47 then (bif Nat.beq n 46 then D_46 else D_1) else (bif Nat.beq n 47 then D_47 else D_1)) else (bif Nat.blt n 49 then (bif Nat.beq n 48 then D_48 else D_1) else (bif Nat.beq n 49 then D_49 else D_1)))) else (bif Nat.blt n 53 then (bif Nat.blt n 51 then (bif Nat.beq n 50 then D_50 else D_1) else (bif Nat.blt n 52 then (bif Nat.beq n 51 then D_51 else D_1) else (bif Nat.beq n 52 then D_52 else D_1))) else (bif Nat.blt n 55 then (bif Nat.blt n 54 then (bif Nat.beq n 53 then D_53 else D_1) else (bif Nat.beq n 54 then D_54 else D_1)) else (bif Nat.blt n 56 then (bif Nat.beq n 55 then D_55 else D_1) else (bif Nat.beq n 56 then D_56 else D_1))))))
def AA (n : Nat) : PySem.Str × Option PySem.Str := bif Nat.blt n 30 then (bif Nat.blt n 16 then (bif Nat.blt n 8 then (bif Nat.blt n 4 then (bif Nat.blt n 2 then (bif Nat.beq n 1 then A_1 else A_1) else (bif Nat.blt n 3 then (bif Nat.beq n 2 then A_2 else A_1) else (bif Nat.beq n 3 then A_3 else A_1))) else (bif Nat.blt n 5 then (bif Nat.beq n 4 then A_4 else A_1) else (bif Nat.blt n 6 then (bif Nat.beq n 5 then A_5 else A_1) else (bif Nat.beq n 6 then A_6 else A_1)))) else (bif Nat.blt n 11 then (bif Nat.blt n 9 then (bif Nat.beq n 8 then A_8 else A_1) else (bif Nat.blt n 10 then (bif Nat.beq n 9 then A_9 else A_1) else (bif Nat.beq n 10 then A_10 else A_1))) else (bif Nat.blt n 14 then (bif Nat.blt n 13 then (bif Nat.beq n 11 then A_11 else A_1) else (bif Nat.beq n 13 then A_13 else A_1)) else (bif Nat.blt n 15 then (bif Nat.beq n 14 then A_14 else A_1) else (bif Nat.beq n 15 then A_15 else A_1))))) else (bif Nat.blt n 23 then (bif Nat.blt n 19 then (bif Nat.blt n 17 then (bif Nat.beq n 16 then A_16 else A_1) else (bif Nat.blt n 18 then (bif Nat.beq n 17 then A_17 else A_1) else (bif Nat.beq n 18 then A_18 else A_1))) else (bif Nat.blt n 21 then (bif Nat.blt n 20 then (bif Nat.beq n 19 then A_19 else A_1) else (bif Nat.beq n 20 then A_20 else A_1)) else (bif Nat.blt n 22 then (bif Nat.beq n 21 then A_21 else A_1) else (bif Nat.beq n 22 then A_22 else A_1)))) else (bif Nat.blt n 26 then (bif Nat.blt n 24 then (bif Nat.beq n 23 then A_23 else A_1) else (bif Nat.blt n 25 then (bif Nat.beq n 24 then A_24 else A_1) else (bif Nat.beq n 25 then A_25 else A_1))) else (bif Nat.blt n 28 then (bif Nat.blt n 27 then (bif Nat.beq n 26 then A_26 else A_1) else (bif Nat.beq n 27 then A_27 else A_1)) else (bif Nat.blt n 29 then (bif Nat.beq n 28 then A_28 else A_1) else (bif Nat.beq n 29 then A_29 else A_1)))))) else (bif Nat.blt n 43 then (bif Nat.blt n 36 then (bif Nat.blt n 33 then (bif Nat.blt n 31 then (bif Nat.beq n 30 then A_30 else A_1) else (bif Nat.blt n 32 then (bif Nat.beq n 31 then A_31 else A_1) else (bif Nat.beq n 32 then A_32 else A_1))) else (bif Nat.blt n 34 then (bif Nat.beq n 33 then A_33 else A_1) else (bif Nat.blt n 35 then (bif Nat.beq n 34 then A_34 else A_1) else (bif Nat.beq n 35 then A_35 else A_1)))) else (bif Nat.blt n 39 then (bif Nat.blt n 37 then (bif Nat.beq n 36 then A_36 else A_1) else (bif Nat.blt n 38 then (bif Nat.beq n 37 then A_37 else A_1) else (bif Nat.beq n 38 then A_38 else A_1))) else (bif Nat.blt n 41 then (bif Nat.blt n 40 then (bif Nat.beq n 39 then A_39 else A_1) else (bif Nat.beq n 40 then A_40 else A_1)) else (bif Nat.blt n 42 then (bif Nat.beq n 41 then A_41 else A_1) else (bif Nat.beq n 42 then A_42 else A_1))))) else (bif Nat.blt n 50 then (bif Nat.blt n 46 then (bif Nat.blt n 44 then (bif Nat.beq n 43 then A_43 else A_1) else (bif Nat.blt n 45 then (bif Nat.beq n 44 then A_44 else A_1) else (bif Nat.beq n 45 then A_45 else A_1))) else (bif Nat.blt n 48 then (bif Nat.blt n 47 then (bif Nat.beq n 46 then A_46 else A_1) else (bif Nat.beq n 47 then A_47 else A_1)) else (bif Nat.blt n 49 then (bif Nat.beq n 48 then A_48 else A_1) else (bif Nat.beq n 49 then A_49 else A_1)))) else (bif Nat.blt n 53 then (bif Nat.blt n 51 then (bif Nat.beq n 50 then A_50 else A_1) else (bif Nat.blt n 52 then (bif Nat.beq n 51 then A_51 else A_1) else (bif Nat.beq n 52 then A_52 else A_1))) else (bif Nat.blt n 55 then (bif Nat.blt n 54 then (bif Nat.beq n 53 then A_53 else A_1) else (bif Nat.beq n 54 then A_54 else A_1)) else (bif Nat.blt n 56 then (bif Nat.beq n 55 then A_55 else A_1) else (bif Nat.beq n 56 then A_56 else A_1))))))
def okl : List Nat := [1, 2, 3, 4, 5, 6, 8, 9, 10, 11, 13, 14, 15, 16, 17, 18, 19, 20, 21, 22, 23, 24, 25, 26, 27, 28, 29, 30, 31, 32, 33, 34, 35, 36, 37, 38, 39, 40, 41, 42, 43, 44, 45, 46, 47, 48, 49, 50, 51, 52, 53, 54, 55, 56]
def msl : List ((Nat × Nat) × Nat) := [((4, 6), 31), ((4, 7), 30), ((4, 10), 29), ((4, 13), 28), ((4, 15), 27), ((4, 16), 26)]
def inl : List (Nat × Nat) := [(4, 25)]
def fnT0 : List (PySem.Str × Nat) := [(⟨#[95, 108, 97, 119, 95, 97, 108, 105, 107, 101]⟩, 55), (⟨#[95, 108, 97, 119, 95, 112, 105, 99, 107]⟩, 54), (⟨#[95, 108, 97, 119, 95, 116, 97, 107, 101, 110]⟩, 53), (⟨#[97, 112, 112, 108, 105, 101, 100, 95, 105, 110]⟩, 8), (⟨#[99, 97, 108, 108, 115, 95, 105, 110]⟩, 6), (⟨#[100, 111, 101, 115, 95, 101, 120, 112, 108, 97, 105, 110]⟩, 33), (⟨#[101, 120, 112, 108, 97, 105, 110, 101, 100]⟩, 34), (⟨#[101, 120, 112, 108, 97, 105, 110, 101, 100, 95, 97, 108, 108]⟩, 49), (⟨#[102, 105, 114, 115, 116, 95, 105, 110]⟩, 5), (⟨#[102, 105, 114, 115, 116, 95, 119, 114, 111, 110, 103]⟩, 36), (⟨#[102, 105, 116, 115]⟩, 24), (⟨#[102, 111, 117, 110, 100, 95, 105, 110, 95, 115, 116, 101, 112]⟩, 52)]
def fnT1 : List (PySem.Str × Nat) := [(⟨#[105, 110, 95, 115, 116, 101, 112]⟩, 37), (⟨#[105, 110, 95, 115, 116, 101, 112, 95, 97, 108, 108]⟩, 50), (⟨#[105, 115, 95, 97, 104, 101, 97, 100]⟩, 23), (⟨#[105, 115, 95, 97, 110, 115, 119, 101, 114]⟩, 18), (⟨#[105, 115, 95, 98, 97, 110, 107]⟩, 3), (⟨#[105, 115, 95, 99, 97, 108, 108, 95, 111, 102]⟩, 16), (⟨#[105, 115, 95, 101, 118, 101, 110, 116]⟩, 19), (⟨#[105, 115, 95, 107, 105, 110, 100]⟩, 4), (⟨#[105, 115, 95, 111, 98, 106, 101, 99, 116]⟩, 14), (⟨#[105, 115, 95, 111, 114, 100, 101, 114]⟩, 32), (⟨#[105, 115, 95, 112, 108, 97, 105, 110, 95, 116, 117, 112, 108, 101]⟩, 15), (⟨#[105, 115, 95, 114, 101, 97, 100, 121]⟩, 47)]
def fnT2 : List (PySem.Str × Nat) := [(⟨#[105, 115, 95, 115, 97, 109, 101]⟩, 17), (⟨#[105, 115, 95, 115, 109, 97, 108, 108]⟩, 1), (⟨#[105, 115, 95, 116, 97, 98, 108, 101]⟩, 2), (⟨#[105, 115, 95, 119, 105, 100, 101]⟩, 39), (⟨#[105, 115, 95, 119, 105, 100, 101, 95, 104, 105, 115, 116, 111, 114, 121]⟩, 43), (⟨#[108, 97, 116, 101, 114, 95, 115, 116, 97, 116, 101, 115]⟩, 51), (⟨#[108, 97, 119]⟩, 56), (⟨#[110, 101, 101, 100, 95, 104, 105, 115, 116, 111, 114, 121]⟩, 21), (⟨#[110, 101, 101, 100, 95, 111, 98, 106, 101, 99, 116]⟩, 13), (⟨#[110, 101, 101, 100, 95, 111, 98, 106, 101, 99, 116, 115]⟩, 38), (⟨#[110, 101, 101, 100, 95, 119, 105, 100, 101]⟩, 42), (⟨#[111, 110, 95, 113, 117, 101, 117, 101]⟩, 10)]
def fnT3 : List (PySem.Str × Nat) := [(⟨#[111, 110, 95, 115, 101, 116]⟩, 11), (⟨#[111, 110, 95, 115, 116, 97, 99, 107]⟩, 9), (⟨#[111, 114, 100, 101, 114, 95, 99, 111, 117, 110, 116]⟩, 35), (⟨#[112, 97, 114, 116, 115]⟩, 44), (⟨#[112, 97, 114, 116, 115, 95, 111, 102]⟩, 40), (⟨#[112, 108, 97, 99, 101, 115, 95, 111, 102]⟩, 46), (⟨#[115, 112, 97, 110, 115, 95, 111, 102]⟩, 22), (⟨#[119, 105, 100, 101, 95, 115, 112, 97, 110, 115]⟩, 45), (⟨#[119, 111, 118, 101, 110]⟩, 48), (⟨#[119, 114, 111, 110, 103, 95, 101, 118, 101, 110, 116]⟩, 20), (⟨#[119, 114, 111, 110, 103, 95, 119, 105, 100, 101]⟩, 41)]
def fnT : List (PySem.Str × Nat) := fnT0 ++ fnT1 ++ fnT2 ++ fnT3
def clT0 : List (PySem.Str × Nat) := [(⟨#[69, 120, 112, 108, 97, 105, 110, 101, 114]⟩, 4)]
def clT : List (PySem.Str × Nat) := clT0
def csT0 : List (PySem.Str × PV) := [(⟨#[77, 79, 83, 84, 95, 69, 86, 69, 78, 84, 83]⟩, (.int 24)), (⟨#[77, 79, 83, 84, 95, 82, 79, 79, 77]⟩, (.int 3)), (⟨#[77, 79, 83, 84, 95, 84, 72, 82, 69, 65, 68, 83]⟩, (.int 4)), (⟨#[77, 79, 83, 84, 95, 86, 65, 76, 85, 69, 83]⟩, (.int 5))]
def csT : List (PySem.Str × PV) := csT0
def frT0 : List (PySem.Str) := [⟨#[97, 108, 108]⟩, ⟨#[98, 111, 111, 108]⟩, ⟨#[101, 110, 117, 109, 101, 114, 97, 116, 101]⟩, ⟨#[105, 110, 116]⟩, ⟨#[105, 115, 105, 110, 115, 116, 97, 110, 99, 101]⟩, ⟨#[108, 101, 110]⟩, ⟨#[108, 105, 115, 116]⟩, ⟨#[109, 105, 110]⟩, ⟨#[114, 97, 110, 103, 101]⟩, ⟨#[115, 101, 116]⟩, ⟨#[115, 111, 114, 116, 101, 100]⟩, ⟨#[115, 116, 114]⟩]
def frT1 : List (PySem.Str) := [⟨#[116, 117, 112, 108, 101]⟩]
def frT : List (PySem.Str) := frT0 ++ frT1
def fdT0 : List (PySem.Str) := [⟨#[108, 105, 110, 101]⟩, ⟨#[105, 110, 100, 101, 120]⟩, ⟨#[116, 104, 105, 110, 103]⟩, ⟨#[104, 105, 115, 116, 111, 114, 121]⟩, ⟨#[105, 115, 95, 116, 105, 109, 101, 100]⟩, ⟨#[107, 110, 111, 119, 110]⟩, ⟨#[111, 114, 100, 101, 114]⟩, ⟨#[116, 111, 116, 97, 108]⟩, ⟨#[95, 95, 105, 110, 105, 116, 95, 95]⟩, ⟨#[103, 101, 116]⟩, ⟨#[99, 111, 117, 110, 116]⟩, ⟨#[112, 111, 112]⟩]
def fdT1 : List (PySem.Str) := [⟨#[97, 112, 112, 101, 110, 100]⟩, ⟨#[105, 115, 95, 111, 118, 101, 114]⟩, ⟨#[101, 120, 116, 101, 110, 100]⟩, ⟨#[105, 115, 95, 114, 101, 97, 100, 121]⟩, ⟨#[99, 111, 109, 101, 115, 95, 98, 101, 102, 111, 114, 101]⟩]
def fdT : List (PySem.Str) := fdT0 ++ fdT1
def caT0 : List (PySem.Str) := [⟨#[83, 104, 97, 114, 101, 100, 69, 114, 114, 111, 114]⟩, ⟨#[66, 97, 100, 79, 98, 106, 101, 99, 116]⟩, ⟨#[66, 97, 100, 72, 105, 115, 116, 111, 114, 121]⟩, ⟨#[66, 97, 100, 79, 114, 100, 101, 114, 115]⟩, ⟨#[69, 120, 112, 108, 97, 105, 110, 101, 114]⟩]
def caT : List (PySem.Str) := caT0
def nof : List Nat := [0, 1, 2, 3, 4, 5]
def LL : Lw := ⟨fnT, clT, csT, frT, fdT, caT, nof, msl, inl, okl, fns, DD, AA⟩
def lawNo : Nat := 56
def lawIx : Nat := 63
end K14

set_option maxHeartbeats 0
namespace K14
open PySem PySem.Spec PyProof.Rows L2 Hc
theorem b_1 {K : PySem.W.Frag} {f : Addr} {fd : FuncData} (F : FunD K D_1.x D_1.qual (defArgs st_1) (defBody st_1) (defScope st_1) [] [] f fd) : L2.Binds K fd D_1.ps [] := F.bindsN (ps := D_1.ps) fun kV doc pm an cdv ct us hl => by
  obtain ⟨a, b, c, rfl⟩ := len3 (hl.trans (by kernel_rfl))
  kernel_rfl
theorem b_2 {K : PySem.W.Frag} {f : Addr} {fd : FuncData} (F : FunD K D_2.x D_2.qual (defArgs st_2) (defBody st_2) (defScope st_2) [] [] f fd) : L2.Binds K fd D_2.ps [] := F.bindsN (ps := D_2.ps) fun kV doc pm an cdv ct us hl => by
  obtain ⟨a, rfl⟩ := len1 (hl.trans (by kernel_rfl))
  kernel_rfl
theorem b_3 {K : PySem.W.Frag} {f : Addr} {fd : FuncData} (F : FunD K D_3.x D_3.qual (defArgs st_3) (defBody st_3) (defScope st_3) [] [] f fd) : L2.Binds K fd D_3.ps [] := F.bindsN (ps := D_3.ps) fun kV doc pm an cdv ct us hl => by
  obtain ⟨a, rfl⟩ := len1 (hl.trans (by kernel_rfl))
  kernel_rfl
theorem b_4 {K : PySem.W.Frag} {f : Addr} {fd : FuncData} (F : FunD K D_4.x D_4.qual (defArgs st_4) (defBody st_4) (defScope st_4) [] [] f fd) : L2.Binds K fd D_4.ps [] := F.bindsN (ps := D_4.ps) fun kV doc pm an cdv ct us hl => by
  obtain ⟨a, rfl⟩ := len1 (hl.trans (by kernel_rfl))
  kernel_rfl
theorem b_5 {K : PySem.W.Frag} {f : Addr} {fd : FuncData} (F : FunD K D_5.x D_5.qual (defArgs st_5) (defBody st_5) (defScope st_5) [] [] f fd) : L2.Binds K fd D_5.ps [] := F.bindsN (ps := D_5.ps) fun kV doc pm an cdv ct us hl => by
  obtain ⟨a, rfl⟩ := len1 (hl.trans (by kernel_rfl))
  kernel_rfl
theorem b_6 {K : PySem.W.Frag} {f : Addr} {fd : FuncData} (F : FunD K D_6.x D_6.qual (defArgs st_6) (defBody st_6) (defScope st_6) [] [] f fd) : L2.Binds K fd D_6.ps [] := F.bindsN (ps := D_6.ps) fun kV doc pm an cdv ct us hl => by
  obtain ⟨a, rfl⟩ := len1 (hl.trans (by kernel_rfl))
  kernel_rfl
theorem b_8 {K : PySem.W.Frag} {f : Addr} {fd : FuncData} (F : FunD K D_8.x D_8.qual (defArgs st_8) (defBody st_8) (defScope st_8) [] [] f fd) : L2.Binds K fd D_8.ps [] := F.bindsN (ps := D_8.ps) fun kV doc pm an cdv ct us hl => by
  obtain ⟨a, b, c, rfl⟩ := len3 (hl.trans (by kernel_rfl))
  kernel_rfl
theorem b_9 {K : PySem.W.Frag} {f : Addr} {fd : FuncData} (F : FunD K D_9.x D_9.qual (defArgs st_9) (defBody st_9) (defScope st_9) [] [] f fd) : L2.Binds K fd D_9.ps [] := F.bindsN (ps := D_9.ps) fun kV doc pm an cdv ct us hl => by
  obtain ⟨a, b, c, rfl⟩ := len3 (hl.trans (by kernel_rfl))
  kernel_rfl
theorem b_10 {K : PySem.W.Frag} {f : Addr} {fd : FuncData} (F : FunD K D_10.x D_10.qual (defArgs st_10) (defBody st_10) (defScope st_10) [] [] f fd) : L2.Binds K fd D_10.ps [] := F.bindsN (ps := D_10.ps) fun kV doc pm an cdv ct us hl => by
  obtain ⟨a, b, c, rfl⟩ := len3 (hl.trans (by kernel_rfl))
  kernel_rfl
theorem b_11 {K : PySem.W.Frag} {f : Addr} {fd : FuncData} (F : FunD K D_11.x D_11.qual (defArgs st_11) (defBody st_11) (defScope st_11) [] [] f fd) : L2.Binds K fd D_11.ps [] := F.bindsN (ps := D_11.ps) fun kV doc pm an cdv ct us hl => by
  obtain ⟨a, b, rfl⟩ := len2 (hl.trans (by kernel_rfl))
  kernel_rfl
theorem b_13 {K : PySem.W.Frag} {f : Addr} {fd : FuncData} (F : FunD K D_13.x D_13.qual (defArgs st_13) (defBody st_13) (defScope st_13) [] [] f fd) : L2.Binds K fd D_13.ps [] := F.bindsN (ps := D_13.ps) fun kV doc pm an cdv ct us hl => by
  obtain ⟨a, rfl⟩ := len1 (hl.trans (by kernel_rfl))
  kernel_rfl
theorem b_14 {K : PySem.W.Frag} {f : Addr} {fd : FuncData} (F : FunD K D_14.x D_14.qual (defArgs st_14) (defBody st_14) (defScope st_14) [] [] f fd) : L2.Binds K fd D_14.ps [] := F.bindsN (ps := D_14.ps) fun kV doc pm an cdv ct us hl => by
  obtain ⟨a, rfl⟩ := len1 (hl.trans (by kernel_rfl))
  kernel_rfl
theorem b_15 {K : PySem.W.Frag} {f : Addr} {fd : FuncData} (F : FunD K D_15.x D_15.qual (defArgs st_15) (defBody st_15) (defScope st_15) [] [] f fd) : L2.Binds K fd D_15.ps [] := F.bindsN (ps := D_15.ps) fun kV doc pm an cdv ct us hl => by
  obtain ⟨a, rfl⟩ := len1 (hl.trans (by kernel_rfl))
  kernel_rfl
theorem b_16 {K : PySem.W.Frag} {f : Addr} {fd : FuncData} (F : FunD K D_16.x D_16.qual (defArgs st_16) (defBody st_16) (defScope st_16) [] [] f fd) : L2.Binds K fd D_16.ps [] := F.bindsN (ps := D_16.ps) fun kV doc pm an cdv ct us hl => by
  obtain ⟨a, b, rfl⟩ := len2 (hl.trans (by kernel_rfl))
  kernel_rfl
theorem b_17 {K : PySem.W.Frag} {f : Addr} {fd : FuncData} (F : FunD K D_17.x D_17.qual (defArgs st_17) (defBody st_17) (defScope st_17) [] [] f fd) : L2.Binds K fd D_17.ps [] := F.bindsN (ps := D_17.ps) fun kV doc pm an cdv ct us hl => by
  obtain ⟨a, b, rfl⟩ := len2 (hl.trans (by kernel_rfl))
  kernel_rfl
theorem b_18 {K : PySem.W.Frag} {f : Addr} {fd : FuncData} (F : FunD K D_18.x D_18.qual (defArgs st_18) (defBody st_18) (defScope st_18) [] [] f fd) : L2.Binds K fd D_18.ps [] := F.bindsN (ps := D_18.ps) fun kV doc pm an cdv ct us hl => by
  obtain ⟨a, rfl⟩ := len1 (hl.trans (by kernel_rfl))
  kernel_rfl
theorem b_19 {K : PySem.W.Frag} {f : Addr} {fd : FuncData} (F : FunD K D_19.x D_19.qual (defArgs st_19) (defBody st_19) (defScope st_19) [] [] f fd) : L2.Binds K fd D_19.ps [] := F.bindsN (ps := D_19.ps) fun kV doc pm an cdv ct us hl => by
  obtain ⟨a, rfl⟩ := len1 (hl.trans (by kernel_rfl))
  kernel_rfl
theorem b_20 {K : PySem.W.Frag} {f : Addr} {fd : FuncData} (F : FunD K D_20.x D_20.qual (defArgs st_20) (defBody st_20) (defScope st_20) [] [] f fd) : L2.Binds K fd D_20.ps [] := F.bindsN (ps := D_20.ps) fun kV doc pm an cdv ct us hl => by
  obtain ⟨a, b, rfl⟩ := len2 (hl.trans (by kernel_rfl))
  kernel_rfl
theorem b_21 {K : PySem.W.Frag} {f : Addr} {fd : FuncData} (F : FunD K D_21.x D_21.qual (defArgs st_21) (defBody st_21) (defScope st_21) [] [] f fd) : L2.Binds K fd D_21.ps [] := F.bindsN (ps := D_21.ps) fun kV doc pm an cdv ct us hl => by
  obtain ⟨a, b, rfl⟩ := len2 (hl.trans (by kernel_rfl))
  kernel_rfl
theorem b_22 {K : PySem.W.Frag} {f : Addr} {fd : FuncData} (F : FunD K D_22.x D_22.qual (defArgs st_22) (defBody st_22) (defScope st_22) [] [] f fd) : L2.Binds K fd D_22.ps [] := F.bindsN (ps := D_22.ps) fun kV doc pm an cdv ct us hl => by
  obtain ⟨a, rfl⟩ := len1 (hl.trans (by kernel_rfl))
  kernel_rfl
theorem b_23 {K : PySem.W.Frag} {f : Addr} {fd : FuncData} (F : FunD K D_23.x D_23.qual (defArgs st_23) (defBody st_23) (defScope st_23) [] [] f fd) : L2.Binds K fd D_23.ps [] := F.bindsN (ps := D_23.ps) fun kV doc pm an cdv ct us hl => by
  obtain ⟨a, b, rfl⟩ := len2 (hl.trans (by kernel_rfl))
  kernel_rfl
theorem b_24 {K : PySem.W.Frag} {f : Addr} {fd : FuncData} (F : FunD K D_24.x D_24.qual (defArgs st_24) (defBody st_24) (defScope st_24) [] [] f fd) : L2.Binds K fd D_24.ps [] := F.bindsN (ps := D_24.ps) fun kV doc pm an cdv ct us hl => by
  obtain ⟨a, b, c, rfl⟩ := len3 (hl.trans (by kernel_rfl))
  kernel_rfl
theorem b_25 {K : PySem.W.Frag} {f : Addr} {fd : FuncData} (F : FunD K D_25.x D_25.qual (defArgs st_25) (defBody st_25) (defScope st_25) [] [] f fd) : L2.Binds K fd D_25.ps [] := F.bindsN (ps := D_25.ps) fun kV doc pm an cdv ct us hl => by
  obtain ⟨a, b, c, d, rfl⟩ := len4 (hl.trans (by kernel_rfl))
  kernel_rfl
theorem b_26 {K : PySem.W.Frag} {f : Addr} {fd : FuncData} (F : FunD K D_26.x D_26.qual (defArgs st_26) (defBody st_26) (defScope st_26) [] [] f fd) : L2.Binds K fd D_26.ps [] := F.bindsN (ps := D_26.ps) fun kV doc pm an cdv ct us hl => by
  obtain ⟨a, b, c, rfl⟩ := len3 (hl.trans (by kernel_rfl))
  kernel_rfl
theorem b_27 {K : PySem.W.Frag} {f : Addr} {fd : FuncData} (F : FunD K D_27.x D_27.qual (defArgs st_27) (defBody st_27) (defScope st_27) [] [] f fd) : L2.Binds K fd D_27.ps [] := F.bindsN (ps := D_27.ps) fun kV doc pm an cdv ct us hl => by
  obtain ⟨a, b, c, rfl⟩ := len3 (hl.trans (by kernel_rfl))
  kernel_rfl
theorem b_28 {K : PySem.W.Frag} {f : Addr} {fd : FuncData} (F : FunD K D_28.x D_28.qual (defArgs st_28) (defBody st_28) (defScope st_28) [] [] f fd) : L2.Binds K fd D_28.ps [] := F.bindsN (ps := D_28.ps) fun kV doc pm an cdv ct us hl => by
  obtain ⟨a, b, rfl⟩ := len2 (hl.trans (by kernel_rfl))
  kernel_rfl
theorem b_29 {K : PySem.W.Frag} {f : Addr} {fd : FuncData} (F : FunD K D_29.x D_29.qual (defArgs st_29) (defBody st_29) (defScope st_29) [] [] f fd) : L2.Binds K fd D_29.ps [] := F.bindsN (ps := D_29.ps) fun kV doc pm an cdv ct us hl => by
  obtain ⟨a, b, c, rfl⟩ := len3 (hl.trans (by kernel_rfl))
  kernel_rfl
theorem b_30 {K : PySem.W.Frag} {f : Addr} {fd : FuncData} (F : FunD K D_30.x D_30.qual (defArgs st_30) (defBody st_30) (defScope st_30) [] [] f fd) : L2.Binds K fd D_30.ps [] := F.bindsN (ps := D_30.ps) fun kV doc pm an cdv ct us hl => by
  obtain ⟨a, rfl⟩ := len1 (hl.trans (by kernel_rfl))
  kernel_rfl
theorem b_31 {K : PySem.W.Frag} {f : Addr} {fd : FuncData} (F : FunD K D_31.x D_31.qual (defArgs st_31) (defBody st_31) (defScope st_31) [] [] f fd) : L2.Binds K fd D_31.ps [] := F.bindsN (ps := D_31.ps) fun kV doc pm an cdv ct us hl => by
  obtain ⟨a, rfl⟩ := len1 (hl.trans (by kernel_rfl))
  kernel_rfl
theorem b_32 {K : PySem.W.Frag} {f : Addr} {fd : FuncData} (F : FunD K D_32.x D_32.qual (defArgs st_32) (defBody st_32) (defScope st_32) [] [] f fd) : L2.Binds K fd D_32.ps [] := F.bindsN (ps := D_32.ps) fun kV doc pm an cdv ct us hl => by
  obtain ⟨a, b, rfl⟩ := len2 (hl.trans (by kernel_rfl))
  kernel_rfl
theorem b_33 {K : PySem.W.Frag} {f : Addr} {fd : FuncData} (F : FunD K D_33.x D_33.qual (defArgs st_33) (defBody st_33) (defScope st_33) [] [] f fd) : L2.Binds K fd D_33.ps [] := F.bindsN (ps := D_33.ps) fun kV doc pm an cdv ct us hl => by
  obtain ⟨a, b, c, d, rfl⟩ := len4 (hl.trans (by kernel_rfl))
  kernel_rfl
theorem b_34 {K : PySem.W.Frag} {f : Addr} {fd : FuncData} (F : FunD K D_34.x D_34.qual (defArgs st_34) (defBody st_34) (defScope st_34) [] [] f fd) : L2.Binds K fd D_34.ps [] := F.bindsN (ps := D_34.ps) fun kV doc pm an cdv ct us hl => by
  obtain ⟨a, b, rfl⟩ := len2 (hl.trans (by kernel_rfl))
  kernel_rfl
theorem b_35 {K : PySem.W.Frag} {f : Addr} {fd : FuncData} (F : FunD K D_35.x D_35.qual (defArgs st_35) (defBody st_35) (defScope st_35) [] [] f fd) : L2.Binds K fd D_35.ps [] := F.bindsN (ps := D_35.ps) fun kV doc pm an cdv ct us hl => by
  obtain ⟨a, b, rfl⟩ := len2 (hl.trans (by kernel_rfl))
  kernel_rfl
theorem b_36 {K : PySem.W.Frag} {f : Addr} {fd : FuncData} (F : FunD K D_36.x D_36.qual (defArgs st_36) (defBody st_36) (defScope st_36) [] [] f fd) : L2.Binds K fd D_36.ps [] := F.bindsN (ps := D_36.ps) fun kV doc pm an cdv ct us hl => by
  obtain ⟨a, b, rfl⟩ := len2 (hl.trans (by kernel_rfl))
  kernel_rfl
theorem b_37 {K : PySem.W.Frag} {f : Addr} {fd : FuncData} (F : FunD K D_37.x D_37.qual (defArgs st_37) (defBody st_37) (defScope st_37) [] [] f fd) : L2.Binds K fd D_37.ps [] := F.bindsN (ps := D_37.ps) fun kV doc pm an cdv ct us hl => by
  obtain ⟨a, b, rfl⟩ := len2 (hl.trans (by kernel_rfl))
  kernel_rfl
theorem b_38 {K : PySem.W.Frag} {f : Addr} {fd : FuncData} (F : FunD K D_38.x D_38.qual (defArgs st_38) (defBody st_38) (defScope st_38) [] [] f fd) : L2.Binds K fd D_38.ps [] := F.bindsN (ps := D_38.ps) fun kV doc pm an cdv ct us hl => by
  obtain ⟨a, rfl⟩ := len1 (hl.trans (by kernel_rfl))
  kernel_rfl
theorem b_39 {K : PySem.W.Frag} {f : Addr} {fd : FuncData} (F : FunD K D_39.x D_39.qual (defArgs st_39) (defBody st_39) (defScope st_39) [] [] f fd) : L2.Binds K fd D_39.ps [] := F.bindsN (ps := D_39.ps) fun kV doc pm an cdv ct us hl => by
  obtain ⟨a, b, rfl⟩ := len2 (hl.trans (by kernel_rfl))
  kernel_rfl
theorem b_40 {K : PySem.W.Frag} {f : Addr} {fd : FuncData} (F : FunD K D_40.x D_40.qual (defArgs st_40) (defBody st_40) (defScope st_40) [] [] f fd) : L2.Binds K fd D_40.ps [] := F.bindsN (ps := D_40.ps) fun kV doc pm an cdv ct us hl => by
  obtain ⟨a, b, rfl⟩ := len2 (hl.trans (by kernel_rfl))
  kernel_rfl
theorem b_41 {K : PySem.W.Frag} {f : Addr} {fd : FuncData} (F : FunD K D_41.x D_41.qual (defArgs st_41) (defBody st_41) (defScope st_41) [] [] f fd) : L2.Binds K fd D_41.ps [] := F.bindsN (ps := D_41.ps) fun kV doc pm an cdv ct us hl => by
  obtain ⟨a, b, rfl⟩ := len2 (hl.trans (by kernel_rfl))
  kernel_rfl
theorem b_42 {K : PySem.W.Frag} {f : Addr} {fd : FuncData} (F : FunD K D_42.x D_42.qual (defArgs st_42) (defBody st_42) (defScope st_42) [] [] f fd) : L2.Binds K fd D_42.ps [] := F.bindsN (ps := D_42.ps) fun kV doc pm an cdv ct us hl => by
  obtain ⟨a, b, rfl⟩ := len2 (hl.trans (by kernel_rfl))
  kernel_rfl
theorem b_43 {K : PySem.W.Frag} {f : Addr} {fd : FuncData} (F : FunD K D_43.x D_43.qual (defArgs st_43) (defBody st_43) (defScope st_43) [] [] f fd) : L2.Binds K fd D_43.ps [] := F.bindsN (ps := D_43.ps) fun kV doc pm an cdv ct us hl => by
  obtain ⟨a, b, rfl⟩ := len2 (hl.trans (by kernel_rfl))
  kernel_rfl
theorem b_44 {K : PySem.W.Frag} {f : Addr} {fd : FuncData} (F : FunD K D_44.x D_44.qual (defArgs st_44) (defBody st_44) (defScope st_44) [] [] f fd) : L2.Binds K fd D_44.ps [] := F.bindsN (ps := D_44.ps) fun kV doc pm an cdv ct us hl => by
  obtain ⟨a, b, rfl⟩ := len2 (hl.trans (by kernel_rfl))
  kernel_rfl
theorem b_45 {K : PySem.W.Frag} {f : Addr} {fd : FuncData} (F : FunD K D_45.x D_45.qual (defArgs st_45) (defBody st_45) (defScope st_45) [] [] f fd) : L2.Binds K fd D_45.ps [] := F.bindsN (ps := D_45.ps) fun kV doc pm an cdv ct us hl => by
  obtain ⟨a, rfl⟩ := len1 (hl.trans (by kernel_rfl))
  kernel_rfl
theorem b_46 {K : PySem.W.Frag} {f : Addr} {fd : FuncData} (F : FunD K D_46.x D_46.qual (defArgs st_46) (defBody st_46) (defScope st_46) [] [] f fd) : L2.Binds K fd D_46.ps [] := F.bindsN (ps := D_46.ps) fun kV doc pm an cdv ct us hl => by
  obtain ⟨a, b, rfl⟩ := len2 (hl.trans (by kernel_rfl))
  kernel_rfl
theorem b_47 {K : PySem.W.Frag} {f : Addr} {fd : FuncData} (F : FunD K D_47.x D_47.qual (defArgs st_47) (defBody st_47) (defScope st_47) [] [] f fd) : L2.Binds K fd D_47.ps [] := F.bindsN (ps := D_47.ps) fun kV doc pm an cdv ct us hl => by
  obtain ⟨a, b, c, rfl⟩ := len3 (hl.trans (by kernel_rfl))
  kernel_rfl
theorem b_48 {K : PySem.W.Frag} {f : Addr} {fd : FuncData} (F : FunD K D_48.x D_48.qual (defArgs st_48) (defBody st_48) (defScope st_48) [] [] f fd) : L2.Binds K fd D_48.ps [] := F.bindsN (ps := D_48.ps) fun kV doc pm an cdv ct us hl => by
  obtain ⟨a, b, c, rfl⟩ := len3 (hl.trans (by kernel_rfl))
  kernel_rfl
theorem b_49 {K : PySem.W.Frag} {f : Addr} {fd : FuncData} (F : FunD K D_49.x D_49.qual (defArgs st_49) (defBody st_49) (defScope st_49) [] [] f fd) : L2.Binds K fd D_49.ps [] := F.bindsN (ps := D_49.ps) fun kV doc pm an cdv ct us hl => by
  obtain ⟨a, b, rfl⟩ := len2 (hl.trans (by kernel_rfl))
  kernel_rfl
theorem b_50 {K : PySem.W.Frag} {f : Addr} {fd : FuncData} (F : FunD K D_50.x D_50.qual (defArgs st_50) (defBody st_50) (defScope st_50) [] [] f fd) : L2.Binds K fd D_50.ps [] := F.bindsN (ps := D_50.ps) fun kV doc pm an cdv ct us hl => by
  obtain ⟨a, b, rfl⟩ := len2 (hl.trans (by kernel_rfl))
  kernel_rfl
theorem b_51 {K : PySem.W.Frag} {f : Addr} {fd : FuncData} (F : FunD K D_51.x D_51.qual (defArgs st_51) (defBody st_51) (defScope st_51) [] [] f fd) : L2.Binds K fd D_51.ps [] := F.bindsN (ps := D_51.ps) fun kV doc pm an cdv ct us hl => by
  obtain ⟨a, b, c, d, rfl⟩ := len4 (hl.trans (by kernel_rfl))
  kernel_rfl
theorem b_52 {K : PySem.W.Frag} {f : Addr} {fd : FuncData} (F : FunD K D_52.x D_52.qual (defArgs st_52) (defBody st_52) (defScope st_52) [] [] f fd) : L2.Binds K fd D_52.ps [] := F.bindsN (ps := D_52.ps) fun kV doc pm an cdv ct us hl => by
  obtain ⟨a, b, c, rfl⟩ := len3 (hl.trans (by kernel_rfl))
  kernel_rfl
theorem b_53 {K : PySem.W.Frag} {f : Addr} {fd : FuncData} (F : FunD K D_53.x D_53.qual (defArgs st_53) (defBody st_53) (defScope st_53) [] [] f fd) : L2.Binds K fd D_53.ps [] := F.bindsN (ps := D_53.ps) fun kV doc pm an cdv ct us hl => by
  obtain ⟨a, b, rfl⟩ := len2 (hl.trans (by kernel_rfl))
  kernel_rfl
theorem b_54 {K : PySem.W.Frag} {f : Addr} {fd : FuncData} (F : FunD K D_54.x D_54.qual (defArgs st_54) (defBody st_54) (defScope st_54) [] [] f fd) : L2.Binds K fd D_54.ps [] := F.bindsN (ps := D_54.ps) fun kV doc pm an cdv ct us hl => by
  obtain ⟨a, b, rfl⟩ := len2 (hl.trans (by kernel_rfl))
  kernel_rfl
theorem b_55 {K : PySem.W.Frag} {f : Addr} {fd : FuncData} (F : FunD K D_55.x D_55.qual (defArgs st_55) (defBody st_55) (defScope st_55) [] [] f fd) : L2.Binds K fd D_55.ps [] := F.bindsN (ps := D_55.ps) fun kV doc pm an cdv ct us hl => by
  obtain ⟨a, b, rfl⟩ := len2 (hl.trans (by kernel_rfl))
  kernel_rfl
theorem b_56 {K : PySem.W.Frag} {f : Addr} {fd : FuncData} (F : FunD K D_56.x D_56.qual (defArgs st_56) (defBody st_56) (defScope st_56) [] [] f fd) : L2.Binds K fd D_56.ps [] := F.bindsN (ps := D_56.ps) fun kV doc pm an cdv ct us hl => by
  obtain ⟨a, rfl⟩ := len1 (hl.trans (by kernel_rfl))
  kernel_rfl
theorem b_all {K : PySem.W.Frag} : ∀ i ∈ okl, ∀ fd, FunD K (LL.DD i).x (LL.DD i).qual (defArgs (LL.DD i).st) (defBody (LL.DD i).st) (defScope (LL.DD i).st) [] [] (He.fAd K (LL.at_ i)) fd → L2.Binds K fd (LL.DD i).ps [] := by
  unfold okl
  refine List.forall_mem_cons.mpr ⟨fun fd F => b_1 F, ?_⟩
  refine List.forall_mem_cons.mpr ⟨fun fd F => b_2 F, ?_⟩
  refine List.forall_mem_cons.mpr ⟨fun fd F => b_3 F, ?_⟩
  refine List.forall_mem_cons.mpr ⟨fun fd F => b_4 F, ?_⟩
  refine List.forall_mem_cons.mpr ⟨fun fd F => b_5 F, ?_⟩
  refine List.forall_mem_cons.mpr ⟨fun fd F => b_6 F, ?_⟩
  refine List.forall_mem_cons.mpr ⟨fun fd F => b_8 F, ?_⟩
  refine List.forall_mem_cons.mpr ⟨fun fd F => b_9 F, ?_⟩
  refine List.forall_mem_cons.mpr ⟨fun fd F => b_10 F, ?_⟩
  refine List.forall_mem_cons.mpr ⟨fun fd F => b_11 F, ?_⟩
  refine List.forall_mem_cons.mpr ⟨fun fd F => b_13 F, ?_⟩
  refine List.forall_mem_cons.mpr ⟨fun fd F => b_14 F, ?_⟩
  refine List.forall_mem_cons.mpr ⟨fun fd F => b_15 F, ?_⟩
  refine List.forall_mem_cons.mpr ⟨fun fd F => b_16 F, ?_⟩
  refine List.forall_mem_cons.mpr ⟨fun fd F => b_17 F, ?_⟩
  refine List.forall_mem_cons.mpr ⟨fun fd F => b_18 F, ?_⟩
  refine List.forall_mem_cons.mpr ⟨fun fd F => b_19 F, ?_⟩
  refine List.forall_mem_cons.mpr ⟨fun fd F => b_20 F, ?_⟩
  refine List.forall_mem_cons.mpr ⟨fun fd F => b_21 F, ?_⟩
  refine List.forall_mem_cons.mpr ⟨fun fd F => b_22 F, ?_⟩
  refine List.forall_mem_cons.mpr ⟨fun fd F => b_23 F, ?_⟩
  refine List.forall_mem_cons.mpr ⟨fun fd F => b_24 F, ?_⟩
  refine List.forall_mem_cons.mpr ⟨fun fd F => b_25 F, ?_⟩
  refine List.forall_mem_cons.mpr ⟨fun fd F => b_26 F, ?_⟩
  refine List.forall_mem_cons.mpr ⟨fun fd F => b_27 F, ?_⟩
  refine List.forall_mem_cons.mpr ⟨fun fd F => b_28 F, ?_⟩
  refine List.forall_mem_cons.mpr ⟨fun fd F => b_29 F, ?_⟩
  refine List.forall_mem_cons.mpr ⟨fun fd F => b_30 F, ?_⟩
  refine List.forall_mem_cons.mpr ⟨fun fd F => b_31 F, ?_⟩
  refine List.forall_mem_cons.mpr ⟨fun fd F => b_32 F, ?_⟩
  refine List.forall_mem_cons.mpr ⟨fun fd F => b_33 F, ?_⟩
  refine List.forall_mem_cons.mpr ⟨fun fd F => b_34 F, ?_⟩
  refine List.forall_mem_cons.mpr ⟨fun fd F => b_35 F, ?_⟩
  refine List.forall_mem_cons.mpr ⟨fun fd F => b_36 F, ?_⟩
  refine List.forall_mem_cons.mpr ⟨fun fd F => b_37 F, ?_⟩
  refine List.forall_mem_cons.mpr ⟨fun fd F => b_38 F, ?_⟩
  refine List.forall_mem_cons.mpr ⟨fun fd F => b_39 F, ?_⟩
  refine List.forall_mem_cons.mpr ⟨fun fd F => b_40 F, ?_⟩
  refine List.forall_mem_cons.mpr ⟨fun fd F => b_41 F, ?_⟩
  refine List.forall_mem_cons.mpr ⟨fun fd F => b_42 F, ?_⟩
  refine List.forall_mem_cons.mpr ⟨fun fd F => b_43 F, ?_⟩
  refine List.forall_mem_cons.mpr ⟨fun fd F => b_44 F, ?_⟩
  refine List.forall_mem_cons.mpr ⟨fun fd F => b_45 F, ?_⟩
  refine List.forall_mem_cons.mpr ⟨fun fd F => b_46 F, ?_⟩
  refine List.forall_mem_cons.mpr ⟨fun fd F => b_47 F, ?_⟩
  refine List.forall_mem_cons.mpr ⟨fun fd F => b_48 F, ?_⟩
  refine List.forall_mem_cons.mpr ⟨fun fd F => b_49 F, ?_⟩
  refine List.forall_mem_cons.mpr ⟨fun fd F => b_50 F, ?_⟩
  refine List.forall_mem_cons.mpr ⟨fun fd F => b_51 F, ?_⟩
  refine List.forall_mem_cons.mpr ⟨fun fd F => b_52 F, ?_⟩
  refine List.forall_mem_cons.mpr ⟨fun fd F => b_53 F, ?_⟩
  refine List.forall_mem_cons.mpr ⟨fun fd F => b_54 F, ?_⟩
  refine List.forall_mem_cons.mpr ⟨fun fd F => b_55 F, ?_⟩
  refine List.forall_mem_cons.mpr ⟨fun fd F => b_56 F, ?_⟩
  exact fun _ h => nomatch h

end K14

set_option maxHeartbeats 0
namespace K14
open PySem PySem.Spec PyProof.Rows L2 Hc
def ckf (f : Nat) : Bool := match fns f with
  | some fn => decide (f ∈ okl) && ckD LL.tab 60 (DD f) fn
  | none => true
theorem tab_ok : LL.ok = true := by kernel_rfl
theorem ck_all : (List.range 57).all ckf = true := by kernel_rfl
theorem ck (f : Nat) (fn : Hc.Fn) (e : LL.fns f = some fn) : f ∈ LL.okl ∧ ckD LL.tab 60 (LL.DD f) fn = true := by
  by_cases h : f < 57
  · have c := List.all_eq_true.mp ck_all f (List.mem_range.mpr h)
    unfold ckf at c
    have e : fns f = some fn := e
    rw [e] at c
    obtain ⟨c1, c2⟩ := bas c
    exact ⟨of_decide_eq_true c1, c2⟩
  · exfalso
    have e : fns f = some fn := e
    unfold fns at e
    have hb : Nat.blt f 57 = false := by
      cases q : Nat.blt f 57 with
      | false => rfl
      | true => exact absurd (Nat.blt_eq.mp q) h
    rw [hb] at e
    cases e
end K14

set_option maxHeartbeats 0
namespace K14
open PySem PySem.Spec PyProof.Rows L2 Hc
abbrev hk : PySem.W.Hook := He.hookD 6 LL.fal LL.hl
def ob (s : PySem.W.SharedT) : He.AlD := He.obsDG 6 LL.fal LL.hl (HandSHeadRun.getT s)
theorem ob_eq (s : PySem.W.SharedT) : ob s = hk.obs s.abs := He.obsDG_eq (HandSHeadRun.getT_eq s)
theorem run (w : World) : HandSHeadRun.RunEq RR.row (PySem.W.view RR.row.prog [lawIx]) hk ob 12000 names w := by
  intro os
  kernel_rfl
end K14

set_option maxHeartbeats 0
/-! What is drawn: any of two. -/
namespace K14
open Hc
def row (l : List Int) (a c r : Int) : IO := .lst [.lst (pvs l), .int a, .int c, .int r]
/-- behind the def's first lines -/
def g0 : SG := [.pv (.obj 0), .pv (.int 2), .un, .un]
theorem mod2 (x : Int) : x % 2 = 0 ∨ x % 2 = 1 := by omega
theorem pv_at (l : List Int) (a : Int) (h0 : 0 ≤ a) (h1 : a < (pvs l).length) : ∃ c, sAt (pvs l) a = some (.int c) := by
  cases a with
  | ofNat n =>
    show ∃ c, nth (pvs l) n = some (.int c)
    have h1 : n < (pvs l).length := by
      have : ((n : Nat) : Int) < (pvs l).length := h1
      omega
    rw [nth_eq]
    unfold pvs at h1 ⊢
    rw [List.length_map] at h1
    exact ⟨l[n], by rw [List.getElem?_map, List.getElem?_eq_getElem h1]; rfl⟩
  | negSucc n => exact absurd h0 (by omega)
abbrev bod : List Sm := fn__law_taken.body
abbrev EE (n : Nat) : EV := ev LL.pg (n + 20)
theorem cond_T {r : EV} {wp d : Nat} {c : E} {a b : List Sm} {g : SG} {h : HP} {z : R Hc.F} (e : r.e wp d c g h = .ok (.bl true) h) (e2 : r.s wp d a g h = z) : ev1 r wp d (.cond c a b) g h = z := by
  show (r.e wp d c g h).bind (fun v h1 => R.tst v (r.s wp d a g h1) (r.s wp d b g h1)) = _
  rw [e]
  exact e2
theorem cond_F {r : EV} {wp d : Nat} {c : E} {a b : List Sm} {g : SG} {h : HP} {z : R Hc.F} (e : r.e wp d c g h = .ok (.bl false) h) (e2 : r.s wp d b g h = z) : ev1 r wp d (.cond c a b) g h = z := by
  show (r.e wp d c g h).bind (fun v h1 => R.tst v (r.s wp d a g h1) (r.s wp d b g h1)) = _
  rw [e]
  exact e2
/-- the first question -/
theorem q1 (n d : Nat) (l : List Int) (a c r : Int) : (EE n).e 0 d (.cmp 4 (.sub (.var 0) (.cst (.int 3))) (.cst (.int 0))) g0 [row l a c r] = .ok (.bl (decide (0 < r))) [row l a c r] := by kernel_rfl
theorem t1 (n d : Nat) (l : List Int) (a c r : Int) : (EE n).s 0 d [.set (.nm 3) (.bin 4 (.bi 7 [(.sub (.var 0) (.cst (.int 3)))]) (.var 1)), .put 0 (.cst (.int 3)) (.bin 3 (.sub (.var 0) (.cst (.int 3))) (.var 1)), .ret (.var 3)] g0 [row l a c r] = .ok (.ret (.int (r % 2))) [row l a c (r / 2)] := by kernel_rfl
abbrev cell0 : E := .sub (.sub (.var 0) (.cst (.int 0))) (.bin 1 (.sub (.var 0) (.cst (.int 1))) (.cst (.int 1)))
abbrev c2f (c : Int) : Int := (c * 48271 + 11) % 2147483647
abbrev c3f (c x : Int) : Int := (c * 48271 + x + 11) % 2147483647
def g1 (x : Int) : SG := [.pv (.obj 0), .pv (.int 2), .pv (.int x), .un]
theorem p1 (n d : Nat) (l : List Int) (a c r : Int) : ev1 (EE n) 0 d (.put 0 (.cst (.int 1)) (.bin 0 (.sub (.var 0) (.cst (.int 1))) (.cst (.int 1)))) g0 [row l a c r] = .ok (.nx g0) [row l (a + 1) c r] := by kernel_rfl
theorem q2 (n d : Nat) (l : List Int) (a c r : Int) : (EE n).e 0 d (.cmp 4 (.sub (.var 0) (.cst (.int 1))) (.bi 0 [(.sub (.var 0) (.cst (.int 0)))])) g0 [row l a c r] = .ok (.bl (decide (((pvs l).length : Int) < a))) [row l a c r] := by kernel_rfl
theorem t2 (n d : Nat) (l : List Int) (a c r : Int) : (EE n).s 0 d [(.put 0 (.cst (.int 2)) (.bin 4 (.bi 7 [(.bin 0 (.bin 2 (.sub (.var 0) (.cst (.int 2))) (.cst (.int 48271))) (.cst (.int 11)))]) (.cst (.int 2147483647)))),
    (.ret (.bin 4 (.bi 7 [(.bin 3 (.sub (.var 0) (.cst (.int 2))) (.cst (.int 7)))]) (.var 1)))] g0 [row l a c r] = .ok (.ret (.int (c2f c / 7 % 2))) [row l a (c2f c) r] := by kernel_rfl
theorem q3 (n d : Nat) (l : List Int) (a c r : Int) : (EE n).e 0 d cell0 g0 [row l a c r] = R.ofO (sAt (pvs l) (a - 1)) fun v => .ok v [row l a c r] := by kernel_rfl
theorem p2 (n d : Nat) (l : List Int) (a c r x : Int) : ev1 (EE n) 0 d (.put 0 (.cst (.int 2)) (.bin 4 (.bi 7 [(.bin 0 (.bin 0 (.bin 2 (.sub (.var 0) (.cst (.int 2))) (.cst (.int 48271))) (.var 2)) (.cst (.int 11)))]) (.cst (.int 2147483647)))) (g1 x) [row l a c r] = .ok (.nx (g1 x)) [row l a (c3f c x) r] := by kernel_rfl
theorem q4 (n d : Nat) (l : List Int) (a c r x : Int) : (EE n).e 0 d (.cmp 5 (.var 2) (.bin 5 (.cst (.int 10)) (.cst (.int 18)))) (g1 x) [row l a c r] = .ok (.bl (decide ((10 : Int) ^ 18 ≤ x))) [row l a c r] := by kernel_rfl
theorem t4 (n d : Nat) (l : List Int) (a c r x : Int) : (EE n).s 0 d [(.put 0 (.cst (.int 3)) (.bin 3 (.var 2) (.var 1)))] (g1 x) [row l a c r] = .ok (.nx (g1 x)) [row l a c (x / 2)] := by kernel_rfl
theorem p5 (n d : Nat) (l : List Int) (a c r x : Int) : ev1 (EE n) 0 d (.ret (.bin 4 (.bi 7 [(.var 2)]) (.var 1))) (g1 x) [row l a c r] = .ok (.ret (.int (x % 2))) [row l a c r] := by kernel_rfl
theorem s_0 (n d : Nat) (g : SG) (h : HP) : (EE n).s 0 d [] g h = .ok (.nx g) h := rfl
def post (f : Hc.F) (h1 : HP) : R PV := match f with
  | .nx _ => .ok .non h1
  | .ret v => .ok v h1
  | _ => .no
theorem f_eq (n d : Nat) (h : HP) : (ev LL.pg (n + 22)).f 0 (d + 1) 53 [.obj 0, .int 2] h = (evS (EE n) 0 d bod g0 h).bind post := by kernel_rfl
theorem evS_c (r : EV) (wp d : Nat) (c : Sm) (cs : List Sm) (g : SG) (h : HP) : evS r wp d (c :: cs) g h = (ev1 r wp d c g h).bind fun f h1 => match f with
    | .nx g1 => evS r wp d cs g1 h1
    | f => .ok f h1 := rfl
theorem evS_n {r : EV} {wp d : Nat} {c : Sm} {cs : List Sm} {g : SG} {h : HP} {g' : SG} {h' : HP} (e : ev1 r wp d c g h = .ok (.nx g') h') : evS r wp d (c :: cs) g h = evS r wp d cs g' h' := by rw [evS_c, e]; rfl
theorem evS_r {r : EV} {wp d : Nat} {c : Sm} {cs : List Sm} {g : SG} {h : HP} {v : PV} {h' : HP} (e : ev1 r wp d c g h = .ok (.ret v) h') : evS r wp d (c :: cs) g h = .ok (.ret v) h' := by rw [evS_c, e]; rfl
/-- a draw of two: 0 or 1; the script is not changed -/
theorem taken (n d : Nat) (l : List Int) (a c r : Int) (h0 : 0 ≤ a) : ∃ v a' c' r', (v = 0 ∨ v = 1) ∧ 0 ≤ a' ∧ (ev LL.pg (n + 22)).f 0 (d + 1) 53 [.obj 0, .int 2] [row l a c r] = .ok (.int v) [row l a' c' r'] := by
  rw [f_eq]
  show ∃ v a' c' r', _ ∧ _ ∧ Hc.R.bind (evS (EE n) 0 d (_ :: _) g0 _) post = _
  cases h1 : decide (0 < r) with
  | true =>
    rw [evS_r (cond_T ((q1 n d l a c r).trans (by rw [h1])) (t1 n d l a c r))]
    exact ⟨_, _, _, _, mod2 r, h0, rfl⟩
  | false =>
    rw [evS_n (cond_F ((q1 n d l a c r).trans (by rw [h1])) (s_0 n d g0 _))]
    rw [evS_n (p1 n d l a c r)]
    cases h2 : decide (((pvs l).length : Int) < a + 1) with
    | true =>
      rw [evS_r (cond_T ((q2 n d l (a + 1) c r).trans (by rw [h2])) (t2 n d l (a + 1) c r))]
      exact ⟨_, _, _, _, mod2 _, by omega, rfl⟩
    | false =>
      rw [evS_n (cond_F ((q2 n d l (a + 1) c r).trans (by rw [h2])) (s_0 n d g0 _))]
      have hlt : a < (pvs l).length := by
        have := of_decide_eq_false h2
        omega
      obtain ⟨x, hx⟩ := pv_at l a h0 hlt
      have e3 : (EE n).e 0 d cell0 g0 [row l (a + 1) c r] = .ok (.int x) [row l (a + 1) c r] := by
        rw [q3, show a + 1 - 1 = a by omega, hx]
        rfl
      have e4 : ev1 (EE n) 0 d (.set (.nm 2) cell0) g0 [row l (a + 1) c r] = .ok (.nx (g1 x)) [row l (a + 1) c r] := by
        show ((EE n).e 0 d cell0 g0 [row l (a + 1) c r]).bind _ = _
        rw [e3]
        rfl
      rw [evS_n e4, evS_n (p2 n d l (a + 1) c r x)]
      cases h3 : decide ((10 : Int) ^ 18 ≤ x) with
      | true =>
        rw [evS_n (cond_T ((q4 n d l (a + 1) (c3f c x) r x).trans (by rw [h3])) (t4 n d l (a + 1) (c3f c x) r x)), evS_r (p5 n d l (a + 1) (c3f c x) (x / 2) x)]
        exact ⟨_, _, _, _, mod2 x, by omega, rfl⟩
      | false =>
        rw [evS_n (cond_F ((q4 n d l (a + 1) (c3f c x) r x).trans (by rw [h3])) (s_0 n d (g1 x) _)), evS_r (p5 n d l (a + 1) (c3f c x) r x)]
        exact ⟨_, _, _, _, mod2 x, by omega, rfl⟩
end K14

set_option maxHeartbeats 0
/-! The law's lines up to the last draw. -/
namespace K14
open Hc
abbrev EL (n : Nat) : EV := ev LL.pg (n + 25)
def sCall : PV := .str [99, 97, 108, 108]
def sAns : PV := .str [97, 110, 115, 119, 101, 114]
def sEnter : PV := .str [101, 110, 116, 101, 114]
def thing : PV := .tup [.str [113, 117, 101, 117, 101], .int 2, .int 2]
def things : PV := .tup [thing, thing]
def cl (a b : Int) (x : PV) : PV := .tup [sCall, .int a, .int b, .tup [sEnter, x]]
def an (a b : Int) : PV := .tup [sAns, .int a, .int b, .bl true]
def w4 (x y : Int) : List PV := [cl 0 0 (.int x), an 0 0, cl 1 1 (.int y), an 1 1]
def w8 (x y : Int) : List PV := [cl 0 0 (.int x), an 0 0, cl 1 1 (.int y), an 1 1, cl 0 1 (.int (1 - y)), an 0 1, cl 1 0 (.int (1 - x)), an 1 0]
def gs (l : List Int) (a b c s7 s8 s9 s10 : SV) : SG := [.pv (.lst (pvs l)), a, b, c, .un, .un, .un, s7, s8, s9, s10, .un]
def ob0 : SV := .pv (.obj 0)
def th0 : SV := .pv things
def iv (x : Int) : SV := .pv (.int x)
def L0 : Sm := fn_law.body.getD 0 .stk
def L1 : Sm := fn_law.body.getD 1 .stk
def L2' : Sm := fn_law.body.getD 2 .stk
def L3 : Sm := fn_law.body.getD 3 .stk
def L4 : Sm := fn_law.body.getD 4 .stk
def L5 : Sm := fn_law.body.getD 5 .stk
def LR : List Sm := fn_law.body.drop 6
theorem body_eq : fn_law.body = L0 :: L1 :: L2' :: L3 :: L4 :: L5 :: LR := by kernel_rfl
theorem l0 (n d : Nat) (l : List Int) : ev1 (EL n) 0 d L0 (gs l .un .un .un .un .un .un .un) [] = .ok (.nx (gs l ob0 .un .un .un .un .un .un)) [row l 0 16014 0] := by kernel_rfl
theorem l1 (n d : Nat) (l : List Int) (h : HP) : ev1 (EL n) 0 d L1 (gs l ob0 .un .un .un .un .un .un) h = .ok (.nx (gs l ob0 th0 .un .un .un .un .un)) h := by kernel_rfl
theorem l3 (n d : Nat) (l : List Int) (h : HP) (x y : Int) : ev1 (EL n) 0 d L3 (gs l ob0 th0 .un (iv x) (iv y) .un .un) h = .ok (.nx (gs l ob0 th0 (.pv (.tup (w4 x y))) (iv x) (iv y) .un .un)) h := by kernel_rfl
theorem l4 (n d : Nat) (l : List Int) (h : HP) (x y : Int) : ev1 (EL n) 0 d L4 (gs l ob0 th0 (.pv (.tup (w4 x y))) (iv x) (iv y) .un .un) h = .ok (.nx (gs l ob0 th0 (.pv (.tup (w8 x y))) (iv x) (iv y) .un .un)) h := by kernel_rfl
theorem par2 {r : EV} {wp d i j : Nat} {c1 c2 : E} {g : SG} {h h1 h2 : HP} {v1 v2 : PV} (n1 : ∀ e, c1 ≠ .star e) (n2 : ∀ e, c2 ≠ .star e) (e1 : r.e wp d c1 g h = .ok v1 h1) (e2 : r.e wp d c2 g h1 = .ok v2 h2) : ev1 r wp d (.par [(i, false), (j, false)] [c1, c2]) g h = .ok (.nx (upd (upd g i (.pv v1)) j (.pv v2))) h2 := by
  have q2 : evs (fun e h => r.e wp d e g h) [c2] h1 = .ok [v2] h2 := by
    have : evs (fun e h => r.e wp d e g h) [c2] h1 = (r.e wp d c2 g h1).bind fun v h1 => (R.ok [] h1).bind fun vs h2 => .ok (v :: vs) h2 := by
      cases c2 <;> first | rfl | exact absurd rfl (n2 _)
    rw [this, e2]
    rfl
  have q : evs (fun e h => r.e wp d e g h) [c1, c2] h = .ok [v1, v2] h2 := by
    have : evs (fun e h => r.e wp d e g h) [c1, c2] h = (r.e wp d c1 g h).bind fun v h1 => (evs (fun e h => r.e wp d e g h) [c2] h1).bind fun vs h2 => .ok (v :: vs) h2 := by
      cases c1 <;> first | rfl | exact absurd rfl (n1 _)
    rw [this, e1]
    show (evs (fun e h => r.e wp d e g h) [c2] h1).bind _ = _
    rw [q2]
    rfl
  show (evs (fun e h => r.e wp d e g h) [c1, c2] h).bind _ = _
  rw [q]
  rfl
theorem c53 (n d : Nat) (l : List Int) (h : HP) : (EL n).e 0 (d + 1) (.call 53 [(.var 1), (.cst (.int 2))]) (gs l ob0 th0 .un .un .un .un .un) h = (ev LL.pg (n + 24)).f 0 (d + 1) 53 [.obj 0, .int 2] h := by kernel_rfl
theorem c54 (n d : Nat) (l : List Int) (h : HP) (w : SV) (x y : Int) : (EL n).e 0 (d + 1) (.call 54 [(.var 1), (.lst [(.var 7), (.bin 1 (.cst (.int 1)) (.var 7))])]) (gs l ob0 th0 w (iv x) (iv y) .un .un) h = (ev LL.pg (n + 24)).f 0 (d + 1) 54 [.obj 0, .lst [.int x, .int (1 - x)]] h := by kernel_rfl
theorem c54' (n d : Nat) (l : List Int) (h : HP) (w : SV) (x y : Int) : (EL n).e 0 (d + 1) (.call 54 [(.var 1), (.lst [(.var 8), (.bin 1 (.cst (.int 1)) (.var 8))])]) (gs l ob0 th0 w (iv x) (iv y) .un .un) h = (ev LL.pg (n + 24)).f 0 (d + 1) 54 [.obj 0, .lst [.int y, .int (1 - y)]] h := by kernel_rfl
def gp (x y : PV) : SG := [.pv (.obj 0), .pv (.lst [x, y])]
abbrev pickE : E := .sub (.var 1) (.call 53 [(.var 0), (.bi 0 [(.var 1)])])
theorem c53p (n d : Nat) (h : HP) (x y : PV) : (ev LL.pg (n + 23)).e 0 (d + 1) (.call 53 [(.var 0), (.bi 0 [(.var 1)])]) (gp x y) h = (ev LL.pg (n + 22)).f 0 (d + 1) 53 [.obj 0, .int 2] h := by kernel_rfl
theorem f54 (n d : Nat) (h : HP) (x y : PV) : (ev LL.pg (n + 26)).f 0 (d + 2) 54 [.obj 0, .lst [x, y]] h = (evS (ev LL.pg (n + 24)) 0 (d + 1) [.ret pickE] (gp x y) h).bind post := by kernel_rfl
theorem pick (n d : Nat) (x y : PV) (h h' : HP) (v : Int) (hv : v = 0 ∨ v = 1) (e : (ev LL.pg (n + 22)).f 0 (d + 1) 53 [.obj 0, .int 2] h = .ok (.int v) h') : (ev LL.pg (n + 26)).f 0 (d + 2) 54 [.obj 0, .lst [x, y]] h = .ok (if v = 0 then x else y) h' := by
  have e2 : (ev LL.pg (n + 24)).e 0 (d + 1) pickE (gp x y) h = .ok (if v = 0 then x else y) h' := by
    show ((ev LL.pg (n + 23)).e 0 (d + 1) (.call 53 [(.var 0), (.bi 0 [(.var 1)])]) (gp x y) h).bind (fun k h2 => ofO (item h2 (.lst [x, y]) k) h2) = _
    rw [c53p, e]
    rcases hv with rfl | rfl <;> rfl
  have e3 : ev1 (ev LL.pg (n + 24)) 0 (d + 1) (.ret pickE) (gp x y) h = .ok (.ret (if v = 0 then x else y)) h' := by
    show ((ev LL.pg (n + 24)).e 0 (d + 1) pickE (gp x y) h).bind _ = _
    rw [e2]
    rfl
  rw [f54, evS_r e3]
  rfl
theorem l2 (n d : Nat) (l : List Int) (a c r : Int) (h0 : 0 ≤ a) : ∃ x y a' c' r', (x = 0 ∨ x = 1) ∧ (y = 0 ∨ y = 1) ∧ 0 ≤ a' ∧ ev1 (EL n) 0 (d + 1) L2' (gs l ob0 th0 .un .un .un .un .un) [row l a c r] = .ok (.nx (gs l ob0 th0 .un (iv x) (iv y) .un .un)) [row l a' c' r'] := by
  obtain ⟨x, a1, c1, r1, hx, k1, e1⟩ := taken (n + 2) d l a c r h0
  obtain ⟨y, a2, c2, r2, hy, k2, e2⟩ := taken (n + 2) d l a1 c1 r1 k1
  refine ⟨x, y, a2, c2, r2, hx, hy, k2, ?_⟩
  exact par2 (fun e z => by cases z) (fun e z => by cases z) ((c53 n d l _).trans e1) ((c53 n d l _).trans e2)
theorem l5 (n d : Nat) (l : List Int) (w : SV) (x y a c r : Int) (h0 : 0 ≤ a) (hx : x = 0 ∨ x = 1) (hy : y = 0 ∨ y = 1) : ∃ p q a' c' r', (p = 0 ∨ p = 1) ∧ (q = 0 ∨ q = 1) ∧ ev1 (EL (n + 2)) 0 (d + 2) L5 (gs l ob0 th0 w (iv x) (iv y) .un .un) [row l a c r] = .ok (.nx (gs l ob0 th0 w (iv x) (iv y) (iv p) (iv q))) [row l a' c' r'] := by
  obtain ⟨u, a1, c1, r1, hu, k1, e1⟩ := taken n d l a c r h0
  obtain ⟨v, a2, c2, r2, hv, k2, e2⟩ := taken n d l a1 c1 r1 k1
  have f1 := pick n d (.int x) (.int (1 - x)) _ _ u hu e1
  have f2 := pick n d (.int y) (.int (1 - y)) _ _ v hv e2
  have g1 : (if u = 0 then PV.int x else .int (1 - x)) = .int (if u = 0 then x else 1 - x) := by split <;> rfl
  have g2 : (if v = 0 then PV.int y else .int (1 - y)) = .int (if v = 0 then y else 1 - y) := by split <;> rfl
  rw [g1] at f1
  rw [g2] at f2
  refine ⟨_, _, a2, c2, r2, ?_, ?_, par2 (fun e z => by cases z) (fun e z => by cases z) ((c54 (n + 2) (d + 1) l _ w x y).trans f1) ((c54' (n + 2) (d + 1) l _ w x y).trans f2)⟩
  · split <;> omega
  · split <;> omega
theorem law_f (n d : Nat) (l : List Int) (h1 : HP) (e : evS (EL (n + 2)) 0 d fn_law.body (gs l .un .un .un .un .un .un .un) [] = .ok (.ret (.bl true)) h1) : (ev LL.pg (n + 29)).f 0 (d + 1) 56 [.lst (pvs l)] [] = .ok (.bl true) [] := by
  have q : (ev LL.pg (n + 29)).f 0 (d + 1) 56 [.lst (pvs l)] [] = (match evS (EL (n + 2)) 0 d fn_law.body (gs l .un .un .un .un .un .un .un) [] with
    | .ok (.nx _) _ => .ok .non []
    | .ok (.ret v) h1 => R.ofO (frz h1 0 60 v) fun v' => .ok v' []
    | .ex c fs _ => .ex c fs []
    | _ => .no) := by kernel_rfl
  rw [q, e]
  rfl
/-- the rest, once the draws are known -/
def Rest (x y p q : Int) : Prop := ∀ (l : List Int) (a c r : Int), ∃ h1, evS (ev LL.pg 2998) 0 59 LR (gs l ob0 th0 (.pv (.tup (w8 x y))) (iv x) (iv y) (iv p) (iv q)) [row l a c r] = .ok (.ret (.bl true)) h1
theorem law_run (h : ∀ x y p q, (x = 0 ∨ x = 1) → (y = 0 ∨ y = 1) → (p = 0 ∨ p = 1) → (q = 0 ∨ q = 1) → Rest x y p q) (l : List Int) : (ev LL.pg 3000).f 0 60 56 [.lst (pvs l)] [] = .ok (.bl true) [] := by
  obtain ⟨x, y, a1, c1, r1, hx, hy, k1, e2⟩ := l2 2973 58 l 0 16014 0 (by omega)
  obtain ⟨p, q, a2, c2, r2, hp, hq, e5⟩ := l5 2971 57 l (.pv (.tup (w8 x y))) x y a1 c1 r1 k1 hx hy
  obtain ⟨h1, er⟩ := h x y p q hx hy hp hq l a2 c2 r2
  refine law_f 2971 59 l h1 ?_
  rw [body_eq, evS_n (l0 2973 59 l), evS_n (l1 2973 59 l _), evS_n e2, evS_n (l3 2973 59 l _ x y), evS_n (l4 2973 59 l _ x y), evS_n e5]
  exact er
end K14

set_option maxHeartbeats 0
namespace K14
open Hc
theorem rest_0000 : Rest 0 0 0 0 := fun l a c r => ⟨[row l a c r], by kernel_rfl⟩
theorem rest_0001 : Rest 0 0 0 1 := fun l a c r => ⟨[row l a c r], by kernel_rfl⟩
theorem rest_0010 : Rest 0 0 1 0 := fun l a c r => ⟨[row l a c r], by kernel_rfl⟩
theorem rest_0011 : Rest 0 0 1 1 := fun l a c r => ⟨[row l a c r], by kernel_rfl⟩
theorem rest_0100 : Rest 0 1 0 0 := fun l a c r => ⟨[row l a c r], by kernel_rfl⟩
theorem rest_0101 : Rest 0 1 0 1 := fun l a c r => ⟨[row l a c r], by kernel_rfl⟩
theorem rest_0110 : Rest 0 1 1 0 := fun l a c r => ⟨[row l a c r], by kernel_rfl⟩
theorem rest_0111 : Rest 0 1 1 1 := fun l a c r => ⟨[row l a c r], by kernel_rfl⟩
theorem rest_1000 : Rest 1 0 0 0 := fun l a c r => ⟨[row l a c r], by kernel_rfl⟩
theorem rest_1001 : Rest 1 0 0 1 := fun l a c r => ⟨[row l a c r], by kernel_rfl⟩
theorem rest_1010 : Rest 1 0 1 0 := fun l a c r => ⟨[row l a c r], by kernel_rfl⟩
theorem rest_1011 : Rest 1 0 1 1 := fun l a c r => ⟨[row l a c r], by kernel_rfl⟩
theorem rest_1100 : Rest 1 1 0 0 := fun l a c r => ⟨[row l a c r], by kernel_rfl⟩
theorem rest_1101 : Rest 1 1 0 1 := fun l a c r => ⟨[row l a c r], by kernel_rfl⟩
theorem rest_1110 : Rest 1 1 1 0 := fun l a c r => ⟨[row l a c r], by kernel_rfl⟩
theorem rest_1111 : Rest 1 1 1 1 := fun l a c r => ⟨[row l a c r], by kernel_rfl⟩
theorem rest (x y p q : Int) (hx : x = 0 ∨ x = 1) (hy : y = 0 ∨ y = 1) (hp : p = 0 ∨ p = 1) (hq : q = 0 ∨ q = 1) : Rest x y p q := by
  rcases hx with rfl | rfl <;> rcases hy with rfl | rfl <;> rcases hp with rfl | rfl <;> rcases hq with rfl | rfl
  · exact rest_0000
  · exact rest_0001
  · exact rest_0010
  · exact rest_0011
  · exact rest_0100
  · exact rest_0101
  · exact rest_0110
  · exact rest_0111
  · exact rest_1000
  · exact rest_1001
  · exact rest_1010
  · exact rest_1011
  · exact rest_1100
  · exact rest_1101
  · exact rest_1110
  · exact rest_1111
end K14

set_option maxHeartbeats 0
namespace K14
open PySem PySem.Spec PyProof.Rows L2 Hc
theorem b_law {K : PySem.W.Frag} (fd : FuncData) (F : FunD K (LL.DD 56).x (LL.DD 56).qual (defArgs (LL.DD 56).st) (defBody (LL.DD 56).st) (defScope (LL.DD 56).st) [] [] (He.fAd K (LL.at_ 56)) fd) (s : Shared) (v : Value) : BindsTo s fd ⟨[v], []⟩ [(⟨#[95, 108, 97, 119, 95, 115, 99, 114, 105, 112, 116]⟩, v)] :=
  FunD.bindsA (ps := [⟨#[95, 108, 97, 119, 95, 115, 99, 114, 105, 112, 116]⟩]) F (fun kV doc pm an cdv ct us hl => by
    obtain ⟨a, rfl⟩ := len1 (hl.trans (by kernel_rfl))
    kernel_rfl) s [v] rfl
theorem facts (rest : ∀ x y p q : Int, (x = 0 ∨ x = 1) → (y = 0 ∨ y = 1) → (p = 0 ∨ p = 1) → (q = 0 ∨ q = 1) → Rest x y p q) {P : Program} {w : World} {K : PySem.W.Frag} {h : Heap} {mg : Str → Option Value} {f : Addr} (X : K.In h) (M : h.Ns mainGlobals mg) (hfa : mg ⟨#[108, 97, 119]⟩ = some (.ref f)) (c : He.SaysD LL.fal LL.hl K) :
    ∃ fd : FuncData, (∀ (s : Shared) (v : Value), BindsTo s fd ⟨[v], []⟩ [(⟨#[95, 108, 97, 119, 95, 115, 99, 114, 105, 112, 116]⟩, v)]) ∧ ∀ base : Heap, FnOk P w K mg base CX0 60 f fd [⟨#[95, 108, 97, 119, 95, 115, 99, 114, 105, 112, 116]⟩] (spLaw K 63) := by
  have q := LL.head (prog := P) (w := w) (m := 63) (x := ⟨#[95, 108, 97, 119, 95, 115, 99, 114, 105, 112, 116]⟩) tab_ok c X M ck b_all (f := 56) (d := 60) (N := 3000) (fn := fn_law) (by kernel_rfl) (by kernel_rfl) (by kernel_rfl) (law_run rest) b_law
  have hm : ((⟨#[108, 97, 119]⟩ : Str), 56) ∈ LL.fnT := look_mem (show LL.fnT.lookup ⟨#[108, 97, 119]⟩ = some 56 by kernel_rfl)
  have e := hfa.symm.trans (He.glo_ok X M (x := ⟨#[108, 97, 119]⟩) (says_all c (by
    unfold Lw.fal
    simp only [List.mem_append]
    exact .inl (.inl (.inl (.inl (.inl (.inl (.inl (.inl (List.mem_map.mpr ⟨_, hm, rfl⟩)))))))))))
  cases e
  exact q
end K14
open PySem PySem.W PySem.Calls PyProof.Rows
theorem PySem.Challenge.cw_helpedcalls_k14_across_in_step_holds : PySem.Challenge.rw_helpedcalls_k14_across_in_step.Holds := by
  w_on; o_law
  refine HandSHeadRun.head_any (r := OpenLaw.row PySem.Challenge.rw_helpedcalls_k14_across_in_step) (q := view (OpenLaw.row PySem.Challenge.rw_helpedcalls_k14_across_in_step).prog [K14.lawIx]) (H := K14.hk) (ob := K14.ob) (M := 12000) (loose := K14.names) (d := HandSHeadRun.topDef (OpenLaw.row PySem.Challenge.rw_helpedcalls_k14_across_in_step).prog K14.lawIx) (kwd := []) K14.ob_eq
    (by kernel_rfl) (fun s => by kernel_rfl) K14.run (by kernel_rfl) (by kernel_rfl) (by kernel_rfl) (by rfl) (by first | assumption | decide +kernel) (by decide +kernel) ⟨rfl, rfl, rfl, rfl, rfl, by decide +kernel⟩ ?hw ?hc
  case hw => w_witness2
  case hc =>
    refine L2.walk_ofE (l := PySem.Challenge.rw_helpedcalls_k14_across_in_step) (n := 63) (k := 60) (x := ⟨#[95, 108, 97, 119, 95, 115, 99, 114, 105, 112, 116]⟩) (CX := L2.CX0) rfl (by decide) (by kernel_rfl) ⟨rfl, by decide, by decide⟩ ?F (fun _ _ _ _ z => z)
    intro w mg fa h Y G hmg0
    obtain ⟨K, KX, c⟩ := Y
    have hmg : mg ⟨#[108, 97, 119]⟩ = some (.ref fa) := by
      have e : (HandSHeadRun.topDef (OpenLaw.row PySem.Challenge.rw_helpedcalls_k14_across_in_step).prog K14.lawIx).name = ⟨#[108, 97, 119]⟩ := by kernel_rfl
      rw [← e]
      exact hmg0
    obtain ⟨fd, hb, hF⟩ := K14.facts K14.rest (P := (PySem.Challenge.rw_helpedcalls_k14_across_in_step).prog) (w := w) KX G hmg c
    exact ⟨K, fd, Hc.spLaw K 63, KX, hb, fun H a ns hl _ hS => ⟨a, ns, rfl, hl, hS, fun _ => rfl⟩, fun base _ _ => hF base⟩
